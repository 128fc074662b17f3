import PyProof.Rows.All
import Wide.All
import OpenK.AllK
import Wide.FinOn
import HandS.ForMost
import HandS.OwnEq
import HandS.Exc
import HandS.TupAny
import KE.GoesMore
import HandS.DictEq
import HandS.DictComp
import HandS.Style
import HandS.ExcOwn
import HandS.TryMany
import PyProof.FactsAll.NoneType_1
import PyProof.FactsAll.tuple_1
import PyProof.FactsAll.tuple_2
import PyProof.FactsAll.dict_1
import PyProof.FactsAll.dict_2
import HandS.IterVal
import HandS.OwnIter
import HandS.IsInst
import HandS.TryOnly
import HandS.Finally
import KE.KOpsOwn
import KE.KCallOwn
import HandS.CallSlots
import HandS.ListItems
import HandS.WordsExc
import HandS.Defaults
import KE.KStateDown
import Lean
import HandS.Head0
import HandS.Head1
import HandS.Head2
import HandS.HeadEnd
import HandS.HeadHook1
import HandS.HeadHook2
import PySem.Challenge.RW_turnsets_k06_whole_values
set_option Elab.async false
set_option linter.all false
set_option maxRecDepth 100000
set_option maxHeartbeats 2000000
namespace EW
open PySem L2
/-- data that no longer change -/
inductive D where
  | non | bl (b : Bool) | int (i : Int) | str (x : Str) | cls (c : Nat) | ty (n : String)
  | tup (xs : List D) | lst (xs : List D) | rol (xs : List D) | rot (xs : List D) | dct (ks : List Key) (xs : List D) | ins (c : Nat) (xs : List D)
mutual
def decD : (a b : D) → Decidable (a = b)
  | .non, b => match b with | .non => .isTrue rfl | .bl _ | .int _ | .str _ | .cls _ | .ty _ | .tup _ | .lst _ | .rol _ | .rot _ | .dct _ _ | .ins _ _ => .isFalse (fun h => D.noConfusion h)
  | .bl x, b => match b with
    | .bl y => if h : x = y then .isTrue (by rw [h]) else .isFalse (fun e => h (D.bl.inj e))
    | .non | .int _ | .str _ | .cls _ | .ty _ | .tup _ | .lst _ | .rol _ | .rot _ | .dct _ _ | .ins _ _ => .isFalse (fun h => D.noConfusion h)
  | .int x, b => match b with
    | .int y => if h : x = y then .isTrue (by rw [h]) else .isFalse (fun e => h (D.int.inj e))
    | .non | .bl _ | .str _ | .cls _ | .ty _ | .tup _ | .lst _ | .rol _ | .rot _ | .dct _ _ | .ins _ _ => .isFalse (fun h => D.noConfusion h)
  | .str x, b => match b with
    | .str y => if h : x = y then .isTrue (by rw [h]) else .isFalse (fun e => h (D.str.inj e))
    | .non | .bl _ | .int _ | .cls _ | .ty _ | .tup _ | .lst _ | .rol _ | .rot _ | .dct _ _ | .ins _ _ => .isFalse (fun h => D.noConfusion h)
  | .cls x, b => match b with
    | .cls y => if h : x = y then .isTrue (by rw [h]) else .isFalse (fun e => h (D.cls.inj e))
    | .non | .bl _ | .int _ | .str _ | .ty _ | .tup _ | .lst _ | .rol _ | .rot _ | .dct _ _ | .ins _ _ => .isFalse (fun h => D.noConfusion h)
  | .ty x, b => match b with
    | .ty y => if h : x = y then .isTrue (by rw [h]) else .isFalse (fun e => h (D.ty.inj e))
    | .non | .bl _ | .int _ | .str _ | .cls _ | .tup _ | .lst _ | .rol _ | .rot _ | .dct _ _ | .ins _ _ => .isFalse (fun h => D.noConfusion h)
  | .tup x, b => match b with
    | .tup y => match decDs x y with | .isTrue h => .isTrue (by rw [h]) | .isFalse h => .isFalse (fun e => h (D.tup.inj e))
    | .non | .bl _ | .int _ | .str _ | .cls _ | .ty _ | .lst _ | .rol _ | .rot _ | .dct _ _ | .ins _ _ => .isFalse (fun h => D.noConfusion h)
  | .lst x, b => match b with
    | .lst y => match decDs x y with | .isTrue h => .isTrue (by rw [h]) | .isFalse h => .isFalse (fun e => h (D.lst.inj e))
    | .non | .bl _ | .int _ | .str _ | .cls _ | .ty _ | .tup _ | .rol _ | .rot _ | .dct _ _ | .ins _ _ => .isFalse (fun h => D.noConfusion h)
  | .rol x, b => match b with
    | .rol y => match decDs x y with | .isTrue h => .isTrue (by rw [h]) | .isFalse h => .isFalse (fun e => h (D.rol.inj e))
    | .non | .bl _ | .int _ | .str _ | .cls _ | .ty _ | .tup _ | .lst _ | .rot _ | .dct _ _ | .ins _ _ => .isFalse (fun h => D.noConfusion h)
  | .rot x, b => match b with
    | .rot y => match decDs x y with | .isTrue h => .isTrue (by rw [h]) | .isFalse h => .isFalse (fun e => h (D.rot.inj e))
    | .non | .bl _ | .int _ | .str _ | .cls _ | .ty _ | .tup _ | .lst _ | .rol _ | .dct _ _ | .ins _ _ => .isFalse (fun h => D.noConfusion h)
  | .dct k x, b => match b with
    | .dct l y => if h : k = l then match decDs x y with | .isTrue h' => .isTrue (by rw [h, h']) | .isFalse h' => .isFalse (fun e => h' (D.dct.inj e).2) else .isFalse (fun e => h (D.dct.inj e).1)
    | .non | .bl _ | .int _ | .str _ | .cls _ | .ty _ | .tup _ | .lst _ | .rol _ | .rot _ | .ins _ _ => .isFalse (fun h => D.noConfusion h)
  | .ins k x, b => match b with
    | .ins l y => if h : k = l then match decDs x y with | .isTrue h' => .isTrue (by rw [h, h']) | .isFalse h' => .isFalse (fun e => h' (D.ins.inj e).2) else .isFalse (fun e => h (D.ins.inj e).1)
    | .non | .bl _ | .int _ | .str _ | .cls _ | .ty _ | .tup _ | .lst _ | .rol _ | .rot _ | .dct _ _ => .isFalse (fun h => D.noConfusion h)
def decDs : (a b : List D) → Decidable (a = b)
  | [], [] => .isTrue rfl
  | [], _ :: _ => .isFalse (fun h => nomatch h)
  | _ :: _, [] => .isFalse (fun h => nomatch h)
  | a :: as, b :: bs => match decD a b with
    | .isTrue h => match decDs as bs with | .isTrue h' => .isTrue (by rw [h, h']) | .isFalse h' => .isFalse (fun e => h' (List.cons.inj e).2)
    | .isFalse h => .isFalse (fun e => h (List.cons.inj e).1)
end
instance : DecidableEq D := decD
/-- what a slot holds: data, or the k-th cell -/
inductive Val where
  | fz (d : D) | cel (k : Nat)
  deriving DecidableEq
/-- what a cell holds -/
inductive O where
  | lst (ws : List Val) | tup (ws : List Val) | dct (ks : List Key) (ws : List Val) | ins (c : Nat) (ws : List Val) | ice (d : D)
  deriving DecidableEq
/-- what an expression gives: data, a cell, a new thing that nobody else holds -/
inductive Res where
  | fz (d : D) | cel (k : Nat) | nw (o : O)
  deriving DecidableEq
abbrev Mu := List O
abbrev Env := List (Option Val)
/-- the classes: their addresses, their fields in order (by numbers), the names of the fields -/
structure Ci where
  ca : Nat → Addr
  fl : Nat → List Nat
  an : Nat → Str
  mn : Nat → Str
  fn : Nat → Str
  cn : Nat → Str
  gn : Nat → Str
  /-- fields k such that the classes with them have an __iter__ that is iter(self.k) -/
  it : Nat → Bool
def Ci.ns (I : Ci) (c n : Nat) : List Str := ((I.fl c).take n).map I.an
def Ex (H H' : Hp) : Prop := ∀ a o, H a = some o → H' a = some o
theorem Ex.refl (H : Hp) : Ex H H := fun _ _ h => h
theorem Ex.trans {A B C : Hp} (h : Ex A B) (k : Ex B C) : Ex A C := fun a o e => k a o (h a o e)
theorem Ex.new {H : Hp} {p : Addr} {o : HO} (h : H p = none) : Ex H (upd H p o) := fun a u e => by
  rw [upd_ne (ne_of_none e h)]; exact e
theorem Ex.l {K : PySem.W.Frag} {H H' : Hp} {a : Addr} {xs : List V} (e : Ex H H') (h : SqL K H a xs) : SqL K H' a xs := h.ext e
theorem Ex.t {K : PySem.W.Frag} {H H' : Hp} {a : Addr} {xs : List V} (e : Ex H H') (h : SqT K H a xs) : SqT K H' a xs := h.ext e
mutual
def Rep (I : Ci) (K : PySem.W.Frag) (G : Hp) : D → V → Prop
  | .non, v => v = .non
  | .bl b, v => v = .bl b
  | .int i, v => v = .int i
  | .str x, v => v = .str x
  | .cls c, v => v = .ref (I.ca c)
  | .ty n, v => v = .ty n
  | .tup ds, v => ∃ a vs, v = .ref a ∧ G a = some (.tup vs) ∧ Reps I K G ds vs
  | .rot ds, v => ∃ a vs, v = .ref a ∧ SqT K G a vs ∧ Reps I K G ds vs
  | .lst ds, v => ∃ a vs, v = .ref a ∧ G a = some (.lst vs) ∧ Reps I K G ds vs
  | .rol ds, v => ∃ a vs, v = .ref a ∧ SqL K G a vs ∧ Reps I K G ds vs
  | .dct ks ds, v => ∃ a kvs, v = .ref a ∧ G a = some (.dK kvs) ∧ kvs.map (·.1) = ks ∧ Reps I K G ds (kvs.map (·.2))
  | .ins c ds, v => ∃ a dx fs, v = .ref a ∧ G a = some (.ins (I.ca c) dx fs) ∧ fs.map (·.1) = I.ns c ds.length ∧ Reps I K G ds (fs.map (·.2))
def Reps (I : Ci) (K : PySem.W.Frag) (G : Hp) : List D → List V → Prop
  | [], vs => vs = []
  | d :: ds, vs => ∃ v r, vs = v :: r ∧ Rep I K G d v ∧ Reps I K G ds r
end
section
variable {I : Ci} {K : PySem.W.Frag} {G G' : Hp}
mutual
theorem Rep.mono (e : Ex G G') : ∀ (d : D) (v : V), Rep I K G d v → Rep I K G' d v
  | .non, _, h => h
  | .bl _, _, h => h
  | .int _, _, h => h
  | .str _, _, h => h
  | .cls _, _, h => h
  | .ty _, _, h => h
  | .tup ds, _, ⟨a, vs, h1, h2, h3⟩ => ⟨a, vs, h1, e _ _ h2, Reps.mono e ds vs h3⟩
  | .rot ds, _, ⟨a, vs, h1, h2, h3⟩ => ⟨a, vs, h1, e.t h2, Reps.mono e ds vs h3⟩
  | .lst ds, _, ⟨a, vs, h1, h2, h3⟩ => ⟨a, vs, h1, e _ _ h2, Reps.mono e ds vs h3⟩
  | .rol ds, _, ⟨a, vs, h1, h2, h3⟩ => ⟨a, vs, h1, e.l h2, Reps.mono e ds vs h3⟩
  | .dct ks ds, _, ⟨a, kvs, h1, h2, h3, h4⟩ => ⟨a, kvs, h1, e _ _ h2, h3, Reps.mono e ds _ h4⟩
  | .ins C ds, _, ⟨a, dx, fs, h1, h2, h3, h4⟩ => ⟨a, dx, fs, h1, e _ _ h2, h3, Reps.mono e ds _ h4⟩
theorem Reps.mono (e : Ex G G') : ∀ (ds : List D) (vs : List V), Reps I K G ds vs → Reps I K G' ds vs
  | [], _, h => h
  | d :: ds, _, ⟨v, r, h1, h2, h3⟩ => ⟨v, r, h1, Rep.mono e d v h2, Reps.mono e ds r h3⟩
end
theorem Reps.length : ∀ {ds : List D} {vs : List V}, Reps I K G ds vs → vs.length = ds.length
  | [], _, h => by rw [show _ = [] from h]; rfl
  | d :: ds, _, ⟨v, r, h1, h2, h3⟩ => by rw [h1, List.length_cons, List.length_cons, Reps.length h3]
theorem Reps.append : ∀ {ds es : List D} {vs us : List V}, Reps I K G ds vs → Reps I K G es us → Reps I K G (ds ++ es) (vs ++ us)
  | [], _, _, _, h, t => by rw [show _ = [] from h]; exact t
  | d :: ds, _, _, _, ⟨v, r, h1, h2, h3⟩, t => by subst h1; exact ⟨v, _, rfl, h2, Reps.append h3 t⟩
theorem Reps.one {d : D} {v : V} (h : Rep I K G d v) : Reps I K G [d] [v] := ⟨v, [], rfl, h, rfl⟩
theorem Reps.take : ∀ {ds : List D} {vs : List V} (n : Nat), Reps I K G ds vs → Reps I K G (ds.take n) (vs.take n)
  | _, _, 0, _ => rfl
  | [], _, n + 1, h => by rw [show _ = [] from h]; rfl
  | d :: ds, _, n + 1, ⟨v, r, h1, h2, h3⟩ => by subst h1; exact ⟨v, _, rfl, h2, Reps.take n h3⟩
theorem Reps.drop : ∀ {ds : List D} {vs : List V} (n : Nat), Reps I K G ds vs → Reps I K G (ds.drop n) (vs.drop n)
  | _, _, 0, h => h
  | [], _, n + 1, h => by rw [show _ = [] from h]; rfl
  | d :: ds, _, n + 1, ⟨v, r, h1, h2, h3⟩ => by subst h1; exact Reps.drop n h3
end
def ValR (I : Ci) (K : PySem.W.Frag) (G : Hp) (ρ : List Addr) : Val → V → Prop
  | .fz d, v => Rep I K G d v
  | .cel k, v => ∃ a, ρ[k]? = some a ∧ v = .ref a
def ValsR (I : Ci) (K : PySem.W.Frag) (G : Hp) (ρ : List Addr) : List Val → List V → Prop
  | [], vs => vs = []
  | w :: ws, vs => ∃ v r, vs = v :: r ∧ ValR I K G ρ w v ∧ ValsR I K G ρ ws r
def RepO (I : Ci) (K : PySem.W.Frag) (G : Hp) (ρ : List Addr) : O → HO → Prop
  | .lst ws, h => ∃ vs, h = .lst vs ∧ ValsR I K G ρ ws vs
  | .tup ws, h => ∃ vs, h = .tup vs ∧ ValsR I K G ρ ws vs
  | .dct ks ws, h => ∃ kvs, h = .dK kvs ∧ kvs.map (·.1) = ks ∧ ValsR I K G ρ ws (kvs.map (·.2))
  | .ins c ws, h => ∃ dx fs, h = .ins (I.ca c) dx fs ∧ fs.map (·.1) = I.ns c ws.length ∧ ValsR I K G ρ ws (fs.map (·.2))
  | .ice _, _ => True
/-- a thing of the frozen part stands in the heap; a dict may be locked -/
def Has (H : Hp) (a : Addr) (o : HO) : Prop := H a = some o ∨ ∃ ob kvs, o = .dK kvs ∧ H a = some (.frz ob (.dK kvs))
def Sub (G H : Hp) : Prop := ∀ a o, G a = some o → Has H a o
def CelR (I : Ci) (K : PySem.W.Frag) (G : Hp) (ρ : List Addr) (a : Addr) (h : HO) : O → Prop
  | .ice d => Rep I K G d (.ref a) ∧ ∃ u, G a = some u
  | o => G a = none ∧ RepO I K G ρ o h
structure Wd (I : Ci) (K : PySem.W.Frag) (G : Hp) (ρ : List Addr) (μ : Mu) (H : Hp) : Prop where
  sub : Sub G H
  len : ρ.length = μ.length
  nd : ρ.Nodup
  cell : ∀ (k : Nat) (a : Addr) (o : O), ρ[k]? = some a → μ[k]? = some o → ∃ h, H a = some h ∧ CelR I K G ρ a h o
def EnvR (I : Ci) (K : PySem.W.Frag) (G : Hp) (ρ : List Addr) (δ : Env) (σ : St) : Prop :=
  δ.length = σ.length ∧ ∀ (i : Nat) w, δ[i]? = some (some w) → ∃ v, σ[i]? = some (some v) ∧ ValR I K G ρ w v
/-- from one state to a later one -/
structure Aft (G : Hp) (ρ : List Addr) (H : Hp) (G' : Hp) (ρ' : List Addr) (H' : Hp) : Prop where
  ex : Ex G G'
  fr : ∀ a o, H a = some o → (a ∈ ρ → ∃ u, G a = some u) → H' a = some o
  nw : ∀ a o, H a = some o → G a = none → a ∉ ρ → G' a = none
  pre : ∃ t, ρ' = ρ ++ t ∧ ∀ a ∈ t, H a = none ∧ a ∉ ρ
def ResR (I : Ci) (K : PySem.W.Frag) (G : Hp) (ρ : List Addr) (H : Hp) : Res → V → Prop
  | .fz d, v => Rep I K G d v
  | .cel k, v => ∃ a, ρ[k]? = some a ∧ v = .ref a
  | .nw o, v => ∃ a h, v = .ref a ∧ a ∉ ρ ∧ G a = none ∧ H a = some h ∧ RepO I K G ρ o h ∧ ∀ d, o ≠ .ice d
def New (H : Hp) (r : Res) (v : V) : Prop := ∀ o a, r = .nw o → v = .ref a → H a = none
section
variable {I : Ci} {K : PySem.W.Frag} {G G1 G2 : Hp} {ρ ρ1 ρ2 : List Addr} {H H1 H2 : Hp} {μ : Mu}
theorem Aft.refl : Aft G ρ H G ρ H := ⟨Ex.refl _, fun _ _ h _ => h, fun _ _ _ h _ => h, [], by simp, fun _ h => nomatch h⟩
theorem Aft.pref (a : Aft G ρ H G1 ρ1 H1) {k : Nat} {p : Addr} (h : ρ[k]? = some p) : ρ1[k]? = some p := by
  obtain ⟨t, e, _⟩ := a.pre
  rw [e, List.getElem?_append_left (List.getElem?_eq_some_iff.mp h).1]; exact h
theorem Aft.old (a : Aft G ρ H G1 ρ1 H1) {p : Addr} {o : HO} (h : H p = some o) (n : p ∉ ρ) : p ∉ ρ1 := by
  obtain ⟨t, e, f⟩ := a.pre
  rw [e]; intro m
  rcases List.mem_append.mp m with m | m
  · exact n m
  · rw [(f p m).1] at h; cases h
theorem Aft.sup (a : Aft G ρ H G1 ρ1 H1) {p : Addr} (n : p ∉ ρ1) : p ∉ ρ := by
  obtain ⟨t, e, _⟩ := a.pre
  rw [e] at n; exact fun m => n (List.mem_append_left _ m)
theorem Aft.fr' (a : Aft G ρ H G1 ρ1 H1) {p : Addr} {o : HO} (h : H p = some o) (n : p ∉ ρ) : H1 p = some o := a.fr p o h fun m => (n m).elim
theorem Aft.old2 (a : Aft G ρ H G1 ρ1 H1) {p : Addr} {o : HO} (h : H p = some o) (n : p ∈ ρ → ∃ u, G p = some u) : p ∈ ρ1 → ∃ u, G1 p = some u := fun m => by
  by_cases q : p ∈ ρ
  · obtain ⟨u, e⟩ := n q; exact ⟨u, a.ex p u e⟩
  · exact (a.old h q m).elim
theorem Aft.trans (a : Aft G ρ H G1 ρ1 H1) (b : Aft G1 ρ1 H1 G2 ρ2 H2) : Aft G ρ H G2 ρ2 H2 := by
  refine ⟨a.ex.trans b.ex, fun p o h n => b.fr p o (a.fr p o h n) (a.old2 h n), fun p o h g n => b.nw p o (a.fr' h n) (a.nw p o h g n) (a.old h n), ?_⟩
  obtain ⟨t, e, f⟩ := a.pre
  obtain ⟨t2, e2, f2⟩ := b.pre
  refine ⟨t ++ t2, by rw [e2, e, List.append_assoc], fun p m => ?_⟩
  rcases List.mem_append.mp m with m | m
  · exact f p m
  · obtain ⟨h1, h2⟩ := f2 p m
    have n := a.sup h2
    refine ⟨?_, n⟩
    cases q : H p with
    | none => rfl
    | some o => rw [a.fr' q n] at h1; cases h1
theorem Aft.fresh (a : Aft G ρ H G1 ρ1 H1) {p : Addr} (h : H1 p = none) (n : p ∉ ρ) : H p = none := by
  cases q : H p with
  | none => rfl
  | some o => rw [a.fr' q n] at h; cases h
abbrev Pre (ρ ρ1 : List Addr) : Prop := ∀ (k : Nat) (p : Addr), ρ[k]? = some p → ρ1[k]? = some p
theorem Aft.pf (a : Aft G ρ H G1 ρ1 H1) : Pre ρ ρ1 := fun _ _ h => a.pref h
theorem ValR.ex (e : Ex G G1) (p : Pre ρ ρ1) : ∀ {w : Val} {v : V}, ValR I K G ρ w v → ValR I K G1 ρ1 w v
  | .fz d, v, h => Rep.mono e d v h
  | .cel k, v, ⟨q, h1, h2⟩ => ⟨q, p k q h1, h2⟩
theorem ValsR.ex (e : Ex G G1) (p : Pre ρ ρ1) : ∀ {w : List Val} {v : List V}, ValsR I K G ρ w v → ValsR I K G1 ρ1 w v
  | [], v, h => h
  | w :: ws, v, ⟨x, r, h1, h2, h3⟩ => ⟨x, r, h1, h2.ex e p, ValsR.ex e p h3⟩
theorem RepO.ex (e : Ex G G1) (p : Pre ρ ρ1) : ∀ {o : O} {h : HO}, RepO I K G ρ o h → RepO I K G1 ρ1 o h
  | .lst ds, h, ⟨vs, h1, h2⟩ => ⟨vs, h1, h2.ex e p⟩
  | .tup ds, h, ⟨vs, h1, h2⟩ => ⟨vs, h1, h2.ex e p⟩
  | .dct ks ds, h, ⟨kvs, h1, h2, h3⟩ => ⟨kvs, h1, h2, h3.ex e p⟩
  | .ins C ws, h, ⟨dx, fs, h1, h2, h3⟩ => ⟨dx, fs, h1, h2, h3.ex e p⟩
  | .ice d, h, _ => trivial
theorem CelR.ex (e : Ex G G1) (p : Pre ρ ρ1) {a : Addr} {o : O} {h : HO} (g : G a = none → G1 a = none) (c : CelR I K G ρ a h o) : CelR I K G1 ρ1 a h o := by
  cases o with
  | ice d => exact ⟨Rep.mono e _ _ c.1, let ⟨u, q⟩ := c.2; ⟨u, e _ _ q⟩⟩
  | _ => exact ⟨g c.1, c.2.ex e p⟩
theorem CelR.not_ice {a : Addr} {o : O} {h : HO} (c : CelR I K G ρ a h o) (n : ∀ d, o ≠ .ice d) : G a = none ∧ RepO I K G ρ o h := by
  cases o with
  | ice d => exact (n d rfl).elim
  | _ => exact c
theorem CelR.of {a : Addr} {o : O} {h : HO} (n : ∀ d, o ≠ .ice d) (g : G a = none) (r : RepO I K G ρ o h) : CelR I K G ρ a h o := by
  cases o with
  | ice d => exact (n d rfl).elim
  | _ => exact ⟨g, r⟩
theorem ValR.mono (a : Aft G ρ H G1 ρ1 H1) {w : Val} {v : V} (h : ValR I K G ρ w v) : ValR I K G1 ρ1 w v := h.ex a.ex a.pf
theorem ValsR.mono (a : Aft G ρ H G1 ρ1 H1) {w : List Val} {v : List V} (h : ValsR I K G ρ w v) : ValsR I K G1 ρ1 w v := h.ex a.ex a.pf
theorem RepO.mono (a : Aft G ρ H G1 ρ1 H1) {o : O} {h : HO} (q : RepO I K G ρ o h) : RepO I K G1 ρ1 o h := q.ex a.ex a.pf
theorem EnvR.mono (a : Aft G ρ H G1 ρ1 H1) {δ : Env} {σ : St} (h : EnvR I K G ρ δ σ) : EnvR I K G1 ρ1 δ σ :=
  ⟨h.1, fun i w e => let ⟨v, h1, h2⟩ := h.2 i w e; ⟨v, h1, h2.mono a⟩⟩
theorem ResR.mono (a : Aft G ρ H G1 ρ1 H1) : ∀ {r : Res} {v : V}, ResR I K G ρ H r v → ResR I K G1 ρ1 H1 r v
  | .fz d, v, h => Rep.mono a.ex d v h
  | .cel k, v, ⟨p, h1, h2⟩ => ⟨p, a.pref h1, h2⟩
  | .nw o, v, ⟨p, h, h1, h2, h3, h4, h5, h6⟩ => ⟨p, h, h1, a.old h4 h2, a.nw p h h4 h3 h2, a.fr' h4 h2, h5.mono a, h6⟩
theorem New.back (a : Aft G ρ H G1 ρ1 H1) (a' : Aft G1 ρ1 H1 G2 ρ2 H2) {r : Res} {v : V} (hr : ResR I K G2 ρ2 H2 r v) (n : New H1 r v) : New H r v := fun o p e1 e2 => by
  subst e1
  obtain ⟨q, h, h1, h2, _⟩ := hr
  rw [h1] at e2; cases e2
  exact a.fresh (n o _ rfl h1) (a.sup (a'.sup h2))
theorem ValsR.length : ∀ {ws : List Val} {vs : List V}, ValsR I K G ρ ws vs → vs.length = ws.length
  | [], _, h => by rw [show _ = [] from h]; rfl
  | w :: ws, _, ⟨v, r, h1, _, h3⟩ => by rw [h1, List.length_cons, List.length_cons, ValsR.length h3]
theorem ValsR.get : ∀ {ws : List Val} {vs : List V} {i : Nat} {w : Val}, ValsR I K G ρ ws vs → ws[i]? = some w → ∃ v, vs[i]? = some v ∧ ValR I K G ρ w v
  | [], _, _, _, _, e => by simp at e
  | d :: ds, _, 0, _, ⟨v, r, h1, h2, h3⟩, e => by subst h1; simp at e; subst e; exact ⟨v, rfl, h2⟩
  | d :: ds, _, i + 1, _, ⟨v, r, h1, h2, h3⟩, e => by
    subst h1
    obtain ⟨w, a, b⟩ := ValsR.get h3 (i := i) (by simpa using e)
    exact ⟨w, by simpa using a, b⟩
theorem ValsR.got : ∀ {ws : List Val} {vs : List V} {i : Nat} {v : V}, ValsR I K G ρ ws vs → vs[i]? = some v → ∃ w, ws[i]? = some w ∧ ValR I K G ρ w v
  | [], _, _, _, h, e => by rw [show _ = [] from h] at e; simp at e
  | d :: ds, _, 0, _, ⟨v, r, h1, h2, h3⟩, e => by subst h1; simp at e; subst e; exact ⟨d, rfl, h2⟩
  | d :: ds, _, i + 1, _, ⟨v, r, h1, h2, h3⟩, e => by
    subst h1
    obtain ⟨w, a, b⟩ := ValsR.got h3 (i := i) (by simpa using e)
    exact ⟨w, by simpa using a, b⟩
theorem ValsR.nil : ValsR I K G ρ [] [] := rfl
theorem ValsR.cons {d : Val} {ds : List Val} {v : V} {vs : List V} (h : ValR I K G ρ d v) (t : ValsR I K G ρ ds vs) : ValsR I K G ρ (d :: ds) (v :: vs) := ⟨v, vs, rfl, h, t⟩
theorem ValsR.one {d : Val} {v : V} (h : ValR I K G ρ d v) : ValsR I K G ρ [d] [v] := ⟨v, [], rfl, h, rfl⟩
theorem ValsR.append : ∀ {ws us : List Val} {vs xs : List V}, ValsR I K G ρ ws vs → ValsR I K G ρ us xs → ValsR I K G ρ (ws ++ us) (vs ++ xs)
  | [], _, _, _, h, t => by rw [show _ = [] from h]; exact t
  | w :: ws, _, _, _, ⟨v, r, h1, h2, h3⟩, t => by subst h1; exact ⟨v, _, rfl, h2, ValsR.append h3 t⟩
theorem ValsR.take : ∀ {ds : List Val} {vs : List V} (n : Nat), ValsR I K G ρ ds vs → ValsR I K G ρ (ds.take n) (vs.take n)
  | _, _, 0, _ => rfl
  | [], _, n + 1, h => by rw [show _ = [] from h]; rfl
  | d :: ds, _, n + 1, ⟨v, r, h1, h2, h3⟩ => by subst h1; exact ⟨v, _, rfl, h2, ValsR.take n h3⟩
theorem ValsR.drop : ∀ {ds : List Val} {vs : List V} (n : Nat), ValsR I K G ρ ds vs → ValsR I K G ρ (ds.drop n) (vs.drop n)
  | _, _, 0, h => h
  | [], _, n + 1, h => by rw [show _ = [] from h]; rfl
  | d :: ds, _, n + 1, ⟨v, r, h1, h2, h3⟩ => by subst h1; exact ValsR.drop n h3
theorem ValsR.set : ∀ {ds : List Val} {vs : List V} (n : Nat) {d : Val} {v : V}, ValsR I K G ρ ds vs → ValR I K G ρ d v → ValsR I K G ρ (ds.set n d) (vs.set n v)
  | [], _, _, _, _, h, _ => by rw [show _ = [] from h]; rfl
  | e :: ds, _, 0, _, _, ⟨v, r, h1, h2, h3⟩, t => by subst h1; exact ⟨_, _, rfl, t, h3⟩
  | e :: ds, _, n + 1, _, _, ⟨v, r, h1, h2, h3⟩, t => by subst h1; exact ⟨v, _, rfl, h2, ValsR.set n h3 t⟩
theorem ValsR.reverse : ∀ {ds : List Val} {vs : List V}, ValsR I K G ρ ds vs → ValsR I K G ρ ds.reverse vs.reverse
  | [], _, h => by rw [show _ = [] from h]; rfl
  | d :: ds, _, ⟨v, r, h1, h2, h3⟩ => by subst h1; rw [List.reverse_cons, List.reverse_cons]; exact (ValsR.reverse h3).append (ValsR.one h2)
theorem ValsR.reps {ds : List Val} {vs : List V} (r : ValsR I K G ρ ds vs) : ∀ n : Nat, ValsR I K G ρ (List.replicate n ds).flatten (List.replicate n vs).flatten
  | 0 => rfl
  | n + 1 => by rw [List.replicate_succ, List.replicate_succ, List.flatten_cons, List.flatten_cons]; exact r.append (ValsR.reps r n)
theorem Reps.vals : ∀ {ds : List D} {vs : List V}, Reps I K G ds vs → ValsR I K G ρ (ds.map .fz) vs
  | [], _, h => h
  | d :: ds, _, ⟨v, r, h1, h2, h3⟩ => ⟨v, r, h1, h2, Reps.vals h3⟩
theorem ValsR.inj {ds : List Val} {n : Nat} {vs : List V} (h : ValsR I K G ρ ds vs) (hn : ds.length = n) : vs.length = n := h.length.trans hn
end
end EW
set_option maxRecDepth 100000
set_option maxHeartbeats 2000000
namespace EW
open PySem L2
section
variable {I : Ci} {K : PySem.W.Frag} {G : Hp} {ρ : List Addr} {H : Hp} {μ : Mu}
theorem Wd.inH (w : Wd I K G ρ μ H) {a : Addr} (h : a ∈ ρ) : ∃ o, H a = some o := by
  obtain ⟨k, hk, e⟩ := List.mem_iff_getElem.mp h
  have h1 : ρ[k]? = some a := by rw [List.getElem?_eq_getElem hk, e]
  have h2 : k < μ.length := by rw [← w.len]; exact hk
  obtain ⟨o, q, _⟩ := w.cell k a μ[k] h1 (List.getElem?_eq_getElem h2)
  exact ⟨o, q⟩
theorem Wd.fresh (w : Wd I K G ρ μ H) {p : Addr} (h : H p = none) : p ∉ ρ := fun m => by
  obtain ⟨o, q⟩ := w.inH m
  rw [q] at h; cases h
theorem Sub.free (s : Sub G H) {p : Addr} (h : H p = none) : G p = none := by
  cases q : G p with
  | none => rfl
  | some o =>
    rcases s p o q with e | ⟨_, _, _, e⟩ <;> (rw [e] at h; cases h)
theorem Wd.gfree (w : Wd I K G ρ μ H) {p : Addr} (h : H p = none) : G p = none := w.sub.free h
/-- a new thing in the heap that is nobody's yet -/
theorem Wd.lay (w : Wd I K G ρ μ H) {p : Addr} (h : H p = none) (o : HO) : Wd I K G ρ μ (upd H p o) := by
  refine ⟨fun a u e => ?_, w.len, w.nd, fun k a u e1 e2 => ?_⟩
  · rcases w.sub a u e with q | ⟨ob, kvs, q1, q2⟩
    · exact .inl (Ex.new h _ _ q)
    · exact .inr ⟨ob, kvs, q1, Ex.new h _ _ q2⟩
  · obtain ⟨x, q, r⟩ := w.cell k a u e1 e2
    exact ⟨x, Ex.new h _ _ q, r⟩
theorem Aft.lay {p : Addr} (h : H p = none) (o : HO) : Aft G ρ H G ρ (upd H p o) :=
  ⟨Ex.refl _, fun a u e _ => Ex.new h a u e, fun _ _ _ g _ => g, [], by simp, fun _ z => nomatch z⟩
/-- what is nobody's becomes part of the frozen world -/
theorem Wd.frz (w : Wd I K G ρ μ H) {p : Addr} {o : HO} (h : H p = some o) (g : G p = none) (n : p ∉ ρ) : Wd I K (upd G p o) ρ μ H := by
  have ex : Ex G (upd G p o) := Ex.new g
  refine ⟨fun a u e => ?_, w.len, w.nd, fun k a u e1 e2 => ?_⟩
  · by_cases ha : a = p
    · subst ha; rw [upd_same] at e; cases e; exact .inl h
    · rw [upd_ne ha] at e; exact w.sub a u e
  · obtain ⟨x, q, r⟩ := w.cell k a u e1 e2
    have ha : a ≠ p := fun z => n (z ▸ List.mem_iff_getElem?.mpr ⟨k, e1⟩)
    exact ⟨x, q, r.ex ex (fun _ _ z => z) fun z => by rw [upd_ne ha]; exact z⟩
theorem Aft.frz {p : Addr} {o : HO} {G0 : Hp} {ρ0 : List Addr} {H0 : Hp} (a : Aft G0 ρ0 H0 G ρ H) (h0 : H0 p = none) (g : G p = none) : Aft G0 ρ0 H0 (upd G p o) ρ H := by
  refine ⟨a.ex.trans (Ex.new g), a.fr, fun q u e gq n => ?_, a.pre⟩
  rw [upd_ne (ne_of_none e h0)]
  exact a.nw q u e gq n
theorem Aft.frz' {p : Addr} {o : HO} (w : Wd I K G ρ μ H) (h : H p = none) : Aft G ρ H (upd G p o) ρ (upd H p o) := (Aft.lay h o).frz h (w.gfree h)
/-- a new thing, frozen at once -/
theorem Wd.add (w : Wd I K G ρ μ H) {p : Addr} (h : H p = none) (o : HO) : Wd I K (upd G p o) ρ μ (upd H p o) := (w.lay h o).frz upd_same (w.gfree h) (w.fresh h)
theorem Sub.l (s : Sub G H) {a : Addr} {xs : List V} (h : SqL K G a xs) : SqL K H a xs := by
  rcases h with (h | ⟨o, h⟩) | h
  · rcases s _ _ h with q | ⟨_, _, z, _⟩
    · exact .inl (.inl q)
    · cases z
  · rcases s _ _ h with q | ⟨_, _, z, _⟩
    · exact .inl (.inr ⟨o, q⟩)
    · cases z
  · exact .inr h
theorem Sub.t (s : Sub G H) {a : Addr} {xs : List V} (h : SqT K G a xs) : SqT K H a xs := by
  rcases h with (h | ⟨o, h⟩) | h
  · rcases s _ _ h with q | ⟨_, _, z, _⟩
    · exact .inl (.inl q)
    · cases z
  · rcases s _ _ h with q | ⟨_, _, z, _⟩
    · exact .inl (.inr ⟨o, q⟩)
    · cases z
  · exact .inr h
theorem Sub.lst (s : Sub G H) {a : Addr} {xs : List V} (h : G a = some (.lst xs)) : H a = some (.lst xs) := by
  rcases s _ _ h with q | ⟨_, _, z, _⟩
  · exact q
  · cases z
theorem Sub.tup (s : Sub G H) {a : Addr} {xs : List V} (h : G a = some (.tup xs)) : H a = some (.tup xs) := by
  rcases s _ _ h with q | ⟨_, _, z, _⟩
  · exact q
  · cases z
theorem Sub.ins (s : Sub G H) {a C dx : Addr} {fs : List (Str × V)} (h : G a = some (.ins C dx fs)) : H a = some (.ins C dx fs) := by
  rcases s _ _ h with q | ⟨_, _, z, _⟩
  · exact q
  · cases z
theorem Sub.dK (s : Sub G H) {a : Addr} {xs : List (Key × V)} (h : G a = some (.dK xs)) : Rd H a (.dK xs) := by
  rcases s _ _ h with q | ⟨ob, kvs, z, q⟩
  · exact .inl q
  · cases z; exact .inr ⟨ob, q⟩
theorem inj_get {ρ : List Addr} (nd : ρ.Nodup) {i j : Nat} {a : Addr} (h1 : ρ[i]? = some a) (h2 : ρ[j]? = some a) : i = j := by
  obtain ⟨l1, e1⟩ := List.getElem?_eq_some_iff.mp h1
  obtain ⟨l2, e2⟩ := List.getElem?_eq_some_iff.mp h2
  exact (List.getElem_inj nd).mp (e1.trans e2.symm)
end
def iceOf (μ : Mu) (k : Nat) : Option D := match μ[k]? with | some (.ice d) => some d | _ => none
theorem iceOf_eq {μ : Mu} {k : Nat} {d : D} (h : iceOf μ k = some d) : μ[k]? = some (.ice d) := by
  unfold iceOf at h
  split at h
  · rename_i e; cases h; exact e
  · cases h
def Val.nm (μ : Mu) : Val → Val
  | .fz d => .fz d
  | .cel k => match iceOf μ k with | some d => .fz d | none => .cel k
def Val.res : Val → Res
  | .fz d => .fz d
  | .cel k => .cel k
def Res.nm (μ : Mu) : Res → Res
  | .cel k => match iceOf μ k with | some d => .fz d | none => .cel k
  | .fz d => .fz d
  | .nw o => .nw o
/-- a list that is tracked -/
def lstV (μ : Mu) : Res → Option (List Val)
  | .fz (.lst ds) => some (ds.map .fz)
  | .nw (.lst ws) => some ws
  | .cel k => match μ[k]? with | some (.lst ws) => some ws | _ => none
  | _ => none
/-- a list, or one that is only read -/
def lsqV (μ : Mu) : Res → Option (List Val)
  | .fz (.rol ds) => some (ds.map .fz)
  | r => lstV μ r
def tupV (μ : Mu) : Res → Option (List Val)
  | .fz (.tup ds) => some (ds.map .fz)
  | .fz (.rot ds) => some (ds.map .fz)
  | .nw (.tup ws) => some ws
  | .cel k => match μ[k]? with | some (.tup ws) => some ws | _ => none
  | _ => none
def seqV (μ : Mu) (r : Res) : Option (List Val) := match lsqV μ r with | some ws => some ws | none => tupV μ r
def dctV (μ : Mu) : Res → Option (List Key × List Val)
  | .fz (.dct ks ds) => some (ks, ds.map .fz)
  | .nw (.dct ks ws) => some (ks, ws)
  | .cel k => match μ[k]? with | some (.dct ks ws) => some (ks, ws) | _ => none
  | _ => none
def insV (μ : Mu) : Res → Option (Nat × List Val)
  | .fz (.ins c ds) => some (c, ds.map .fz)
  | .nw (.ins c ws) => some (c, ws)
  | .cel k => match μ[k]? with | some (.ins c ws) => some (c, ws) | _ => none
  | _ => none
section
variable {I : Ci} {K : PySem.W.Frag} {G : Hp} {ρ : List Addr} {H : Hp} {μ : Mu} {r : Res} {v : V}
theorem ValR.res {w : Val} (h : ValR I K G ρ w v) : ResR I K G ρ H w.res v := by cases w <;> exact h
theorem ResR.nm (w : Wd I K G ρ μ H) (h : ResR I K G ρ H r v) : ResR I K G ρ H (r.nm μ) v := by
  cases r with
  | cel k =>
    obtain ⟨a, h1, h2⟩ := h
    show ResR I K G ρ H (match iceOf μ k with | some d => .fz d | none => .cel k) v
    cases e : iceOf μ k with
    | some d =>
      obtain ⟨x, _, c⟩ := w.cell k a _ h1 (iceOf_eq e)
      rw [h2]
      exact c.1
    | none => exact ⟨a, h1, h2⟩
  | _ => exact h
theorem ValR.nm (w : Wd I K G ρ μ H) {u : Val} (h : ValR I K G ρ u v) : ValR I K G ρ (u.nm μ) v := by
  cases u with
  | fz d => exact h
  | cel k =>
    have := ResR.nm w (r := .cel k) (v := v) h
    show ValR I K G ρ (match iceOf μ k with | some d => .fz d | none => .cel k) v
    have t : ResR I K G ρ H (match iceOf μ k with | some d => .fz d | none => .cel k) v := this
    cases e : iceOf μ k with
    | some d => rw [e] at t; exact t
    | none => rw [e] at t; exact t
theorem Res.nm_new {H0 : Hp} (n : New H0 r v) : New H0 (r.nm μ) v := fun o a e1 e2 => by
  cases r with
  | cel k =>
    have t : (match iceOf μ k with | some d => Res.fz d | none => .cel k) = .nw o := e1
    cases e : iceOf μ k with
    | some d => rw [e] at t; cases t
    | none => rw [e] at t; cases t
  | fz d => cases e1
  | nw o' => exact n o a e1 e2
theorem Wd.cel (w : Wd I K G ρ μ H) {k : Nat} {a : Addr} {o : O} (h1 : ρ[k]? = some a) (e : μ[k]? = some o) (n : ∀ d, o ≠ .ice d) : ∃ h, H a = some h ∧ G a = none ∧ RepO I K G ρ o h := by
  obtain ⟨x, h3, h4⟩ := w.cell k a _ h1 e
  obtain ⟨g, r⟩ := h4.not_ice n
  exact ⟨x, h3, g, r⟩
theorem ResR.lst (w : Wd I K G ρ μ H) (h : ResR I K G ρ H r v) {ws : List Val} (e : lstV μ r = some ws) : ∃ a vs, v = .ref a ∧ H a = some (.lst vs) ∧ ValsR I K G ρ ws vs := by
  cases r with
  | fz d =>
    cases d <;> simp [lstV] at e
    subst e
    obtain ⟨a, vs, h1, h2, h3⟩ := h
    exact ⟨a, vs, h1, w.sub.lst h2, h3.vals⟩
  | nw o =>
    cases o <;> simp [lstV] at e
    subst e
    obtain ⟨a, x, h1, h2, h3, h4, ⟨vs, h5, h6⟩, _⟩ := h
    subst h5
    exact ⟨a, vs, h1, h4, h6⟩
  | cel k =>
    obtain ⟨a, h1, h2⟩ := h
    simp only [lstV] at e
    split at e
    · rename_i us q
      cases e
      obtain ⟨x, h3, _, vs, h5, h6⟩ := w.cel h1 q (fun _ z => nomatch z)
      subst h5
      exact ⟨a, vs, h2, h3, h6⟩
    · cases e
theorem ResR.lsq (w : Wd I K G ρ μ H) (h : ResR I K G ρ H r v) {ws : List Val} (e : lsqV μ r = some ws) : ∃ a vs, v = .ref a ∧ SqL K H a vs ∧ ValsR I K G ρ ws vs := by
  unfold lsqV at e
  split at e
  · cases e
    obtain ⟨a, vs, h1, h2, h3⟩ := h
    exact ⟨a, vs, h1, w.sub.l h2, h3.vals⟩
  · obtain ⟨a, vs, h1, h2, h3⟩ := h.lst w e
    exact ⟨a, vs, h1, .inl (.inl h2), h3⟩
theorem ResR.tup (w : Wd I K G ρ μ H) (h : ResR I K G ρ H r v) {ws : List Val} (e : tupV μ r = some ws) : ∃ a vs, v = .ref a ∧ SqT K H a vs ∧ ValsR I K G ρ ws vs := by
  cases r with
  | fz d =>
    cases d <;> simp [tupV] at e
    · subst e
      obtain ⟨a, vs, h1, h2, h3⟩ := h
      exact ⟨a, vs, h1, .inl (.inl (w.sub.tup h2)), h3.vals⟩
    · subst e
      obtain ⟨a, vs, h1, h2, h3⟩ := h
      exact ⟨a, vs, h1, w.sub.t h2, h3.vals⟩
  | nw o =>
    cases o <;> simp [tupV] at e
    subst e
    obtain ⟨a, x, h1, h2, h3, h4, ⟨vs, h5, h6⟩, _⟩ := h
    subst h5
    exact ⟨a, vs, h1, .inl (.inl h4), h6⟩
  | cel k =>
    obtain ⟨a, h1, h2⟩ := h
    simp only [tupV] at e
    split at e
    · rename_i us q
      cases e
      obtain ⟨x, h3, _, vs, h5, h6⟩ := w.cel h1 q (fun _ z => nomatch z)
      subst h5
      exact ⟨a, vs, h2, .inl (.inl h3), h6⟩
    · cases e
theorem ResR.seq (w : Wd I K G ρ μ H) (h : ResR I K G ρ H r v) {ws : List Val} (e : seqV μ r = some ws) : ∃ a vs, v = .ref a ∧ (SqL K H a vs ∨ SqT K H a vs) ∧ ValsR I K G ρ ws vs := by
  unfold seqV at e
  split at e
  · rename_i us q
    cases e
    obtain ⟨a, vs, h1, h2, h3⟩ := h.lsq w q
    exact ⟨a, vs, h1, .inl h2, h3⟩
  · obtain ⟨a, vs, h1, h2, h3⟩ := h.tup w e
    exact ⟨a, vs, h1, .inr h2, h3⟩
theorem ResR.dct (w : Wd I K G ρ μ H) (h : ResR I K G ρ H r v) {ks : List Key} {ws : List Val} (e : dctV μ r = some (ks, ws)) : ∃ a kvs, v = .ref a ∧ Rd H a (.dK kvs) ∧ kvs.map (·.1) = ks ∧ ValsR I K G ρ ws (kvs.map (·.2)) := by
  cases r with
  | fz d =>
    cases d <;> simp [dctV] at e
    obtain ⟨e1, e2⟩ := e
    subst e1 e2
    obtain ⟨a, vs, h1, h2, h3, h4⟩ := h
    exact ⟨a, vs, h1, w.sub.dK h2, h3, h4.vals⟩
  | nw o =>
    cases o <;> simp [dctV] at e
    obtain ⟨e1, e2⟩ := e
    subst e1 e2
    obtain ⟨a, x, h1, h2, h3, h4, ⟨vs, h5, h6, h7⟩, _⟩ := h
    subst h5
    exact ⟨a, vs, h1, .inl h4, h6, h7⟩
  | cel k =>
    obtain ⟨a, h1, h2⟩ := h
    simp only [dctV] at e
    split at e
    · rename_i ks' us q
      cases e
      obtain ⟨x, h3, _, vs, h5, h6, h7⟩ := w.cel h1 q (fun _ z => nomatch z)
      subst h5
      exact ⟨a, vs, h2, .inl h3, h6, h7⟩
    · cases e
theorem ResR.ins (w : Wd I K G ρ μ H) (h : ResR I K G ρ H r v) {c : Nat} {ws : List Val} (e : insV μ r = some (c, ws)) : ∃ a dx fs, v = .ref a ∧ H a = some (.ins (I.ca c) dx fs) ∧ fs.map (·.1) = I.ns c ws.length ∧ ValsR I K G ρ ws (fs.map (·.2)) := by
  cases r with
  | fz d =>
    cases d <;> simp [insV] at e
    obtain ⟨e1, e2⟩ := e
    subst e1 e2
    obtain ⟨a, dx, fs, h1, h2, h3, h4⟩ := h
    exact ⟨a, dx, fs, h1, w.sub.ins h2, by rw [h3, List.length_map], h4.vals⟩
  | nw o =>
    cases o <;> simp [insV] at e
    obtain ⟨e1, e2⟩ := e
    subst e1 e2
    obtain ⟨a, x, h1, h2, h3, h4, ⟨dx, fs, h5, h6, h7⟩, _⟩ := h
    subst h5
    exact ⟨a, dx, fs, h1, h4, h6, h7⟩
  | cel k =>
    obtain ⟨a, h1, h2⟩ := h
    simp only [insV] at e
    split at e
    · rename_i ks' us q
      cases e
      obtain ⟨x, h3, _, dx, fs, h5, h6, h7⟩ := w.cel h1 q (fun _ z => nomatch z)
      subst h5
      exact ⟨a, dx, fs, h2, h3, h6, h7⟩
    · cases e
end
def fzAll : List Val → Option (List D)
  | [] => some []
  | .fz d :: r => (fzAll r).map (d :: ·)
  | .cel _ :: _ => none
def O.frozen : O → Option D
  | .lst ws => (fzAll ws).map .lst
  | .tup ws => (fzAll ws).map .tup
  | .dct ks ws => (fzAll ws).map (.dct ks ·)
  | .ins c ws => (fzAll ws).map (.ins c ·)
  | .ice _ => none
def Res.frozen : Res → Option D
  | .fz d => some d
  | .nw o => o.frozen
  | .cel _ => none
theorem fzAll_map : ∀ (ds : List D), fzAll (ds.map .fz) = some ds
  | [] => rfl
  | d :: ds => by simp [fzAll, fzAll_map ds]
theorem fzAll_eq : ∀ {ws : List Val} {ds : List D}, fzAll ws = some ds → ws = ds.map .fz
  | [], ds, e => by simp [fzAll] at e; subst e; rfl
  | .fz d :: r, ds, e => by
    simp [fzAll] at e
    obtain ⟨ds', e1, e2⟩ := e
    subst e2
    rw [fzAll_eq e1]; rfl
  | .cel k :: r, ds, e => by simp [fzAll] at e
section
variable {I : Ci} {K : PySem.W.Frag} {G : Hp} {ρ : List Addr} {H : Hp} {μ : Mu} {r : Res} {v : V}
theorem Vals.reps : ∀ {ds : List D} {vs : List V}, ValsR I K G ρ (ds.map .fz) vs → Reps I K G ds vs
  | [], _, h => h
  | d :: ds, _, ⟨v, r, h1, h2, h3⟩ => ⟨v, r, h1, h2, Vals.reps h3⟩
theorem fzAll_reps {ws : List Val} {ds : List D} {vs : List V} (e : fzAll ws = some ds) (h : ValsR I K G ρ ws vs) : Reps I K G ds vs := by
  rw [fzAll_eq e] at h; exact Vals.reps h
theorem O.frz_rep {o : O} {h : HO} {d : D} {a : Addr} (e : o.frozen = some d) (r : RepO I K G ρ o h) (g : G a = none) : Rep I K (upd G a h) d (.ref a) := by
  have ex : Ex G (upd G a h) := Ex.new g
  cases o with
  | lst ws =>
    simp [O.frozen] at e
    obtain ⟨ds, e1, e2⟩ := e
    subst e2
    obtain ⟨vs, h1, h2⟩ := r
    subst h1
    exact ⟨a, vs, rfl, upd_same, Reps.mono ex _ _ (fzAll_reps e1 h2)⟩
  | tup ws =>
    simp [O.frozen] at e
    obtain ⟨ds, e1, e2⟩ := e
    subst e2
    obtain ⟨vs, h1, h2⟩ := r
    subst h1
    exact ⟨a, vs, rfl, upd_same, Reps.mono ex _ _ (fzAll_reps e1 h2)⟩
  | dct ks ws =>
    simp [O.frozen] at e
    obtain ⟨ds, e1, e2⟩ := e
    subst e2
    obtain ⟨vs, h1, h2, h3⟩ := r
    subst h1
    exact ⟨a, vs, rfl, upd_same, h2, Reps.mono ex _ _ (fzAll_reps e1 h3)⟩
  | ins C ws =>
    simp [O.frozen] at e
    obtain ⟨ds, e1, e2⟩ := e
    subst e2
    obtain ⟨dx, fs, h1, h2, h3⟩ := r
    subst h1
    refine ⟨a, dx, fs, rfl, upd_same, ?_, Reps.mono ex _ _ (fzAll_reps e1 h3)⟩
    rw [h2, fzAll_eq e1, List.length_map]
  | ice d => simp [O.frozen] at e
theorem O.frozen_ni {o : O} {d : D} (e : o.frozen = some d) : ∀ d', o ≠ .ice d' := fun d' z => by subst z; cases e
/-- a new thing is frozen -/
theorem ResR.frz {d : D} {G0 H0 : Hp} {ρ0 : List Addr} (w : Wd I K G ρ μ H) (h : ResR I K G ρ H r v) (e : r.frozen = some d) (a : Aft G0 ρ0 H0 G ρ H) (n : New H0 r v) :
    ∃ G', Aft G0 ρ0 H0 G' ρ H ∧ Wd I K G' ρ μ H ∧ Rep I K G' d v ∧ Ex G G' := by
  cases r with
  | fz d' => simp [Res.frozen] at e; subst e; exact ⟨G, a, w, h, Ex.refl _⟩
  | cel k => simp [Res.frozen] at e
  | nw o =>
    obtain ⟨x, ho, h1, h2, h3, h4, h5, _⟩ := h
    subst h1
    exact ⟨upd G x ho, a.frz (n o x rfl rfl) h3, w.frz h4 h3 h2, O.frz_rep e h5 h3, Ex.new h3⟩
/-- a cell is frozen -/
theorem Wd.ice {k : Nat} {o : O} {d : D} (w : Wd I K G ρ μ H) (e : μ[k]? = some o) (f : o.frozen = some d) : ∃ G', Aft G ρ H G' ρ H ∧ Wd I K G' ρ (μ.set k (.ice d)) H ∧ Ex G G' := by
  have hk : k < ρ.length := by rw [w.len]; exact (List.getElem?_eq_some_iff.mp e).1
  have h1 : ρ[k]? = some ρ[k] := List.getElem?_eq_getElem hk
  obtain ⟨h, h2, h3, h4⟩ := w.cel h1 e (O.frozen_ni f)
  have ex : Ex G (upd G ρ[k] h) := Ex.new h3
  refine ⟨upd G ρ[k] h, ⟨ex, fun b u q _ => q, fun b u _ g n => ?_, [], by simp, fun _ z => nomatch z⟩, ⟨fun b u q => ?_, by rw [List.length_set]; exact w.len, w.nd, fun j b u e1 e2 => ?_⟩, ex⟩
  · have hb : b ≠ ρ[k] := fun z => n (by rw [z]; exact List.getElem_mem hk)
    rw [upd_ne hb]; exact g
  · by_cases hb : b = ρ[k]
    · subst hb; rw [upd_same] at q; cases q; exact .inl h2
    · rw [upd_ne hb] at q; exact w.sub b u q
  · by_cases hj : k = j
    · subst hj
      rw [h1] at e1; cases e1
      rw [List.getElem?_set_self (List.getElem?_eq_some_iff.mp e).1] at e2
      cases e2
      exact ⟨h, h2, O.frz_rep f h4 h3, h, upd_same⟩
    · rw [List.getElem?_set_ne hj] at e2
      obtain ⟨x, q, c⟩ := w.cell j b u e1 e2
      have hb : b ≠ ρ[k] := fun z => by subst z; exact hj (inj_get w.nd h1 e1)
      exact ⟨x, q, c.ex ex (fun _ _ z => z) fun z => by rw [upd_ne hb]; exact z⟩
/-- a result gets a holder -/
theorem Wd.hold {o : O} {a : Addr} {h : HO} {G0 H0 : Hp} {ρ0 : List Addr} (w : Wd I K G ρ μ H) (A : Aft G0 ρ0 H0 G ρ H) (h2 : a ∉ ρ) (h3 : G a = none) (h4 : H a = some h) (h5 : RepO I K G ρ o h) (h6 : ∀ d, o ≠ .ice d) (n : H0 a = none) :
    Aft G0 ρ0 H0 G (ρ ++ [a]) H ∧ Wd I K G (ρ ++ [a]) (μ ++ [o]) H ∧ (ρ ++ [a])[μ.length]? = some a ∧ Pre ρ (ρ ++ [a]) := by
  have pf : Pre ρ (ρ ++ [a]) := fun k p e => by rw [List.getElem?_append_left (List.getElem?_eq_some_iff.mp e).1]; exact e
  refine ⟨⟨A.ex, A.fr, A.nw, ?_⟩, ⟨w.sub, by simp [w.len], ?_, fun k p u e1 e2 => ?_⟩, by rw [← w.len, List.getElem?_append_right (Nat.le_refl _)]; simp, pf⟩
  · obtain ⟨t, e, f⟩ := A.pre
    refine ⟨t ++ [a], by rw [e, List.append_assoc], fun y hy => ?_⟩
    rcases List.mem_append.mp hy with hy | hy
    · exact f y hy
    · have e' : y = a := by simpa using hy
      subst e'
      exact ⟨n, A.sup h2⟩
  · rw [List.nodup_append]
    refine ⟨w.nd, by simp, fun y hy z hz => ?_⟩
    have e : z = a := by simpa using hz
    subst e
    exact fun q => h2 (q ▸ hy)
  · by_cases hk : k < ρ.length
    · rw [List.getElem?_append_left hk] at e1
      rw [List.getElem?_append_left (by rw [← w.len]; exact hk)] at e2
      obtain ⟨y, q, r⟩ := w.cell k p u e1 e2
      exact ⟨y, q, r.ex (Ex.refl _) pf fun z => z⟩
    · have hk' : k = ρ.length := by
        have := (List.getElem?_eq_some_iff.mp e1).1
        simp at this; omega
      subst hk'
      rw [List.getElem?_append_right (Nat.le_refl _)] at e1
      rw [w.len, List.getElem?_append_right (Nat.le_refl _)] at e2
      simp at e1 e2
      subst e1 e2
      exact ⟨h, h4, CelR.of h6 h3 (h5.ex (Ex.refl _) pf)⟩
theorem Wd.write (w : Wd I K G ρ μ H) {k : Nat} {a : Addr} {o o' : O} {h : HO} (h1 : ρ[k]? = some a) (h2 : μ[k]? = some o) (nd : ∀ d, o ≠ .ice d) (nd' : ∀ d, o' ≠ .ice d) (r : RepO I K G ρ o' h) : Wd I K G ρ (μ.set k o') (upd H a h) := by
  obtain ⟨x, q, g, _⟩ := w.cel h1 h2 nd
  refine ⟨fun b u e => ?_, by rw [List.length_set]; exact w.len, w.nd, fun j b u e1 e2 => ?_⟩
  · have hb : b ≠ a := fun z => by subst z; rw [g] at e; cases e
    rcases w.sub b u e with z | ⟨ob, kvs, z1, z2⟩
    · exact .inl (by rw [upd_ne hb]; exact z)
    · exact .inr ⟨ob, kvs, z1, by rw [upd_ne hb]; exact z2⟩
  · by_cases hj : k = j
    · subst hj
      rw [h1] at e1; cases e1
      rw [List.getElem?_set_self (List.getElem?_eq_some_iff.mp h2).1] at e2
      cases e2
      exact ⟨h, upd_same, CelR.of nd' g r⟩
    · rw [List.getElem?_set_ne hj] at e2
      obtain ⟨y, q2, r2⟩ := w.cell j b u e1 e2
      have hb : b ≠ a := fun z => by subst z; exact hj (inj_get w.nd h1 e1)
      exact ⟨y, by rw [upd_ne hb]; exact q2, r2⟩
theorem Aft.write (w : Wd I K G ρ μ H) {k : Nat} {a : Addr} {o : O} {h : HO} (h1 : ρ[k]? = some a) (h2 : μ[k]? = some o) (nd : ∀ d, o ≠ .ice d) : Aft G ρ H G ρ (upd H a h) := by
  obtain ⟨x, q, g, _⟩ := w.cel h1 h2 nd
  refine ⟨Ex.refl _, fun b u e n => ?_, fun _ _ _ g _ => g, [], by simp, fun _ z => nomatch z⟩
  have hb : b ≠ a := fun z => by
    subst z
    obtain ⟨u', e'⟩ := n (List.mem_iff_getElem?.mpr ⟨k, h1⟩)
    rw [g] at e'; cases e'
  rw [upd_ne hb]; exact e
/-- a new thing that nobody holds is written -/
theorem Wd.writeN (w : Wd I K G ρ μ H) {a : Addr} {h : HO} (h2 : a ∉ ρ) (h3 : G a = none) : Wd I K G ρ μ (upd H a h) := by
  refine ⟨fun b u z => ?_, w.len, w.nd, fun k b u e1 e2 => ?_⟩
  · have hb : b ≠ a := fun q => by subst q; rw [h3] at z; cases z
    rcases w.sub b u z with q | ⟨ob, kvs, q1, q2⟩
    · exact .inl (by rw [upd_ne hb]; exact q)
    · exact .inr ⟨ob, kvs, q1, by rw [upd_ne hb]; exact q2⟩
  · have hb : b ≠ a := fun q => h2 (q ▸ List.mem_iff_getElem?.mpr ⟨k, e1⟩)
    obtain ⟨y, q2, r2⟩ := w.cell k b u e1 e2
    exact ⟨y, by rw [upd_ne hb]; exact q2, r2⟩
theorem Aft.writeN {a : Addr} {h : HO} {G0 H0 : Hp} {ρ0 : List Addr} (A : Aft G0 ρ0 H0 G ρ H) (n : H0 a = none) : Aft G0 ρ0 H0 G ρ (upd H a h) :=
  ⟨A.ex, fun b u z q => by rw [upd_ne (ne_of_none z n)]; exact A.fr b u z q, A.nw, A.pre⟩
end
theorem EnvR.set {I : Ci} {K : PySem.W.Frag} {G : Hp} {ρ : List Addr} {δ : Env} {σ : St} {i : Nat} {w : Val} {v : V} (ev : EnvR I K G ρ δ σ) (r : ValR I K G ρ w v) : EnvR I K G ρ (δ.set i (some w)) (σ.set i (some v)) := by
  refine ⟨by rw [List.length_set, List.length_set]; exact ev.1, fun j u e => ?_⟩
  by_cases hj : i = j
  · subst hj
    by_cases hl : i < δ.length
    · rw [List.getElem?_set_self hl] at e
      cases e
      exact ⟨v, by rw [List.getElem?_set_self (by rw [← ev.1]; exact hl)], r⟩
    · rw [List.getElem?_eq_none (by simpa using hl)] at e; cases e
  · rw [List.getElem?_set_ne hj] at e
    obtain ⟨x, h1, h2⟩ := ev.2 j u e
    exact ⟨x, by rw [List.getElem?_set_ne hj]; exact h1, h2⟩
theorem EnvR.unset {I : Ci} {K : PySem.W.Frag} {G : Hp} {ρ : List Addr} {δ : Env} {σ : St} {i : Nat} (ev : EnvR I K G ρ δ σ) : EnvR I K G ρ (δ.set i none) (σ.set i none) := by
  refine ⟨by rw [List.length_set, List.length_set]; exact ev.1, fun j u e => ?_⟩
  by_cases hj : i = j
  · subst hj
    by_cases hl : i < δ.length
    · rw [List.getElem?_set_self hl] at e; cases e
    · rw [List.getElem?_eq_none (by simpa using hl)] at e; cases e
  · rw [List.getElem?_set_ne hj] at e
    obtain ⟨x, h1, h2⟩ := ev.2 j u e
    exact ⟨x, by rw [List.getElem?_set_ne hj]; exact h1, h2⟩
/-- what is forgotten -/
theorem EnvR.forget {I : Ci} {K : PySem.W.Frag} {G : Hp} {ρ : List Addr} {δ : Env} {σ : St} {i : Nat} (ev : EnvR I K G ρ δ σ) : EnvR I K G ρ (δ.set i none) σ := by
  refine ⟨by rw [List.length_set]; exact ev.1, fun j u e => ?_⟩
  by_cases hj : i = j
  · subst hj
    by_cases hl : i < δ.length
    · rw [List.getElem?_set_self hl] at e; cases e
    · rw [List.getElem?_eq_none (by simpa using hl)] at e; cases e
  · rw [List.getElem?_set_ne hj] at e
    exact ev.2 j u e
end EW
set_option maxRecDepth 100000
set_option maxHeartbeats 2000000
namespace EW
open PySem L2
/-- an own exception: its class, its fields -/
structure Exc where
  c : Nat
  ds : List D
inductive Out (α : Type) where
  | ok (a : α) (μ : Mu) | ex (z : Exc) (μ : Mu) | no
def Out.bind {α β : Type} (o : Out α) (f : α → Mu → Out β) : Out β := match o with
  | .ok a μ => f a μ
  | .ex z μ => .ex z μ
  | .no => .no
def outO {α : Type} (o : Option α) (μ : Mu) : Out α := match o with
  | some a => .ok a μ
  | none => .no
inductive Fl where
  | nx (δ : Env) (μ : Mu) | rt (r : Res) (μ : Mu) | bk (δ : Env) (μ : Mu) | ct (δ : Env) (μ : Mu) | ex (z : Exc) (δ : Env) (μ : Mu) | no
def Fl.thn (f : Fl) (k : Env → Mu → Fl) : Fl := match f with
  | .nx δ μ => k δ μ
  | .rt r μ => .rt r μ
  | .bk δ μ => .bk δ μ
  | .ct δ μ => .ct δ μ
  | .ex z δ μ => .ex z δ μ
  | .no => .no
def Out.fl {α : Type} (o : Out α) (δ : Env) (k : α → Mu → Fl) : Fl := match o with
  | .ok a μ => k a μ
  | .ex z μ => .ex z δ μ
  | .no => .no
inductive Bl where
  | len | int | abs | list | tuple | all | any | dict | sum | min | sorted
inductive Bm where
  | append | extend | insert | pop | clear | get | index | items | join
inductive Ik where
  | seq | rng | rng2 | enum | keys | own
/-- a target: a name, or some names -/
inductive Tg where
  | nm (j : Nat) | tp (js : List Nat)
def Tg.slots : Tg → List Nat
  | .nm j => [j]
  | .tp js => js
mutual
inductive Ce where
  | x (i : Nat) | k (d : D) | g (n : Nat)
  | bin (op : Operator) (a b : Ce) | neg (a : Ce) | inv (a : Ce)
  | cmp (op : CmpOp) (a b : Ce) | cmp2 (op op' : CmpOp) (a b c : Ce)
  | and (a b : Ce) | or (a b : Ce) | not (a : Ce)
  | ife (c a b : Ce)
  | tup (es : Ces) | lst (es : Ces) | dct0 | dct1 (k v : Ce)
  | ix (a b : Ce) | sl (a lo hi : Ce) | rev (a : Ce)
  | att (a : Ce) (n : Nat)
  | fn (f : Nat) (as : Ces) | mt (m : Nat) (o : Ce) (as : Ces) | mk (c : Nat) (as : Ces) | call (o : Ce) (as : Ces)
  | fnd (f : Nat) (as : Ces) (ds : List D) | mkd (c : Nat) (as : Ces) (ds : List D)
  | bm0 (m : Bm) (o : Ce) | lits (a : Ce)
  | blt (b : Bl) (as : Ces) | bmt (m : Bm) (o : Ce) (as : Ces) | isi (a : Ce) (cs : List D)
  | lc (T : Tg) (own : List Nat) (ik : Ik) (a : Ce) (elt : Ce) | lcIf (T : Tg) (own : List Nat) (ik : Ik) (a : Ce) (c elt : Ce)
  | dc (T : Tg) (own : List Nat) (ik : Ik) (a : Ce) (k v : Ce) | dcIf (T : Tg) (own : List Nat) (ik : Ik) (a : Ce) (c k v : Ce)
  | mkc (a : Ce)
inductive Ces where
  | nil | cons (a : Ce) (r : Ces)
end
/-- what the defs that are called do -/
structure Fx where
  fn : Nat → List Val → Mu → Out Res
  mt : Nat → Nat → List Val → Mu → Out Res
  /-- which of them there are -/
  df : Nat → Bool
  dm : Nat → Nat → Bool
  /-- the fields of a class -/
  fl : Nat → List Nat
  /-- an exact class; one class below another -/
  kc : Nat → Bool
  sub : Nat → Nat → Option Bool
  /-- a class whose == declines what is not of it -/
  ni : Nat → Bool
  /-- the module's constants -/
  gd : Nat → Option D
  /-- the last defaults of a def, of an __init__ -/
  dd : Nat → List D → Bool
  dk : Nat → List D → Bool
def big : Nat := 1000000
def cellsOf : List Val → List Nat
  | [] => []
  | .fz _ :: r => cellsOf r
  | .cel k :: r => k :: cellsOf r
def renum : Nat → List Val → List Val
  | _, [] => []
  | n, .fz d :: r => .fz d :: renum n r
  | n, .cel _ :: r => .cel n :: renum (n + 1) r
def O.flat (o : O) : Bool := o.frozen.isSome
def picks (μ : Mu) : List Nat → Option Mu
  | [] => some []
  | k :: ks => match μ[k]?, picks μ ks with
    | some o, some r => if o.flat then some (o :: r) else none
    | _, _ => none
def give : List Nat → Mu → Mu → Mu
  | k :: ks, μ, o :: os => give ks (μ.set k o) os
  | _, μ, _ => μ
def Res.ok : Res → Bool
  | .fz _ => true
  | .nw o => o.flat
  | .cel _ => false
def lendS (g : List Val → Mu → Out Res) (ws : List Val) (μ : Mu) (μc : Mu) : Out Res :=
  match g (renum 0 ws) μc with
  | .ok r μc' => if r.ok && μc'.all O.flat && decide (μc'.length = μc.length) then .ok r (give (cellsOf ws) μ μc') else .no
  | .ex z μc' => if μc'.all O.flat && decide (μc'.length = μc.length) then .ex z (give (cellsOf ws) μ μc') else .no
  | .no => .no
def lendW (g : List Val → Mu → Out Res) (ws : List Val) (μ : Mu) : Out Res :=
  if (cellsOf ws).Nodup then match picks μ (cellsOf ws) with
    | some μc => lendS g ws μ μc
    | none => g ws μ
  else g ws μ
def lend (g : List Val → Mu → Out Res) (ws : List Val) (μ : Mu) : Out Res := lendW g (ws.map (Val.nm μ)) μ
/-- a result as an argument -/
def Res.arg (μ : Mu) : Res → Val × Mu
  | .fz d => (.fz d, μ)
  | .cel k => ((Val.cel k).nm μ, μ)
  | .nw o => match o.frozen with | some d => (.fz d, μ) | none => (.cel μ.length, μ ++ [o])
/-- a new thing gets a cell -/
def Res.mkc (μ : Mu) : Res → Res × Mu
  | .nw o => (.cel μ.length, μ ++ [o])
  | r => (r, μ)
def O.refs : O → List Nat
  | .lst ws => cellsOf ws
  | .tup ws => cellsOf ws
  | .dct _ ws => cellsOf ws
  | .ins _ ws => cellsOf ws
  | .ice _ => []
def O.below (n : Nat) (o : O) : Bool := o.refs.all fun k => decide (k < n)
/-- an object is made by its __init__ -/
def Val.below (n : Nat) : Val → Bool
  | .fz _ => true
  | .cel k => decide (k < n)
def closed (n : Nat) (μ : Mu) : Bool := (μ.take n).all (O.below n)
def makeC (g : List Val → Mu → Out Res) (c : Nat) (ws : List Val) (μ : Mu) : Out Res :=
  match g (.cel μ.length :: ws) (μ ++ [.ins c []]) with
  | .ok (.fz .non) μ' => if closed μ.length μ' then match μ'[μ.length]? with
      | some o => if o.flat then .ok (.nw o) (μ'.take μ.length) else .no
      | none => .no
    else .no
  | .ok _ _ => .no
  | .ex z μ' => if closed μ.length μ' then .ex z (μ'.take μ.length) else .no
  | .no => .no
def makeR (g : List Val → Mu → Out Res) (c : Nat) (ws : List Val) (μ : Mu) : Out Res :=
  if (cellsOf ws).isEmpty then match g (.cel 0 :: ws) [.ins c []] with
    | .ok (.fz .non) [o] => if o.flat then .ok (.nw o) μ else .no
    | .ok _ _ => .no
    | .ex z _ => .ex z μ
    | .no => .no
  else makeC g c ws μ
/-- no exception leaves -/
def Out.calm {α : Type} (o : Out α) : Out α := match o with
  | .ok a μ => .ok a μ
  | _ => .no
mutual
def D.pd : D → PyData
  | .non => .none
  | .bl b => .bool b
  | .int i => .int i
  | .str x => .str x
  | .tup xs => .tuple (D.pds xs)
  | .lst xs => .list (D.pds xs)
  | .rol xs => .list (D.pds xs)
  | .rot xs => .tuple (D.pds xs)
  | .cls _ => .none
  | .ty _ => .none
  | .dct _ _ => .none
  | .ins _ _ => .none
def D.pds : List D → List PyData
  | [] => []
  | d :: ds => d.pd :: D.pds ds
end
mutual
/-- plain data -/
def D.dat : D → Bool
  | .non => true
  | .bl _ => true
  | .int _ => true
  | .str _ => true
  | .tup xs => D.dats xs
  | .lst xs => D.dats xs
  | .rol xs => D.dats xs
  | .rot xs => D.dats xs
  | .cls _ => false
  | .ty _ => false
  | .dct _ _ => false
  | .ins _ _ => false
def D.dats : List D → Bool
  | [] => true
  | d :: ds => d.dat && D.dats ds
end
def eqD (d e : D) : Bool := PyData.eqv d.pd e.pd
def cmpB (d : D) : Bool := d.dat && SeqAt.shaped d.pd
def D.key : D → Option Key
  | .int i => some (.inl i)
  | .str x => some (.inr x)
  | _ => none
def kD : Key → D
  | .inl i => .int i
  | .inr x => .str x
def dget {α : Type} : List Key → List α → Key → Option α
  | k' :: ks, d :: ds, k => if k' = k then some d else dget ks ds k
  | _, _, _ => none
def hasK (ks : List Key) (k : Key) : Bool := ks.any fun k' => decide (k' = k)
def setK {α : Type} : List Key → List α → Key → α → List α
  | k' :: ks, d :: ds, k, e => (if k' = k then e else d) :: setK ks ds k e
  | _, ds, _, _ => ds
def putKs (ks : List Key) (k : Key) : List Key := if hasK ks k then ks else ks ++ [k]
def putWs {α : Type} (ks : List Key) (ds : List α) (k : Key) (d : α) : List α := if hasK ks k then setK ks ds k d else ds ++ [d]
def dhits (ls : List Key) (es : List D) : List Key → List D → Bool
  | k :: ks, d :: ds => match dget ls es k with
    | some e => if eqD d e then dhits ls es ks ds else false
    | none => false
  | _, _ => true
def D.isNon : D → Bool
  | .non => true
  | _ => false
def D.fl : D → Option V
  | .non => some .non
  | .bl b => some (.bl b)
  | .int i => some (.int i)
  | .str x => some (.str x)
  | _ => none
def fls : List Val → Option (List V)
  | [] => some []
  | .fz d :: r => match d.fl, fls r with | some u, some t => some (u :: t) | _, _ => none
  | .cel _ :: _ => none
/-- data, whoever holds it -/
def O.data (μ : Mu) : O → Option D
  | .lst ws => (fzAll (ws.map (Val.nm μ))).map .lst
  | .tup ws => (fzAll (ws.map (Val.nm μ))).map .tup
  | .dct ks ws => (fzAll (ws.map (Val.nm μ))).map (.dct ks ·)
  | _ => none
def Res.data (μ : Mu) : Res → Option D
  | .fz d => some d
  | .nw o => o.data μ
  | .cel k => match μ[k]? with | some o => o.data μ | none => none
def mulB (i j : Int) : Bool := (decide (-(2 ^ 64 : Int) < i) && decide (i < 2 ^ 64)) || (decide (-(2 ^ 64 : Int) < j) && decide (j < 2 ^ 64))
def intOp : Operator → Int → Int → Option Int
  | .Add, i, j => some (i + j)
  | .Sub, i, j => some (i - j)
  | .Mult, i, j => if mulB i j then some (i * j) else none
  | .Mod, i, j => if 0 < j then some (i % j) else none
  | .FloorDiv, i, j => if 0 < j ∧ j < 1073741824 then some (i / j) else none
  | .Pow, i, j => if 0 ≤ j ∧ j ≤ 1000000 ∧ i.natAbs < 2 ^ 64 then some (i ^ j.toNat) else none
  | _, _, _ => none
def binR (op : Operator) (x y : Res) (μ : Mu) : Option Res :=
  match x, y with
  | .fz (.int i), .fz (.int j) => (intOp op i j).map fun n => .fz (.int n)
  | .fz (.str a), .fz (.str b) => match op with
    | .Add => if a.length + b.length ≤ big then some (.fz (.str (a ++ b))) else none
    | _ => none
  | .fz (.tup ds), .fz (.tup es) => match op with
    | .Add => if ds ≠ [] ∧ ds.length + es.length ≤ big then some (.fz (.tup (ds ++ es))) else none
    | _ => none
  | x, .fz (.int n) => match op, lstV μ x with
    | .Mult, some ds => if 0 ≤ n ∧ n < 1000 ∧ ds.length * n.toNat ≤ big then some (.nw (.lst (List.replicate n.toNat ds).flatten)) else none
    | _, _ => none
  | x, y => match op, lstV μ x, lstV μ y with
    | .Add, some ds, some es => if ds.length + es.length ≤ big then some (.nw (.lst (ds ++ es))) else none
    | _, _, _ => none
def ng (neg b : Bool) : Bool := if neg then !b else b
/-- operators of own things -/
def opM : Operator → Option Nat
  | .BitXor => some 4
  | .BitAnd => some 5
  | .BitOr => some 6
  | .Sub => some 7
  | .Add => some 8
  | _ => none
/-- an own thing, frozen -/
def insF : Res → Option (Nat × List D)
  | .fz (.ins c ds) => some (c, ds)
  | .nw (.ins c ws) => (fzAll ws).map fun ds => (c, ds)
  | _ => none
def binO (F : Fx) (op : Operator) (x y : Res) (μ : Mu) : Out Res := match insF x, insF y with
  | some (c, ds), some (c', ds') => match opM op with
    | some m => if c = c' ∧ F.dm c m then lend (F.mt c m) [.fz (.ins c ds), .fz (.ins c' ds')] μ else .no
    | none => .no
  | _, _ => outO (binR op x y μ) μ
def D.odd (n : Bool) : D → Bool
  | .non => true
  | .str _ => !n
  | .lst _ => !n
  | .tup _ => true
  | .dct _ _ => true
  | _ => false
/-- classes whose == declines the other's things -/
def apart (F : Fx) (c c' : Nat) : Bool := F.ni c && (F.ni c' && (decide (F.sub c' c = some false) && decide (F.sub c c' = some false)))
/-- x == y, x != y -/
def eqR (F : Fx) (neg : Bool) (x y : Res) (μ : Mu) : Out Bool :=
  match x, y with
  | .fz (.ins c ds), .fz (.ins c' ds') => if c = c' ∧ F.dm c 1 then (lend (F.mt c 1) [.fz (.ins c ds), .fz (.ins c' ds')] μ).calm.bind fun r μ1 => match r with | .fz (.bl b) => .ok (ng neg b) μ1 | _ => .no else if apart F c c' then .ok neg μ else .no
  | .fz (.ins c ds), .fz o => if F.ni c && o.odd neg then .ok neg μ else .no
  | x, y => match x.data μ, y.data μ with
    | some (.dct ks ds), some (.dct ls es) => if ds.all cmpB && es.all cmpB && !neg then .ok (ks.length == ls.length && dhits ls es ks ds) μ else .no
    | some d, some e => if cmpB d && cmpB e then .ok (ng neg (eqD d e)) μ else .no
    | _, _ => .no
/-- x in y, x not in y -/
def inR (F : Fx) (neg : Bool) (x y : Res) (μ : Mu) : Out Bool :=
  match x, y with
  | .fz d, .fz (.ins c ds) => if F.dm c 2 then (lend (F.mt c 2) [.fz (.ins c ds), .fz d] μ).calm.bind fun r μ1 => match r with | .fz (.bl b) => .ok (ng neg b) μ1 | _ => .no else .no
  | .fz (.str a), .fz (.str z) => match neg, a.cps.toList with | false, [c] => .ok (decide (c ∈ z.cps.toList)) μ | _, _ => .no
  | .fz d, y => match dctV μ y with
    | some (ks, ds) => match d.key with | some k => .ok (ng neg (hasK ks k)) μ | none => .no
    | none => match d.fl, (seqV μ y).bind fun ws => fls (ws.map (Val.nm μ)) with
      | some u, some us => .ok (ng neg (inV u us)) μ
      | _, _ => .no
  | _, _ => .no
def intCmp : CmpOp → Int → Int → Option Bool
  | .Lt, i, j => some (decide (i < j))
  | .LtE, i, j => some (decide (i ≤ j))
  | .Gt, i, j => some (decide (j < i))
  | .GtE, i, j => some (decide (j ≤ i))
  | _, _, _ => none
def cmpR (F : Fx) (op : CmpOp) (x y : Res) (μ : Mu) : Out Bool :=
  match op with
  | .Eq => eqR F false x y μ
  | .NotEq => eqR F true x y μ
  | .In => inR F false x y μ
  | .NotIn => inR F true x y μ
  | .Is => match x, y with | .fz d, .fz .non => .ok d.isNon μ | _, _ => .no
  | .IsNot => match x, y with | .fz d, .fz .non => .ok (!d.isNon) μ | _, _ => .no
  | op => match x, y with | .fz (.int i), .fz (.int j) => outO (intCmp op i j) μ | _, _ => .no
def truth (r : Res) (μ : Mu) : Out Bool := match r with
  | .fz (.bl b) => .ok b μ
  | .fz .non => .ok false μ
  | .fz (.int i) => .ok (i != 0) μ
  | .fz (.str y) => if y.length ≤ big then .ok ((y.length : Int) != 0) μ else .no
  | r => match seqV μ r with
    | some ws => .ok (!ws.isEmpty) μ
    | none => .no
def ixR (x y : Res) (μ : Mu) : Option Res :=
  match dctV μ x, y with
  | some (ks, ws), .fz d => match d.key with | some k => (dget ks ws k).map fun w => (w.nm μ).res | none => none
  | none, .fz (.int n) => match x with
    | .fz (.str z) => if z.length ≤ big then (atI z.cps.toList n).map fun c => .fz (.str ⟨#[c]⟩) else none
    | x => match seqV μ x with | some ws => (atI ws n).map fun w => (w.nm μ).res | none => none
  | _, _ => none
/-- a new thing that may be frozen is frozen -/
def Res.fr : Res → Res
  | .nw o => match o.frozen with | some d => .fz d | none => .nw o
  | r => r
def optI : Res → Option (Option Int)
  | .fz .non => some none
  | .fz (.int i) => some (some i)
  | _ => none
def cutD {α : Type} (xs : List α) (lo hi : Option Int) : List α := (xs.drop (HT.sIx xs.length 0 lo)).take (HT.sIx xs.length xs.length hi - HT.sIx xs.length 0 lo)
def slR (x : Res) (lo hi : Option Int) (μ : Mu) : Option Res :=
  match x with
  | .fz (.str z) => if z.length ≤ big then some (.fz (.str (cutS z lo hi))) else none
  | .fz (.tup ds) => some (.fz (.tup (cutD ds lo hi)))
  | x => (lsqV μ x).map fun ws => .nw (.lst (cutD ws lo hi))
def D.tyn : D → Option String
  | .non => some "NoneType"
  | .bl _ => some "bool"
  | .int _ => some "int"
  | .str _ => some "str"
  | .tup _ => some "tuple"
  | .lst _ => some "list"
  | .dct _ _ => some "dict"
  | _ => none
def O.tyn : O → Option String
  | .lst _ => some "list"
  | .tup _ => some "tuple"
  | .dct _ _ => some "dict"
  | _ => none
def Res.tyn (μ : Mu) : Res → Option String
  | .fz d => d.tyn
  | .nw o => o.tyn
  | .cel k => match μ[k]? with | some o => o.tyn | none => none
def Res.insC (μ : Mu) (r : Res) : Option Nat := (insV μ r).map (·.1)
def tyIs (n c : String) : Bool := n == c || (n == "bool" && c == "int")
def tyOk (c : String) : Bool := c == "bool" || c == "int" || c == "str" || c == "tuple" || c == "list" || c == "dict"
/-- isinstance by one class -/
def isi1 (F : Fx) (r : Res) (μ : Mu) (c : D) : Option Bool := match c with
  | .ty c => match r.tyn μ with | some n => if tyOk c then some (tyIs n c) else none | none => none
  | .cls c => if F.kc c then match r.insC μ with
    | some c' => if c' = c then some true else F.sub c' c
    | none => match r.tyn μ with | some _ => some false | none => none else none
  | _ => none
def tyNames : List D → Option (List String)
  | [] => some []
  | .ty c :: r => if tyOk c then (tyNames r).map (c :: ·) else none
  | _ => none
def isiR (F : Fx) (r : Res) (μ : Mu) : List D → Out Res
  | [c] => match isi1 F r μ c with | some b => .ok (.fz (.bl b)) μ | none => .no
  | cs => match tyNames cs, r.tyn μ with | some ns, some n => .ok (.fz (.bl (ns.any (tyIs n)))) μ | _, _ => .no
def blOf : List Val → Option (List Bool)
  | [] => some []
  | .fz (.bl b) :: r => (blOf r).map (b :: ·)
  | _ => none
def intsOf : List Val → Option (List Int)
  | [] => some []
  | .fz (.int b) :: r => (intsOf r).map (b :: ·)
  | _ => none
def keysPs : List Val → Option (List (Key × D))
  | [] => some []
  | .fz (.tup [a, b]) :: r => match a.key, keysPs r with | some k, some t => some ((k, b) :: t) | _, _ => none
  | _ => none
def lenR (F : Fx) (w : Res) (μ : Mu) : Out Res := match w with
  | .fz (.str z) => if z.length ≤ big then .ok (.fz (.int z.length)) μ else .no
  | .fz (.ins c ds) => if F.dm c 3 then (lend (F.mt c 3) [.fz (.ins c ds)] μ).calm.bind fun r μ1 => match r with | .fz (.int n) => if 0 ≤ n ∧ n < 2 ^ 63 then .ok (.fz (.int n)) μ1 else .no | _ => .no else .no
  | w => match dctV μ w with
    | some (ks, _) => .ok (.fz (.int ks.length)) μ
    | none => match seqV μ w with | some ds => .ok (.fz (.int ds.length)) μ | none => .no
def listR (w : Res) (μ : Mu) : Out Res := match dctV μ w with
  | some (ks, _) => .ok (.nw (.lst (ks.map fun k => .fz (kD k)))) μ
  | none => match seqV μ w with | some ds => .ok (.nw (.lst ds)) μ | none => .no
def tupleR (w : Res) (μ : Mu) : Out Res := match w with
  | .fz (.tup ds) => .ok (.fz (.tup ds)) μ
  | w => match lsqV μ w with | some ws => .ok (.nw (.tup ws)) μ | none => .no
def minI (i : Int) : List Int → Int
  | [] => i
  | j :: js => minI (if j < i then j else i) js
def strsOf : List Val → Option (List Str)
  | [] => some []
  | .fz (.str b) :: r => (strsOf r).map (b :: ·)
  | _ => none
/-- texts by their signs -/
def leS (a b : Str) : Bool := !decide (b.cps.toList < a.cps.toList)
def srtS (xs : List Str) : List Str := xs.mergeSort leS
def bltR (F : Fx) (b : Bl) (ws : List Val) (μ : Mu) : Out Res :=
  match b, ws with
  | .len, [w] => lenR F w.res μ
  | .int, [.fz (.int i)] => .ok (.fz (.int i)) μ
  | .int, [.fz (.bl b)] => .ok (.fz (.int (if b then 1 else 0))) μ
  | .abs, [.fz (.int i)] => .ok (.fz (.int (if i < 0 then -i else i))) μ
  | .list, [w] => listR w.res μ
  | .tuple, [w] => tupleR w.res μ
  | .all, [w] => match (lsqV μ w.res).bind blOf with | some bs => .ok (.fz (.bl (bs.all id))) μ | none => .no
  | .any, [w] => match (lsqV μ w.res).bind blOf with | some bs => .ok (.fz (.bl (bs.any id))) μ | none => .no
  | .dict, [w] => match dctV μ w.res with
    | some (ks, ds) => .ok (.nw (.dct ks ds)) μ
    | none => match (lsqV μ w.res).bind keysPs with | some ps => if (ps.map (·.1)).Nodup then .ok (.nw (.dct (ps.map (·.1)) (ps.map fun p => .fz p.2))) μ else .no | none => .no
  | .sum, [w] => match (lsqV μ w.res).bind intsOf with | some is => .ok (.fz (.int is.sum)) μ | none => .no
  | .min, [.fz (.int i), .fz (.int j)] => .ok (.fz (.int (if j < i then j else i))) μ
  | .min, [w] => match (lsqV μ w.res).bind intsOf with | some (i :: is) => .ok (.fz (.int (minI i is))) μ | _ => .no
  | .sorted, [w] => match (lsqV μ w.res).bind strsOf with | some xs => if xs.length < 64 then .ok (.nw (.lst ((srtS xs).map fun x => .fz (.str x)))) μ else .no | none => .no
  | _, _ => .no
/-- a list that may be written: a cell, or a new one -/
def mutV (μ : Mu) : Res → Option (List Val)
  | .cel k => match μ[k]? with | some (.lst ds) => some ds | _ => none
  | .nw (.lst ds) => some ds
  | _ => none
def putL (μ : Mu) (ds : List Val) : Res → Mu
  | .cel k => μ.set k (.lst ds)
  | _ => μ
def popR (r : Res) (i : Int) (μ : Mu) : Out Res := match mutV μ r with
  | some ds => if -(2 ^ 63) ≤ i ∧ i < 2 ^ 63 then match ixN ds.length i with
    | some j => match ds[j]? with | some w => .ok ((w.nm μ).res) (putL μ (ds.eraseIdx j) r) | none => .no
    | none => .no
    else .no
  | none => .no
def clearR (r : Res) (μ : Mu) : Out Res := match r with
  | .cel k => match μ[k]? with
    | some (.dct _ _) => .ok (.fz .non) (μ.set k (.dct [] []))
    | _ => .no
  | _ => .no
def getR (r : Res) (k d : Val) (μ : Mu) : Out Res := match dctV μ r with
  | some (ks, ws) => match k with
    | .fz kd => match kd.key with
      | some key => .ok ((((dget ks ws key).getD d).nm μ).res) μ
      | none => .no
    | _ => .no
  | none => .no
def indexR (r : Res) (d : D) (μ : Mu) : Out Res := match d.fl, (lsqV μ r).bind fun ws => fls (ws.map (Val.nm μ)) with
  | some u, some us => match us.findIdx? fun x => eqV x u with
    | some j => .ok (.fz (.int j)) μ
    | none => .no
  | _, _ => .no
def bmtR (m : Bm) (r : Res) (ws : List Val) (μ : Mu) : Out Res :=
  match m, ws with
  | .append, [w] => match mutV μ r with
      | some ds => if ds.length < big then .ok (.fz .non) (putL μ (ds ++ [w]) r) else .no
      | none => .no
  | .join, [w] => match r, (seqV μ w.res).bind strsOf with
      | .fz (.str a), some ys => if (ys.map (·.length)).sum + ys.length * a.length ≤ 16777216 then .ok (.fz (.str (Txt.join a ys))) μ else .no
      | _, _ => .no
  | .extend, [w] => match mutV μ r, lstV μ w.res with
      | some ds, some es => if ds.length + es.length < big then .ok (.fz .non) (putL μ (ds ++ es) r) else .no
      | _, _ => .no
  | .insert, [.fz (.int i), w] => match mutV μ r with
      | some ds => if ds.length < big ∧ 0 ≤ i ∧ i < 2 ^ 63 then .ok (.fz .non) (putL μ (ds.take i.toNat ++ [w] ++ ds.drop i.toNat) r) else .no
      | none => .no
  | .pop, [.fz (.int i)] => popR r i μ
  | .get, [k] => getR r k (.fz .non) μ
  | .get, [k, d] => getR r k d μ
  | .index, [.fz d] => indexR r d μ
  | _, _ => .no
def bm0R (m : Bm) (r : Res) (μ : Mu) : Out Res := match m with
  | .pop => popR r (-1) μ
  | .clear => clearR r μ
  | _ => .no
/-- list(d.items()) -/
def litsD : List Key → List D → List Val
  | k :: ks, d :: ds => .fz (.tup [kD k, d]) :: litsD ks ds
  | _, _ => []
def litsR (x : Res) (μ : Mu) : Out Res := match dctV μ x with
  | some (ks, ws) => match fzAll (ws.map (Val.nm μ)) with
    | some ds => if ks.length ≤ big then .ok (.nw (.lst (litsD ks ds))) μ else .no
    | none => .no
  | none => .no
inductive Item where
  | one (w : Val) | pr (i : Int) (w : Val)
def setAllV (δ : Env) : List Nat → List Val → Env
  | j :: js, w :: ws => setAllV (δ.set j (some w)) js ws
  | _, _ => δ
def bindI (μ : Mu) : Tg → Item → Env → Option Env
  | .nm j, .one w, δ => some (δ.set j (some (w.nm μ)))
  | .tp js, .one w, δ => match seqV μ ((w.nm μ).res) with
    | some ws => if ws.length = js.length then some (setAllV δ js ws) else none
    | none => none
  | .tp [i, j], .pr n w, δ => some ((δ.set i (some (.fz (.int n)))).set j (some (w.nm μ)))
  | _, _, _ => none
def wipeD (δ : Env) : List Nat → Env
  | [] => δ
  | v :: vs => (wipeD δ vs).set v none
abbrev Ck := Option (Nat × O)
def chk (c : Ck) (μ : Mu) : Bool := match c with
  | none => true
  | some (k, o) => decide (μ[k]? = some o)
def enumI (i : Int) : List Val → List Item
  | [] => []
  | w :: ws => .pr i w :: enumI (i + 1) ws
def signs (z : Str) : List Val := z.cps.toList.map fun c => .fz (.str ⟨#[c]⟩)
def rngI (lo : Int) (n : Nat) : List Item := (List.range n).map fun (i : Nat) => .one (.fz (.int (lo + (i : Int))))
/-- a sequence that is walked: its items, what must stay -/
def seqI (r : Res) (μ : Mu) : Option (List Val × Ck) := match r with
  | .fz (.str z) => some (signs z, none)
  | .fz d => (seqV μ (.fz d)).map fun ws => (ws, none)
  | .cel k => match μ[k]? with | some (.lst ws) => some (ws, some (k, .lst ws)) | some (.tup ws) => some (ws, some (k, .tup ws)) | _ => none
  | .nw _ => none
def itemsR (ik : Ik) (r : Res) (μ : Mu) : Out (List Item × Ck) :=
  match ik with
  | .seq => match seqI r μ with
    | some (ws, c) => .ok (ws.map .one, c) μ
    | none => .no
  | .enum => match r with
    | .fz (.str z) => .no
    | r => match seqI r μ with
      | some (ws, c) => .ok (enumI 0 ws, c) μ
      | none => .no
  | .rng => match r with | .fz (.int n) => if -1000000 ≤ n ∧ n ≤ 1000000 then .ok (rngI 0 n.toNat, none) μ else .no | _ => .no
  | .rng2 => .no
  | .own => match r with | .fz (.tup ds) => .ok ((ds.map Val.fz).map .one, none) μ | _ => .no
  | .keys => match r with
    | .fz (.dct ks _) => .ok (ks.map fun k => .one (.fz (kD k)), none) μ
    | _ => .no
/-- what is walked: frozen if it is new or a dict, else a cell -/
def walkR (ik : Ik) (r : Res) (μ : Mu) : Option (Res × Mu) := match ik, r with
  | .keys, .cel k => match μ[k]? with
    | some o => match o.frozen with | some d => some (.fz d, μ.set k (.ice d)) | none => none
    | none => none
  | _, .nw o => match o.frozen with | some d => some (.fz d, μ) | none => some (.cel μ.length, μ ++ [o])
  | _, r => some (r, μ)
def lcLoop (T : Tg) (δw : Env) (c : Ck) (g : Env → Mu → Out (Option Val)) : List Item → List Val → Mu → Out Res
  | [], acc, μ => if chk c μ then .ok (.nw (.lst acc)) μ else .no
  | d :: ds, acc, μ => if chk c μ then match bindI μ T d δw with
    | none => .no
    | some δ' => match g δ' μ with
      | .ok none μ1 => lcLoop T δw c g ds acc μ1
      | .ok (some w) μ1 => lcLoop T δw c g ds (acc ++ [w]) μ1
      | _ => .no
    else .no
def dcLoop (T : Tg) (δw : Env) (c : Ck) (g : Env → Mu → Out (Option (Key × Val))) : List Item → List Key → List Val → Mu → Out Res
  | [], ks, ws, μ => if chk c μ then .ok (.nw (.dct ks ws)) μ else .no
  | d :: ds, ks, ws, μ => if chk c μ then match bindI μ T d δw with
    | none => .no
    | some δ' => match g δ' μ with
      | .ok none μ1 => dcLoop T δw c g ds ks ws μ1
      | .ok (some (k, w)) μ1 => dcLoop T δw c g ds (putKs ks k) (putWs ks ws k w) μ1
      | _ => .no
    else .no
def keyO (k v : Val) (μ : Mu) : Out (Option (Key × Val)) := match k with
  | .fz d => match d.key with | some key => .ok (some (key, v)) μ | none => .no
  | _ => .no
def bmRecv (m : Bm) (x : Res) (μ : Mu) : Bool := match m with
  | .join => (match x with | .fz (.str _) => true | _ => false)
  | .get => (dctV μ x).isSome
  | .index => (lsqV μ x).isSome
  | .clear => (dctV μ x).isSome
  | _ => (mutV μ x).isSome
def isK : Ce → Bool
  | .k .non => true
  | _ => false
def partO (k : Bool) (o : Out Res) (μ : Mu) : Out (Option Int) := if k then .ok none μ else o.bind fun r μ1 => match r with
  | .fz (.int i) => .ok (some i) μ1
  | _ => .no
def argO (o : Out Res) : Out Val := o.bind fun r μ => .ok (r.arg μ).1 (r.arg μ).2
mutual
def evE (F : Fx) : Ce → Env → Mu → Out Res
  | .x i, δ, μ => match δ[i]? with | some (some w) => .ok ((w.nm μ).res) μ | _ => .no
  | .k d, _, μ => .ok (.fz d) μ
  | .g n, _, μ => match F.gd n with | some d => .ok (.fz d) μ | none => .no
  | .bin op a b, δ, μ => (evE F a δ μ).bind fun x μ1 => (evE F b δ μ1).bind fun y μ2 => binO F op (x.nm μ2) y μ2
  | .neg a, δ, μ => (evE F a δ μ).bind fun x μ1 => match x with | .fz (.int i) => .ok (.fz (.int (-i))) μ1 | _ => .no
  | .inv a, δ, μ => (evE F a δ μ).bind fun x μ1 => match insF x with
    | some (c, ds) => if F.dm c 9 then lend (F.mt c 9) [.fz (.ins c ds)] μ1 else .no
    | none => .no
  | .cmp op a b, δ, μ => (evE F a δ μ).bind fun x μ1 => (evE F b δ μ1).bind fun y μ2 => (cmpR F op (x.nm μ2).fr y.fr μ2).bind fun k μ3 => .ok (.fz (.bl k)) μ3
  | .cmp2 _ _ _ _ _, _, _ => .no
  | .and a b, δ, μ => (evE F a δ μ).bind fun x μ1 => match x with
    | .fz (.bl k) => if k then (evE F b δ μ1).bind fun y μ2 => match y with | .fz (.bl k') => .ok (.fz (.bl k')) μ2 | _ => .no else .ok (.fz (.bl false)) μ1
    | _ => .no
  | .or a b, δ, μ => (evE F a δ μ).bind fun x μ1 => match x with
    | .fz (.bl k) => if k then .ok (.fz (.bl true)) μ1 else (evE F b δ μ1).bind fun y μ2 => match y with | .fz (.bl k') => .ok (.fz (.bl k')) μ2 | _ => .no
    | _ => .no
  | .not a, δ, μ => (evE F a δ μ).bind fun x μ1 => match x with | .fz (.bl k) => .ok (.fz (.bl (!k))) μ1 | _ => .no
  | .ife c a b, δ, μ => (evT F c δ μ).bind fun k μ1 => if k then evE F a δ μ1 else evE F b δ μ1
  | .tup es, δ, μ => (evEs F es δ μ).bind fun ws μ1 => if ws.length ≤ big then (match fzAll (ws.map (Val.nm μ1)) with | some ds => .ok (.fz (.tup ds)) μ1 | none => .ok (.nw (.tup ws)) μ1) else .no
  | .lst es, δ, μ => (evEs F es δ μ).bind fun ws μ1 => if ws.length ≤ big then .ok (.nw (.lst (ws.map (Val.nm μ1)))) μ1 else .no
  | .dct0, _, μ => .ok (.nw (.dct [] [])) μ
  | .dct1 a b, δ, μ => (argO (evE F a δ μ)).bind fun x μ1 => (argO (evE F b δ μ1)).bind fun y μ2 => match x with
    | .fz d => match d.key with | some k => .ok (.nw (.dct [k] [y])) μ2 | none => .no
    | _ => .no
  | .ix a b, δ, μ => (evE F a δ μ).bind fun x μ1 => (evE F b δ μ1).bind fun y μ2 => outO (ixR (x.nm μ2) y μ2) μ2
  | .sl a lo hi, δ, μ => (evE F a δ μ).bind fun x μ1 => (partO (isK lo) (evE F lo δ μ1) μ1).bind fun l μ2 => (partO (isK hi) (evE F hi δ μ2) μ2).bind fun h μ3 => outO (slR (x.nm μ3) l h μ3) μ3
  | .rev a, δ, μ => (evE F a δ μ).bind fun x μ1 => match lsqV μ1 x with | some ds => .ok (.nw (.lst ds.reverse)) μ1 | none => .no
  | .att a n, δ, μ => (evE F a δ μ).bind fun x μ1 => match insV μ1 x with
    | some (c, ws) => match (F.fl c).idxOf? n with
      | some i => match ws[i]? with | some w => .ok ((w.nm μ1).res) μ1 | none => .no
      | none => .no
    | none => .no
  | .fn f as, δ, μ => if F.df f then (evEs F as δ μ).bind fun ws μ1 => lend (F.fn f) ws μ1 else .no
  | .mt m o as, δ, μ => (evE F o δ μ).bind fun x μ1 => match insV μ1 x with
    | some (c, _) => if F.dm c m then (evEs F as δ (x.arg μ1).2).bind fun ws μ2 => lend (F.mt c m) ((x.arg μ1).1 :: ws) μ2 else .no
    | none => .no
  | .mk c as, δ, μ => if F.dm c 0 then (evEs F as δ μ).bind fun ws μ1 => makeR (F.mt c 0) c (ws.map (Val.nm μ1)) μ1 else .no
  | .call o as, δ, μ => (evE F o δ μ).bind fun x μ1 => match insV μ1 x with
    | some (c, _) => if F.dm c 10 then (evEs F as δ (x.arg μ1).2).bind fun ws μ2 => if (insV μ2 (((x.arg μ1).1.nm μ2).res)).map (·.1) = some c then lend (F.mt c 10) ((x.arg μ1).1 :: ws) μ2 else .no else .no
    | none => .no
  | .bm0 m o, δ, μ => (evE F o δ μ).bind fun x μ1 => if bmRecv m x μ1 then bm0R m x μ1 else .no
  | .lits a, δ, μ => (evE F a δ μ).bind fun x μ1 => litsR x μ1
  | .fnd f as ds, δ, μ => if F.df f && F.dd f ds then (evEs F as δ μ).bind fun ws μ1 => lend (F.fn f) (ws ++ ds.map Val.fz) μ1 else .no
  | .mkd c as ds, δ, μ => if F.dm c 0 && F.dk c ds then (evEs F as δ μ).bind fun ws μ1 => makeR (F.mt c 0) c ((ws ++ ds.map Val.fz).map (Val.nm μ1)) μ1 else .no
  | .blt b as, δ, μ => (evEs F as δ μ).bind fun ws μ1 => bltR F b (ws.map (Val.nm μ1)) μ1
  | .bmt m o as, δ, μ => (evE F o δ μ).bind fun x μ1 => if bmRecv m x μ1 then (evEs F as δ μ1).bind fun ws μ2 => bmtR m (x.nm μ2) (ws.map (Val.nm μ2)) μ2 else .no
  | .isi a cs, δ, μ => (evE F a δ μ).bind fun x μ1 => isiR F x μ1 cs
  | .lc T own ik a elt, δ, μ => (evE F a δ μ).bind fun x μ1 => match walkR ik x μ1 with
    | some (x', μ1') => (itemsR ik x' μ1').bind fun it μ2 => if it.1.length ≤ big then lcLoop T (wipeD δ own) it.2 (fun δ' μ' => (argO (evE F elt δ' μ')).bind fun w μ'' => .ok (some w) μ'') it.1 [] μ2 else .no
    | none => .no
  | .lcIf T own ik a c elt, δ, μ => (evE F a δ μ).bind fun x μ1 => match walkR ik x μ1 with
    | some (x', μ1') => (itemsR ik x' μ1').bind fun it μ2 => if it.1.length ≤ big then lcLoop T (wipeD δ own) it.2 (fun δ' μ' => (evT F c δ' μ').bind fun k μ4 => if k then (argO (evE F elt δ' μ4)).bind fun w μ'' => .ok (some w) μ'' else .ok none μ4) it.1 [] μ2 else .no
    | none => .no
  | .dc T own ik a k v, δ, μ => (evE F a δ μ).bind fun x μ1 => match walkR ik x μ1 with
    | some (x', μ1') => (itemsR ik x' μ1').bind fun it μ2 => if it.1.length ≤ big then dcLoop T (wipeD δ own) it.2 (fun δ' μ' => (argO (evE F k δ' μ')).bind fun wk μ'' => (argO (evE F v δ' μ'')).bind fun wv μ3 => keyO wk wv μ3) it.1 [] [] μ2 else .no
    | none => .no
  | .dcIf T own ik a c k v, δ, μ => (evE F a δ μ).bind fun x μ1 => match walkR ik x μ1 with
    | some (x', μ1') => (itemsR ik x' μ1').bind fun it μ2 => if it.1.length ≤ big then dcLoop T (wipeD δ own) it.2 (fun δ' μ' => (evT F c δ' μ').bind fun b μ4 => if b then (argO (evE F k δ' μ4)).bind fun wk μ'' => (argO (evE F v δ' μ'')).bind fun wv μ3 => keyO wk wv μ3 else .ok none μ4) it.1 [] [] μ2 else .no
    | none => .no
  | .mkc a, δ, μ => (evE F a δ μ).bind fun x μ1 => .ok (x.mkc μ1).1 (x.mkc μ1).2
def evT (F : Fx) : Ce → Env → Mu → Out Bool
  | .and a b, δ, μ => (evT F a δ μ).bind fun k μ1 => if k then evT F b δ μ1 else .ok false μ1
  | .or a b, δ, μ => (evT F a δ μ).bind fun k μ1 => if k then .ok true μ1 else evT F b δ μ1
  | .not a, δ, μ => (evT F a δ μ).bind fun k μ1 => .ok (!k) μ1
  | .cmp op a b, δ, μ => (evE F a δ μ).bind fun x μ1 => (evE F b δ μ1).bind fun y μ2 => cmpR F op (x.nm μ2).fr y.fr μ2
  | .cmp2 op op' a b c, δ, μ => (evE F a δ μ).bind fun x μ1 => (evE F b δ μ1).bind fun y μ2 => (cmpR F op (x.nm μ2) y μ2).bind fun k μ3 => if k then (evE F c δ μ3).bind fun z μ4 => cmpR F op' (y.nm μ4) z μ4 else .ok false μ3
  | .x i, δ, μ => (match δ[i]? with | some (some w) => Out.ok ((w.nm μ).res) μ | _ => .no).bind fun r μ3 => truth r μ3
  | .k d, _, μ => truth (.fz d) μ
  | .att a n, δ, μ => ((evE F a δ μ).bind fun x μ1 => match insV μ1 x with
    | some (c, ws) => match (F.fl c).idxOf? n with
      | some i => match ws[i]? with | some w => Out.ok ((w.nm μ1).res) μ1 | none => .no
      | none => .no
    | none => .no).bind fun r μ3 => truth r μ3
  | .ix a b, δ, μ => ((evE F a δ μ).bind fun x μ1 => (evE F b δ μ1).bind fun y μ2 => outO (ixR (x.nm μ2) y μ2) μ2).bind fun r μ3 => truth r μ3
  | .fn f as, δ, μ => (if F.df f then (evEs F as δ μ).bind fun ws μ1 => lend (F.fn f) ws μ1 else .no).bind fun r μ3 => truth r μ3
  | .mt m o as, δ, μ => ((evE F o δ μ).bind fun x μ1 => match insV μ1 x with
    | some (c, _) => if F.dm c m then (evEs F as δ (x.arg μ1).2).bind fun ws μ2 => lend (F.mt c m) ((x.arg μ1).1 :: ws) μ2 else .no
    | none => .no).bind fun r μ3 => truth r μ3
  | .blt b as, δ, μ => ((evEs F as δ μ).bind fun ws μ1 => bltR F b (ws.map (Val.nm μ1)) μ1).bind fun r μ3 => truth r μ3
  | .isi a cs, δ, μ => ((evE F a δ μ).bind fun x μ1 => isiR F x μ1 cs).bind fun r μ3 => truth r μ3
  | _, _, _ => .no
def evEs (F : Fx) : Ces → Env → Mu → Out (List Val)
  | .nil, _, μ => .ok [] μ
  | .cons a r, δ, μ => (argO (evE F a δ μ)).bind fun w μ1 => (evEs F r δ μ1).bind fun ws μ2 => .ok (w :: ws) μ2
end
end EW
set_option maxRecDepth 100000
set_option maxHeartbeats 2000000
namespace EW
open PySem L2 PySem.Spec PyProof.Rows
def rInOwn (K : PySem.W.Frag) (C : Addr) (sp : Sp) (E : XK) (neg : Bool) : R2 := fun x y H Q => ∃ a dx fs, y = .ref a ∧ H a = some (.ins C dx fs) ∧ sp [.ref a, x] H (fun r H' => ∃ b, r = .bl b ∧ Q (.bl (if neg then !b else b)) H') E
section
variable {X : Cx} {CX : CXT} {k : Nat} {f C : Addr} {fd : FuncData} {ps : List Str} {sp : Sp} {E : XK}
theorem op_inOwn (F : FnOk X.prog X.w X.K X.mg X.base CX k f fd ps sp) (hr : Room k X.A) (hm : Meth X.K C "__contains__" f) (hb : Binds X.K fd ps []) (hx : Passes CX X E) : OpR X (compareOp .In) (rInOwn X.K C sp E false) := by
  intro pins s σ H x y v u Q I rx ry h
  obtain ⟨a, dx, fs, rfl, ha, h⟩ := h
  cases ry
  obtain ⟨mA, J, _⟩ := ins_get I.hok ha
  obtain ⟨od, J, _⟩ := J.look
  obtain ⟨m, hF⟩ := I.fr
  have hc := run_fn (us := [.ref a, v]) (vs := [.ref a, x]) (dvs := []) F hr hb .nil hx I (.cons rfl (.cons rx .nil)) h
  refine PySem.W.in_K hF I.ok.mod.kin J hm.at_ hm.fn (thn hc fun r s' hz => ?_)
  obtain ⟨z, H', I', rz, b, e, q⟩ := hz
  subst e
  cases rz
  exact wpAny_truthy_bool ⟨.bl b, H', I', rfl, q⟩
theorem op_notInOwn (F : FnOk X.prog X.w X.K X.mg X.base CX k f fd ps sp) (hr : Room k X.A) (hm : Meth X.K C "__contains__" f) (hb : Binds X.K fd ps []) (hx : Passes CX X E) : OpR X (compareOp .NotIn) (rInOwn X.K C sp E true) := by
  intro pins s σ H x y v u Q I rx ry h
  obtain ⟨a, dx, fs, rfl, ha, h⟩ := h
  cases ry
  obtain ⟨mA, J, _⟩ := ins_get I.hok ha
  obtain ⟨od, J, _⟩ := J.look
  obtain ⟨m, hF⟩ := I.fr
  have hc := run_fn (us := [.ref a, v]) (vs := [.ref a, x]) (dvs := []) F hr hb .nil hx I (.cons rfl (.cons rx .nil)) h
  refine PySem.W.notIn_K hF I.ok.mod.kin J hm.at_ hm.fn (thn hc fun r s' hz => ?_)
  obtain ⟨z, H', I', rz, b, e, q⟩ := hz
  subst e
  cases rz
  exact wpAny_truthy_bool ⟨.bl (!b), H', I', rfl, q⟩
end
def rLenOwn (K : PySem.W.Frag) (C : Addr) (sp : Sp) (E : XK) : List V → Hp → VK → Prop := fun xs H Q => ∃ a dx fs, xs = [.ref a] ∧ H a = some (.ins C dx fs) ∧ sp [.ref a] H (fun r H' => ∃ n : Int, r = .int n ∧ 0 ≤ n ∧ n < 2 ^ 63 ∧ Q (.int n) H') E
theorem call_lenOwn {X : Cx} {CX : CXT} {k : Nat} {f C : Addr} {fd : FuncData} {ps : List Str} {sp : Sp} {E : XK} (F : FnOk X.prog X.w X.K X.mg X.base CX k f fd ps sp) (hr : Room (k + 1) X.A) (hm : Meth X.K C "__len__" f) (hb : Binds X.K fd ps []) (hx : Passes CX X E) : CallR X (.builtin "len") (rLenOwn X.K C sp E) := by
  intro pins s σ H xs us Q I r h
  obtain ⟨a, dx, fs, rfl, ha, h⟩ := h
  cases r with
  | cons r1 r2 =>
    cases r1
    cases r2
    obtain ⟨mA, J, _⟩ := ins_get I.hok ha
    obtain ⟨od, J, _⟩ := J.look
    obtain ⟨m, hF⟩ := I.fr
    have e0 : Env0 X.prog X.w X.K X.mg X.base X.A.in1 X.stack s H := I.env0.in1
    have hl := F.len _ _ _ _ h
    refine PySem.W.len_K hF I.ok.mod.kin J hm.at_ hm.fn (wpAny_call (codeAny_mono (F.run X.A.in1 X.stack s H ⟨[.ref a], []⟩ [.ref a] [.ref a] _ E (by
      have := hr
      exact ⟨this.hd, by have := this.dp; show X.A.depth + 3 * k + 5 < _; omega, by have := this.un; show X.A.units + 1 + 16 * k + 200 < _; omega⟩) e0 (by
        have := hb s [.ref a] I.kIn (by simpa using hl)
        simpa using this) (.cons rfl .nil) h) fun r s' hq => ?_))
    cases r with
    | error e => exact hx pins σ H s e s' I hq
    | ok fl =>
      cases fl with
      | ret w =>
        obtain ⟨z, H', I', rz, n, e, h0, h1, q⟩ := I.after hq
        subst e
        obtain ⟨t, rfl⟩ := rz
        exact ⟨⟨h0, h1⟩, .int n, H', I'.tok _, ⟨_, rfl⟩, q⟩
      | next => exact False.elim hq
      | brk => exact False.elim hq
      | cont => exact False.elim hq
section
open AutoSeq1 (wpAny_loadPart')
theorem meets_enumT (l : Addr) (items : Array Value) (n : Nat) (dct : Option Addr) (sl : Array (Option Value)) :
    Meets (Builtin.«enumerate.__new__» ⟨[.type "enumerate", .ref l], []⟩) (fun _ R s => s.heap.get? l = some { cls := .type "tuple", dict := dct, data := .seq items n, slots := sl } ∧
      R (.ok (.ret (.ref (s.heap.push { cls := .type "tuple_iterator", data := .fields #[.ref l, .int 0 0] }).objs.size)))
        { s with heap := (s.heap.push { cls := .type "tuple_iterator", data := .fields #[.ref l, .int 0 0] }).push { cls := .type "enumerate", data := .fields #[.none, .bool false, .ref s.heap.objs.size, rawInt 0, .none, .none] } }) :=
  .of_wp fun prog w A R s h => by
    obtain ⟨hp, g, d, tk, os⟩ := s; obtain ⟨hl, h⟩ := h
    have hsub := sub_enumerate
    have hL : Heap.IsTuple (Shared.heap ⟨hp, g, d, tk, os⟩) l items := ⟨_, hl, rfl, n, rfl⟩
    wp_walk using wpAny_loadPart' hl
    refine wpAny_stack_any fun st => wpAny_pure ?_
    split
    · rename_i c _ _ _ _ _
      cases (c == Value.type "enumerate")
      · wp_walk using wpAny_loadPart' hl, wpAny_pyIter_tuple hL
        exact ⟨_, rfl, h⟩
      · wp_walk using wpAny_loadPart' hl, wpAny_pyIter_tuple hL
        exact ⟨_, rfl, h⟩
    · wp_walk using wpAny_loadPart' hl, wpAny_pyIter_tuple hL
      exact ⟨_, rfl, h⟩
end
section
variable {prog : Program} {w : World} {A : Around} {E : Value → Shared → Prop} {s : Shared}
theorem call_enumT {l : Addr} {items : Array Value} {Q : Value → Shared → Prop} (hL : s.heap.IsTuple l items)
    (h : ∀ h', IsEnum h' (s.heap.objs.size + 1) s.heap.objs.size 0 .none → h'.IsTupleIter s.heap.objs.size l 0 → h'.objs.size = s.heap.objs.size + 2 →
      (∀ b o, s.heap.get? b = some o → h'.get? b = some o) → Q (.ref (s.heap.objs.size + 1)) { s with heap := h' }) :
    wpAny (model prog w) A (call (.type "enumerate") [.ref l]) Q E s := by
  obtain ⟨⟨c, dct, dt, sl⟩, hl, hc, n, hd⟩ := hL
  replace hc : c = .type "tuple" := hc
  replace hd : dt = .seq items n := hd
  subst hc hd
  refine callType_new F.called_enumerate (by decide) (F.typeCall_enumerate_1 _) (F.newCall_enumerate_1 _) (fun obj => F.args_object_init_2 obj _) F.entry_enumerate_new
    (meets_enumT l items n dct sl) ⟨hl, ?_⟩
  have hz : (s.heap.push { cls := .type "tuple_iterator", data := .fields #[.ref l, .int 0 0] }).objs.size = s.heap.objs.size + 1 := Heap.size_push ..
  show _ ∧ _
  rw [hz]
  have he : IsEnum ((s.heap.push { cls := .type "tuple_iterator", data := .fields #[.ref l, .int 0 0] }).push
      { cls := .type "enumerate", data := .fields #[.none, .bool false, .ref s.heap.objs.size, rawInt 0, .none, .none] }) (s.heap.objs.size + 1) s.heap.objs.size 0 .none := by
    have := Heap.get?_push_size (s.heap.push { cls := .type "tuple_iterator", data := .fields #[.ref l, .int 0 0] })
      (o := { cls := .type "enumerate", data := .fields #[.none, .bool false, .ref s.heap.objs.size, rawInt 0, .none, .none] }) rfl
    rw [hz] at this; exact this
  refine ⟨⟨_, he, rfl⟩, h _ he ⟨_, Heap.get?_push_of_some _ (Heap.get?_push_size _ rfl), rfl, rfl⟩ (by rw [Heap.size_push, hz]) fun b o x => Heap.get?_push_of_some _ (Heap.get?_push_of_some _ x)⟩
end
def IteT (K : PySem.W.Frag) (a : Addr) : It :=
  ⟨fun i H => ∃ (xs : List V) (x : V), SqT K H a xs ∧ xs[i]? = some x, fun i H v H' => ∃ T x, v = .ref T ∧ H T = none ∧ H' = upd H T (.tup [.int (i : Nat), x]) ∧ ∀ xs, SqT K H a xs → xs[i]? = some x, fun i H => ∃ xs : List V, SqT K H a xs ∧ xs.length ≤ i⟩
theorem turn_enumT {P : Program} {w : World} {K : PySem.W.Frag} {elts : List Expr} {kk : Nat} {tpos : Pos} (a e it : Addr) :
    Turn P w K (.Tuple elts kk tpos) (IteT K a) [e, it] e (fun i h => (∃ old, IsEnum h e it ((i : Nat) : Int) old) ∧ h.IsTupleIter it a i ∧ e ≠ it) where
  mem := by simp
  obj := fun i h st b hb => by
    obtain ⟨⟨old, he⟩, ⟨o, ho, hc, hd⟩, _⟩ := st
    have e' : b = e ∨ b = it := by simpa using hb
    rcases e' with z | z
    · rw [z]; exact ⟨_, he, fun v q => nomatch q⟩
    · rw [z]; exact ⟨o, ho, fun v q => by rw [hd] at q; cases q⟩
  keep := fun i h h' st k => let ⟨⟨old, he⟩, hi, hne⟩ := st; ⟨⟨old, k e (by simp) _ he⟩, hi.at fun o q => k it (by simp) o q, hne⟩
  item := by
    intro X hP hw hK hc i pins s σ H E I hf st hg
    subst hP hw hK
    obtain ⟨⟨old, he⟩, hit, hne⟩ := st
    obtain ⟨xs, x, hq, hx⟩ := hg
    obtain ⟨its, rv, p, hz⟩ := I.tuple hq
    obtain ⟨u, hu, ru⟩ := rv.get hx
    have hel : e < s.heap.objs.size := Heap.lt_size he
    have hil : it < s.heap.objs.size := by obtain ⟨_, q, _⟩ := hit; exact Heap.lt_size q
    have pT : s.heap.IsTuple a its.toArray := p
    have hai : a ≠ it := by
      rintro rfl
      obtain ⟨o, h1, h2, _⟩ := hit
      obtain ⟨o', h3, h4, _⟩ := pT
      rw [h1] at h3; cases h3; rw [h2] at h4; exact absurd (Value.type.inj h4) (by decide)
    have hae : a ≠ e := by
      rintro rfl
      obtain ⟨o', h3, h4, _⟩ := pT
      rw [show s.heap.get? a = _ from he] at h3; cases h3; exact absurd (Value.type.inj h4) (by decide)
    have hn : i < its.toArray.size := by
      have := (List.getElem?_eq_some_iff.mp hu).1
      simpa using this
    refine wpAny_pyNext_enum_itemD (Draws.tuple (prog := X.prog) (w := X.w) (A := X.A.in1) (I.ok.hd hc) it a hai its.toArray) he ⟨hit, pT⟩ hn hne (by simp [hne, hae.symm]) fun y h' tk hy ho hst hT hsz hk => ?_
    have ey : y = u := by
      have : its.toArray[i]? = some u := by simpa using hu
      rw [this] at hy; exact (Option.some.inj hy).symm
    subst ey
    refine ⟨_, rfl, wpAny_letOwnedTupleGo_enum (s := { s with heap := h', toks := tk + 1 }) ho fun h'' he' sb => ?_⟩
    have hT2 : h''.get? s.heap.objs.size = some { cls := .type "tuple", data := .seq #[.int i tk, y] } := (sb.2 _ (Nat.ne_of_gt hel)).trans hT
    have new : ObjOk X.prog X.w (upd H s.heap.objs.size (.tup [.int (i : Nat), x])) h'' s.heap.objs.size (.tup [.int (i : Nat), x]) :=
      ⟨by show 2 ≤ sizeLine; decide, [.int i tk, y], .cons ⟨_, rfl⟩ (.cons ru .nil), ⟨_, hT2, rfl, _, rfl⟩⟩
    have I1 : Inv X pins σ (upd H s.heap.objs.size (.tup [.int (i : Nat), x])) { s with heap := h'', toks := tk + 1 } :=
      I.turnedNew (ch := [e, it]) (fun b ob hb q => (sb.2 b (fun z => hb (by simp [z]))).trans (hk b ob (fun z => hb (by simp [z])) (fun z => hb (by simp [z])) q)) hf (Nat.le_refl _) new
    refine ⟨.ref s.heap.objs.size, _, I1, rfl, ⟨_, x, rfl, I.hok.fresh (Nat.le_refl _), rfl, fun ys hy => by rw [I.tuple_inj hy hq]; exact hx⟩, ⟨⟨y, ?_⟩, hst.1.at fun o q => (sb.2 it (Ne.symm hne)).trans q, hne⟩, fun b hb => ?_⟩
    · have e1 : ((i + 1 : Nat) : Int) = (i : Int) + 1 := by omega
      rw [e1]; exact he'
    · have hb' : b < s.heap.objs.size := by
        have e' : b = e ∨ b = it := by simpa using hb
        rcases e' with z | z
        · rw [z]; exact hel
        · rw [z]; exact hil
      rw [upd_ne (Nat.ne_of_lt hb')]
      exact (hf b hb).1
  done := by
    intro X hP hw hK hc i pins s σ H E I hf st hg
    subst hP hw hK
    obtain ⟨⟨old, he⟩, hit, hne⟩ := st
    obtain ⟨xs, hq, hx⟩ := hg
    obtain ⟨its, rv, p, hz⟩ := I.tuple hq
    obtain ⟨f0, f1, f2, f3, f4, f5⟩ := hf it (by simp)
    have hl := rv.length
    have hT : s.TypeIs (.ref e) "enumerate" := ⟨_, he, rfl⟩
    unfold pyNext
    refine wpAny_bind (wpAny_attempt (wpAny_callSpecial?_slot (name := Str.ofString "__next__") hT F.slot_enumerate_next
      (wpAny_call_entry F.slot_enumerate_next hT F.entry_enumerate_next ?_ (F.args_enumerate_next_1 _))))
    show wpAny _ _ (field (.ref e) 2 >>= _) _ _ _
    refine wpAny_bind (wpAny_field he rfl (x := .ref it) rfl ?_)
    refine wpAny_bind (wpAny_nextOf_tuple_end (I.ok.hd hc) hit (show s.heap.IsTuple a its.toArray from p) (by simp; omega) fun h' x he' hx' => ?_)
    obtain ⟨o, ho, hc'⟩ := hx'
    refine wpAny_bind (wpAny_isInstance (T := "StopIteration") (b := true) ⟨o, ho, hc'⟩ isSubtype_stop ?_)
    exact wpAny_pure ⟨rfl, I.turned (t' := s.toks) (fun b o hb q => he' b o hb q) f0 f1 f3 f4 f5⟩
  self := fun A i s Q E st h => let ⟨⟨_, he⟩, _⟩ := st; wpAny_pyIter_enum he h
def iEnumT (K : PySem.W.Frag) (ta : TA) : TI := fun σ H R => ta σ H fun vs H1 => ∃ a xs, vs = [.ref a] ∧ SqT K H1 a xs ∧ R (IteT K a) H1
theorem pi_enumT {X : Cx} {e : Expr} {ta : TA} {p pos tpos : Pos} {elts : List Expr} {kk : Nat} (hg : Gl X "enumerate") (hm : X.mg "enumerate" = none) (ha : PA X [e] ta) (hs : starEach [e] X.env = [(false, eval e X.env)] := by rfl) :
    PI X (.Tuple elts kk tpos) (.Call (.Name "enumerate" p) [e] [] pos) (iEnumT X.K ta) := by
  refine ⟨fun pins s σ H R I h => ?_⟩
  refine Call_ (ld_blt I hg hm boot_enumerate (PyProof.Rows.callWith_type1 (thn (ha.run pos pins s σ H _ I h) fun us s1 ⟨vs, H1, I1, r1, q1⟩ => ?_) hs rfl))
  obtain ⟨a, xs, ex, hq, q⟩ := q1
  subst ex
  cases r1 with
  | cons r rr =>
    cases rr
    cases r
    obtain ⟨its, rv, p', hz⟩ := I1.tuple hq
    refine call_enumT (show s1.heap.IsTuple a its.toArray from p') fun h' he hit hsz hk => wpAny_pyIter_enum he ?_
    have I2 : Inv X pins σ H1 { s1 with heap := h' } := I1.kept (t' := s1.toks) hk
    refine ⟨s1.heap.objs.size + 1, [s1.heap.objs.size + 1, s1.heap.objs.size], _, _, H1, rfl, I2, turn_enumT a (s1.heap.objs.size + 1) s1.heap.objs.size, ⟨⟨.none, he⟩, hit, Nat.succ_ne_self _⟩, fun b hb => ?_, q⟩
    have e' : b = s1.heap.objs.size + 1 ∨ b = s1.heap.objs.size := by simpa using hb
    have hle : s1.heap.objs.size ≤ b := by
      rcases e' with z | z
      · rw [z]; exact Nat.le_add_right _ _
      · rw [z]; exact Nat.le_refl _
    exact I1.fpOk hle (I1.hok.fresh hle)
theorem call_lenK {X : Cx} : CallR X (.builtin "len") (fun xs H Q => ∃ a kvs, xs = [V.ref a] ∧ Rd H a (.dK kvs) ∧ Q (.int kvs.length) H) := by
  intro pins s σ H xs us Q I r h
  obtain ⟨a, kvs, rfl, ha, q⟩ := h
  obtain ⟨u, rfl, ru⟩ := vals1 r
  cases ru
  exact d_len I ha fun t s' I' => ⟨.int kvs.length, H, I', ⟨t, rfl⟩, q⟩
theorem putK_absent {kvs : List (Key × V)} {k : Key} {v : V} (h : k ∉ kvs.map (·.1)) : putK kvs k v = kvs ++ [(k, v)] := by
  unfold putK
  rw [if_neg]
  intro z
  obtain ⟨p, hp, e⟩ := List.any_eq_true.mp z
  exact h (List.mem_map.mpr ⟨p, hp, of_decide_eq_true e⟩)
theorem mergeK_nd : ∀ (more kvs : List (Key × V)), ((kvs ++ more).map (·.1)).Nodup → mergeK kvs more = kvs ++ more
  | [], kvs, _ => by simp [mergeK]
  | p :: more, kvs, h => by
    have hp : p.1 ∉ kvs.map (·.1) := by
      rw [List.map_append] at h
      have := (List.nodup_append.mp h).2.2
      exact fun z => this _ z _ (by simp) rfl
    show mergeK (putK kvs p.1 p.2) more = _
    rw [putK_absent hp, mergeK_nd more _ (by simpa using h)]
    simp
/-- as FnOk, for a def that gives NotImplemented; what is told of the end is told with None -/
structure FnNI (P : Program) (w : World) (K : PySem.W.Frag) (mg : Str → Option Value) (base : Heap) (k : Nat) (f : Addr) (fd : FuncData) (ps : List Str) (sp : Sp) : Prop where
  len : ∀ vs H Q E, sp vs H Q E → vs.length = ps.length
  run : ∀ (A : Around) (outer : List PySem.Env) (s : Shared) (H : Hp) (args : Args) (us : List Value) (vs : List V) (Q : VK) (E : XK), Room k A → Env0 P w K mg base A outer s H → BindsTo s fd args (ps.zip us) → Vals vs us → sp vs H Q E →
    codeAny (model P w) A (.call (.ref f) args) (fun r s' => r = .ok (.ret .notImplemented) ∧ CE outer P w H s Q .none s') s
section
variable {prog : Program} {w : World} {A : Around} {E : Value → Shared → Prop} {s : Shared} {K : PySem.W.Frag} {x C f : Addr} {ox : Obj} {od : Option Obj} {b : Value} {T : String}
theorem rc_NI {Q : Value → Shared → Prop} (hu : A.units < cLine) (X : K.In s.heap) (I : PySem.W.InstAt s.heap x ox C od) (hs : PySem.W.findIn K (.ref C) "__eq__" = some (some (.ref f))) (hf : PySem.W.isFn K (.ref f) = true) (hT : s.TypeIs b T) (hsub : PySem.W.subIn K (.type T) (.ref C) = some false)
    (h : wpAny (model prog w) A (call (.ref f) [.ref x, b]) (fun v s' => v = .notImplemented ∧ wpAny (model prog w) A (tryCompare b "__eq__" (.ref x)) (fun r s2 => r = none ∧ wpAny (model prog w) A (isSame (.ref x) b) (fun z s3 => Q (.bool z) s3) E s2) E s') E s) :
    wpAny (model prog w) A (richCompare .Eq (.ref x) b) Q E s := by
  have one : wpAny (model prog w) A (tryCompare (.ref x) "__eq__" b) (fun r s' => r = none ∧ wpAny (model prog w) A (tryCompare b "__eq__" (.ref x)) (fun r s2 => r = none ∧ wpAny (model prog w) A (isSame (.ref x) b) (fun z s3 => Q (.bool z) s3) E s2) E s') E s := by
    unfold tryCompare
    refine wpAny_bind (PySem.W.ifBound_K X I hs hf (wpAny_mono h (fun v s' hv => ?_) fun _ _ e => e))
    obtain ⟨e, hv⟩ := hv
    subst e
    exact wpAny_pure ⟨rfl, hv⟩
  unfold richCompare
  simp only [cmpInfo_Eq, oneThing_ref]
  refine wpAny_holding (wpAny_bind (wpAny_cRoomFor hu ?_))
  refine wpAny_bind (I.type.here ?_)
  refine wpAny_bind (wpAny_typeOf hT ?_)
  have fin : wpAny (model prog w) A (tryCompare (.ref x) "__eq__" b) (fun r s' => r = none ∧ wpAny (model prog w) A (tryCompare b "__eq__" (.ref x)) (fun r s2 => r = none ∧ wpAny (model prog w) A (isSame (.ref x) b) (fun z s3 => Q (.bool z) s3) E s2) E s') E s := one
  split
  · refine wpAny_bind ((PySem.W.looks_subIn X hsub).here ?_)
    simp only [Bool.false_eq_true, if_false, Bool.not_false, if_true]
    refine wpAny_bind (m := tryCompare (.ref x) _ b) (wpAny_mono one (fun r s1 z => ?_) fun _ _ e => e)
    obtain ⟨z1, z2⟩ := z
    subst z1
    refine wpAny_bind (m := tryCompare b _ (.ref x)) (wpAny_mono z2 (fun r s2 z => ?_) fun _ _ e => e)
    obtain ⟨z1, z2⟩ := z
    subst z1
    exact wpAny_bind (wpAny_rule (wpAny_bind (wpAny_mono z2 (fun z s3 h => wpAny_pure h) fun _ _ e => e)))
  · rename_i q
    exact absurd (by simp) q
theorem dec_none {Q : Option Value → Shared → Prop} (h : Q none s) : wpAny (model prog w) A (tryCompare .none "__eq__" (.ref x)) Q E s :=
  wpAny_tryCompare_declines (show s.TypeIs .none "NoneType" from rfl) F.slot_NoneType_eq_refl (call_gives F.slot_NoneType_eq_refl rfl F.entry_NoneType_eq (F.args_NoneType_eq_2 _ _) (PySem.SeqAt.NoneType___eq___none_ref_0 x) ⟨rfl, h⟩)
theorem str_eq_inst (z : Str) (t : Tok) (x C dx : Addr) : Meets (Builtin.«str.__eq__» ⟨[.str z t, .ref x], []⟩) (fun _ R s => s.heap.get? x = some { cls := .ref C, dict := some dx } ∧ R (.ok (.ret .notImplemented)) s) :=
  .of_wp fun prog w A R s h => by
    obtain ⟨hp, g, d, tk, os⟩ := s
    obtain ⟨hl, h⟩ := h
    wp_walk using AutoSeq1.wpAny_loadPart' hl
    exact ⟨_, rfl, h⟩
theorem dec_str {Q : Option Value → Shared → Prop} {z : Str} {t : Tok} {dx : Addr} (hx : s.heap.get? x = some (PySem.W.instObj C dx)) (h : Q none s) : wpAny (model prog w) A (tryCompare (.str z t) "__eq__" (.ref x)) Q E s :=
  wpAny_tryCompare_declines (show s.TypeIs (.str z t) "str" from rfl) F.slot_str_eq_refl (call_meets F.slot_str_eq_refl (show s.TypeIs (.str z t) "str" from rfl) F.entry_str_eq (F.args_str_eq_2 _ _) (str_eq_inst z t x C dx) ⟨hx, rfl, h⟩)
theorem dec_list {Q : Option Value → Shared → Prop} {l : Addr} {items : Array Value} {n : Nat} (hl : s.heap.get? l = some { cls := .type "list", data := .seq items n }) (X : K.In s.heap) (I : PySem.W.InstAt s.heap x ox C od) (hm : PySem.W.mroIn K C (.type "list") = some false) (h : Q none s) :
    wpAny (model prog w) A (tryCompare (.ref l) "__eq__" (.ref x)) Q E s := by
  have hT : s.TypeIs (.ref l) "list" := ⟨_, hl, rfl⟩
  refine wpAny_tryCompare_declines hT F.slot_list_eq_refl (GQ.call_here F.slot_list_eq_refl hT F.entry_list_eq (F.args_list_eq_2 _ _) ?_)
  have L : PySem.W.Looks (model prog w) s.heap (isInstance (.ref x) (.type "list")) false := I.type.andThen (PySem.W.looks_mroIn X hm)
  have hi : ∀ {A : Around} {E : Value → Shared → Prop} {R : Bool → Shared → Prop}, R false s → wpAny (model prog w) A (isInstance (.ref x) (.type "list")) R E s := fun {A E R} h => L.here h
  obtain ⟨hp, g, d, tk, os⟩ := s
  unfold Builtin.«list.__eq__»
  wp_walk using hi
  exact ⟨rfl, h⟩
end
section
variable {M : Model} {prog : Program} {w : World} {A : Around} {E : Value → Shared → Prop} {s : Shared} {K : PySem.W.Frag} {x C f : Addr} {ox : Obj} {od : Option Obj} {b : Value}
theorem ifBound_objNe {args : List Value} {Q : Option Value → Shared → Prop} (X : K.In s.heap) (I : PySem.W.InstAt s.heap x ox C od) (hs : PySem.W.findIn K (.ref C) "__ne__" = some (some (.builtin "object.__ne__")))
    (h : wpAny M A (call (.builtin "object.__ne__") (.ref x :: args)) (fun v => Q (some v)) E s) : wpAny M A (callSpecialIfBound? (.ref x) "__ne__" args) Q E s := by
  simp only [callSpecialIfBound?, bindSpecialIfBound?]
  refine wpAny_holding (wpAny_bind (wpAny_bind (wpAny_bind (I.type.here ((PySem.W.looks_findIn X hs).here ?_)))))
  refine wpAny_bind (wpAny_askSetting (wpAny_ite ?_))
  have fin : wpAny M A (call (.builtin "object.__ne__") ([.ref x] ++ args) >>= fun v => pure (some v)) Q E s := wpAny_bind (wpAny_mono h (fun v s' h' => wpAny_pure h') fun _ _ h' => h')
  split
  · exact wpAny_bind (wpAny_of_eq (F.cmp_object.ne.bind _) (wpAny_pure (by exact fin)))
  · exact wpAny_tryCatch (wpAny_bind (wpAny_of_eq (F.cmp_object.ne.bind _) (wpAny_pure (by exact fin))))
theorem objNe_K {Q : Fin → Shared → Prop} (hu : A.units < cLine) (X : K.In s.heap) (I : PySem.W.InstAt s.heap x ox C od) (hs : PySem.W.findIn K (.ref C) "__eq__" = some (some (.ref f))) (hf : PySem.W.isFn K (.ref f) = true)
    (h : wpAny (model prog w) A (call (.ref f) [.ref x, b]) (fun v s' => ∃ z, v = .bool z ∧ Q (.done (.ret (.bool (!z)))) s') E s) : wpAny (model prog w) A (Builtin.«object.__ne__» ⟨[.ref x, b], []⟩) Q E s := by
  obtain ⟨hp, g, d, tk, os⟩ := s
  unfold Builtin.«object.__ne__»
  repeat (first
    | with_reducible refine wpAny_cRoomFor hu ?_
    | (refine wpAny_bind (m := callSpecialIfBound? (.ref x) (Str.ofString "__eq__") [b])
        (PySem.W.ifBound_K X I hs hf (wpAny_mono h (fun r s' hr => by
          obtain ⟨z, rfl, hq⟩ := hr
          repeat (first | exact hq | exact wpAny_pure hq | exact wpAny_truthy_bool hq | (refine wpAny_bind (m := truthy (.bool _)) (wpAny_truthy_bool ?_)) | wp_step)) fun _ _ e => e)))
    | wp_step)
theorem ne_K {y : Addr} {oy : Obj} {ody : Option Obj} {Q : Value → Shared → Prop} (hu : A.units + 1 < cLine) (X : K.In s.heap) (I : PySem.W.InstAt s.heap x ox C od) (J : PySem.W.InstAt s.heap y oy C ody) (hs : PySem.W.findIn K (.ref C) "__eq__" = some (some (.ref f))) (hf : PySem.W.isFn K (.ref f) = true)
    (hn : PySem.W.findIn K (.ref C) "__ne__" = some (some (.builtin "object.__ne__"))) (hm : PySem.W.mroIn K C (.type "object") = some true)
    (h : wpAny (model prog w) A.in1 (call (.ref f) [.ref x, .ref y]) (fun v s' => ∃ z, v = .bool z ∧ Q (.bool (!z)) s') E s) : wpAny (model prog w) A (richCompare .NotEq (.ref x) (.ref y)) Q E s := by
  have one : wpAny (model prog w) A (tryCompare (.ref x) "__ne__" (.ref y)) (fun r s' => ∃ z : Bool, r = some (.bool (!z)) ∧ Q (.bool (!z)) s') E s := by
    unfold tryCompare
    refine wpAny_bind (ifBound_objNe X I hn (wpAny_call (codeAny_call_builtin F.cmp_object.ne.plain F.cmpEntry_ne (PySem.W.check_slot F.cmpKind_ne F.cmpSplit_ne (I.type.andThen (PySem.W.looks_mroIn X hm)) (F.cmpArgs_ne _ _) (objNe_K (A := A.in1) hu X I hs hf (wpAny_mono h (fun v s' hv => ?_) fun _ _ e => e))))))
    obtain ⟨z, rfl, hq⟩ := hv
    exact ⟨z, rfl, wpAny_pure ⟨z, rfl, hq⟩⟩
  unfold richCompare
  simp only [cmpInfo_NotEq, oneThing_ref]
  refine wpAny_holding (wpAny_bind (wpAny_cRoomFor (Nat.lt_of_succ_lt hu) ?_))
  refine wpAny_bind (I.type.here (wpAny_bind (J.type.here ?_)))
  rw [show (Value.ref C != Value.ref C) = false from by simp]
  simp only [Bool.false_eq_true, if_false]
  refine wpAny_bind (wpAny_pure ?_)
  simp only [Bool.false_eq_true, if_false]
  refine wpAny_bind (m := tryCompare (.ref x) _ (.ref y)) (wpAny_mono one (fun v s' hv => ?_) fun _ _ e => e)
  obtain ⟨z, rfl, hq⟩ := hv
  exact wpAny_pure hq
end
def rEqOwn (K : PySem.W.Frag) (C : Addr) (sp : Sp) (E : XK) (neg : Bool) : R2 := fun x y H Q => ∃ a b dx fs dy gs, x = .ref a ∧ y = .ref b ∧ H a = some (.ins C dx fs) ∧ H b = some (.ins C dy gs) ∧ sp [.ref a, .ref b] H (fun r H' => ∃ z, r = .bl z ∧ Q (.bl (if neg then !z else z)) H') E
section
variable {X : Cx} {CX : CXT} {k : Nat} {f C : Addr} {fd : FuncData} {ps : List Str} {sp : Sp} {E : XK}
theorem op_eqOwn (F : FnOk X.prog X.w X.K X.mg X.base CX k f fd ps sp) (hr : Room k X.A) (hm : Meth X.K C "__eq__" f) (hb : Binds X.K fd ps []) (hx : Passes CX X E) : OpR X (compareOp .Eq) (rEqOwn X.K C sp E false) := by
  intro pins s σ H x y v u Q I rx ry h
  obtain ⟨a, b, dx, fs, dy, gs, rfl, rfl, ha, hb', h⟩ := h
  cases rx; cases ry
  obtain ⟨mA, J, _⟩ := ins_get I.hok ha
  obtain ⟨od, J, _⟩ := J.look
  obtain ⟨mB, J2, _⟩ := ins_get I.hok hb'
  obtain ⟨od2, J2, _⟩ := J2.look
  obtain ⟨m, hF⟩ := I.fr
  have hc := run_fn (us := [.ref a, .ref b]) (vs := [.ref a, .ref b]) (dvs := []) F hr hb .nil hx I (.cons rfl (.cons rfl .nil)) h
  show wpAny _ _ (richCompare .Eq (.ref a) (.ref b)) _ _ _
  have hu : X.A.units < cLine := by have := hr.un; omega
  refine PySem.W.cmp_K (op := .Eq) hu hF I.ok.mod.kin J J2.type (by unfold PySem.W.notFirst; simp) hm.at_ hm.fn (thn hc fun r s' hz => ?_)
  obtain ⟨z, H', I', rz, bb, e, q⟩ := hz
  subst e
  cases rz
  exact ⟨.bl bb, H', I', rfl, q⟩
theorem op_neOwn (F : FnOk X.prog X.w X.K X.mg X.base CX k f fd ps sp) (hr : Room (k + 1) X.A) (hm : Meth X.K C "__eq__" f) (hn : PySem.W.findIn X.K (.ref C) "__ne__" = some (some (.builtin "object.__ne__"))) (hmo : PySem.W.mroIn X.K C (.type "object") = some true) (hb : Binds X.K fd ps []) (hx : Passes CX X E) : OpR X (compareOp .NotEq) (rEqOwn X.K C sp E true) := by
  intro pins s σ H x y v u Q I rx ry h
  obtain ⟨a, b, dx, fs, dy, gs, rfl, rfl, ha, hb', h⟩ := h
  cases rx; cases ry
  obtain ⟨mA, J, _⟩ := ins_get I.hok ha
  obtain ⟨od, J, _⟩ := J.look
  obtain ⟨mB, J2, _⟩ := ins_get I.hok hb'
  obtain ⟨od2, J2, _⟩ := J2.look
  obtain ⟨m, hF⟩ := I.fr
  have e0 : Env0 X.prog X.w X.K X.mg X.base X.A.in1 X.stack s H := I.env0.in1
  have hl := F.len _ _ _ _ h
  show wpAny _ _ (richCompare .NotEq (.ref a) (.ref b)) _ _ _
  have hu : X.A.units + 1 < cLine := by have := hr.un; omega
  refine ne_K hu I.kIn J J2 hm.at_ hm.fn hn hmo (wpAny_call (codeAny_mono (F.run X.A.in1 X.stack s H ⟨[.ref a, .ref b], []⟩ [.ref a, .ref b] [.ref a, .ref b] _ E (by
      have := hr
      exact ⟨this.hd, by have := this.dp; show X.A.depth + 3 * k + 5 < _; omega, by have := this.un; show X.A.units + 1 + 16 * k + 200 < _; omega⟩) e0 (by
        have := hb s [.ref a, .ref b] I.kIn (by simpa using hl)
        simpa using this) (.cons rfl (.cons rfl .nil)) h) fun r s' hq => ?_))
  cases r with
  | error e => exact hx pins σ H s e s' I hq
  | ok fl =>
    cases fl with
    | ret w =>
      obtain ⟨z, H', I', rz, bb, e, q⟩ := I.after hq
      subst e
      cases rz
      exact ⟨bb, rfl, .bl (!bb), H', I', rfl, q⟩
    | next => exact False.elim hq
    | brk => exact False.elim hq
    | cont => exact False.elim hq
end
/-- things that are no objects of the class: None, a text, a list -/
inductive OddV (H : Hp) : V → Prop where
  | non : OddV H .non
  | str (z : Str) : OddV H (.str z)
  | lst {l : Addr} {vs : List V} (e : H l = some (.lst vs)) : OddV H (.ref l)
def rEqNI (K : PySem.W.Frag) (C : Addr) (sp : Sp) (E : XK) : R2 := fun x y H Q => ∃ a dx fs, x = .ref a ∧ H a = some (.ins C dx fs) ∧ OddV H y ∧ sp [.ref a, y] H (fun _ H' => H' a = some (.ins C dx fs) ∧ OddV H' y ∧ Q (.bl false) H') E
section
variable {X : Cx} {k : Nat} {f C : Addr} {fd : FuncData} {ps : List Str} {sp : Sp} {E : XK}
theorem run_NI {pins : List (Addr × Obj)} {σ : L2.St} {H : Hp} {s : Shared} {Q : VK} {us : List Value} {vs : List V} (F : FnNI X.prog X.w X.K X.mg X.base k f fd ps sp) (hr : Room k X.A) (hb : Binds X.K fd ps [])
    (I : Inv X pins σ H s) (r : Vals vs us) (h : sp vs H Q E) : wpAny (model X.prog X.w) X.A (call (.ref f) us) (fun u s' => u = .notImplemented ∧ EP X pins σ Q .none s') X.xe s := by
  have hl : us.length = ps.length := by rw [← r.length]; exact F.len _ _ _ _ h
  have hb' := hb s us I.kIn (by simpa using hl)
  rw [List.append_nil] at hb'
  refine wpAny_call (codeAny_mono (F.run X.A X.stack s H ⟨us, []⟩ us vs Q E hr I.env0 hb' r h) fun r s' hq => ?_)
  obtain ⟨e, hq⟩ := hq
  subst e
  exact ⟨rfl, I.after hq⟩
theorem sub_own {K : PySem.W.Frag} {C : Addr} {T : String} {l : List Value} (e : fastBuiltinMro T = some l) (h : l.contains (.ref C) = false) : PySem.W.subIn K (.type T) (.ref C) = some false := by
  show (fastBuiltinMro T).map (·.contains (.ref C)) = some false
  rw [e]
  show some (l.contains (.ref C)) = some false
  rw [h]
theorem op_eqNI (F : FnNI X.prog X.w X.K X.mg X.base k f fd ps sp) (hr : Room k X.A) (hm : Meth X.K C "__eq__" f) (hml : PySem.W.mroIn X.K C (.type "list") = some false) (hb : Binds X.K fd ps []) : OpR X (compareOp .Eq) (rEqNI X.K C sp E) := by
  intro pins s σ H x y v u Q I rx ry h
  obtain ⟨a, dx, fs, rfl, ha, oy, h⟩ := h
  cases rx
  obtain ⟨mA, J0, _⟩ := ins_get I.hok ha
  obtain ⟨od, J, _⟩ := J0.look
  have hu : X.A.units < cLine := by have := hr.un; omega
  have hc := run_NI (us := [.ref a, u]) (vs := [.ref a, y]) F hr hb I (.cons rfl (.cons ry .nil)) h
  show wpAny _ _ (richCompare .Eq (.ref a) u) _ _ _
  cases oy with
  | non =>
    cases (show u = Value.none from ry)
    refine rc_NI hu I.kIn J hm.at_ hm.fn (show s.TypeIs .none "NoneType" from rfl) HN.sub_none (thn hc fun v s' ⟨e, z, H', I', rz, ha', oy', q⟩ => ⟨e, ?_⟩)
    exact dec_none ⟨rfl, wpAny_of_eq (rfl : isSame (.ref a) .none = pure false) ⟨.bl false, H', I', rfl, q⟩⟩
  | str z =>
    obtain ⟨t, q⟩ := (show ∃ t, u = Value.str z t from ry)
    subst q
    refine rc_NI hu I.kIn J hm.at_ hm.fn (show s.TypeIs (.str z t) "str" from rfl) (sub_own (l := [.type "str", .type "object"]) (by decide +kernel) (by simp)) (thn hc fun v s' ⟨e, _, H', I', rz, ha', oy', q⟩ => ⟨e, ?_⟩)
    obtain ⟨mB, J2, _⟩ := ins_get I'.hok ha'
    exact dec_str J2.obj ⟨rfl, wpAny_of_eq (rfl : isSame (.ref a) (.str z t) = pure false) ⟨.bl false, H', I', rfl, q⟩⟩
  | @lst l vs el =>
    cases (show u = Value.ref l from ry)
    obtain ⟨_, its, n, _, h1⟩ := (show ObjOk X.prog X.w H s.heap l (.lst vs) from I.hok l _ el)
    refine rc_NI hu I.kIn J hm.at_ hm.fn (show s.TypeIs (.ref l) "list" from ⟨_, h1, rfl⟩) (sub_own (l := [.type "list", .type "object"]) (by decide +kernel) (by simp)) (thn hc fun v s' ⟨e, z, H', I', rz, ha', oy', q⟩ => ⟨e, ?_⟩)
    obtain ⟨mB, J2, _⟩ := ins_get I'.hok ha'
    obtain ⟨od2, J2, _⟩ := J2.look
    cases oy' with
    | @lst _ vs' el' =>
      obtain ⟨_, its', n', _, h1'⟩ := (show ObjOk X.prog X.w H' s'.heap l (.lst vs') from I'.hok l _ el')
      have ne : a ≠ l := fun z => by subst z; rw [ha'] at el'; cases el'
      exact dec_list h1' I'.kIn J2 hml ⟨rfl, wpAny_isSame_ref_other ne J2.at_ h1' (fun z => nomatch z) ⟨.bl false, H', I', rfl, q⟩⟩
end
/-- the values at the pairs' keys -/
inductive Hits (K : PySem.W.Frag) (H : Hp) (ls : List (Key × V)) : List (Key × V) → Bool → Prop where
  | nil : Hits K H ls [] true
  | miss {k : Key} {v : V} {r : List (Key × V)} : valV ls k = none → Hits K H ls ((k, v) :: r) false
  | hit {k : Key} {v u : V} {r : List (Key × V)} {d e : PyData} {b : Bool} : valV ls k = some u → Dp K H v d → Dp K H u e → SeqAt.shaped d = true → SeqAt.shaped e = true → Hits K H ls r b → Hits K H ls ((k, v) :: r) (PyData.eqv d e && b)
def rEqDK (K : PySem.W.Frag) : R2 := fun x y H Q => ∃ a b ks ls r, x = .ref a ∧ y = .ref b ∧ Rd H a (.dK ks) ∧ Rd H b (.dK ls) ∧ Hits K H ls ks r ∧ Q (.bl (ks.length == ls.length && r)) H
section
variable {X : Cx} {pins : List (Addr × Obj)} {σ : L2.St} {H : Hp} {s : Shared}
theorem hits_run' (I : Inv X pins σ H s) {A : Around} (hu : A.units + 64 < cLine) {ls : List (Key × V)} {vb : List (Key × Value)} (rb : KV ls vb) {ks : List (Key × V)} {va : List (Key × Value)} (ra : KV ks va) : ∀ {r : Bool}, Hits X.K H ls ks r → PySem.W.KeqHitsP X.prog X.w A s vb va r := by
  unfold KV at ra
  induction ra with
  | nil => intro r hh; cases hh; exact .nil
  | @cons p q ps qs h t ih =>
    intro r hh
    obtain ⟨k, v⟩ := p
    obtain ⟨k', v'⟩ := q
    obtain ⟨h1, h2⟩ := h
    have h1' : k = k' := h1
    subst h1'
    cases hh with
    | miss hn => exact .miss (RelO.none_of (by rw [← hn]; exact rb.val k))
    | @hit _ _ u _ d e b hy d1 d2 s1 s2 hr =>
      have rr : RelO (some u) (valueAt vb k) := by rw [← hy]; exact rb.val k
      obtain ⟨y, hy', ry⟩ := rr.some_of
      obtain ⟨as, r1⟩ := Dp.reads I d v v' d1 h2
      obtain ⟨bs, r2⟩ := Dp.reads I e u y d2 ry
      exact .hit hy' (SeqAt.eqAt_reads d e A s v' y as bs r1 r2 (SeqAt.canLay_of_shaped s1) (SeqAt.canLay_of_shaped s2) (SeqAt.room_of_shaped s1 hu)).eqP (ih hr)
theorem op_eqDK (hu : X.A.units + 65 < cLine) : OpR X (compareOp .Eq) (rEqDK X.K) := by
  intro pins s σ H x y v u Q I rx ry h
  obtain ⟨a, b, ks, ls, r, rfl, rfl, ha, hb, hh, q⟩ := h
  cases rx; cases ry
  obtain ⟨_, ya, va, ra, da⟩ := dk_rd I.hok ha
  obtain ⟨_, yb, vb, rb, db⟩ := dk_rd I.hok hb
  refine PySem.W.rcP_dicts (knd := mixKind X.prog X.w) (r := r) ya yb da db (by omega) (fun _ => hits_run' I (by show X.A.units + 1 + 64 < cLine; omega) rb ra hh) _ _ ?_
  rw [← ra.length, ← rb.length]
  exact ⟨.bl _, H, I, rfl, q⟩
end
/-- what isinstance asks of a class of the text -/
structure IsiC (K : PySem.W.Frag) (C : Addr) : Prop where
  cls : Cls K C
  get : PySem.W.findIn K (.ref C) "__class__" = some (some (.builtin "object.__class__"))
  spc : PySem.W.specialIn K (.builtin "object.__class__") "__get__" = some (some (.builtin "getset_descriptor.__get__"))
  tak : PySem.W.takesIn K (.builtin "object.__class__") = some true
  obj : PySem.W.mroIn K C (.type "object") = some true
  lst : PySem.W.mroIn K C (.type "list") = some false
  ne : PySem.W.findIn K (.ref C) "__ne__" = some (some (.builtin "object.__ne__"))
  self : PySem.W.kitOne K (.ref C) (.ref C) = some true
  other : ∀ n ∈ ["NoneType", "bool", "int", "str", "tuple", "list", "dict"], PySem.W.kitOne K (.type n) (.ref C) = some false
end EW
set_option maxRecDepth 100000
set_option maxHeartbeats 2000000
namespace EW
open PySem L2
/-- an exception as data -/
def ExcR (I : Ci) (K : PySem.W.Frag) (G : Hp) (H : Hp) (z : Exc) (cls : Value) (d : Option Addr) : Prop :=
  cls = .ref (I.ca z.c) ∧ ((z.ds = [] ∧ d = none) ∨ ∃ a fs, d = some a ∧ H a = some (.xd fs) ∧ fs.map (·.1) = I.ns z.c z.ds.length ∧ Reps I K G z.ds (fs.map (·.2)))
/-- what follows an outcome -/
def Po {α : Type} (I : Ci) (K : PySem.W.Frag) (W : WX) (σ : St) (G : Hp) (ρ : List Addr) (H : Hp) (o : Out α) (S : α → Mu → Hp → List Addr → Hp → Prop) : Prop := match o with
  | .ok a μ' => ∀ G' ρ' H', Aft G ρ H G' ρ' H' → Wd I K G' ρ' μ' H' → S a μ' G' ρ' H'
  | .ex z μ' => ∀ cls d G' ρ' H', Aft G ρ H G' ρ' H' → Wd I K G' ρ' μ' H' → ExcR I K G' H' z cls d → W cls d σ H'
  | .no => False
def QE (I : Ci) (K : PySem.W.Frag) (H : Hp) (Q : VK) : Res → Mu → Hp → List Addr → Hp → Prop := fun r _ G' ρ' H' => ∀ v, ResR I K G' ρ' H' r v → New H r v → Q v H'
def QB (Q : Bool → Hp → Prop) : Bool → Mu → Hp → List Addr → Hp → Prop := fun b _ _ _ H' => Q b H'
def QV (I : Ci) (K : PySem.W.Frag) (Q : VK) : Val → Mu → Hp → List Addr → Hp → Prop := fun w _ G' ρ' H' => ∀ v, ValR I K G' ρ' w v → Q v H'
def QA (I : Ci) (K : PySem.W.Frag) (Q : List V → Hp → Prop) : List Val → Mu → Hp → List Addr → Hp → Prop := fun ws _ G' ρ' H' => ∀ vs, ValsR I K G' ρ' ws vs → Q vs H'
section
variable {I : Ci} {K : PySem.W.Frag} {W : WX} {σ : St} {G G1 : Hp} {ρ ρ1 : List Addr} {H H1 : Hp} {μ : Mu}
theorem Po.step {α : Type} {o : Out α} {S : α → Mu → Hp → List Addr → Hp → Prop} (a : Aft G ρ H G1 ρ1 H1) (p : Po I K W σ G ρ H o S) : Po I K W σ G1 ρ1 H1 o S := by
  cases o with
  | ok x μ => exact fun G' ρ' H' a' w => p G' ρ' H' (a.trans a') w
  | ex z μ => exact fun cls d G' ρ' H' a' w => p cls d G' ρ' H' (a.trans a') w
  | no => exact p
theorem Po.bind {α β : Type} {o : Out α} {f : α → Mu → Out β} {S : β → Mu → Hp → List Addr → Hp → Prop} (p : Po I K W σ G ρ H (o.bind f) S) : Po I K W σ G ρ H o fun a μ1 G1 ρ1 H1 => Po I K W σ G1 ρ1 H1 (f a μ1) S := by
  cases o with
  | ok x μ => exact fun G' ρ' H' a' w => Po.step (o := f x μ) a' p
  | ex z μ => exact p
  | no => exact p
theorem Po.imp {α : Type} {o : Out α} {S S' : α → Mu → Hp → List Addr → Hp → Prop} (p : Po I K W σ G ρ H o S) (h : ∀ a μ' G' ρ' H', Aft G ρ H G' ρ' H' → Wd I K G' ρ' μ' H' → S a μ' G' ρ' H' → S' a μ' G' ρ' H') : Po I K W σ G ρ H o S' := by
  cases o with
  | ok x μ => exact fun G' ρ' H' a' w => h _ _ _ _ _ a' w (p G' ρ' H' a' w)
  | ex z μ => exact p
  | no => exact p
theorem Po.ok {α : Type} {x : α} {S : α → Mu → Hp → List Addr → Hp → Prop} (p : Po I K W σ G ρ H (.ok x μ) S) (w : Wd I K G ρ μ H) : S x μ G ρ H := p G ρ H Aft.refl w
theorem Po.outO {α : Type} {o : Option α} {S : α → Mu → Hp → List Addr → Hp → Prop} (p : Po I K W σ G ρ H (outO o μ) S) : ∃ a, o = some a ∧ Po I K W σ G ρ H (.ok a μ) S := by
  cases o with
  | none => exact p.elim
  | some a => exact ⟨a, rfl, p⟩
theorem Po.fz {d : D} {H0 : Hp} {Q : VK} {v : V} (p : Po I K W σ G ρ H (.ok (.fz d) μ) (QE I K H0 Q)) (w : Wd I K G ρ μ H) (r : Rep I K G d v) : Q v H := p.ok w v r (fun _ _ z => nomatch z)
theorem Po.val {u : Val} {H0 : Hp} {Q : VK} {v : V} (p : Po I K W σ G ρ H (.ok u.res μ) (QE I K H0 Q)) (w : Wd I K G ρ μ H) (r : ValR I K G ρ u v) : Q v H := p.ok w v r.res (fun _ _ z => by cases u <;> cases z)
theorem Po.nw {o : O} {h : HO} {G0 : Hp} {ρ0 : List Addr} {H0 : Hp} {Q : VK} {x : Addr} (p : Po I K W σ G ρ H (.ok (.nw o) μ) (QE I K H0 Q)) (A : Aft G0 ρ0 H0 G ρ H) (w : Wd I K G ρ μ H) (r : RepO I K G ρ o h) (n : ∀ d, o ≠ .ice d) (hx : H x = none) : Q (.ref x) (upd H x h) := by
  refine p G ρ (upd H x h) (Aft.lay hx h) (w.lay hx h) (.ref x) ⟨x, h, rfl, w.fresh hx, w.gfree hx, upd_same, r, n⟩ fun o' a _ e => ?_
  cases e
  exact A.fresh hx (A.sup (w.fresh hx))
/-- a new tuple of data -/
theorem Po.tup {ds : List D} {vs : List V} {H0 : Hp} {Q : VK} {x : Addr} (p : Po I K W σ G ρ H (.ok (.fz (.tup ds)) μ) (QE I K H0 Q)) (w : Wd I K G ρ μ H) (r : Reps I K G ds vs) (hx : H x = none) : Q (.ref x) (upd H x (.tup vs)) :=
  p (upd G x (.tup vs)) ρ _ (Aft.frz' w hx) (w.add hx _) (.ref x) ⟨x, vs, rfl, upd_same, Reps.mono (Ex.new (w.gfree hx)) _ _ r⟩ (fun _ _ z => nomatch z)
theorem Po.bl {b : Bool} {Q : Bool → Hp → Prop} (p : Po I K W σ G ρ H (.ok b μ) (QB Q)) (w : Wd I K G ρ μ H) : Q b H := p.ok w
end
def rAny (X : Cx) (f : Value → Value → Sem Value) : R2 := fun x y H Q => ∀ (pins : List (Addr × Obj)) (s : Shared) (σ : St) (v u : Value), Inv X pins σ H s → RelV x v → RelV y u → wpAny (model X.prog X.w) X.A (f v u) (EP X pins σ Q) X.xe s
theorem opAny {X : Cx} {f : Value → Value → Sem Value} : OpR X f (rAny X f) := fun pins s σ H x y v u Q I rx ry h => h pins s σ v u I rx ry
theorem OpR.any {X : Cx} {f : Value → Value → Sem Value} {r : R2} {x y : V} {H : Hp} {Q : VK} (ho : OpR X f r) (h : r x y H Q) : rAny X f x y H Q := fun pins s σ v u I hx hy => ho pins s σ H x y v u Q I hx hy h
theorem bigLine : big ≤ sizeLine := by decide
section
variable {I : Ci} {X : Cx} {W : WX} {σ : St} {G G0 : Hp} {ρ ρ0 : List Addr} {H H0 : Hp} {μ : Mu} {Q : VK} {x y : Res} {vx vy : V}
theorem int_ok {op : Operator} {i j n : Int} (h : intOp op i j = some n) (q : Q (.int n) H) : rAny X (binaryOp op) (.int i) (.int j) H Q := by
  cases op <;> simp only [intOp] at h
  case Add => cases h; exact OpR.any op_add ⟨i, j, rfl, rfl, q⟩
  case Sub => cases h; exact OpR.any op_sub ⟨i, j, rfl, rfl, q⟩
  case Mult =>
    by_cases hm : mulB i j = true
    · rw [if_pos hm] at h; cases h
      refine OpR.any op_mul ⟨i, j, rfl, rfl, ?_, q⟩
      unfold mulB at hm
      rw [Bool.or_eq_true, Bool.and_eq_true, Bool.and_eq_true] at hm
      rcases hm with ⟨a, b⟩ | ⟨a, b⟩
      · exact .inl ⟨of_decide_eq_true a, of_decide_eq_true b⟩
      · exact .inr ⟨of_decide_eq_true a, of_decide_eq_true b⟩
    · rw [if_neg hm] at h; cases h
  case Mod =>
    split at h
    · rename_i hj; cases h; exact OpR.any op_mod ⟨i, j, rfl, rfl, hj, q⟩
    · cases h
  case FloorDiv =>
    split at h
    · rename_i hj; cases h; exact OpR.any op_fdiv ⟨i, j, rfl, rfl, hj, q⟩
    · cases h
  case Pow =>
    split at h
    · rename_i hj; cases h; exact OpR.any op_pow ⟨i, j, rfl, rfl, hj, q⟩
    · cases h
  all_goals cases h
theorem bin_ok {op : Operator} (p : Po I X.K W σ G ρ H (outO (binR op x y μ) μ) (QE I X.K H0 Q)) (A : Aft G0 ρ0 H0 G ρ H) (w : Wd I X.K G ρ μ H) (rx : ResR I X.K G ρ H x vx) (ry : ResR I X.K G ρ H y vy) : rAny X (binaryOp op) vx vy H Q := by
  obtain ⟨r, hr, p'⟩ := p.outO
  clear p
  unfold binR at hr
  split at hr
  · rename_i i j
    cases hi : intOp op i j with
    | none => rw [hi] at hr; cases hr
    | some n =>
      rw [hi] at hr; cases hr
      rw [show vx = _ from rx, show vy = _ from ry]
      exact int_ok hi (p'.fz w rfl)
  · rename_i a b
    split at hr
    · split at hr
      · rename_i hl
        cases hr
        rw [show vx = _ from rx, show vy = _ from ry]
        exact OpR.any op_add_str ⟨a, b, rfl, rfl, Nat.le_trans hl bigLine, p'.fz w rfl⟩
      · cases hr
    · cases hr
  · rename_i ds es
    split at hr
    · split at hr
      · rename_i hl
        cases hr
        obtain ⟨a, vs, e1, h1, r1⟩ := rx
        obtain ⟨b, us, e2, h2, r2⟩ := ry
        refine OpR.any op_catT ⟨a, b, vs, us, e1, e2, .inl (.inl (w.sub.tup h1)), .inl (.inl (w.sub.tup h2)), fun z => hl.1 ?_, by rw [r1.length, r2.length]; exact Nat.le_trans hl.2 bigLine, fun z => ?_, fun _ q hq => p'.tup w (Reps.append r1 r2) hq⟩
        · have := r1.length
          rw [z] at this
          exact List.length_eq_zero_iff.mp this.symm
        · have e3 : es = [] := List.length_eq_zero_iff.mp (by rw [← r2.length, z]; rfl)
          subst e3
          rw [List.append_nil] at p'
          exact p'.fz w ⟨a, vs, rfl, h1, r1⟩
      · cases hr
    · cases hr
  · rename_i n _
    split at hr
    · rename_i ds hx
      split at hr
      · rename_i hl
        cases hr
        obtain ⟨a, vs, e1, h1, r1⟩ := rx.lst w hx
        refine OpR.any op_rep ⟨a, n, vs, e1, ry, h1, by omega, by omega, by rw [r1.length]; exact Nat.le_trans hl.2.2 bigLine, fun q hq => ?_⟩
        exact p'.nw A w ⟨_, rfl, r1.reps _⟩ (fun _ z => nomatch z) hq
      · cases hr
    · cases hr
  · skip
    split at hr
    · rename_i ds es h1 h2
      split at hr
      · rename_i hl
        cases hr
        obtain ⟨a, vs, e1, g1, r1⟩ := rx.lst w h1
        obtain ⟨b, us, e2, g2, r2⟩ := ry.lst w h2
        refine OpR.any op_cat ⟨a, b, vs, us, e1, e2, g1, g2, by rw [r1.length, r2.length]; exact Nat.le_trans hl bigLine, fun q hq => ?_⟩
        exact p'.nw A w ⟨_, rfl, r1.append r2⟩ (fun _ z => nomatch z) hq
      · cases hr
    · cases hr
end
end EW
set_option maxRecDepth 100000
set_option maxHeartbeats 2000000
namespace EW
open PySem L2 PySem.Spec PyProof.Rows
section
variable {prog : Program} {w : World} {A : Around} {E : Value → Shared → Prop} {s : Shared} {K : PySem.W.Frag} {x l C : Addr} {ox : Obj} {od : Option Obj} {Q : Option Value → Shared → Prop}
theorem dec_tupE (hT : s.TypeIs (.ref l) "tuple") (X : K.In s.heap) (I : PySem.W.InstAt s.heap x ox C od) (hm : PySem.W.mroIn K C (.type "tuple") = some false) (h : Q none s) :
    wpAny (model prog w) A (tryCompare (.ref l) "__eq__" (.ref x)) Q E s := by
  refine wpAny_tryCompare_declines hT F.slot_tuple_eq_refl (GQ.call_here F.slot_tuple_eq_refl hT F.entry_tuple_eq (F.args_tuple_eq_2 _ _) ?_)
  have L : PySem.W.Looks (model prog w) s.heap (isInstance (.ref x) (.type "tuple")) false := I.type.andThen (PySem.W.looks_mroIn X hm)
  have hi : ∀ {A : Around} {E : Value → Shared → Prop} {R : Bool → Shared → Prop}, R false s → wpAny (model prog w) A (isInstance (.ref x) (.type "tuple")) R E s := fun {A E R} h => L.here h
  obtain ⟨hp, g, d, tk, os⟩ := s
  unfold Builtin.«tuple.__eq__»
  wp_walk using hi
  exact ⟨rfl, h⟩
theorem dec_tupN (hT : s.TypeIs (.ref l) "tuple") (X : K.In s.heap) (I : PySem.W.InstAt s.heap x ox C od) (hm : PySem.W.mroIn K C (.type "tuple") = some false) (h : Q none s) :
    wpAny (model prog w) A (tryCompare (.ref l) "__ne__" (.ref x)) Q E s := by
  refine wpAny_tryCompare_declines hT F.slot_tuple_ne_refl (GQ.call_here F.slot_tuple_ne_refl hT F.entry_tuple_ne (F.args_tuple_ne_2 _ _) ?_)
  have L : PySem.W.Looks (model prog w) s.heap (isInstance (.ref x) (.type "tuple")) false := I.type.andThen (PySem.W.looks_mroIn X hm)
  have hi : ∀ {A : Around} {E : Value → Shared → Prop} {R : Bool → Shared → Prop}, R false s → wpAny (model prog w) A (isInstance (.ref x) (.type "tuple")) R E s := fun {A E R} h => L.here h
  obtain ⟨hp, g, d, tk, os⟩ := s
  unfold Builtin.«tuple.__ne__»
  wp_walk using hi
  exact ⟨rfl, h⟩
theorem dec_dctE (hT : s.TypeIs (.ref l) "dict") (X : K.In s.heap) (I : PySem.W.InstAt s.heap x ox C od) (hm : PySem.W.mroIn K C (.type "dict") = some false) (h : Q none s) :
    wpAny (model prog w) A (tryCompare (.ref l) "__eq__" (.ref x)) Q E s := by
  refine wpAny_tryCompare_declines hT F.slot_dict_eq_refl (GQ.call_here F.slot_dict_eq_refl hT F.entry_dict_eq (F.args_dict_eq_2 _ _) ?_)
  have L : PySem.W.Looks (model prog w) s.heap (isInstance (.ref x) (.type "dict")) false := I.type.andThen (PySem.W.looks_mroIn X hm)
  have hi : ∀ {A : Around} {E : Value → Shared → Prop} {R : Bool → Shared → Prop}, R false s → wpAny (model prog w) A (isInstance (.ref x) (.type "dict")) R E s := fun {A E R} h => L.here h
  obtain ⟨hp, g, d, tk, os⟩ := s
  unfold Builtin.«dict.__eq__»
  wp_walk using hi
  exact ⟨rfl, h⟩
theorem dec_dctN (hT : s.TypeIs (.ref l) "dict") (X : K.In s.heap) (I : PySem.W.InstAt s.heap x ox C od) (hm : PySem.W.mroIn K C (.type "dict") = some false) (h : Q none s) :
    wpAny (model prog w) A (tryCompare (.ref l) "__ne__" (.ref x)) Q E s := by
  refine wpAny_tryCompare_declines hT F.slot_dict_ne_refl (GQ.call_here F.slot_dict_ne_refl hT F.entry_dict_ne (F.args_dict_ne_2 _ _) ?_)
  have L : PySem.W.Looks (model prog w) s.heap (isInstance (.ref x) (.type "dict")) false := I.type.andThen (PySem.W.looks_mroIn X hm)
  have hi : ∀ {A : Around} {E : Value → Shared → Prop} {R : Bool → Shared → Prop}, R false s → wpAny (model prog w) A (isInstance (.ref x) (.type "dict")) R E s := fun {A E R} h => L.here h
  obtain ⟨hp, g, d, tk, os⟩ := s
  unfold Builtin.«dict.__ne__»
  wp_walk using hi
  exact ⟨rfl, h⟩
theorem dec_nonN (h : Q none s) : wpAny (model prog w) A (tryCompare .none "__ne__" (.ref x)) Q E s := by
  have hT : s.TypeIs .none "NoneType" := rfl
  refine wpAny_tryCompare_declines hT F.slot_NoneType_ne_refl (GQ.call_here F.slot_NoneType_ne_refl hT F.entry_NoneType_ne (F.args_NoneType_ne_2 _ _) ?_)
  obtain ⟨hp, g, d, tk, os⟩ := s
  unfold Builtin.«NoneType.__ne__»
  wp_walk
  exact ⟨rfl, h⟩
end
section
variable {prog : Program} {w : World} {A : Around} {E : Value → Shared → Prop} {s : Shared} {K : PySem.W.Frag} {x C f : Addr} {ox : Obj} {od : Option Obj} {b t : Value}
/-- an own == that declines -/
theorem one_eqNI {R : Shared → Prop} (X : K.In s.heap) (I : PySem.W.InstAt s.heap x ox C od) (hs : PySem.W.findIn K (.ref C) "__eq__" = some (some (.ref f))) (hf : PySem.W.isFn K (.ref f) = true)
    (h : wpAny (model prog w) A (call (.ref f) [.ref x, b]) (fun v s' => v = .notImplemented ∧ R s') E s) : wpAny (model prog w) A (tryCompare (.ref x) "__eq__" b) (fun r s' => r = none ∧ R s') E s := by
  unfold tryCompare
  refine wpAny_bind (PySem.W.ifBound_K X I hs hf (wpAny_mono h (fun v s' hv => ?_) fun _ _ e => e))
  obtain ⟨e, hv⟩ := hv
  subst e
  exact wpAny_pure ⟨rfl, hv⟩
theorem objNeNI {Q : Fin → Shared → Prop} (hu : A.units < cLine) (X : K.In s.heap) (I : PySem.W.InstAt s.heap x ox C od) (hs : PySem.W.findIn K (.ref C) "__eq__" = some (some (.ref f))) (hf : PySem.W.isFn K (.ref f) = true)
    (h : wpAny (model prog w) A (call (.ref f) [.ref x, b]) (fun v s' => v = .notImplemented ∧ Q (.done (.ret .notImplemented)) s') E s) : wpAny (model prog w) A (Builtin.«object.__ne__» ⟨[.ref x, b], []⟩) Q E s := by
  obtain ⟨hp, g, d, tk, os⟩ := s
  unfold Builtin.«object.__ne__»
  repeat (first
    | with_reducible refine wpAny_cRoomFor hu ?_
    | (refine wpAny_bind (m := callSpecialIfBound? (.ref x) (Str.ofString "__eq__") [b])
        (PySem.W.ifBound_K X I hs hf (wpAny_mono h (fun r s' hr => by
          obtain ⟨rfl, hq⟩ := hr
          repeat (first | exact hq | exact wpAny_pure hq | wp_step)) fun _ _ e => e)))
    | wp_step)
theorem one_neNI {R : Shared → Prop} (hu : A.units + 1 < cLine) (X : K.In s.heap) (I : PySem.W.InstAt s.heap x ox C od) (hs : PySem.W.findIn K (.ref C) "__eq__" = some (some (.ref f))) (hf : PySem.W.isFn K (.ref f) = true)
    (hn : PySem.W.findIn K (.ref C) "__ne__" = some (some (.builtin "object.__ne__"))) (hm : PySem.W.mroIn K C (.type "object") = some true)
    (h : wpAny (model prog w) A.in1 (call (.ref f) [.ref x, b]) (fun v s' => v = .notImplemented ∧ R s') E s) : wpAny (model prog w) A (tryCompare (.ref x) "__ne__" b) (fun r s' => r = none ∧ R s') E s := by
  unfold tryCompare
  refine wpAny_bind (ifBound_objNe X I hn (wpAny_call (codeAny_call_builtin F.cmp_object.ne.plain F.cmpEntry_ne (PySem.W.check_slot F.cmpKind_ne F.cmpSplit_ne (I.type.andThen (PySem.W.looks_mroIn X hm)) (F.cmpArgs_ne _ _) (objNeNI (A := A.in1) hu X I hs hf (wpAny_mono h (fun v s' hv => ?_) fun _ _ e => e))))))
  obtain ⟨e, hq⟩ := hv
  exact ⟨e, wpAny_pure ⟨rfl, hq⟩⟩
/-- both sides decline: by what they are -/
theorem rc_eqNI {Q : Value → Shared → Prop} (hu : A.units < cLine) (I : PySem.W.InstAt s.heap x ox C od) (hty : ∀ {R : Value → Shared → Prop}, R t s → wpAny (model prog w) A (typeOf b) R E s) (hne : (Value.ref C != t) = true) (hsub : ∀ {R : Bool → Shared → Prop}, R false s → wpAny (model prog w) A (isSubtype t (.ref C)) R E s)
    (one : wpAny (model prog w) A (tryCompare (.ref x) "__eq__" b) (fun r s' => r = none ∧ wpAny (model prog w) A (tryCompare b "__eq__" (.ref x)) (fun r s2 => r = none ∧ wpAny (model prog w) A (isSame (.ref x) b) (fun z s3 => Q (.bool z) s3) E s2) E s') E s) :
    wpAny (model prog w) A (richCompare .Eq (.ref x) b) Q E s := by
  unfold richCompare
  simp only [cmpInfo_Eq, oneThing_ref]
  refine wpAny_holding (wpAny_bind (wpAny_cRoomFor hu ?_))
  refine wpAny_bind (I.type.here ?_)
  refine wpAny_bind (hty ?_)
  rw [hne]
  simp only [if_true]
  refine wpAny_bind (hsub ?_)
  simp only [Bool.false_eq_true, if_false, Bool.not_false, if_true]
  refine wpAny_bind (m := tryCompare (.ref x) _ b) (wpAny_mono one (fun r s1 z => ?_) fun _ _ e => e)
  obtain ⟨z1, z2⟩ := z
  subst z1
  refine wpAny_bind (m := tryCompare b _ (.ref x)) (wpAny_mono z2 (fun r s2 z => ?_) fun _ _ e => e)
  obtain ⟨z1, z2⟩ := z
  subst z1
  exact wpAny_bind (wpAny_rule (wpAny_bind (wpAny_mono z2 (fun z s3 h => wpAny_pure h) fun _ _ e => e)))
theorem rc_neNI {Q : Value → Shared → Prop} (hu : A.units < cLine) (I : PySem.W.InstAt s.heap x ox C od) (hty : ∀ {R : Value → Shared → Prop}, R t s → wpAny (model prog w) A (typeOf b) R E s) (hne : (Value.ref C != t) = true) (hsub : ∀ {R : Bool → Shared → Prop}, R false s → wpAny (model prog w) A (isSubtype t (.ref C)) R E s)
    (one : wpAny (model prog w) A (tryCompare (.ref x) "__ne__" b) (fun r s' => r = none ∧ wpAny (model prog w) A (tryCompare b "__ne__" (.ref x)) (fun r s2 => r = none ∧ wpAny (model prog w) A (isSame (.ref x) b) (fun z s3 => Q (.bool (!z)) s3) E s2) E s') E s) :
    wpAny (model prog w) A (richCompare .NotEq (.ref x) b) Q E s := by
  unfold richCompare
  simp only [cmpInfo_NotEq, oneThing_ref]
  refine wpAny_holding (wpAny_bind (wpAny_cRoomFor hu ?_))
  refine wpAny_bind (I.type.here ?_)
  refine wpAny_bind (hty ?_)
  rw [hne]
  simp only [if_true]
  refine wpAny_bind (hsub ?_)
  simp only [Bool.false_eq_true, if_false, Bool.not_false, if_true]
  refine wpAny_bind (m := tryCompare (.ref x) _ b) (wpAny_mono one (fun r s1 z => ?_) fun _ _ e => e)
  obtain ⟨z1, z2⟩ := z
  subst z1
  refine wpAny_bind (m := tryCompare b _ (.ref x)) (wpAny_mono z2 (fun r s2 z => ?_) fun _ _ e => e)
  obtain ⟨z1, z2⟩ := z
  subst z1
  exact wpAny_bind (wpAny_rule (wpAny_bind (wpAny_mono z2 (fun z s3 h => wpAny_pure h) fun _ _ e => e)))
end
/-- what an own == declines besides other own things: with !=, None, a tuple, a dict -/
inductive OddW (H : Hp) : Bool → V → Prop
  | non {n : Bool} : OddW H n .non
  | str (z : Str) : OddW H false (.str z)
  | lst {l : Addr} {vs : List V} (e : H l = some (.lst vs)) : OddW H false (.ref l)
  | tup {n : Bool} {l : Addr} {vs : List V} (e : H l = some (.tup vs)) : OddW H n (.ref l)
  | dct {n : Bool} {l : Addr} {kvs : List (Key × V)} (e : Rd H l (.dK kvs)) : OddW H n (.ref l)
/-- the looks at a class for that -/
structure Dcl (K : PySem.W.Frag) (C : Addr) : Prop where
  lst : PySem.W.mroIn K C (.type "list") = some false
  tup : PySem.W.mroIn K C (.type "tuple") = some false
  dct : PySem.W.mroIn K C (.type "dict") = some false
  ne : PySem.W.findIn K (.ref C) "__ne__" = some (some (.builtin "object.__ne__"))
  obj : PySem.W.mroIn K C (.type "object") = some true
def rNI (K : PySem.W.Frag) (C : Addr) (sp : Sp) (E : XK) (neg : Bool) : R2 := fun x y H Q => ∃ a dx fs, x = .ref a ∧ H a = some (.ins C dx fs) ∧ OddW H neg y ∧ sp [.ref a, y] H (fun _ H' => H' a = some (.ins C dx fs) ∧ OddW H' neg y ∧ Q (.bl neg) H') E
def rOO (K : PySem.W.Frag) (C C' : Addr) (sp sp' : Sp) (E : XK) (neg : Bool) : R2 := fun x y H Q => ∃ a b dx fs dy gs, x = .ref a ∧ y = .ref b ∧ H a = some (.ins C dx fs) ∧ H b = some (.ins C' dy gs) ∧
  sp [.ref a, .ref b] H (fun _ H' => H' a = some (.ins C dx fs) ∧ H' b = some (.ins C' dy gs) ∧ sp' [.ref b, .ref a] H' (fun _ H2 => H2 a = some (.ins C dx fs) ∧ H2 b = some (.ins C' dy gs) ∧ Q (.bl neg) H2) E) E
section
variable {X : Cx} {k : Nat} {f f' C C' : Addr} {fd fd' : FuncData} {ps ps' : List Str} {sp sp' : Sp} {E : XK}
/-- the same inside a builtin -/
theorem run_NI1 {pins : List (Addr × Obj)} {σ : L2.St} {H : Hp} {s : Shared} {Q : VK} {us : List Value} {vs : List V} (F : FnNI X.prog X.w X.K X.mg X.base k f fd ps sp) (hr : Room (k + 1) X.A) (hb : Binds X.K fd ps [])
    (I : Inv X pins σ H s) (r : Vals vs us) (h : sp vs H Q E) : wpAny (model X.prog X.w) X.A.in1 (call (.ref f) us) (fun u s' => u = .notImplemented ∧ EP X pins σ Q .none s') X.xe s := by
  have hl : us.length = ps.length := by rw [← r.length]; exact F.len _ _ _ _ h
  have hb' := hb s us I.kIn (by simpa using hl)
  rw [List.append_nil] at hb'
  refine wpAny_call (codeAny_mono (F.run X.A.in1 X.stack s H ⟨us, []⟩ us vs Q E ⟨hr.hd, by have := hr.dp; show X.A.depth + 3 * k + 5 < _; omega, by have := hr.un; show X.A.units + 1 + 16 * k + 200 < _; omega⟩ I.env0.in1 hb' r h) fun r s' hq => ?_)
  obtain ⟨e, hq⟩ := hq
  subst e
  exact ⟨rfl, I.after hq⟩
theorem tup_is {P : Program} {w : World} {H : Hp} {s : Shared} {l : Addr} {vs : List V} (ok : HOk P w H s.heap) (e : H l = some (.tup vs)) : s.TypeIs (.ref l) "tuple" ∧ ∃ o, s.heap.get? l = some o := by
  obtain ⟨_, its, r, o, h1, h2, n, h3⟩ := (show ObjOk P w H s.heap l (.tup vs) from ok l _ e)
  exact ⟨⟨_, h1, h2⟩, _, h1⟩
theorem dct_is {P : Program} {w : World} {H : Hp} {s : Shared} {l : Addr} {kvs : List (Key × V)} (ok : HOk P w H s.heap) (e : Rd H l (.dK kvs)) : s.TypeIs (.ref l) "dict" ∧ ∃ o, s.heap.get? l = some o := by
  obtain ⟨_, _, vs, r, o, es, ep, h1, h2, _⟩ := dk_rd ok e
  exact ⟨⟨_, h1, h2.1⟩, _, h1⟩
theorem ty_here {P : Program} {w : World} {A : Around} {E : Value → Shared → Prop} {s : Shared} {b : Value} {T : String} (hT : s.TypeIs b T) : ∀ {R : Value → Shared → Prop}, R (.type T) s → wpAny (model P w) A (typeOf b) R E s := fun h => wpAny_typeOf hT h
theorem sub_here {P : Program} {w : World} {A : Around} {E : Value → Shared → Prop} {s : Shared} {K : PySem.W.Frag} {T : String} {C : Addr} {l : List Value} (X : K.In s.heap) (e : fastBuiltinMro T = some l) (h : l.contains (.ref C) = false) : ∀ {R : Bool → Shared → Prop}, R false s → wpAny (model P w) A (isSubtype (.type T) (.ref C)) R E s := fun q => (PySem.W.looks_subIn X (sub_own e h)).here q
theorem odd_ty {P : Program} {w : World} {H : Hp} {s : Shared} {n : Bool} {y : V} {u : Value} {C : Addr} (ok : HOk P w H s.heap) (o : OddW H n y) (r : RelV y u) : ∃ T l, s.TypeIs u T ∧ fastBuiltinMro T = some l ∧ l.contains (.ref C) = false := by
  cases o with
  | non =>
    cases (show u = Value.none from r)
    exact ⟨"NoneType", [.type "NoneType", .type "object"], rfl, by decide +kernel, by simp⟩
  | str z =>
    obtain ⟨t, q⟩ := (show ∃ t, u = Value.str z t from r)
    subst q
    exact ⟨"str", [.type "str", .type "object"], rfl, by decide +kernel, by simp⟩
  | @lst l vs el =>
    cases (show u = Value.ref l from r)
    obtain ⟨_, its, n, _, h1⟩ := (show ObjOk P w H s.heap l (.lst vs) from ok l _ el)
    exact ⟨"list", [.type "list", .type "object"], ⟨_, h1, rfl⟩, by decide +kernel, by simp⟩
  | @tup _ l vs el =>
    cases (show u = Value.ref l from r)
    exact ⟨"tuple", [.type "tuple", .type "object"], (tup_is ok el).1, by decide +kernel, by simp⟩
  | @dct _ l kvs el =>
    cases (show u = Value.ref l from r)
    exact ⟨"dict", [.type "dict", .type "object"], (dct_is ok el).1, by decide +kernel, by simp⟩
theorem odd_same {P : Program} {w : World} {A : Around} {E : Value → Shared → Prop} {Q : Bool → Shared → Prop} {H : Hp} {s : Shared} {n : Bool} {y : V} {u : Value} {C a dx : Addr} {fs : List (Str × V)} (ok : HOk P w H s.heap) (ha : H a = some (.ins C dx fs)) (o : OddW H n y) (r : RelV y u) (h : Q false s) : wpAny (model P w) A (isSame (.ref a) u) Q E s := by
  obtain ⟨mB, J2, _⟩ := ins_get ok ha
  obtain ⟨od2, J2, _⟩ := J2.look
  cases o with
  | non =>
    cases (show u = Value.none from r)
    exact wpAny_of_eq (rfl : isSame (.ref a) .none = pure false) h
  | str z =>
    obtain ⟨t, q⟩ := (show ∃ t, u = Value.str z t from r)
    subst q
    exact wpAny_of_eq (rfl : isSame (.ref a) (.str z t) = pure false) h
  | @lst l vs el =>
    cases (show u = Value.ref l from r)
    obtain ⟨_, its, n, _, h1⟩ := (show ObjOk P w H s.heap l (.lst vs) from ok l _ el)
    exact wpAny_isSame_ref_other (fun z => by subst z; rw [ha] at el; cases el) J2.at_ h1 (fun z => nomatch z) h
  | @tup _ l vs el =>
    cases (show u = Value.ref l from r)
    obtain ⟨o1, h1⟩ := (tup_is ok el).2
    exact wpAny_isSame_ref_other (fun z => by subst z; rw [ha] at el; cases el) J2.at_ h1 (fun z => nomatch z) h
  | @dct _ l kvs el =>
    cases (show u = Value.ref l from r)
    obtain ⟨o1, h1⟩ := (dct_is ok el).2
    exact wpAny_isSame_ref_other (fun z => by subst z; rcases el with el | ⟨_, el⟩ <;> (rw [ha] at el; cases el)) J2.at_ h1 (fun z => nomatch z) h
theorem odd_decE {P : Program} {w : World} {A : Around} {E : Value → Shared → Prop} {Q : Option Value → Shared → Prop} {K : PySem.W.Frag} {H : Hp} {s : Shared} {n : Bool} {y : V} {u : Value} {C a dx : Addr} {fs : List (Str × V)} (hd : Dcl K C) (Xk : K.In s.heap) (ok : HOk P w H s.heap) (ha : H a = some (.ins C dx fs)) (o : OddW H n y) (r : RelV y u) (h : Q none s) : wpAny (model P w) A (tryCompare u "__eq__" (.ref a)) Q E s := by
  obtain ⟨mB, J0, _⟩ := ins_get ok ha
  obtain ⟨od2, J2, _⟩ := J0.look
  cases o with
  | non =>
    cases (show u = Value.none from r)
    exact dec_none h
  | str z =>
    obtain ⟨t, q⟩ := (show ∃ t, u = Value.str z t from r)
    subst q
    exact dec_str J0.obj h
  | @lst l vs el =>
    cases (show u = Value.ref l from r)
    obtain ⟨_, its, n, _, h1⟩ := (show ObjOk P w H s.heap l (.lst vs) from ok l _ el)
    exact dec_list h1 Xk J2 hd.lst h
  | @tup _ l vs el =>
    cases (show u = Value.ref l from r)
    exact dec_tupE (tup_is ok el).1 Xk J2 hd.tup h
  | @dct _ l kvs el =>
    cases (show u = Value.ref l from r)
    exact dec_dctE (dct_is ok el).1 Xk J2 hd.dct h
theorem odd_decN {P : Program} {w : World} {A : Around} {E : Value → Shared → Prop} {Q : Option Value → Shared → Prop} {K : PySem.W.Frag} {H : Hp} {s : Shared} {y : V} {u : Value} {C a dx : Addr} {fs : List (Str × V)} (hd : Dcl K C) (Xk : K.In s.heap) (ok : HOk P w H s.heap) (ha : H a = some (.ins C dx fs)) (o : OddW H true y) (r : RelV y u) (h : Q none s) : wpAny (model P w) A (tryCompare u "__ne__" (.ref a)) Q E s := by
  obtain ⟨mB, J0, _⟩ := ins_get ok ha
  obtain ⟨od2, J2, _⟩ := J0.look
  cases o with
  | non =>
    cases (show u = Value.none from r)
    exact dec_nonN h
  | @tup _ l vs el =>
    cases (show u = Value.ref l from r)
    exact dec_tupN (tup_is ok el).1 Xk J2 hd.tup h
  | @dct _ l kvs el =>
    cases (show u = Value.ref l from r)
    exact dec_dctN (dct_is ok el).1 Xk J2 hd.dct h
theorem op_eqNIw (F : FnNI X.prog X.w X.K X.mg X.base k f fd ps sp) (hr : Room k X.A) (hm : Meth X.K C "__eq__" f) (hd : Dcl X.K C) (hb : Binds X.K fd ps []) : OpR X (compareOp .Eq) (rNI X.K C sp E false) := by
  intro pins s σ H x y v u Q I rx ry h
  obtain ⟨a, dx, fs, rfl, ha, oy, h⟩ := h
  cases rx
  obtain ⟨mA, J0, _⟩ := ins_get I.hok ha
  obtain ⟨od, J, _⟩ := J0.look
  have hu : X.A.units < cLine := by have := hr.un; omega
  have hc := run_NI (us := [.ref a, u]) (vs := [.ref a, y]) F hr hb I (.cons rfl (.cons ry .nil)) h
  obtain ⟨T, l, hT, hl, hl2⟩ := odd_ty (C := C) I.hok oy ry
  show wpAny _ _ (richCompare .Eq (.ref a) u) _ _ _
  exact rc_eqNI hu J (ty_here hT) (by simp) (sub_here I.kIn hl hl2) (one_eqNI I.kIn J hm.at_ hm.fn (thn hc fun v s' ⟨e, z, H', I', rz, ha', oy', q⟩ => ⟨e,
    odd_decE hd I'.kIn I'.hok ha' oy' ry ⟨rfl, odd_same I'.hok ha' oy' ry ⟨.bl false, H', I', rfl, q⟩⟩⟩))
theorem op_neNIw (F : FnNI X.prog X.w X.K X.mg X.base k f fd ps sp) (hr : Room (k + 1) X.A) (hm : Meth X.K C "__eq__" f) (hd : Dcl X.K C) (hb : Binds X.K fd ps []) : OpR X (compareOp .NotEq) (rNI X.K C sp E true) := by
  intro pins s σ H x y v u Q I rx ry h
  obtain ⟨a, dx, fs, rfl, ha, oy, h⟩ := h
  cases rx
  obtain ⟨mA, J0, _⟩ := ins_get I.hok ha
  obtain ⟨od, J, _⟩ := J0.look
  have hu : X.A.units + 1 < cLine := by have := hr.un; omega
  have hc := run_NI1 (us := [.ref a, u]) (vs := [.ref a, y]) F hr hb I (.cons rfl (.cons ry .nil)) h
  obtain ⟨T, l, hT, hl, hl2⟩ := odd_ty (C := C) I.hok oy ry
  show wpAny _ _ (richCompare .NotEq (.ref a) u) _ _ _
  exact rc_neNI (Nat.lt_of_succ_lt hu) J (ty_here hT) (by simp) (sub_here I.kIn hl hl2) (one_neNI hu I.kIn J hm.at_ hm.fn hd.ne hd.obj (thn hc fun v s' ⟨e, z, H', I', rz, ha', oy', q⟩ => ⟨e,
    odd_decN hd I'.kIn I'.hok ha' oy' ry ⟨rfl, odd_same I'.hok ha' oy' ry ⟨.bl true, H', I', rfl, q⟩⟩⟩))
/-- things of two classes -/
theorem op_eqOO (F : FnNI X.prog X.w X.K X.mg X.base k f fd ps sp) (F' : FnNI X.prog X.w X.K X.mg X.base k f' fd' ps' sp') (hr : Room k X.A) (hm : Meth X.K C "__eq__" f) (hm' : Meth X.K C' "__eq__" f') (hb : Binds X.K fd ps []) (hb' : Binds X.K fd' ps' [])
    (hne : C ≠ C') (hsub : PySem.W.subIn X.K (.ref C') (.ref C) = some false) : OpR X (compareOp .Eq) (rOO X.K C C' sp sp' E false) := by
  intro pins s σ H x y v u Q I rx ry h
  obtain ⟨a, b, dx, fs, dy, gs, rfl, rfl, ha, hb2, h⟩ := h
  cases rx; cases ry
  obtain ⟨mA, J0, _⟩ := ins_get I.hok ha
  obtain ⟨od, J, _⟩ := J0.look
  obtain ⟨mB, Jb0, _⟩ := ins_get I.hok hb2
  obtain ⟨odb, Jb, _⟩ := Jb0.look
  have hu : X.A.units < cLine := by have := hr.un; omega
  have hc := run_NI (us := [.ref a, .ref b]) (vs := [.ref a, .ref b]) F hr hb I (.cons rfl (.cons rfl .nil)) h
  show wpAny _ _ (richCompare .Eq (.ref a) (.ref b)) _ _ _
  refine rc_eqNI hu J (fun q => Jb.type.here q) (by simpa using hne) (fun q => (PySem.W.looks_subIn I.kIn hsub).here q) (one_eqNI I.kIn J hm.at_ hm.fn (thn hc fun v s' ⟨e, z, H', I', rz, ha', hb2', q⟩ => ⟨e, ?_⟩))
  obtain ⟨mB', Jb0', _⟩ := ins_get I'.hok hb2'
  obtain ⟨odb', Jb', _⟩ := Jb0'.look
  have hc2 := run_NI (us := [.ref b, .ref a]) (vs := [.ref b, .ref a]) F' hr hb' I' (.cons rfl (.cons rfl .nil)) q
  refine one_eqNI I'.kIn Jb' hm'.at_ hm'.fn (thn hc2 fun v2 s2 ⟨e2, z2, H2, I2, rz2, ha2, hb22, q2⟩ => ⟨e2, ?_⟩)
  obtain ⟨mA2, J02, _⟩ := ins_get I2.hok ha2
  obtain ⟨mB2, Jb02, _⟩ := ins_get I2.hok hb22
  exact wpAny_isSame_ref_other (fun z => by subst z; rw [ha2] at hb22; cases hb22; exact hne rfl) J02.obj Jb02.obj (fun z => nomatch z) ⟨.bl false, H2, I2, rfl, q2⟩
theorem op_neOO (F : FnNI X.prog X.w X.K X.mg X.base k f fd ps sp) (F' : FnNI X.prog X.w X.K X.mg X.base k f' fd' ps' sp') (hr : Room (k + 1) X.A) (hm : Meth X.K C "__eq__" f) (hm' : Meth X.K C' "__eq__" f') (hd : Dcl X.K C) (hd' : Dcl X.K C') (hb : Binds X.K fd ps []) (hb' : Binds X.K fd' ps' [])
    (hne : C ≠ C') (hsub : PySem.W.subIn X.K (.ref C') (.ref C) = some false) : OpR X (compareOp .NotEq) (rOO X.K C C' sp sp' E true) := by
  intro pins s σ H x y v u Q I rx ry h
  obtain ⟨a, b, dx, fs, dy, gs, rfl, rfl, ha, hb2, h⟩ := h
  cases rx; cases ry
  obtain ⟨mA, J0, _⟩ := ins_get I.hok ha
  obtain ⟨od, J, _⟩ := J0.look
  obtain ⟨mB, Jb0, _⟩ := ins_get I.hok hb2
  obtain ⟨odb, Jb, _⟩ := Jb0.look
  have hu : X.A.units + 1 < cLine := by have := hr.un; omega
  have hc := run_NI1 (us := [.ref a, .ref b]) (vs := [.ref a, .ref b]) F hr hb I (.cons rfl (.cons rfl .nil)) h
  show wpAny _ _ (richCompare .NotEq (.ref a) (.ref b)) _ _ _
  refine rc_neNI (Nat.lt_of_succ_lt hu) J (fun q => Jb.type.here q) (by simpa using hne) (fun q => (PySem.W.looks_subIn I.kIn hsub).here q) (one_neNI hu I.kIn J hm.at_ hm.fn hd.ne hd.obj (thn hc fun v s' ⟨e, z, H', I', rz, ha', hb2', q⟩ => ⟨e, ?_⟩))
  obtain ⟨mB', Jb0', _⟩ := ins_get I'.hok hb2'
  obtain ⟨odb', Jb', _⟩ := Jb0'.look
  have hc2 := run_NI1 (us := [.ref b, .ref a]) (vs := [.ref b, .ref a]) F' hr hb' I' (.cons rfl (.cons rfl .nil)) q
  refine one_neNI hu I'.kIn Jb' hm'.at_ hm'.fn hd'.ne hd'.obj (thn hc2 fun v2 s2 ⟨e2, z2, H2, I2, rz2, ha2, hb22, q2⟩ => ⟨e2, ?_⟩)
  obtain ⟨mA2, J02, _⟩ := ins_get I2.hok ha2
  obtain ⟨mB2, Jb02, _⟩ := ins_get I2.hok hb22
  exact wpAny_isSame_ref_other (fun z => by subst z; rw [ha2] at hb22; cases hb22; exact hne rfl) J02.obj Jb02.obj (fun z => nomatch z) ⟨.bl true, H2, I2, rfl, q2⟩
end
end EW
set_option maxRecDepth 100000
set_option maxHeartbeats 2000000
namespace EW
open PySem PySem.Spec PyProof.Rows L2
section
variable {CX : CXT} {P : Program} {w : World} {K : PySem.W.Frag} {mg : Str → Option Value} {base : Heap} {k : Nat} {f : Addr} {nm qual : Str} {par : Arguments} {body : List Stmt} {scope : Scope} {dV kV doc pm cdv ct oc : Value} {an od : Option Addr} {osl : Array (Option Value)} {N ps : List Str}
  {A : Around} {outer : List PySem.Env} {s : Shared} {H : Hp} {args : Args} {us : List Value} {vs : List V} {Q : VK} {E : XK}
/-- one call of a def, at a given state: what it promises may speak of the state -/
theorem fn_at (lk : K.lookup f = some ⟨oc, od, .func (PySem.W.fnOf nm qual par body scope dV kV doc pm an cdv ct), osl⟩) (hcd : PySem.W.codeIn K cdv qual = true) (S : FnScope N ps scope) (hl : vs.length = ps.length) (hr : Room (k + 1) A) (e0 : Env0 P w K mg base A outer s H)
    (hb : BindsTo s (PySem.W.fnOf nm qual par body scope dV kV doc pm an cdv ct) args (ps.zip us)) (r : Vals vs us) (hbody : ∃ t, PSs (cxOf CX P w K mg base N qual scope f cdv A outer s H E) body t ∧ t { nx := fun _ H' => Q .non H', rt := Q } (start N vs) H) :
    codeAny (model P w) A (.call (.ref f) args) (CR CX outer P w H s Q E) s := by
  have keeps : ∀ b o, base.get? b = some o → s.heap.get? b = some o := fun b o z => (e0.bs b o z).1
  have kin : K.In s.heap := e0.mod.kin.keeps keeps
  refine codeAny_call_function hr.depth (kin _ _ lk) rfl S.co S.gen rfl (PySem.W.codeRec_of kin hcd) (hb _ _ _ _ (wpAny_newFunctionEnv_cells S.kind (fun y hy => ?_) fun env he s1 x => ?_))
  · exact (S.par y.1 (List.of_mem_zip (show (y.1, y.2) ∈ ps.zip us from hy)).1).imp id fun z => ⟨z, PySem.W.cellsFrom_some _ _ _ (.inl z)⟩
  · subst he
    refine ⟨(e0.mod.nolimit.keeps keeps).keeps x.toInCall.keep, codeAny_func ?_⟩
    obtain ⟨t, ht, hq⟩ := hbody
    have I := inv_start (CX := CX) (E := E) S hr.hd e0 hl r x
    refine wpAny_mono (ht.run [] s1 (start N vs) H _ I hq) (fun fl s2 z => ?_) fun _ _ z => z
    cases fl with
    | next => obtain ⟨_, H2, J, q⟩ := z; exact ⟨.non, H2, J.os, J.bare, J.base, J.hok, rfl, q⟩
    | ret u => obtain ⟨v, _, H2, J, rv, q⟩ := z; exact ⟨v, H2, J.os, J.bare, J.base, J.hok, rv, q⟩
    | brk => exact z.elim fun _ z => z.elim fun _ z => z.2.elim
    | cont => exact z.elim fun _ z => z.elim fun _ z => z.2.elim
end
/-- a class with an own __iter__ -/
structure ItrC (K : PySem.W.Frag) (C fi : Addr) : Prop where
  it : PySem.W.findIn K (.ref C) "__iter__" = some (some (.ref fi))
  fn : PySem.W.isFn K (.ref fi) = true
/-- at q: an iterator of the tuple at t, not gone ahead yet -/
def ttO (t q : Addr) : HO := .ext fun h => h.IsTupleIter q t 0
/-- what the __iter__ of a class promises: an iterator of the tuple in the field fl -/
def IterOk (P : Program) (w : World) (K : PySem.W.Frag) (mg : Str → Option Value) (base : Heap) (CI : CXT) (n : Nat) (fi C : Addr) (fl : Str) (EI : XK) : Prop :=
  ∀ (A : Around) (outer : List PySem.Env) (s : Shared) (H : Hp) (a dx t : Addr) (fs : List (Str × V)) (xs : List V), Room n A → Env0 P w K mg base A outer s H → H a = some (.ins C dx fs) → fs.lookup fl = some (.ref t) → SqT K H t xs →
    codeAny (model P w) A (.call (.ref fi) ⟨[.ref a], []⟩) (CR CI outer P w H s (fun v H2 => ∃ q, v = .ref q ∧ H q = none ∧ s.heap.objs.size ≤ q ∧ H2 = upd H q (ttO t q)) EI) s
/-- the iteration: the tuple behind the instance -/
def iOwn (X : Cx) (CI : CXT) (n : Nat) (EI : XK) (te : TE) : TI := fun σ H R => te σ H fun x H1 => ∃ (C fi a dx t : Addr) (fl : Str) (fs : List (Str × V)) (xs : List V), ItrC X.K C fi ∧ IterOk X.prog X.w X.K X.mg X.base CI n fi C fl EI ∧
  x = .ref a ∧ H1 a = some (.ins C dx fs) ∧ fs.lookup fl = some (.ref t) ∧ SqT X.K H1 t xs ∧ R (Itt X.K t) H1
section
variable {X : Cx} {tg e : Expr} {te : TE} {CI : CXT} {EI : XK} {n : Nat}
theorem pi_own (he : PE X e te) (xI : Passes CI X EI) (hr : Room n X.A) : PI X tg e (iOwn X CI n EI te) := by
  constructor
  intro pins s σ H R I h
  refine thn (he.run pins s σ H _ I h) fun v s1 ⟨x, H1, I1, r1, q1⟩ => ?_
  obtain ⟨C, fi, a, dx, t, fl, fs, xs, hc, FI, ex, ha, hf, ht, hR⟩ := q1
  subst ex
  cases r1
  obtain ⟨_, J, _⟩ := ins_get I1.hok ha
  obtain ⟨_, J, _⟩ := J.look
  obtain ⟨_, fr⟩ := I1.fr
  refine PySem.W.owit_iter fr I1.ok.mod.kin J hc.it hc.fn ?_
  refine wpAny_call (codeAny_mono (FI X.A X.stack s1 H1 a dx t fs xs hr I1.env0 ha hf ht) fun r s2 hq => ?_)
  cases r with
  | error z => exact xI pins σ H1 s1 z s2 I1 hq
  | ok fl =>
    cases fl with
    | next => exact hq.elim
    | brk => exact hq.elim
    | cont => exact hq.elim
    | ret u =>
      have un := id hq
      obtain ⟨v2, H2, _, _, un, _, rv2, q, e2, hq0, big, eH⟩ := un
      subst e2
      cases rv2
      obtain ⟨v3, H3, I3, rv3, q', e3, hq1, _, eH3⟩ := I1.after hq
      subst e3
      obtain rfl : q = q' := by
        have : Value.ref q = Value.ref q' := rv3
        cases this
        rfl
      have at3 : H3 q = some (ttO t q) := by rw [eH3]; exact upd_same
      have st : s2.heap.IsTupleIter q t 0 := (show _ ∧ _ from I3.hok q _ at3).1
      show PySem.W.OwitIt (model X.prog X.w) X.A (PIE X pins σ tg R) X.xe (.ref q) s2
      unfold PySem.W.OwitIt
      refine wpAny_specialOf st.typeIs F.slot_tuple_iterator_next.lookup ?_
      have dr : ItX.dropH H3 q = H1 := by rw [eH3]; exact ItX.dropH_upd hq0
      refine ⟨q, [q], _, _, H1, rfl, dr ▸ ItX.inv_drop I3 at3, turn_tuple t q, st, fun b hb => ?_, hR⟩
      have eb : b = q := by simpa using hb
      rw [eb]
      exact dr ▸ ItX.inv_fp I3 at3 (Nat.le_trans I1.sz big)
end
/-- iter(t), t a tuple -/
def rIterT (K : PySem.W.Frag) (n : Nat) : List V → Hp → VK → Prop := fun vs H Q => ∃ (t : Addr) (zs : List V), vs = [.ref t] ∧ SqT K H t zs ∧ ∀ q, H q = none → n ≤ q → Q (.ref q) (upd H q (ttO t q))
theorem call_iterT {X : Cx} : CallR X (.builtin "iter") (rIterT X.K X.s_0.heap.objs.size) := by
  intro pins s σ H vs us Q I r h
  obtain ⟨t, zs, rfl, ht, hQ⟩ := h
  obtain rfl := Vals.ref1 r
  obtain ⟨its, _, p, _⟩ := I.tuple ht
  have new : ({ s with heap := s.heap.push { cls := .type "tuple_iterator", data := .fields #[.ref t, .int 0 0] } } : Shared).heap.get? s.heap.objs.size = some { cls := .type "tuple_iterator", data := .fields #[.ref t, .int 0 0] } := Heap.get?_push_size _ rfl
  have ok : ∀ H', ObjOk X.prog X.w H' (s.heap.push { cls := .type "tuple_iterator", data := .fields #[.ref t, .int 0 0] }) s.heap.objs.size (ttO t s.heap.objs.size) := fun H' => ⟨⟨_, new, rfl, rfl⟩, ⟨_, new⟩, fun h1 h2 q k => by
    obtain ⟨o, e, z⟩ := q
    exact ⟨o, k _ e, z⟩⟩
  refine Calls.call_function_entry (by decide +kernel) (by decide +kernel) PySem.W.kdk_entry_iter (PySem.W.kdk_args_iter _) ?_
  unfold Builtin.«iter»
  refine wpAny_bind (m := someArgs "iter" 1 2 _) (wpAny_of_eq (a := [Value.ref t]) (by first | rfl | kernel_rfl!) ?_)
  show wpAny _ _ (pyIter (.ref t) >>= _) _ _ _
  refine wpAny_bind (wpAny_pyIter_tuple (show s.heap.IsTuple t its.toArray from p) ?_)
  exact wpAny_pure ⟨_, rfl, .ref s.heap.objs.size, _, I.laid (t' := s.toks) (fun b u e => Heap.get?_push_of_some _ e) (Nat.le_refl _) (ok _), rfl, hQ _ (I.hok.fresh (Nat.le_refl _)) I.sz⟩
section
variable {CI : CXT} {P : Program} {w : World} {K : PySem.W.Frag} {mg : Str → Option Value} {base : Heap} {k : Nat} {f C : Addr} {nm qual self fl : Str} {par : Arguments} {scope : Scope} {dV kV doc pm cdv ct oc : Value} {an od : Option Addr} {osl : Array (Option Value)} {N : List Str} {p1 p2 p3 p4 p5 : Pos} {EI : XK}
/-- def __iter__(self): return iter(self.fl) -/
theorem itr_ok (lk : K.lookup f = some ⟨oc, od, .func (PySem.W.fnOf nm qual par [.Return (some (.Call (.Name "iter" p1) [.Attribute (.Name self p2) fl p3] [] p4)) p5] scope dV kV doc pm an cdv ct), osl⟩) (hcd : PySem.W.codeIn K cdv qual = true) (S : FnScope N [self] scope)
    (hb : Binds K (PySem.W.fnOf nm qual par [.Return (some (.Call (.Name "iter" p1) [.Attribute (.Name self p2) fl p3] [] p4)) p5] scope dV kV doc pm an cdv ct) [self] []) (hc : Cls K C) (hn : NoAttr K C fl) (hg : scope.names.lookup ("iter" : Str) = some NameKind.globalImplicit) (hm : mg ("iter" : Str) = none)
    (hs : (self == ("__debug__" : Str)) = false := by decide) (hs2 : (self == ("__classdict__" : Str)) = false := by decide) (hi : bootBuiltins ("iter" : Str) = some (.builtin "iter") := by decide +kernel) : IterOk P w K mg base CI (k + 1) f C fl EI := by
  intro A outer s H a dx t fs xs hr e0 ha hf ht
  have kin : K.In s.heap := e0.mod.kin.keeps fun b o z => (e0.bs b o z).1
  have h0 : N[0]? = some self := by
    have q := congrArg (fun l : List Str => l[0]?) S.pre
    simpa using q
  refine fn_at (k := k) (vs := [.ref a]) (us := [.ref a]) lk hcd S rfl hr e0 (by
    have b := hb s [.ref a] kin rfl
    simpa using b) (.cons rfl .nil) ⟨_, pss_one (ps_ret (pe_callB call_iterT hg hm hi (pa_cons (pe_fld (pe_var (i := 0) h0 ((S.par self (by simp)).elim (fun z => .inl z) (fun z => .inr (.inl z))) hs hs2) rfl) pa_nil))), ?_⟩
  exact ⟨.ref a, rfl, a, C, dx, fs, .ref t, rfl, ha, hc, hn, hf, t, xs, rfl, ht, fun q h1 h2 => ⟨q, rfl, h1, h2, rfl⟩⟩
end
end EW
set_option maxRecDepth 100000
set_option maxHeartbeats 2000000
namespace EW
open PySem L2
/-- what a def promises -/
def spF (I : Ci) (K : PySem.W.Frag) (g : List Val → Mu → Out Res) : Sp := fun vs H Q E => ∃ G ρ μ as, Wd I K G ρ μ H ∧ ValsR I K G ρ as vs ∧ Po I K (fun cls d _ H' => E cls d H') [] G ρ H (g as μ) (QE I K H Q)
section
variable {I : Ci} {K : PySem.W.Frag} {G G0 G' : Hp} {ρ ρ0 ρ1 : List Addr} {H H0 H' : Hp} {μ μc μc' : Mu} {ks : List Nat}
theorem ValsR.flat {ws : List Val} {vs : List V} {ds : List D} (e : fzAll ws = some ds) (r : ValsR I K G ρ ws vs) : ValsR I K G ρ1 ws vs := by
  rw [fzAll_eq e] at r ⊢
  exact (Vals.reps r).vals
theorem RepO.flat {o : O} {h : HO} (f : o.flat = true) (r : RepO I K G ρ o h) : RepO I K G ρ1 o h := by
  unfold O.flat at f
  cases o with
  | lst ws =>
    obtain ⟨vs, h1, h2⟩ := r
    simp only [O.frozen, Option.isSome_map] at f
    obtain ⟨ds, e⟩ := Option.isSome_iff_exists.mp f
    exact ⟨vs, h1, h2.flat e⟩
  | tup ws =>
    obtain ⟨vs, h1, h2⟩ := r
    simp only [O.frozen, Option.isSome_map] at f
    obtain ⟨ds, e⟩ := Option.isSome_iff_exists.mp f
    exact ⟨vs, h1, h2.flat e⟩
  | dct ks ws =>
    obtain ⟨vs, h1, h2, h3⟩ := r
    simp only [O.frozen, Option.isSome_map] at f
    obtain ⟨ds, e⟩ := Option.isSome_iff_exists.mp f
    exact ⟨vs, h1, h2, h3.flat e⟩
  | ins c ws =>
    obtain ⟨dx, fs, h1, h2, h3⟩ := r
    simp only [O.frozen, Option.isSome_map] at f
    obtain ⟨ds, e⟩ := Option.isSome_iff_exists.mp f
    exact ⟨dx, fs, h1, h2, h3.flat e⟩
  | ice d => simp [O.frozen] at f
theorem O.flat_ni {o : O} (f : o.flat = true) : ∀ d, o ≠ .ice d := fun d z => by subst z; cases f
structure Lent (ks : List Nat) (μ μc : Mu) : Prop where
  len : ks.length = μc.length
  nd : ks.Nodup
  at' : ∀ (j k : Nat) (o : O), ks[j]? = some k → μc[j]? = some o → μ[k]? = some o ∧ o.flat = true
theorem picks_ok {μ : Mu} : ∀ {ks : List Nat} {μc : Mu}, picks μ ks = some μc → ks.length = μc.length ∧ ∀ (j k : Nat) (o : O), ks[j]? = some k → μc[j]? = some o → μ[k]? = some o ∧ o.flat = true
  | [], μc, h => by simp [picks] at h; subst h; exact ⟨rfl, fun j k o e => by simp at e⟩
  | k :: ks, μc, h => by
    unfold picks at h
    cases h1 : μ[k]? with
    | none => rw [h1] at h; simp at h
    | some o =>
      cases h2 : picks μ ks with
      | none => rw [h1, h2] at h; simp at h
      | some r =>
        rw [h1, h2] at h
        by_cases hf : o.flat = true
        · simp [hf] at h
          subst h
          obtain ⟨i1, i2⟩ := picks_ok h2
          refine ⟨by simp [i1], fun j k' o' e1 e2 => ?_⟩
          cases j with
          | zero => simp at e1 e2; subst e1 e2; exact ⟨h1, hf⟩
          | succ j => simp at e1 e2; exact i2 j k' o' e1 e2
        · simp [hf] at h
def addrs (ρ : List Addr) (ks : List Nat) : List Addr := ks.map fun k => (ρ[k]?).getD 0
theorem addrs_get {j : Nat} {a : Addr} (h : (addrs ρ ks)[j]? = some a) : ∃ k, ks[j]? = some k ∧ (ρ[k]?).getD 0 = a := by
  unfold addrs at h
  rw [List.getElem?_map] at h
  cases q : ks[j]? with
  | none => rw [q] at h; cases h
  | some k => rw [q] at h; exact ⟨k, rfl, Option.some.inj h⟩
theorem give_len : ∀ (ks : List Nat) (μ os : Mu), (give ks μ os).length = μ.length
  | [], μ, os => by cases os <;> rfl
  | k :: ks, μ, [] => rfl
  | k :: ks, μ, o :: os => by rw [give, give_len ks, List.length_set]
theorem give_get : ∀ (ks : List Nat) (μ os : Mu) (k : Nat) (o : O), ks.Nodup → ks.length = os.length → (give ks μ os)[k]? = some o → (∃ j : Nat, ks[j]? = some k ∧ os[j]? = some o) ∨ (k ∉ ks ∧ μ[k]? = some o)
  | [], μ, os, k, o, _, _, h => by
    have : give [] μ os = μ := by cases os <;> rfl
    rw [this] at h
    exact .inr ⟨by simp, h⟩
  | x :: ks, μ, [], k, o, _, e, _ => by simp at e
  | x :: ks, μ, y :: os, k, o, nd, e, h => by
    rw [give] at h
    obtain ⟨n1, n2⟩ := List.nodup_cons.mp nd
    rcases give_get ks (μ.set x y) os k o n2 (by simpa using e) h with ⟨j, h1, h2⟩ | ⟨h1, h2⟩
    · exact .inl ⟨j + 1, by simpa using h1, by simpa using h2⟩
    · by_cases hk : x = k
      · subst hk
        have hl : x < μ.length := by
          have := (List.getElem?_eq_some_iff.mp h2).1
          rw [List.length_set] at this; exact this
        rw [List.getElem?_set_self hl] at h2
        exact .inl ⟨0, by simp, by simpa using h2⟩
      · rw [List.getElem?_set_ne hk] at h2
        exact .inr ⟨by simp only [List.mem_cons, not_or]; exact ⟨fun z => hk z.symm, h1⟩, h2⟩
theorem Lent.at_ (l : Lent ks μ μc) (w : Wd I K G ρ μ H) {j k : Nat} (h : ks[j]? = some k) : ∃ a o, ρ[k]? = some a ∧ μc[j]? = some o ∧ μ[k]? = some o ∧ o.flat = true := by
  have hj : j < μc.length := by rw [← l.len]; exact (List.getElem?_eq_some_iff.mp h).1
  have ho : μc[j]? = some μc[j] := List.getElem?_eq_getElem hj
  obtain ⟨h1, h2⟩ := l.at' j k _ h ho
  have hk : k < ρ.length := by rw [w.len]; exact (List.getElem?_eq_some_iff.mp h1).1
  exact ⟨ρ[k], _, List.getElem?_eq_getElem hk, ho, h1, h2⟩
theorem Lent.addr (l : Lent ks μ μc) (w : Wd I K G ρ μ H) {j k : Nat} (h : ks[j]? = some k) : ∃ a, ρ[k]? = some a ∧ (addrs ρ ks)[j]? = some a := by
  obtain ⟨a, o, h1, _⟩ := l.at_ w h
  refine ⟨a, h1, ?_⟩
  unfold addrs
  rw [List.getElem?_map, h, Option.map_some, h1]; rfl
theorem Lent.sub (l : Lent ks μ μc) (w : Wd I K G ρ μ H) {a : Addr} (h : a ∈ addrs ρ ks) : ∃ k : Nat, k ∈ ks ∧ ρ[k]? = some a := by
  unfold addrs at h
  obtain ⟨k, hk, e⟩ := List.mem_map.mp h
  obtain ⟨j, hj⟩ := List.mem_iff_getElem?.mp hk
  obtain ⟨b, o, h1, _⟩ := l.at_ w hj
  rw [h1] at e
  exact ⟨k, hk, by rw [h1]; exact congrArg some e⟩
theorem Lent.wd (l : Lent ks μ μc) (w : Wd I K G ρ μ H) : Wd I K G (addrs ρ ks) μc H := by
  refine ⟨w.sub, ?_, ?_, fun j a o h1 h2 => ?_⟩
  · unfold addrs; rw [List.length_map]; exact l.len
  · unfold addrs
    rw [List.Nodup, List.pairwise_map]
    refine List.Pairwise.imp_of_mem (fun {x y} hx hy ne e => ?_) l.nd
    obtain ⟨i, hi⟩ := List.mem_iff_getElem?.mp hx
    obtain ⟨j, hj⟩ := List.mem_iff_getElem?.mp hy
    obtain ⟨a, _, h1, _⟩ := l.at_ w hi
    obtain ⟨b, _, h2, _⟩ := l.at_ w hj
    rw [h1, h2] at e
    exact ne (inj_get w.nd h1 (h2.trans (congrArg some e.symm)))
  · obtain ⟨k, h3, h4⟩ := addrs_get h1
    obtain ⟨b, o', h5, h6, h7, h8⟩ := l.at_ w h3
    rw [h2] at h6; cases h6
    rw [h5] at h4
    have e : b = a := h4
    subst e
    obtain ⟨x, q, g, r⟩ := w.cel h5 h7 (O.flat_ni h8)
    exact ⟨x, q, CelR.of (O.flat_ni h8) g (r.flat h8)⟩
theorem Lent.aft (l : Lent ks μ μc) (w : Wd I K G ρ μ H) (a : Aft G (addrs ρ ks) H G' (addrs ρ ks) H') : Aft G ρ H G' ρ H' := by
  have sub : ∀ p, p ∉ ρ → p ∉ addrs ρ ks := fun p n m => by
    obtain ⟨k, _, e⟩ := l.sub w m
    exact n (List.mem_iff_getElem?.mpr ⟨k, e⟩)
  exact ⟨a.ex, fun p o h n => a.fr p o h (fun m => n (by obtain ⟨k, _, e⟩ := l.sub w m; exact List.mem_iff_getElem?.mpr ⟨k, e⟩)), fun p o h g n => a.nw p o h g (sub p n), [], by simp, fun _ z => nomatch z⟩
theorem Lent.back (l : Lent ks μ μc) (w : Wd I K G ρ μ H) (a : Aft G (addrs ρ ks) H G' (addrs ρ ks) H') (w' : Wd I K G' (addrs ρ ks) μc' H') (f : μc'.all O.flat = true) : Wd I K G' ρ (give ks μ μc') H' := by
  have hl : ks.length = μc'.length := by have := w'.len; unfold addrs at this; rw [List.length_map] at this; exact this
  refine ⟨w'.sub, by rw [give_len]; exact w.len, w.nd, fun k p o h1 h2 => ?_⟩
  rcases give_get ks μ μc' k o l.nd hl h2 with ⟨j, h3, h4⟩ | ⟨h3, h4⟩
  · obtain ⟨b, h5, h6⟩ := l.addr w h3
    rw [h1] at h5; cases h5
    have fo : o.flat = true := List.all_eq_true.mp f o (List.mem_iff_getElem?.mpr ⟨j, h4⟩)
    obtain ⟨x, q, g, r⟩ := w'.cel h6 h4 (O.flat_ni fo)
    exact ⟨x, q, CelR.of (O.flat_ni fo) g (r.flat fo)⟩
  · obtain ⟨x, q, r⟩ := w.cell k p o h1 h4
    have np : p ∉ addrs ρ ks := fun m => by
      obtain ⟨k', hk', e⟩ := l.sub w m
      rw [inj_get w.nd h1 e] at h3
      exact h3 hk'
    exact ⟨x, a.fr' q np, r.ex a.ex (fun _ _ z => z) fun z => a.nw p x q z np⟩
theorem renum_ok (l : Lent ks μ μc) (w : Wd I K G ρ μ H) : ∀ {ws : List Val} {n : Nat} {vs : List V}, ks.drop n = cellsOf ws → ValsR I K G ρ ws vs → ValsR I K G (addrs ρ ks) (renum n ws) vs
  | [], n, vs, _, r => r
  | .fz d :: t, n, vs, h, ⟨v, u, h1, h2, h3⟩ => ⟨v, u, h1, h2, renum_ok l w (n := n) h h3⟩
  | .cel k :: t, n, vs, h, ⟨v, u, h1, ⟨a, h2, h4⟩, h3⟩ => by
    have h' : ks.drop n = k :: cellsOf t := h
    have hk : ks[n]? = some k := by
      have := congrArg (·[0]?) h'
      simpa using this
    obtain ⟨b, h5, h6⟩ := l.addr w hk
    rw [h2] at h5; cases h5
    refine ⟨v, u, h1, ⟨a, h6, h4⟩, renum_ok l w (n := n + 1) ?_ h3⟩
    have := congrArg (List.drop 1) h'
    simpa [List.drop_drop, Nat.add_comm] using this
theorem ValsR.nm (w : Wd I K G ρ μ H) : ∀ {ws : List Val} {vs : List V}, ValsR I K G ρ ws vs → ValsR I K G ρ (ws.map (Val.nm μ)) vs
  | [], vs, h => h
  | x :: ws, vs, ⟨v, r, h1, h2, h3⟩ => ⟨v, r, h1, h2.nm w, ValsR.nm w h3⟩
theorem grown_none (a : Aft G ρ H G' ρ1 H') (h : ρ1.length = ρ.length) : ρ1 = ρ := by
  obtain ⟨t, e, _⟩ := a.pre
  rw [e, List.length_append] at h
  have : t = [] := List.length_eq_zero_iff.mp (by omega)
  rw [e, this, List.append_nil]
theorem spF_whole {W : WX} {σ : St} {Q : VK} {g : List Val → Mu → Out Res} {ws : List Val} {vs : List V} (p : Po I K W σ G ρ H (g ws μ) (QE I K H0 Q)) (A : Aft G0 ρ0 H0 G ρ H) (w : Wd I K G ρ μ H) (r : ValsR I K G ρ ws vs) : spF I K g vs H Q fun cls d H' => W cls d σ H' := by
  refine ⟨G, ρ, μ, ws, w, r, ?_⟩
  revert p
  generalize g ws μ = o
  intro p
  cases o with
  | ok x μ' => exact fun G' ρ' H' a' w' v rr n => p G' ρ' H' a' w' v rr (n.back A a' rr)
  | ex z μ' => exact p
  | no => exact p
theorem lend_ok {W : WX} {σ : St} {Q : VK} {g : List Val → Mu → Out Res} {ws : List Val} {vs : List V} (p : Po I K W σ G ρ H (lend g ws μ) (QE I K H0 Q)) (A : Aft G0 ρ0 H0 G ρ H) (w : Wd I K G ρ μ H) (r : ValsR I K G ρ ws vs) : spF I K g vs H Q fun cls d H' => W cls d σ H' := by
  unfold lend lendW at p
  have r' := r.nm w
  revert p r'
  generalize ws.map (Val.nm μ) = us
  intro p r'
  split at p
  · rename_i hn
    split at p
    · rename_i μc hp
      obtain ⟨p1, p2⟩ := picks_ok hp
      have l : Lent (cellsOf us) μ μc := ⟨p1, hn, p2⟩
      refine ⟨G, addrs ρ (cellsOf us), μc, renum 0 us, l.wd w, renum_ok l w rfl r', ?_⟩
      unfold lendS at p
      revert p
      cases g (renum 0 us) μc with
      | ok x μc' =>
        dsimp only
        intro p
        split at p
        · rename_i hc
          rw [Bool.and_eq_true, Bool.and_eq_true] at hc
          obtain ⟨⟨c1, c2⟩, c3⟩ := hc
          intro G' ρ' H' a' w' v rr n
          have c3' := of_decide_eq_true c3
          have e : ρ' = addrs ρ (cellsOf us) := grown_none a' (by rw [w'.len, c3', (l.wd w).len])
          subst e
          have a2 := l.aft w a'
          have w2 := l.back w a' w' c2
          have rr' : ResR I K G' ρ H' x v := by
            cases x with
            | fz d => exact rr
            | cel k => cases c1
            | nw o =>
              obtain ⟨y, h, h1, h2, h3, h4, h5, h6⟩ := rr
              exact ⟨y, h, h1, w.fresh (n o y rfl h1), h3, h4, h5.flat c1, h6⟩
          exact p G' ρ H' a2 w2 v rr' (n.back A a2 rr')
        · exact p.elim
      | ex z μc' =>
        dsimp only
        intro p
        split at p
        · rename_i hc
          rw [Bool.and_eq_true] at hc
          obtain ⟨c2, c3⟩ := hc
          intro cls d G' ρ' H' a' w' er
          have c3' := of_decide_eq_true c3
          have e : ρ' = addrs ρ (cellsOf us) := grown_none a' (by rw [w'.len, c3', (l.wd w).len])
          subst e
          exact p cls d G' ρ H' (l.aft w a') (l.back w a' w' c2) er
        · exact p.elim
      | no => intro p; exact p
    · exact spF_whole p A w r'
  · exact spF_whole p A w r'
theorem lend_ne {α : Type} {W : WX} {σ : St} {S : α → Mu → Hp → List Addr → Hp → Prop} {g : List Val → Mu → Out Res} {ws : List Val} {f : Out Res → Out α} (hf : f .no = .no) (p : Po I K W σ G ρ H (f (lend g ws μ)) S) : ∃ as μ', g as μ' ≠ .no := by
  apply Classical.byContradiction
  intro hn
  have hg : ∀ as μ', g as μ' = .no := fun as μ' => Classical.byContradiction fun z => hn ⟨as, μ', z⟩
  have : lend g ws μ = .no := by
    unfold lend lendW lendS
    simp only [hg]
    split
    · split <;> rfl
    · rfl
  rw [this, hf] at p
  exact p
end
structure ClsOk (K : PySem.W.Frag) (C : Addr) : Prop where
  cls : Cls K C
  isi : IsiC K C
def MtAt (P : Program) (w : World) (K : PySem.W.Frag) (mg : Str → Option Value) (base : Heap) (I : Ci) (n : Nat) (g : List Val → Mu → Out Res) (C : Addr) (x : Str) : Prop :=
  ∃ f fd ps, FnOk P w K mg base (L2.CX P w) (2 * n) f fd ps (spF I K g) ∧ Meth K C x f ∧ Binds K fd ps []
def FnAt (P : Program) (w : World) (K : PySem.W.Frag) (mg : Str → Option Value) (base : Heap) (I : Ci) (n : Nat) (g : List Val → Mu → Out Res) (x : Str) : Prop :=
  ∃ f fd ps, FnOk P w K mg base (L2.CX P w) (2 * n) f fd ps (spF I K g) ∧ mg x = some (.ref f) ∧ PySem.W.keepIn K (.ref f) = true ∧ Binds K fd ps []
def MkAt (P : Program) (w : World) (K : PySem.W.Frag) (mg : Str → Option Value) (base : Heap) (I : Ci) (n : Nat) (g : List Val → Mu → Out Res) (C : Addr) (x : Str) : Prop :=
  ∃ f fd ps, FnOk P w K mg base (L2.CX P w) (2 * n) f fd ps (spF I K g) ∧ mg x = some (.ref C) ∧ Mk K C f ∧ Binds K fd ps []
/-- values that fill up -/
def BindsD (K : PySem.W.Frag) (I : Ci) (fd : FuncData) (ps : List Str) (ds : List D) : Prop := ∃ us dvs, Binds K fd ps us ∧ Vals dvs us ∧ ∀ G, Reps I K G ds dvs
def FnAtD (P : Program) (w : World) (K : PySem.W.Frag) (mg : Str → Option Value) (base : Heap) (I : Ci) (n : Nat) (g : List Val → Mu → Out Res) (x : Str) (ds : List D) : Prop :=
  ∃ f fd ps, FnOk P w K mg base (L2.CX P w) (2 * n) f fd ps (spF I K g) ∧ mg x = some (.ref f) ∧ PySem.W.keepIn K (.ref f) = true ∧ BindsD K I fd ps ds
def MkAtD (P : Program) (w : World) (K : PySem.W.Frag) (mg : Str → Option Value) (base : Heap) (I : Ci) (n : Nat) (g : List Val → Mu → Out Res) (C : Addr) (x : Str) (ds : List D) : Prop :=
  ∃ f fd ps, FnOk P w K mg base (L2.CX P w) (2 * n) f fd ps (spF I K g) ∧ mg x = some (.ref C) ∧ Mk K C f ∧ BindsD K I fd ps ds
/-- a method that is found by the thing itself -/
def OpAt (P : Program) (w : World) (K : PySem.W.Frag) (mg : Str → Option Value) (base : Heap) (I : Ci) (n : Nat) (g : List Val → Mu → Out Res) (C : Addr) (x : Str) : Prop :=
  ∃ f fd ps, FnOk P w K mg base (L2.CX P w) (2 * n) f fd ps (spF I K g) ∧ Meth K C x f ∧ Binds K fd ps [] ∧ PySem.W.fnIn K f = true
/-- what == promises of a thing that is not of the class -/
def spNI (I : Ci) (K : PySem.W.Frag) (sb : Nat → Nat → Option Bool) (c : Nat) : Sp := fun vs H Q _ => ∃ G ρ μ ds o, Wd I K G ρ μ H ∧ ValsR I K G ρ [.fz (.ins c ds), .fz o] vs ∧ (o.odd false = true ∨ ∃ c' es, o = .ins c' es ∧ sb c' c = some false) ∧ ∀ G' H', Aft G ρ H G' ρ H' → Wd I K G' ρ μ H' → Q .non H'
structure NiAt (P : Program) (w : World) (K : PySem.W.Frag) (mg : Str → Option Value) (base : Heap) (I : Ci) (n : Nat) (sb : Nat → Nat → Option Bool) (c : Nat) : Prop where
  fn : ∃ f fd ps, FnNI P w K mg base (2 * n) f fd ps (spNI I K sb c) ∧ Meth K (I.ca c) "__eq__" f ∧ Binds K fd ps []
  dcl : Dcl K (I.ca c)
/-- classes neither of which is below the other -/
structure SubOk (K : PySem.W.Frag) (C' C : Addr) : Prop where
  ne : C ≠ C'
  kit : PySem.W.kitOne K (.ref C') (.ref C) = some false
  sub : PySem.W.subIn K (.ref C') (.ref C) = some false
structure Lk (P : Program) (w : World) (K : PySem.W.Frag) (mg : Str → Option Value) (base : Heap) (I : Ci) (n : Nat) (F : Fx) : Prop where
  fl : F.fl = I.fl
  att : ∀ c a, a ∈ I.fl c → Cls K (I.ca c) ∧ NoAttr K (I.ca c) (I.an a)
  inj : ∀ c a b, a ∈ I.fl c → b ∈ I.fl c → I.an a = I.an b → a = b
  mt : ∀ c m, F.dm c m = true → MtAt P w K mg base I n (F.mt c m) (I.ca c) (I.mn m) ∧ ClsOk K (I.ca c) ∧ ∀ a ∈ I.fl c, I.an a ≠ I.mn m
  fn : ∀ f, F.df f = true → FnAt P w K mg base I n (F.fn f) (I.fn f)
  mkk : ∀ c, F.dm c 0 = true → MkAt P w K mg base I n (F.mt c 0) (I.ca c) (I.cn c)
  kc : ∀ c, F.kc c = true → ClsOk K (I.ca c)
  kcn : ∀ c, F.kc c = true → mg (I.cn c) = some (.ref (I.ca c)) ∧ (I.cn c == ("__debug__" : Str)) = false
  ni : ∀ c, F.ni c = true → NiAt P w K mg base I n F.sub c
  sub : ∀ c' c b, F.sub c' c = some b → b = false ∧ F.kc c' = true ∧ SubOk K (I.ca c') (I.ca c)
  gd : ∀ k d, F.gd k = some d → ∃ u v, mg (I.gn k) = some u ∧ RelV v u ∧ ∀ G, Rep I K G d v
  fnd : ∀ f ds, F.df f = true → F.dd f ds = true → FnAtD P w K mg base I n (F.fn f) (I.fn f) ds
  mkd : ∀ c ds, F.dm c 0 = true → F.dk c ds = true → MkAtD P w K mg base I n (F.mt c 0) (I.ca c) (I.cn c) ds
  op : ∀ c m, F.dm c m = true → OpAt P w K mg base I n (F.mt c m) (I.ca c) (I.mn m) ∧ PySem.W.selfFirst K (I.ca c) = true
  opn : (List.range 8).map (fun i => I.mn (i + 4)) = (["__xor__", "__and__", "__or__", "__sub__", "__add__", "__invert__", "__call__", "__iter__"] : List Str)
  itr : ∀ c k, I.it k = true → k ∈ I.fl c → ∃ fi, ItrC K (I.ca c) fi ∧ IterOk P w K mg base (L2.CX P w) 1 fi (I.ca c) (I.an k) (fun _ _ _ => False)
  n0 : I.mn 0 = "__init__"
  n1 : I.mn 1 = "__eq__"
  n2 : I.mn 2 = "__contains__"
  n3 : I.mn 3 = "__len__"
end EW
set_option maxRecDepth 100000
set_option maxHeartbeats 2000000
namespace EW
open PySem L2
def QBv (Q : Bool → Hp → Prop) : VK := fun v H' => ∃ b, v = .bl b ∧ Q b H'
theorem passF {X : Cx} : Passes (L2.CX X.prog X.w) X (fun _ _ _ => False) := fun _ _ _ _ _ _ _ ⟨_, _, _, _, _, _, _, _, _, _, _, _, z⟩ => z.elim
section
variable {I : Ci} {K : PySem.W.Frag} {G H : Hp} {ρ : List Addr} {μ : Mu}
mutual
theorem Rep.dp (s : Sub G H) : ∀ (d : D) (v : V), d.dat = true → Rep I K G d v → Dp K H v d.pd
  | .non, v, _, h => by rw [show v = _ from h]; exact .non
  | .bl b, v, _, h => by rw [show v = _ from h]; exact .bl b
  | .int b, v, _, h => by rw [show v = _ from h]; exact .int b
  | .str b, v, _, h => by rw [show v = _ from h]; exact .str b
  | .tup ds, v, hd, ⟨a, vs, h1, h2, h3⟩ => by rw [h1]; exact .tup (.inl (.inl (s.tup h2))) (Reps.dp s ds vs hd h3)
  | .rot ds, v, hd, ⟨a, vs, h1, h2, h3⟩ => by rw [h1]; exact .tup (s.t h2) (Reps.dp s ds vs hd h3)
  | .lst ds, v, hd, ⟨a, vs, h1, h2, h3⟩ => by rw [h1]; exact .lst (.inl (.inl (s.lst h2))) (Reps.dp s ds vs hd h3)
  | .rol ds, v, hd, ⟨a, vs, h1, h2, h3⟩ => by rw [h1]; exact .lst (s.l h2) (Reps.dp s ds vs hd h3)
  | .cls _, v, hd, _ => by cases hd
  | .ty _, v, hd, _ => by cases hd
  | .dct _ _, v, hd, _ => by cases hd
  | .ins _ _, v, hd, _ => by cases hd
theorem Reps.dp (s : Sub G H) : ∀ (ds : List D) (vs : List V), D.dats ds = true → Reps I K G ds vs → DpAll K H vs (D.pds ds)
  | [], vs, _, h => by rw [show vs = [] from h]; exact .nil
  | d :: ds, vs, hd, ⟨v, r, h1, h2, h3⟩ => by
    rw [h1]
    have hd' : (d.dat && D.dats ds) = true := hd
    rw [Bool.and_eq_true] at hd'
    exact .cons (Rep.dp s d v hd'.1 h2) (Reps.dp s ds r hd'.2 h3)
end
/-- data that are read in a heap -/
def RH (I : Ci) (K : PySem.W.Frag) (H : Hp) (d : D) (v : V) : Prop := ∃ G, Sub G H ∧ Rep I K G d v
theorem Sub.put (s : Sub G H) {a : Addr} {o : HO} (h : H a = some o) : Sub (upd G a o) H := fun b u e => by
  by_cases hb : b = a
  · subst hb; rw [upd_same] at e; cases e; exact .inl h
  · rw [upd_ne hb] at e; exact s b u e
theorem RepO.data {o : O} {h : HO} {d : D} {a : Addr} (w : Wd I K G ρ μ H) (g : G a = none) (hh : H a = some h) (r : RepO I K G ρ o h) (e : o.data μ = some d) : RH I K H d (.ref a) := by
  cases o with
  | lst ws =>
    simp only [O.data, Option.map_eq_some_iff] at e
    obtain ⟨ds, e1, e2⟩ := e
    subst e2
    obtain ⟨vs, h1, h2⟩ := r
    subst h1
    exact ⟨upd G a (.lst vs), w.sub.put hh, a, vs, rfl, upd_same, Reps.mono (Ex.new g) _ _ (fzAll_reps e1 (h2.nm w))⟩
  | tup ws =>
    simp only [O.data, Option.map_eq_some_iff] at e
    obtain ⟨ds, e1, e2⟩ := e
    subst e2
    obtain ⟨vs, h1, h2⟩ := r
    subst h1
    exact ⟨upd G a (.tup vs), w.sub.put hh, a, vs, rfl, upd_same, Reps.mono (Ex.new g) _ _ (fzAll_reps e1 (h2.nm w))⟩
  | dct ks ws =>
    simp only [O.data, Option.map_eq_some_iff] at e
    obtain ⟨ds, e1, e2⟩ := e
    subst e2
    obtain ⟨kvs, h1, h2, h3⟩ := r
    subst h1
    exact ⟨upd G a (.dK kvs), w.sub.put hh, a, kvs, rfl, upd_same, h2, Reps.mono (Ex.new g) _ _ (fzAll_reps e1 (h3.nm w))⟩
  | ins c ws => simp [O.data] at e
  | ice d => simp [O.data] at e
theorem O.data_ni {o : O} {d : D} (e : o.data μ = some d) : ∀ d', o ≠ .ice d' := fun d' z => by subst z; cases e
theorem ResR.data {r : Res} {v : V} {d : D} (w : Wd I K G ρ μ H) (h : ResR I K G ρ H r v) (e : r.data μ = some d) : RH I K H d v := by
  cases r with
  | fz d' => simp [Res.data] at e; subst e; exact ⟨G, w.sub, h⟩
  | nw o =>
    obtain ⟨a, x, h1, h2, h3, h4, h5, _⟩ := h
    rw [h1]
    exact h5.data w h3 h4 e
  | cel k =>
    obtain ⟨a, h1, h2⟩ := h
    simp only [Res.data] at e
    split at e
    · rename_i o q
      obtain ⟨x, h3, g, h5⟩ := w.cel h1 q (O.data_ni e)
      rw [h2]
      exact h5.data w g h3 e
    · cases e
theorem dget_reps {k : Key} : ∀ {kvs : List (Key × V)} {ds : List Val}, ValsR I K G ρ ds (kvs.map (·.2)) → (∀ d, dget (kvs.map (·.1)) ds k = some d → ∃ v, valV kvs k = some v ∧ ValR I K G ρ d v) ∧ (dget (kvs.map (·.1)) ds k = none → valV kvs k = none)
  | [], ds, _ => ⟨fun d h => by simp [dget] at h, fun _ => rfl⟩
  | (k', v) :: r, [], h => by cases h
  | (k', v) :: r, d :: ds, ⟨v', t, e, h1, h2⟩ => by
    cases e
    obtain ⟨i1, i2⟩ := dget_reps (k := k) h2
    simp only [List.map_cons, dget]
    by_cases hk : k' = k
    · rw [if_pos hk]
      exact ⟨fun d' h => by cases h; exact ⟨v, valV_pos hk, h1⟩, fun h => by cases h⟩
    · rw [if_neg hk]
      have e2 : valV ((k', v) :: r) k = valV r k := by unfold valV; rw [List.find?_cons]; simp [hk]
      rw [e2]
      exact ⟨i1, i2⟩
theorem hasK_val {k : Key} : ∀ {kvs : List (Key × V)}, (valV kvs k).isSome = hasK (kvs.map (·.1)) k
  | [] => rfl
  | (k', v) :: r => by
    unfold hasK
    rw [List.map_cons, List.any_cons]
    by_cases hk : k' = k
    · rw [valV_pos hk]; simp [hk]
    · have e2 : valV ((k', v) :: r) k = valV r k := by unfold valV; rw [List.find?_cons]; simp [hk]
      rw [e2, hasK_val]
      simp [hk, hasK]
theorem Rep.key {d : D} {v : V} {k : Key} (r : Rep I K G d v) (h : d.key = some k) : v = kV k := by
  cases d <;> simp [D.key] at h <;> (subst h; exact r)
theorem D.fl_rep {d : D} {v u : V} (h : d.fl = some u) (r : Rep I K G d v) : v = u := by
  cases d <;> simp [D.fl] at h <;> (subst h; exact r)
theorem D.fl_flat {d : D} {u : V} (h : d.fl = some u) : flatV u = true := by cases d <;> simp [D.fl] at h <;> (subst h; rfl)
theorem fls_reps : ∀ {ds : List Val} {us vs : List V}, fls ds = some us → ValsR I K G ρ ds vs → vs = us ∧ us.all flatV = true
  | [], us, vs, h, r => by simp [fls] at h; subst h; exact ⟨r, rfl⟩
  | .fz d :: t, us, vs, h, ⟨v, x, h1, h2, h3⟩ => by
    simp only [fls] at h
    split at h
    · rename_i u us' h4 h5
      cases h
      obtain ⟨i1, i2⟩ := fls_reps h5 h3
      exact ⟨by rw [h1, i1, D.fl_rep h4 h2], by rw [List.all_cons, D.fl_flat h4, i2]; rfl⟩
    · cases h
  | .cel k :: t, us, vs, h, r => by simp [fls] at h
theorem hits_of (sb : Sub G H) {G2 : Hp} (sb2 : Sub G2 H) {ls : List (Key × V)} {es : List D} (re : Reps I K G2 es (ls.map (·.2))) (ce : ∀ e ∈ es, cmpB e = true) : ∀ {ks : List (Key × V)} {ds : List D}, Reps I K G ds (ks.map (·.2)) → (∀ d ∈ ds, cmpB d = true) → Hits K H ls ks (dhits (ls.map (·.1)) es (ks.map (·.1)) ds)
  | [], ds, h, _ => by
    have : ds = [] := by have := h.length; simp at this; exact List.length_eq_zero_iff.mp this.symm
    subst this
    exact .nil
  | (k, v) :: ks, [], h, _ => by cases h
  | (k, v) :: ks, d :: ds, ⟨v', t, e, h1, h2⟩, cd => by
    cases e
    simp only [List.map_cons, dhits]
    have hv := Reps.vals (ρ := []) re
    obtain ⟨i1, i2⟩ := dget_reps (k := k) hv
    have hmap : dget (ls.map (·.1)) (es.map Val.fz) k = (dget (ls.map (·.1)) es k).map Val.fz := by
      clear i1 i2 hv h1 h2 re ce
      generalize ls.map (·.1) = ks'
      induction ks' generalizing es with
      | nil => cases es <;> rfl
      | cons k' r ih =>
        cases es with
        | nil => rfl
        | cons e es =>
          simp only [List.map_cons, dget]
          split
          · rfl
          · exact ih
    cases g : dget (ls.map (·.1)) es k with
    | none =>
      rw [g] at hmap
      exact .miss (i2 hmap)
    | some e =>
      rw [g] at hmap
      obtain ⟨u, hu, ru⟩ := i1 _ hmap
      have me : e ∈ es := by
        clear i1 i2 hv h1 h2 re ce hmap hu ru
        revert g
        generalize ls.map (·.1) = ks'
        induction ks' generalizing es with
        | nil => intro g; simp [dget] at g
        | cons k' r ih =>
          intro g
          cases es with
          | nil => simp [dget] at g
          | cons e' es =>
            simp only [dget] at g
            split at g
            · cases g; exact List.mem_cons_self
            · exact List.mem_cons_of_mem _ (ih g)
      have c1 := cd d List.mem_cons_self
      have c2 := ce e me
      unfold cmpB at c1 c2
      rw [Bool.and_eq_true] at c1 c2
      have hr := hits_of sb sb2 re ce h2 fun x hx => cd x (List.mem_cons_of_mem _ hx)
      have := Hits.hit hu (Rep.dp sb d v c1.1 h1) (Rep.dp sb2 e u c2.1 ru) c1.2 c2.2 hr
      have e3 : (if eqD d e = true then dhits (ls.map (·.1)) es (ks.map (·.1)) ds else false) = (PyData.eqv d.pd e.pd && dhits (ls.map (·.1)) es (ks.map (·.1)) ds) := by
        unfold eqD
        cases PyData.eqv d.pd e.pd <;> rfl
      show Hits K H ls ((k, v) :: ks) (if eqD d e = true then dhits (ls.map (·.1)) es (ks.map (·.1)) ds else false)
      rw [e3]
      exact this
end
section
variable {I : Ci} {X : Cx} {n : Nat} {F : Fx} {W : WX} {σ : St} {G G0 : Hp} {ρ ρ0 : List Addr} {H H0 : Hp} {μ : Mu} {Q : Bool → Hp → Prop} {x y : Res} {vx vy : V}
/-- an own method that answers a truth -/
theorem own_bl {g : List Val → Mu → Out Res} {ws : List Val} {vs : List V} {neg : Bool} (p : Po I X.K W σ G ρ H ((lend g ws μ).calm.bind fun r μ1 => match r with | .fz (.bl b) => .ok (ng neg b) μ1 | _ => .no) (QB Q)) (w : Wd I X.K G ρ μ H) (r : ValsR I X.K G ρ ws vs) :
    spF I X.K g vs H (fun v H' => ∃ b, v = .bl b ∧ QBv Q (.bl (if neg then !b else b)) H') (fun _ _ _ => False) := by
  refine lend_ok (W := fun _ _ _ _ => False) (σ := []) (H0 := H) (G0 := G) (ρ0 := ρ) ?_ Aft.refl w r
  revert p
  cases lend g ws μ with
  | ok r μ' =>
    intro p G' ρ' H' a' w' v rr nn
    dsimp only [Out.calm, Out.bind] at p
    split at p
    · rename_i b
      exact ⟨b, rr, _, rfl, p G' ρ' H' a' w'⟩
    · exact p.elim
  | ex z μ' => intro p; exact p.elim
  | no => intro p; exact p.elim
theorem calm_ne {α : Type} {g : List Val → Mu → Out Res} {ws : List Val} {f : Res → Mu → Out α} {S : α → Mu → Hp → List Addr → Hp → Prop} (p : Po I X.K W σ G ρ H ((lend g ws μ).calm.bind f) S) : ∃ as μ', g as μ' ≠ .no :=
  lend_ne (f := fun o => o.calm.bind f) rfl p
theorem Rep.oddv {o : D} {v : V} {n : Bool} (s : Sub G H) (r : Rep I X.K G o v) (h : o.odd n = true) : OddW H n v := by
  cases o with
  | non => rw [show v = _ from r]; exact .non
  | str z =>
    cases n with
    | false => rw [show v = _ from r]; exact .str z
    | true => cases h
  | lst ds =>
    cases n with
    | false =>
      obtain ⟨a, vs, e, h1, _⟩ := r
      rw [e]
      exact .lst (s.lst h1)
    | true => cases h
  | tup ds =>
    obtain ⟨a, vs, e, h1, _⟩ := r
    rw [e]
    exact .tup (s.tup h1)
  | dct ks ds =>
    obtain ⟨a, kvs, e, h1, _⟩ := r
    rw [e]
    exact .dct (s.dK h1)
  | _ => cases h
theorem D.odd_f {o : D} {n : Bool} (h : o.odd n = true) : o.odd false = true := by
  cases n with
  | false => exact h
  | true => cases o <;> first | rfl | cases h
/-- both decline -/
theorem ap_ok (L : Lk X.prog X.w X.K X.mg X.base I n F) {neg : Bool} {c c' : Nat} {ds ds' : List D} (hc : apart F c c' = true) (p : Q neg = Q neg) (w : Wd I X.K G ρ μ H) (rx : Rep I X.K G (.ins c ds) vx) (ry : Rep I X.K G (.ins c' ds') vy)
    (q : ∀ G' H', Aft G ρ H G' ρ H' → Wd I X.K G' ρ μ H' → QBv Q (.bl neg) H') : rOO X.K (I.ca c) (I.ca c') (spNI I X.K F.sub c) (spNI I X.K F.sub c') (fun _ _ _ => False) neg vx vy H (QBv Q) := by
  unfold apart at hc
  simp only [Bool.and_eq_true, decide_eq_true_eq] at hc
  obtain ⟨h1, h2, h3, h4⟩ := hc
  obtain ⟨a, dx, fs, e1, g1, _⟩ := id rx
  obtain ⟨b, dy, gs, e2, g2, _⟩ := id ry
  subst e1 e2
  refine ⟨a, b, dx, fs, dy, gs, rfl, rfl, w.sub.ins g1, w.sub.ins g2, G, ρ, μ, ds, .ins c' ds', w, ⟨_, _, rfl, rx, _, _, rfl, ry, rfl⟩, .inr ⟨_, _, rfl, h3⟩, fun G' H' a' w' => ⟨w'.sub.ins (a'.ex _ _ g1), w'.sub.ins (a'.ex _ _ g2),
    G', ρ, μ, ds', .ins c ds, w', ⟨_, _, rfl, Rep.mono a'.ex _ _ ry, _, _, rfl, Rep.mono a'.ex _ _ rx, rfl⟩, .inr ⟨_, _, rfl, h4⟩, fun G2 H2 a2 w2 => ⟨w2.sub.ins (a2.ex _ _ (a'.ex _ _ g1)), w2.sub.ins (a2.ex _ _ (a'.ex _ _ g2)), q G2 H2 (a'.trans a2) w2⟩⟩⟩
theorem ap_ni {c c' : Nat} (h : apart F c c' = true) : F.ni c = true ∧ F.ni c' = true ∧ F.sub c' c = some false := by
  unfold apart at h
  simp only [Bool.and_eq_true, decide_eq_true_eq] at h
  exact ⟨h.1, h.2.1, h.2.2.1⟩
theorem eq_ok (L : Lk X.prog X.w X.K X.mg X.base I n F) (hr : Room (2 * n + 1) X.A) (p : Po I X.K W σ G ρ H (eqR F false x y μ) (QB Q)) (w : Wd I X.K G ρ μ H) (rx : ResR I X.K G ρ H x vx) (ry : ResR I X.K G ρ H y vy) : rAny X (compareOp .Eq) vx vy H (QBv Q) := by
  have hu : X.A.units + 65 < cLine := by have := hr.un; omega
  unfold eqR at p
  split at p
  · rename_i c ds c' ds'
    split at p
    · rename_i hc
      obtain ⟨rfl, hk⟩ := hc
      obtain ⟨⟨f, fd, ps, Ff, M, B⟩, ck, _⟩ := L.mt c 1 hk
      rw [L.n1] at M
      obtain ⟨a, dx, fs, e1, h1, _⟩ := id rx
      obtain ⟨b, dy, gs, e2, h2, _⟩ := id ry
      have sp := own_bl (vs := [vx, vy]) p w ⟨_, _, rfl, rx, _, _, rfl, ry, rfl⟩
      subst e1 e2
      exact OpR.any (op_eqOwn Ff (hr.mono (by omega)) M B passF) ⟨a, b, dx, fs, dy, gs, rfl, rfl, w.sub.ins h1, w.sub.ins h2, sp⟩
    · split at p
      · rename_i hap
        obtain ⟨n1, n2, n3⟩ := ap_ni hap
        obtain ⟨f, fd, ps, Ff, M, B⟩ := (L.ni c n1).fn
        obtain ⟨f', fd', ps', Ff', M', B'⟩ := (L.ni c' n2).fn
        have so := (L.sub _ _ _ n3).2.2
        exact OpR.any (op_eqOO Ff Ff' (hr.mono (by omega)) M M' B B' so.ne so.sub) (ap_ok L hap rfl w rx ry fun G' H' a' w' => ⟨false, rfl, p G' ρ H' a' w'⟩)
      · exact p.elim
  · rename_i c ds o _
    split at p
    · rename_i hc
      rw [Bool.and_eq_true] at hc
      obtain ⟨f, fd, ps, Ff, M, B⟩ := (L.ni c hc.1).fn
      obtain ⟨a, dx, fs, e1, h1, _⟩ := id rx
      subst e1
      exact OpR.any (op_eqNIw (E := fun _ _ _ => False) Ff (hr.mono (by omega)) M (L.ni c hc.1).dcl B) ⟨a, dx, fs, rfl, w.sub.ins h1, Rep.oddv w.sub ry hc.2, G, ρ, μ, ds, o, w, ⟨_, _, rfl, rx, _, _, rfl, ry, rfl⟩, .inl hc.2, fun G' H' a' w' =>
        ⟨w'.sub.ins (a'.ex _ _ h1), Rep.oddv w'.sub (Rep.mono a'.ex _ _ ry) hc.2, false, rfl, p G' ρ H' a' w'⟩⟩
    · exact p.elim
  · split at p
    · rename_i ks ds ls es h1 h2
      split at p
      · rename_i hc
        rw [Bool.and_eq_true, Bool.and_eq_true] at hc
        obtain ⟨G1, s1, a, kvs, e1, g1, k1, r1⟩ := rx.data w h1
        obtain ⟨G2, s2, b, lvs, e2, g2, k2, r2⟩ := ry.data w h2
        subst k1 k2
        refine OpR.any (op_eqDK hu) ⟨a, b, kvs, lvs, _, e1, e2, s1.dK g1, s2.dK g2, hits_of s1 s2 r2 (List.all_eq_true.mp hc.1.2) r1 (List.all_eq_true.mp hc.1.1), _, rfl, ?_⟩
        have := p.bl w
        simpa using this
      · exact p.elim
    · rename_i d e _ h1 h2
      split at p
      · rename_i hc
        rw [Bool.and_eq_true] at hc
        obtain ⟨G1, s1, r1⟩ := rx.data w h1
        obtain ⟨G2, s2, r2⟩ := ry.data w h2
        have c1 := hc.1; have c2 := hc.2
        unfold cmpB at c1 c2
        rw [Bool.and_eq_true] at c1 c2
        exact OpR.any (op_eqD (by omega)) ⟨_, _, Rep.dp s1 d vx c1.1 r1, Rep.dp s2 e vy c2.1 r2, c1.2, c2.2, _, rfl, p.bl w⟩
      · exact p.elim
    · exact p.elim
theorem ne_ok (L : Lk X.prog X.w X.K X.mg X.base I n F) (hr : Room (2 * n + 1) X.A) (p : Po I X.K W σ G ρ H (eqR F true x y μ) (QB Q)) (w : Wd I X.K G ρ μ H) (rx : ResR I X.K G ρ H x vx) (ry : ResR I X.K G ρ H y vy) : rAny X (compareOp .NotEq) vx vy H (QBv Q) := by
  have hu : X.A.units + 65 < cLine := by have := hr.un; omega
  unfold eqR at p
  split at p
  · rename_i c ds c' ds'
    split at p
    · rename_i hc
      obtain ⟨rfl, hk⟩ := hc
      obtain ⟨⟨f, fd, ps, Ff, M, B⟩, ck, _⟩ := L.mt c 1 hk
      rw [L.n1] at M
      obtain ⟨a, dx, fs, e1, h1, _⟩ := id rx
      obtain ⟨b, dy, gs, e2, h2, _⟩ := id ry
      have sp := own_bl (vs := [vx, vy]) p w ⟨_, _, rfl, rx, _, _, rfl, ry, rfl⟩
      subst e1 e2
      exact OpR.any (op_neOwn Ff hr M ck.isi.ne ck.isi.obj B passF) ⟨a, b, dx, fs, dy, gs, rfl, rfl, w.sub.ins h1, w.sub.ins h2, sp⟩
    · split at p
      · rename_i hap
        obtain ⟨n1, n2, n3⟩ := ap_ni hap
        obtain ⟨f, fd, ps, Ff, M, B⟩ := (L.ni c n1).fn
        obtain ⟨f', fd', ps', Ff', M', B'⟩ := (L.ni c' n2).fn
        have so := (L.sub _ _ _ n3).2.2
        exact OpR.any (op_neOO Ff Ff' hr M M' (L.ni c n1).dcl (L.ni c' n2).dcl B B' so.ne so.sub) (ap_ok L hap rfl w rx ry fun G' H' a' w' => ⟨true, rfl, p G' ρ H' a' w'⟩)
      · exact p.elim
  · rename_i c ds o _
    split at p
    · rename_i hc
      rw [Bool.and_eq_true] at hc
      obtain ⟨f, fd, ps, Ff, M, B⟩ := (L.ni c hc.1).fn
      obtain ⟨a, dx, fs, e1, h1, _⟩ := id rx
      subst e1
      exact OpR.any (op_neNIw (E := fun _ _ _ => False) Ff hr M (L.ni c hc.1).dcl B) ⟨a, dx, fs, rfl, w.sub.ins h1, Rep.oddv w.sub ry hc.2, G, ρ, μ, ds, o, w, ⟨_, _, rfl, rx, _, _, rfl, ry, rfl⟩, .inl (D.odd_f hc.2), fun G' H' a' w' =>
        ⟨w'.sub.ins (a'.ex _ _ h1), Rep.oddv w'.sub (Rep.mono a'.ex _ _ ry) hc.2, true, rfl, p G' ρ H' a' w'⟩⟩
    · exact p.elim
  · split at p
    · split at p
      · rename_i hc; simp at hc
      · exact p.elim
    · rename_i d e _ h1 h2
      split at p
      · rename_i hc
        rw [Bool.and_eq_true] at hc
        obtain ⟨G1, s1, r1⟩ := rx.data w h1
        obtain ⟨G2, s2, r2⟩ := ry.data w h2
        have c1 := hc.1; have c2 := hc.2
        unfold cmpB at c1 c2
        rw [Bool.and_eq_true] at c1 c2
        exact OpR.any (op_neD (by omega)) ⟨_, _, Rep.dp s1 d vx c1.1 r1, Rep.dp s2 e vy c2.1 r2, c1.2, c2.2, _, rfl, p.bl w⟩
      · exact p.elim
    · exact p.elim
def rDIn (neg : Bool) : R2 := fun x y H Q => ∃ a o, y = .ref a ∧ DGet H a x o ∧ Q (.bl (ng neg o.isSome)) H
theorem op_dIn {X : Cx} (hu : X.A.units + 1 < cLine) : OpR X (compareOp .In) (rDIn false) := fun pins s σ H x y v u Q I rx ry ⟨a, o, e, g, q⟩ => by
  subst e
  obtain rfl : u = Value.ref a := ry
  exact d_in hu I g rx fun s3 I3 => ⟨.bl o.isSome, H, I3, rfl, q⟩
theorem op_dNotIn {X : Cx} (hu : X.A.units + 1 < cLine) : OpR X (compareOp .NotIn) (rDIn true) := fun pins s σ H x y v u Q I rx ry ⟨a, o, e, g, q⟩ => by
  subst e
  obtain rfl : u = Value.ref a := ry
  exact d_notIn hu I g rx fun s3 I3 => ⟨.bl (!o.isSome), H, I3, rfl, q⟩
theorem dIn_rd {neg : Bool} {d : D} {ks : List Key} {ws : List Val} {k : Key} (h1 : dctV μ y = some (ks, ws)) (h2 : d.key = some k) (w : Wd I X.K G ρ μ H) (rx : Rep I X.K G d vx) (ry : ResR I X.K G ρ H y vy) (q : Q (ng neg (hasK ks k)) H) : rDIn neg vx vy H (QBv Q) := by
  obtain ⟨a, kvs, e, hr, hk, hv⟩ := ry.dct w h1
  subst hk
  refine ⟨a, valV kvs k, e, .inl ⟨kvs, k, hr, Rep.key rx h2, rfl⟩, _, rfl, ?_⟩
  rw [hasK_val]; exact q
theorem in_ok (L : Lk X.prog X.w X.K X.mg X.base I n F) (hr : Room (2 * n + 1) X.A) (p : Po I X.K W σ G ρ H (inR F false x y μ) (QB Q)) (w : Wd I X.K G ρ μ H) (rx : ResR I X.K G ρ H x vx) (ry : ResR I X.K G ρ H y vy) : rAny X (compareOp .In) vx vy H (QBv Q) := by
  have hu : X.A.units + 65 < cLine := by have := hr.un; omega
  unfold inR at p
  split at p
  · rename_i d c ds
    split at p
    case isFalse => exact p.elim
    rename_i hk
    obtain ⟨⟨f, fd, ps, Ff, M, B⟩, ck, _⟩ := L.mt c 2 hk
    rw [L.n2] at M
    obtain ⟨b, dy, gs, e2, h2, _⟩ := id ry
    have sp := own_bl (vs := [vy, vx]) p w ⟨_, _, rfl, ry, _, _, rfl, rx, rfl⟩
    subst e2
    exact OpR.any (op_inOwn Ff (hr.mono (by omega)) M B passF) ⟨b, dy, gs, rfl, w.sub.ins h2, sp⟩
  · rename_i a z
    split at p
    · rename_i c _ hc
      obtain rfl : a = ⟨#[c]⟩ := by
        obtain ⟨a⟩ := a
        obtain ⟨a⟩ := a
        have : a = [c] := hc
        subst this; rfl
      exact OpR.any op_in_sign ⟨c, z, rx, ry, _, rfl, p.bl w⟩
    · exact p.elim
  · split at p
    · rename_i ks ds h1
      split at p
      · rename_i k h2
        exact OpR.any (op_dIn (by omega)) (dIn_rd h1 h2 w rx ry (p.bl w))
      · exact p.elim
    · split at p
      · rename_i u us h1 h2
        obtain ⟨ws, h3, h4⟩ := Option.bind_eq_some_iff.mp h2
        obtain ⟨a, vs, e, hs, hv⟩ := ry.seq w h3
        obtain ⟨e1, e2⟩ := fls_reps h4 (hv.nm w)
        subst e1
        have ex := D.fl_rep h1 rx
        subst ex
        exact OpR.any op_in_seq ⟨a, vs, e, hs, D.fl_flat h1, e2, _, rfl, p.bl w⟩
      · exact p.elim
  · exact p.elim
theorem notIn_ok (L : Lk X.prog X.w X.K X.mg X.base I n F) (hr : Room (2 * n + 1) X.A) (p : Po I X.K W σ G ρ H (inR F true x y μ) (QB Q)) (w : Wd I X.K G ρ μ H) (rx : ResR I X.K G ρ H x vx) (ry : ResR I X.K G ρ H y vy) : rAny X (compareOp .NotIn) vx vy H (QBv Q) := by
  have hu : X.A.units + 65 < cLine := by have := hr.un; omega
  unfold inR at p
  split at p
  · rename_i d c ds
    split at p
    case isFalse => exact p.elim
    rename_i hk
    obtain ⟨⟨f, fd, ps, Ff, M, B⟩, ck, _⟩ := L.mt c 2 hk
    rw [L.n2] at M
    obtain ⟨b, dy, gs, e2, h2, _⟩ := id ry
    have sp := own_bl (vs := [vy, vx]) p w ⟨_, _, rfl, ry, _, _, rfl, rx, rfl⟩
    subst e2
    exact OpR.any (op_notInOwn Ff (hr.mono (by omega)) M B passF) ⟨b, dy, gs, rfl, w.sub.ins h2, sp⟩
  · split at p
    · rename_i hx _; cases hx
    · exact p.elim
  · split at p
    · rename_i ks ds h1
      split at p
      · rename_i k h2
        exact OpR.any (op_dNotIn (by omega)) (dIn_rd h1 h2 w rx ry (p.bl w))
      · exact p.elim
    · split at p
      · rename_i u us h1 h2
        obtain ⟨ws, h3, h4⟩ := Option.bind_eq_some_iff.mp h2
        obtain ⟨a, vs, e, hs, hv⟩ := ry.seq w h3
        obtain ⟨e1, e2⟩ := fls_reps h4 (hv.nm w)
        subst e1
        have ex := D.fl_rep h1 rx
        subst ex
        exact OpR.any op_notIn_seq ⟨a, vs, e, hs, D.fl_flat h1, e2, _, rfl, p.bl w⟩
      · exact p.elim
  · exact p.elim
theorem Rep.isNon {d : D} {v : V} (r : Rep I X.K G d v) : decide (v = .non) = d.isNon := by
  cases d with
  | non => rw [show v = _ from r]; rfl
  | bl b => rw [show v = _ from r]; rfl
  | int i => rw [show v = _ from r]; rfl
  | str i => rw [show v = _ from r]; rfl
  | cls i => rw [show v = _ from r]; rfl
  | ty i => rw [show v = _ from r]; rfl
  | tup ds => obtain ⟨a, _, e, _⟩ := r; rw [e]; rfl
  | rot ds => obtain ⟨a, _, e, _⟩ := r; rw [e]; rfl
  | lst ds => obtain ⟨a, _, e, _⟩ := r; rw [e]; rfl
  | rol ds => obtain ⟨a, _, e, _⟩ := r; rw [e]; rfl
  | dct ks ds => obtain ⟨a, _, e, _⟩ := r; rw [e]; rfl
  | ins c ds => obtain ⟨a, _, _, e, _⟩ := r; rw [e]; rfl
theorem cmp_ok (L : Lk X.prog X.w X.K X.mg X.base I n F) (hr : Room (2 * n + 1) X.A) {op : CmpOp} (p : Po I X.K W σ G ρ H (cmpR F op x y μ) (QB Q)) (w : Wd I X.K G ρ μ H) (rx : ResR I X.K G ρ H x vx) (ry : ResR I X.K G ρ H y vy) : rAny X (compareOp op) vx vy H (QBv Q) := by
  cases op <;> simp only [cmpR] at p
  case Eq => exact eq_ok L hr p w rx ry
  case NotEq => exact ne_ok L hr p w rx ry
  case In => exact in_ok L hr p w rx ry
  case NotIn => exact notIn_ok L hr p w rx ry
  case Is =>
    split at p
    · rename_i d; exact OpR.any op_isN ⟨ry, _, rfl, by rw [Rep.isNon rx]; exact p.bl w⟩
    · exact p.elim
  case IsNot =>
    split at p
    · rename_i d; exact OpR.any op_notN ⟨ry, _, rfl, by rw [Rep.isNon rx]; exact p.bl w⟩
    · exact p.elim
  case Lt =>
    split at p
    · exact OpR.any op_lt ⟨_, _, rx, ry, _, rfl, p.bl w⟩
    · exact p.elim
  case LtE =>
    split at p
    · exact OpR.any op_le ⟨_, _, rx, ry, _, rfl, p.bl w⟩
    · exact p.elim
  case Gt =>
    split at p
    · exact OpR.any op_gt ⟨_, _, rx, ry, _, rfl, p.bl w⟩
    · exact p.elim
  case GtE =>
    split at p
    · exact OpR.any op_ge ⟨_, _, rx, ry, _, rfl, p.bl w⟩
    · exact p.elim
end
end EW
set_option maxRecDepth 100000
set_option maxHeartbeats 2000000
namespace EW
open PySem L2
def rcAny (X : Cx) (f : Value) : List V → Hp → VK → Prop := fun xs H Q => ∀ (pins : List (Addr × Obj)) (s : Shared) (σ : St) (us : List Value), Inv X pins σ H s → Vals xs us → wpAny (model X.prog X.w) X.A (call f us) (EP X pins σ Q) X.xe s
theorem crAny {X : Cx} {f : Value} : CallR X f (rcAny X f) := fun pins s σ H xs us Q I r h => h pins s σ us I r
theorem CallR.any {X : Cx} {f : Value} {r : List V → Hp → VK → Prop} {xs : List V} {H : Hp} {Q : VK} (hc : CallR X f r) (h : r xs H Q) : rcAny X f xs H Q := fun pins s σ us I hv => hc pins s σ H xs us Q I hv h
section
variable {I : Ci} {K : PySem.W.Frag} {G H : Hp} {ρ : List Addr} {μ : Mu}
theorem ValsR.v1 {w : Val} {vs : List V} (h : ValsR I K G ρ [w] vs) : ∃ v, vs = [v] ∧ ValR I K G ρ w v := by
  obtain ⟨v, r, h1, h2, h3⟩ := h
  rw [show r = [] from h3] at h1
  exact ⟨v, h1, h2⟩
theorem ValsR.v2 {w u : Val} {vs : List V} (h : ValsR I K G ρ [w, u] vs) : ∃ v x, vs = [v, x] ∧ ValR I K G ρ w v ∧ ValR I K G ρ u x := by
  obtain ⟨v, r, h1, h2, h3⟩ := h
  obtain ⟨x, e, h4⟩ := h3.v1
  rw [e] at h1
  exact ⟨v, x, h1, h2, h4⟩
theorem Rep.tyx {d : D} {v : V} {n : String} (s : Sub G H) (r : Rep I K G d v) (h : d.tyn = some n) : TyX K H v (.type n) := by
  cases d with
  | non => cases h; rw [show v = _ from r]; exact .base (.non)
  | bl b => cases h; rw [show v = _ from r]; exact .base (.bl b)
  | int b => cases h; rw [show v = _ from r]; exact .base (.int b)
  | str b => cases h; rw [show v = _ from r]; exact .base (.str b)
  | cls u => cases h
  | ty u => cases h
  | tup ds => cases h; obtain ⟨a, vs, e, h1, _⟩ := r; rw [e]; exact .base (.tup (s.tup h1))
  | lst ds => cases h; obtain ⟨a, vs, e, h1, _⟩ := r; rw [e]; exact .base (.lst (s.lst h1))
  | rol ds => cases h
  | rot ds => cases h
  | dct ks ds =>
    cases h
    obtain ⟨a, kvs, e, h1, _⟩ := r
    rw [e]
    rcases s.dK h1 with z | ⟨ob, z⟩
    · exact .base (.dK z)
    · exact .fDict z
  | ins c ds => cases h
theorem RepO.tyx {o : O} {h : HO} {a : Addr} {n : String} (r : RepO I K G ρ o h) (hh : H a = some h) (e : o.tyn = some n) : TyX K H (.ref a) (.type n) := by
  cases o with
  | lst ws => cases e; obtain ⟨vs, h1, _⟩ := r; subst h1; exact .base (.lst hh)
  | tup ws => cases e; obtain ⟨vs, h1, _⟩ := r; subst h1; exact .base (.tup hh)
  | dct ks ws => cases e; obtain ⟨vs, h1, _⟩ := r; subst h1; exact .base (.dK hh)
  | ins c ws => cases e
  | ice d => cases e
theorem O.tyn_ni {o : O} {n : String} (e : o.tyn = some n) : ∀ d', o ≠ .ice d' := fun d' z => by subst z; cases e
theorem ResR.tyx {r : Res} {v : V} {n : String} (w : Wd I K G ρ μ H) (h : ResR I K G ρ H r v) (e : r.tyn μ = some n) : TyX K H v (.type n) := by
  cases r with
  | fz d => exact Rep.tyx w.sub h e
  | nw o =>
    obtain ⟨a, x, h1, h2, h3, h4, h5, _⟩ := h
    rw [h1]
    exact h5.tyx h4 e
  | cel k =>
    obtain ⟨a, h1, h2⟩ := h
    simp only [Res.tyn] at e
    split at e
    · rename_i o q
      obtain ⟨x, h3, g, h5⟩ := w.cel h1 q (O.tyn_ni e)
      rw [h2]
      exact h5.tyx h3 e
    · cases e
def tyKnown : List String := ["NoneType", "bool", "int", "str", "tuple", "list", "dict"]
theorem D.tyk {d : D} {n : String} (h : d.tyn = some n) : n ∈ tyKnown := by
  cases d <;> simp [D.tyn] at h <;> subst h <;> simp [tyKnown]
theorem O.tyk {d : O} {n : String} (h : d.tyn = some n) : n ∈ tyKnown := by
  cases d <;> simp [O.tyn] at h <;> subst h <;> simp [tyKnown]
theorem Res.tyk {r : Res} {n : String} (h : r.tyn μ = some n) : n ∈ tyKnown := by
  cases r with
  | fz d => exact D.tyk h
  | nw o => exact O.tyk h
  | cel k =>
    simp only [Res.tyn] at h
    split at h
    · exact O.tyk h
    · cases h
theorem tyIs_ok {n c : String} (h1 : n ∈ tyKnown) (h2 : tyOk c = true) : kitB n c = some (tyIs n c) := by
  simp only [tyOk, Bool.or_eq_true, beq_iff_eq] at h2
  simp only [tyKnown, List.mem_cons, List.not_mem_nil, or_false] at h1
  rcases h2 with ((((rfl | rfl) | rfl) | rfl) | rfl) | rfl <;> rcases h1 with rfl | rfl | rfl | rfl | rfl | rfl | rfl <;> decide +kernel
theorem kitAny_ok {n : String} (h1 : n ∈ tyKnown) : ∀ {cs : List D} {ns : List String}, tyNames cs = some ns → cs = ns.map D.ty ∧ PySem.W.kitAny K (.type n) (ns.map Value.type) = some (ns.any (tyIs n))
  | [], ns, h => by simp [tyNames] at h; subst h; exact ⟨rfl, rfl⟩
  | d :: r, ns, h => by
    cases d with
    | ty c =>
      simp only [tyNames] at h
      split at h
      · rename_i hc
        cases hr : tyNames r with
        | none => rw [hr] at h; cases h
        | some ms =>
          rw [hr] at h; cases h
          obtain ⟨e1, e2⟩ := kitAny_ok h1 hr
          refine ⟨by rw [e1]; rfl, ?_⟩
          have := kit_ty (K := K) (tyIs_ok h1 hc)
          rw [List.map_cons, List.any_cons]
          unfold PySem.W.kitAny
          rw [this]
          cases tyIs n c with
          | true => rfl
          | false => exact e2
      · cases h
    | _ => simp [tyNames] at h
theorem tys_reps : ∀ {cs : List String} {vs : List V}, Reps I K G (cs.map D.ty) vs → vs = cs.map V.ty
  | [], vs, h => h
  | c :: cs, vs, ⟨v, r, h1, h2, h3⟩ => by rw [h1, show v = _ from h2, tys_reps h3]; rfl
theorem tys_cls : ∀ (cs : List String), Paired ClsV (cs.map V.ty) (cs.map Value.type)
  | [] => .nil
  | c :: cs => .cons (.ty c) (tys_cls cs)
theorem blOf_ok : ∀ {ds : List Val} {bs : List Bool} {vs : List V}, blOf ds = some bs → ValsR I K G ρ ds vs → vs = bs.map V.bl
  | [], bs, vs, h, r => by simp [blOf] at h; subst h; exact r
  | .fz (.bl b) :: t, bs, vs, h, ⟨v, x, h1, h2, h3⟩ => by
    simp only [blOf] at h
    cases hr : blOf t with
    | none => rw [hr] at h; cases h
    | some u => rw [hr] at h; cases h; rw [h1, blOf_ok hr h3, show v = _ from h2]; rfl
  | .cel _ :: _, _, _, h, _ | .fz .non :: _, _, _, h, _ | .fz (.int _) :: _, _, _, h, _ | .fz (.str _) :: _, _, _, h, _ | .fz (.cls _) :: _, _, _, h, _ | .fz (.ty _) :: _, _, _, h, _ | .fz (.tup _) :: _, _, _, h, _ | .fz (.lst _) :: _, _, _, h, _ | .fz (.rol _) :: _, _, _, h, _ | .fz (.rot _) :: _, _, _, h, _ | .fz (.dct _ _) :: _, _, _, h, _ | .fz (.ins _ _) :: _, _, _, h, _ => by simp [blOf] at h
theorem intsOf_ok : ∀ {ds : List Val} {bs : List Int} {vs : List V}, intsOf ds = some bs → ValsR I K G ρ ds vs → vs = bs.map V.int
  | [], bs, vs, h, r => by simp [intsOf] at h; subst h; exact r
  | .fz (.int b) :: t, bs, vs, h, ⟨v, x, h1, h2, h3⟩ => by
    simp only [intsOf] at h
    cases hr : intsOf t with
    | none => rw [hr] at h; cases h
    | some u => rw [hr] at h; cases h; rw [h1, intsOf_ok hr h3, show v = _ from h2]; rfl
  | .cel _ :: _, _, _, h, _ | .fz .non :: _, _, _, h, _ | .fz (.bl _) :: _, _, _, h, _ | .fz (.str _) :: _, _, _, h, _ | .fz (.cls _) :: _, _, _, h, _ | .fz (.ty _) :: _, _, _, h, _ | .fz (.tup _) :: _, _, _, h, _ | .fz (.lst _) :: _, _, _, h, _ | .fz (.rol _) :: _, _, _, h, _ | .fz (.rot _) :: _, _, _, h, _ | .fz (.dct _ _) :: _, _, _, h, _ | .fz (.ins _ _) :: _, _, _, h, _ => by simp [intsOf] at h
theorem strsOf_ok : ∀ {ds : List Val} {bs : List Str} {vs : List V}, strsOf ds = some bs → ValsR I K G ρ ds vs → vs = bs.map V.str
  | [], bs, vs, h, r => by simp [strsOf] at h; subst h; exact r
  | .fz (.str b) :: t, bs, vs, h, ⟨v, x, h1, h2, h3⟩ => by
    simp only [strsOf] at h
    cases hr : strsOf t with
    | none => rw [hr] at h; cases h
    | some u => rw [hr] at h; cases h; rw [h1, strsOf_ok hr h3, show v = _ from h2]; rfl
  | .cel _ :: _, _, _, h, _ | .fz .non :: _, _, _, h, _ | .fz (.bl _) :: _, _, _, h, _ | .fz (.int _) :: _, _, _, h, _ | .fz (.cls _) :: _, _, _, h, _ | .fz (.ty _) :: _, _, _, h, _ | .fz (.tup _) :: _, _, _, h, _ | .fz (.lst _) :: _, _, _, h, _ | .fz (.rol _) :: _, _, _, h, _ | .fz (.rot _) :: _, _, _, h, _ | .fz (.dct _ _) :: _, _, _, h, _ | .fz (.ins _ _) :: _, _, _, h, _ => by simp [strsOf] at h
theorem key_kD {d : D} {k : Key} (h : d.key = some k) : d = kD k := by
  cases d <;> simp [D.key] at h <;> subst h <;> rfl
theorem kD_vals : ∀ (ks : List Key), ValsR I K G ρ (ks.map fun k => .fz (kD k)) (ks.map kV)
  | [] => rfl
  | .inl i :: ks => ⟨_, _, rfl, rfl, kD_vals ks⟩
  | .inr x :: ks => ⟨_, _, rfl, rfl, kD_vals ks⟩
theorem kD_rep {k : Key} {v : V} (r : Rep I K G (kD k) v) : v = kV k := by
  cases k <;> exact r
theorem keysPs_ok (s : Sub G H) : ∀ {ds : List Val} {ps : List (Key × D)} {vs : List V}, keysPs ds = some ps → ValsR I K G ρ ds vs → ∃ (as : List Addr) (kvs : List (Key × V)), vs = as.map V.ref ∧ Paired (fun p kv => SqT K H p [kV kv.1, kv.2]) as kvs ∧ kvs.map (·.1) = ps.map (·.1) ∧ ValsR I K G ρ (ps.map fun p => .fz p.2) (kvs.map (·.2))
  | [], ps, vs, h, r => by simp [keysPs] at h; subst h; exact ⟨[], [], r, .nil, rfl, rfl⟩
  | d :: t, ps, vs, h, ⟨v, x, h1, h2, h3⟩ => by
    unfold keysPs at h
    split at h
    · rename_i e; cases e
    · rename_i a b r' e
      cases e
      split at h
      · rename_i k u hk hu
        cases h
        obtain ⟨as, kvs, e1, e2, e3, e4⟩ := keysPs_ok s hu h3
        obtain ⟨p, ws, e5, h5, z1, r1, e6, q1, z2, r2, e7, q2, e8⟩ := h2
        rw [show r2 = [] from e8] at e7
        subst e7
        subst e6
        rw [key_kD hk] at q1
        rw [kD_rep q1] at h5
        exact ⟨p :: as, (k, z2) :: kvs, by rw [h1, e5, e1]; rfl, .cons (.inl (.inl (s.tup h5))) e2, by simp [e3], ⟨z2, _, rfl, q2, e4⟩⟩
      · cases h
    · cases h
end
def valOf : Bl → Value
  | .len => .builtin "len"
  | .int => .type "int"
  | .abs => .builtin "abs"
  | .list => .type "list"
  | .tuple => .type "tuple"
  | .all => .builtin "all"
  | .any => .builtin "any"
  | .dict => .type "dict"
  | .sum => .builtin "sum"
  | .min => .builtin "min"
  | .sorted => .builtin "sorted"
section
variable {I : Ci} {X : Cx} {n : Nat} {F : Fx} {W : WX} {σ : St} {G G0 : Hp} {ρ ρ0 : List Addr} {H H0 : Hp} {μ : Mu} {Q : VK} {x y : Res} {vx vy : V}
theorem own_int {g : List Val → Mu → Out Res} {ws : List Val} {vs : List V} (p : Po I X.K W σ G ρ H ((lend g ws μ).calm.bind fun r μ1 => match r with | .fz (.int n) => if 0 ≤ n ∧ n < 2 ^ 63 then .ok (.fz (.int n)) μ1 else .no | _ => .no) (QE I X.K H0 Q)) (w : Wd I X.K G ρ μ H) (r : ValsR I X.K G ρ ws vs) :
    spF I X.K g vs H (fun v H' => ∃ n : Int, v = .int n ∧ 0 ≤ n ∧ n < 2 ^ 63 ∧ Q (.int n) H') (fun _ _ _ => False) := by
  refine lend_ok (W := fun _ _ _ _ => False) (σ := []) (H0 := H) (G0 := G) (ρ0 := ρ) ?_ Aft.refl w r
  revert p
  cases lend g ws μ with
  | ok r μ' =>
    intro p G' ρ' H' a' w' v rr nn
    dsimp only [Out.calm, Out.bind] at p
    split at p
    · rename_i b
      split at p
      · rename_i hb
        exact ⟨b, rr, hb.1, hb.2, (p.step a').fz w' rfl⟩
      · exact p.elim
    · exact p.elim
  | ex z μ' => intro p; exact p.elim
  | no => intro p; exact p.elim
theorem len_ok (L : Lk X.prog X.w X.K X.mg X.base I n F) (hr : Room (2 * n + 1) X.A) (p : Po I X.K W σ G ρ H (lenR F x μ) (QE I X.K H0 Q)) (w : Wd I X.K G ρ μ H) (rx : ResR I X.K G ρ H x vx) : rcAny X (.builtin "len") [vx] H Q := by
  unfold lenR at p
  split at p
  · rename_i z
    split at p
    · rename_i hz; exact CallR.any call_len_str ⟨z, by rw [show vx = _ from rx], Nat.le_trans hz bigLine, p.fz w rfl⟩
    · exact p.elim
  · rename_i c ds
    split at p
    case isFalse => exact p.elim
    rename_i hk
    obtain ⟨⟨f, fd, ps, Ff, M, B⟩, ck, _⟩ := L.mt c 3 hk
    rw [L.n3] at M
    obtain ⟨a, dx, fs, e1, h1, _⟩ := id rx
    have sp := own_int (vs := [vx]) p w ⟨_, _, rfl, rx, rfl⟩
    subst e1
    exact CallR.any (call_lenOwn Ff hr M B passF) ⟨a, dx, fs, rfl, w.sub.ins h1, sp⟩
  · split at p
    · rename_i ks ws hd
      obtain ⟨a, kvs, e, h1, h2, h3⟩ := rx.dct w hd
      have hl : ks.length = kvs.length := by rw [← h2, List.length_map]
      rw [hl] at p
      exact CallR.any call_lenK ⟨a, kvs, by rw [e], h1, p.fz w rfl⟩
    · split at p
      · rename_i ws hd
        obtain ⟨a, vs, e, h1, h2⟩ := rx.seq w hd
        rw [← h2.length] at p
        exact CallR.any call_len_seq ⟨a, vs, by rw [e], h1, p.fz w rfl⟩
      · exact p.elim
theorem isi_ok (L : Lk X.prog X.w X.K X.mg X.base I n F) {c : D} {vc : V} (p : Po I X.K W σ G ρ H (isiR F x μ [c]) (QE I X.K H0 Q)) (w : Wd I X.K G ρ μ H) (rx : ResR I X.K G ρ H x vx) (rc : Rep I X.K G c vc) : rcAny X (.builtin "isinstance") [vx, vc] H Q := by
  unfold isiR at p
  split at p
  · rename_i e
    obtain rfl : c = _ := (List.cons.inj e).1
    split at p
    · rename_i b hb
      unfold isi1 at hb
      split at hb
      · rename_i c'
        split at hb
        · rename_i t ht
          split at hb
          · rename_i hc
            cases hb
            rw [show vc = _ from rc]
            exact CallR.any call_isi ⟨vx, _, .type t, .type c', _, rfl, .ty c', rx.tyx w ht, kit_ty (tyIs_ok (Res.tyk ht) hc), p.fz w rfl⟩
          · cases hb
        · cases hb
      · rename_i c'
        split at hb
        · rename_i hk
          have ck := (L.kc c' hk).isi
          rw [show vc = _ from rc]
          split at hb
          · rename_i c2 hc2
            split at hb
            · rename_i hc
              cases hb
              subst hc
              unfold Res.insC at hc2
              obtain ⟨⟨c3, ws⟩, h1, h2⟩ := Option.map_eq_some_iff.mp hc2
              obtain rfl : c3 = _ := h2
              obtain ⟨a, dx, fs, e1, ha, _⟩ := rx.ins w h1
              subst e1
              exact CallR.any call_isi ⟨_, _, .ref (I.ca c3), .ref (I.ca c3), true, rfl, .own _, .base (.ins ha ck.cls ck.get ck.spc ck.tak ck.obj), ck.self, p.fz w rfl⟩
            · obtain ⟨rfl, hk2, so⟩ := L.sub _ _ _ hb
              unfold Res.insC at hc2
              obtain ⟨⟨c3, ws⟩, h1, h2⟩ := Option.map_eq_some_iff.mp hc2
              obtain rfl : c3 = _ := h2
              obtain ⟨a, dx, fs, e1, ha, _⟩ := rx.ins w h1
              subst e1
              have cq := (L.kc _ hk2).isi
              exact CallR.any call_isi ⟨_, _, .ref (I.ca c3), .ref (I.ca c'), false, rfl, .own _, .base (.ins ha cq.cls cq.get cq.spc cq.tak cq.obj), so.kit, p.fz w rfl⟩
          · split at hb
            · rename_i t ht
              cases hb
              exact CallR.any call_isi ⟨_, _, .type t, .ref (I.ca c'), false, rfl, .own _, rx.tyx w ht, ck.other t (Res.tyk ht), p.fz w rfl⟩
            · cases hb
        · cases hb
      · cases hb
    · exact p.elim
  · rename_i hne
    exact (hne c rfl).elim
theorem isiT_ok {cs : List D} {vc : V} {tp : Addr} {us : List V} (p : Po I X.K W σ G ρ H (isiR F x μ cs) (QE I X.K H0 Q)) (hl : cs.length ≠ 1) (w : Wd I X.K G ρ μ H) (rx : ResR I X.K G ρ H x vx) (ht : H tp = some (.tup us)) (rc : Reps I X.K G cs us) : rcAny X (.builtin "isinstance") [vx, .ref tp] H Q := by
  unfold isiR at p
  split at p
  · simp at hl
  · split at p
    · rename_i ns t h1 h2
      obtain ⟨e1, e2⟩ := kitAny_ok (K := X.K) (Res.tyk h2) h1
      subst e1
      rw [tys_reps rc] at ht
      exact CallR.any call_isiT ⟨vx, tp, ns.map V.ty, .type t, ns.map Value.type, _, rfl, ht, tys_cls ns, rx.tyx w h2, e2, p.fz w rfl⟩
    · exact p.elim
theorem minI_le : ∀ (l : List Int) (i : Int), minI i l ≤ i ∧ (∀ x ∈ l, minI i l ≤ x) ∧ (minI i l = i ∨ minI i l ∈ l)
  | [], i => ⟨Int.le_refl _, (fun _ h => nomatch h), Or.inl rfl⟩
  | j :: js, i => by
    obtain ⟨h1, h2, h3⟩ := minI_le js (if j < i then j else i)
    have e : minI i (j :: js) = minI (if j < i then j else i) js := rfl
    rw [e]
    by_cases hj : j < i
    · rw [if_pos hj] at h1 h2 h3 ⊢
      refine ⟨by omega, fun x hx => ?_, .inr ?_⟩
      · rcases List.mem_cons.mp hx with rfl | hx
        · exact h1
        · exact h2 x hx
      · rcases h3 with h3 | h3
        · rw [h3]; exact List.mem_cons_self
        · exact List.mem_cons_of_mem _ h3
    · rw [if_neg hj] at h1 h2 h3 ⊢
      refine ⟨h1, fun x hx => ?_, ?_⟩
      · rcases List.mem_cons.mp hx with rfl | hx
        · omega
        · exact h2 x hx
      · rcases h3 with h3 | h3
        · exact .inl h3
        · exact .inr (List.mem_cons_of_mem _ h3)
theorem minI_eq {l : List Int} {i m : Int} (h1 : m ∈ i :: l) (h2 : ∀ x ∈ i :: l, m ≤ x) : m = minI i l := by
  obtain ⟨a, b, c⟩ := minI_le l i
  have q : minI i l ∈ i :: l := by
    rcases c with c | c
    · rw [c]; exact List.mem_cons_self
    · exact List.mem_cons_of_mem _ c
  have q1 := h2 _ q
  have q2 : minI i l ≤ m := by
    rcases List.mem_cons.mp h1 with rfl | h1
    · exact a
    · exact b _ h1
  omega
theorem leS_iff {a b : Str} : leS a b = true ↔ a.cps.toList ≤ b.cps.toList := by
  unfold leS
  rw [Bool.not_eq_true', decide_eq_false_iff_not]
  exact List.not_lt
theorem leS_trans (a b c : Str) (h1 : leS a b = true) (h2 : leS b c = true) : leS a c = true := leS_iff.mpr (List.le_trans (leS_iff.mp h1) (leS_iff.mp h2))
theorem leS_total (a b : Str) : (leS a b || leS b a) = true := by
  rw [Bool.or_eq_true, leS_iff, leS_iff]
  exact List.le_total _ _
theorem leS_anti {a b : Str} (h1 : leS a b = true) (h2 : leS b a = true) : a = b := by
  have e := List.le_antisymm (leS_iff.mp h1) (leS_iff.mp h2)
  cases a; cases b
  exact congrArg Str.mk (Array.toList_inj.mp e)
theorem risingS_pw : ∀ (l : List Str) (p : Str), PyProof.Rows.risingS p l = true → (p :: l).Pairwise fun a b => leS a b = true
  | [], p, _ => List.pairwise_singleton _ _
  | x :: r, p, h => by
    simp only [PyProof.Rows.risingS, Bool.and_eq_true] at h
    have h1 : leS p x = true := by
      have := h.1
      rw [PyProof.Rows.ltCps_eq] at this
      exact this
    have ih := risingS_pw r x h.2
    refine List.pairwise_cons.mpr ⟨fun y hy => ?_, ih⟩
    rcases List.mem_cons.mp hy with e | hy
    · rw [e]; exact h1
    · exact leS_trans _ _ _ h1 ((List.pairwise_cons.mp ih).1 y hy)
theorem srtS_pw (xs : List Str) : (srtS xs).Pairwise fun a b => leS a b = true := List.pairwise_mergeSort leS_trans leS_total xs
theorem srtS_perm (xs : List Str) : (srtS xs).Perm xs := List.mergeSort_perm xs leS
theorem srtS_uniq {ys xs : List Str} (p : ys.Perm xs) (s : PyProof.Rows.sortedS ys = true) : ys = srtS xs := by
  have h : ys.Pairwise fun a b => leS a b = true := by
    cases ys with
    | nil => exact .nil
    | cons x r => exact risingS_pw r x s
  exact List.Perm.eq_of_pairwise (fun a b _ _ => leS_anti) h (srtS_pw xs) (p.trans (srtS_perm xs).symm)
theorem srtS_eq {xs ys : List Str} : srtS xs = srtS ys ↔ xs.Perm ys := ⟨fun e => (srtS_perm xs).symm.trans (e ▸ srtS_perm ys), fun h => List.Perm.eq_of_pairwise (fun a b _ _ => leS_anti) (srtS_pw xs) (srtS_pw ys) ((srtS_perm xs).trans (h.trans (srtS_perm ys).symm))⟩
theorem srtV_ok {I : Ci} {K : PySem.W.Frag} {G : Hp} {ρ : List Addr} (ys : List Str) : ValsR I K G ρ (ys.map fun x => Val.fz (.str x)) (ys.map V.str) := by
  induction ys with
  | nil => rfl
  | cons y ys ih => exact ⟨_, _, rfl, rfl, ih⟩
theorem blt_ok (L : Lk X.prog X.w X.K X.mg X.base I n F) (hr : Room (2 * n + 1) X.A) (hc : X.calm = true) {b : Bl} {ws : List Val} {vs : List V} (p : Po I X.K W σ G ρ H (bltR F b ws μ) (QE I X.K H0 Q)) (A : Aft G0 ρ0 H0 G ρ H) (w : Wd I X.K G ρ μ H) (r : ValsR I X.K G ρ ws vs) : rcAny X (valOf b) vs H Q := by
  unfold bltR at p
  split at p
  · obtain ⟨v, e, r1⟩ := r.v1
    subst e
    exact len_ok L hr p w r1.res
  · obtain ⟨v, e, r1⟩ := r.v1
    rw [show v = _ from r1] at e
    subst e
    exact CallR.any call_int1 (.inl ⟨_, rfl, p.fz w rfl⟩)
  · obtain ⟨v, e, r1⟩ := r.v1
    rw [show v = _ from r1] at e
    subst e
    exact CallR.any call_int1 (.inr ⟨_, rfl, p.fz w rfl⟩)
  · obtain ⟨v, e, r1⟩ := r.v1
    rw [show v = _ from r1] at e
    subst e
    exact CallR.any call_abs ⟨_, rfl, p.fz w rfl⟩
  · obtain ⟨v, e, r1⟩ := r.v1
    subst e
    unfold listR at p
    split at p
    · rename_i ks us hd
      obtain ⟨a, kvs, e, h1, h2, h3⟩ := (r1.res (H := H)).dct w hd
      subst e
      refine CallR.any (call_listD hc) ⟨a, kvs, rfl, h1, fun l hl => ?_⟩
      have e3 : (kvs.map fun kv => kV kv.1) = ks.map kV := by rw [← h2, List.map_map]; rfl
      rw [e3]
      exact p.nw A w ⟨_, rfl, kD_vals ks⟩ (fun _ z => nomatch z) hl
    · split at p
      · rename_i us hd
        obtain ⟨a, vs, e, h1, h2⟩ := (r1.res (H := H)).seq w hd
        subst e
        exact CallR.any call_list_of ⟨a, vs, rfl, h1, fun l hl => p.nw A w ⟨_, rfl, h2⟩ (fun _ z => nomatch z) hl⟩
      · exact p.elim
  · obtain ⟨v, e, r1⟩ := r.v1
    subst e
    have r1' := r1.res (H := H)
    unfold tupleR at p
    split at p
    · rename_i ds hw
      rw [hw] at r1'
      obtain ⟨a, vs, e, h1, h2⟩ := r1'
      subst e
      exact CallR.any call_tuple_of ⟨a, vs, rfl, .inr ⟨.inl (.inl (w.sub.tup h1)), p.fz w ⟨a, vs, rfl, h1, h2⟩⟩⟩
    · split at p
      · rename_i us hd
        obtain ⟨a, vs, e, h1, h2⟩ := r1'.lsq w hd
        subst e
        exact CallR.any call_tuple_of ⟨a, vs, rfl, .inl ⟨h1, fun l hl => p.nw A w ⟨_, rfl, h2⟩ (fun _ z => nomatch z) hl⟩⟩
      · exact p.elim
  · obtain ⟨v, e, r1⟩ := r.v1
    subst e
    split at p
    · rename_i bs hb
      obtain ⟨ds, h1, h2⟩ := Option.bind_eq_some_iff.mp hb
      obtain ⟨a, vs, e, h3, h4⟩ := (r1.res (H := H)).lsq w h1
      subst e
      rw [blOf_ok h2 h4] at h3
      exact CallR.any (cr_all hc) ⟨a, bs, rfl, h3, p.fz w rfl⟩
    · exact p.elim
  · obtain ⟨v, e, r1⟩ := r.v1
    subst e
    split at p
    · rename_i bs hb
      obtain ⟨ds, h1, h2⟩ := Option.bind_eq_some_iff.mp hb
      obtain ⟨a, vs, e, h3, h4⟩ := (r1.res (H := H)).lsq w h1
      subst e
      rw [blOf_ok h2 h4] at h3
      exact CallR.any (cr_any hc) ⟨a, bs, rfl, h3, p.fz w rfl⟩
    · exact p.elim
  · obtain ⟨v, e, r1⟩ := r.v1
    subst e
    split at p
    · rename_i ks us hd
      obtain ⟨a, kvs, e, h1, h2, h3⟩ := (r1.res (H := H)).dct w hd
      subst e
      exact CallR.any call_dictD ⟨a, kvs, rfl, h1, fun l hl => p.nw A w ⟨kvs, rfl, h2, h3⟩ (fun _ z => nomatch z) hl⟩
    · split at p
      · rename_i ps hb
        obtain ⟨ds, h1, h2⟩ := Option.bind_eq_some_iff.mp hb
        obtain ⟨a, vs, e, h3, h4⟩ := (r1.res (H := H)).lsq w h1
        subst e
        split at p
        · rename_i nd
          obtain ⟨as, kvs, e1, e2, e3, e4⟩ := keysPs_ok w.sub h2 h4
          subst e1
          have em : mergeK [] kvs = kvs := by rw [mergeK_nd kvs [] (by simpa [e3] using nd)]; rfl
          refine CallR.any (call_dictP hc) ⟨a, as, kvs, rfl, h3, e2, fun l hl => ?_⟩
          rw [em]
          exact p.nw A w ⟨kvs, rfl, e3, e4⟩ (fun _ z => nomatch z) hl
        · exact p.elim
      · exact p.elim
  · obtain ⟨v, e, r1⟩ := r.v1
    subst e
    split at p
    · rename_i bs hb
      obtain ⟨ds, h1, h2⟩ := Option.bind_eq_some_iff.mp hb
      obtain ⟨a, vs, e, h3, h4⟩ := (r1.res (H := H)).lsq w h1
      subst e
      rw [intsOf_ok h2 h4] at h3
      exact CallR.any (cr_sum hc) ⟨a, bs, rfl, h3, p.fz w rfl⟩
    · exact p.elim
  · obtain ⟨v, t, e, h1, u, t2, e2, h2, h3⟩ := r
    subst e e2
    cases h3
    rw [show v = _ from h1, show u = _ from h2]
    exact CallR.any (call_min2 hc) ⟨_, _, rfl, p.fz w rfl⟩
  · obtain ⟨v, e, r1⟩ := r.v1
    subst e
    split at p
    · rename_i i is hb
      obtain ⟨ds, h1, h2⟩ := Option.bind_eq_some_iff.mp hb
      obtain ⟨a, vs, e, h3, h4⟩ := (r1.res (H := H)).lsq w h1
      subst e
      rw [intsOf_ok h2 h4] at h3
      exact CallR.any (cr_min hc) ⟨a, _, rfl, h3, by simp, fun m hm1 hm2 => p.fz w (by rw [minI_eq hm1 hm2]; rfl)⟩
    · exact p.elim
  · obtain ⟨v, e, r1⟩ := r.v1
    subst e
    split at p
    · rename_i xs hb
      obtain ⟨ds, h1, h2⟩ := Option.bind_eq_some_iff.mp hb
      obtain ⟨a, vs, e, h3, h4⟩ := (r1.res (H := H)).lsq w h1
      subst e
      rw [strsOf_ok h2 h4] at h3
      split at p
      · rename_i h64
        refine CallR.any cr_sortedS ⟨a, xs, rfl, h3, h64, fun ys l hp hs hl => ?_⟩
        rw [srtS_uniq hp hs]
        exact p.nw A w ⟨_, rfl, srtV_ok _⟩ (fun _ z => nomatch z) hl
      · exact p.elim
    · exact p.elim
  · exact p.elim
end
end EW
set_option maxRecDepth 100000
set_option maxHeartbeats 2000000
namespace EW
open PySem L2
def vis (sc : Scope) (x : Str) : Bool := match sc.names.lookup x with | some .local => true | some .cell => true | some .free => true | _ => false
def glb (sc : Scope) (x : Str) : Bool := match sc.names.lookup x with | some .globalImplicit => true | _ => false
def loc (sc : Scope) (x : Str) : Bool := match sc.names.lookup x with | some .local => true | _ => false
def fine (x : Str) : Bool := !(x == ("__debug__" : Str)) && !(x == ("__classdict__" : Str)) && !(x == ("__name__" : Str))
def isStar : Expr → Bool
  | .Starred _ _ => true
  | _ => false
def isSet : Expr → Bool
  | .Set _ _ _ => true
  | _ => false
def isSlice : Expr → Bool
  | .Slice _ _ _ _ => true
  | _ => false
def isComp : Expr → Bool
  | .ListComp _ _ _ _ => true
  | .SetComp _ _ _ _ => true
  | .DictComp _ _ _ _ _ => true
  | _ => false
def isCall0 : Expr → Bool
  | .Call (.Name _ _) [] [] _ => true
  | _ => false
def blName : Bl → Str
  | .len => "len" | .int => "int" | .abs => "abs" | .list => "list" | .tuple => "tuple" | .all => "all" | .any => "any" | .dict => "dict" | .sum => "sum" | .min => "min" | .sorted => "sorted"
def Bm.zero : Bm → Bool
  | .pop => true
  | .clear => true
  | _ => false
def bmName : Bm → Str
  | .append => "append" | .extend => "extend" | .insert => "insert" | .pop => "pop" | .clear => "clear" | .get => "get" | .index => "index" | .items => "?" | .join => "join"
def okC : D → Const → Bool
  | .non, .none => true
  | .bl b, .bool b' => b == b'
  | .int i, .int j => decide (i = j)
  | .str x, .str y => decide (x = y)
  | _, _ => false
def okNm (N : List Str) (sc : Scope) : List Nat → List Expr → Bool
  | [], [] => true
  | i :: is, .Name x _ :: es => decide (N[i]? = some x) && loc sc x && okNm N sc is es
  | _, _ => false
def okTg (N : List Str) (sc : Scope) : Tg → Expr → Bool
  | .nm i, .Name x _ => decide (N[i]? = some x) && loc sc x
  | .tp js, .Tuple es _ _ => okNm N sc js es
  | _, _ => false
/-- the classes of isinstance -/
def okCl (I : Ci) (sc : Scope) : D → Expr → Bool
  | .ty t, .Name x _ => glb sc x && decide (x = Str.ofString t) && tyOk t
  | .cls c, .Name x _ => glb sc x && decide (x = I.cn c)
  | _, _ => false
def okCls (I : Ci) (sc : Scope) : List D → List Expr → Bool
  | [], [] => true
  | .ty t :: ds, .Name x _ :: es => glb sc x && decide (x = Str.ofString t) && tyOk t && okCls I sc ds es
  | _, _ => false
def ownP (N : List Str) (own : List Nat) : List (Str × Nat) := own.map fun i => (N.getD i "", i)
def path : Ce → Bool
  | .x _ => true
  | .att a _ => path a
  | _ => false
mutual
def okE (I : Ci) (N : List Str) (sc : Scope) : Ce → Expr → Bool
  | .x i, .Name x _ => decide (N[i]? = some x) && vis sc x && fine x
  | .k d, .Constant c _ _ => okC d c
  | .g n, .Name x _ => decide (I.gn n = x) && glb sc x && fine x
  | .bin op a b, .BinOp e op' e' _ => decide (op = op') && okE I N sc a e && okE I N sc b e'
  | .neg a, .UnaryOp .USub e _ => okE I N sc a e
  | .cmp op a b, .Compare e [op'] [e'] _ => decide (op = op') && okE I N sc a e && okE I N sc b e'
  | .cmp2 o1 o2 a b c, .Compare e [p1, p2] [e1, e2] _ => decide (o1 = p1) && decide (o2 = p2) && okE I N sc a e && okE I N sc b e1 && okE I N sc c e2
  | .and a b, .BoolOp .And (e :: e2 :: r) p => okE I N sc a e && (match r with | [] => okE I N sc b e2 | e3 :: r' => okE I N sc b (.BoolOp .And (e2 :: e3 :: r') p))
  | .or a b, .BoolOp .Or (e :: e2 :: r) p => okE I N sc a e && (match r with | [] => okE I N sc b e2 | e3 :: r' => okE I N sc b (.BoolOp .Or (e2 :: e3 :: r') p))
  | .not a, .UnaryOp .Not e _ => okE I N sc a e
  | .ife c a b, .IfExp ec ea eb _ => okE I N sc c ec && okE I N sc a ea && okE I N sc b eb
  | .tup es, .Tuple l _ _ => okEs I N sc es l
  | .lst es, .List l _ => okEs I N sc es l
  | .dct0, .Dict [] [] _ => true
  | .dct1 a b, .Dict [some k] [v] _ => okE I N sc a k && okE I N sc b v
  | .ix a b, .Subscript e i _ => okE I N sc a e && okE I N sc b i && !isSlice i
  | .sl a lo hi, .Subscript e (.Slice l h none _) _ => okE I N sc a e && (match l with | none => isK lo | some l => okE I N sc lo l && !isK lo) && (match h with | none => isK hi | some h => okE I N sc hi h && !isK hi)
  | .att a n, .Attribute e x _ => decide (I.an n = x) && okE I N sc a e && !isCall0 e
  | .rev a, .Subscript e (.Slice none none (some (.UnaryOp .USub (.Constant (.int 1) _ _) _)) _) _ => okE I N sc a e
  | .inv a, .UnaryOp .Invert e _ => okE I N sc a e
  | .call o as, .Call (.Name x xp) l [] _ => okE I N sc o (.Name x xp) && okEs I N sc as l
  | .fnd f as _, .Call (.Name x _) l [] _ => decide (I.fn f = x) && glb sc x && fine x && okEs I N sc as l
  | .mkd c as _, .Call (.Name x _) l [] _ => decide (I.cn c = x) && glb sc x && fine x && okEs I N sc as l
  | .bm0 m o, .Call (.Attribute e x ap) [] [] p => decide (bmName m = x) && m.zero && okE I N sc o e && !isCall0 e && decide (ap.endLine = p.line)
  | .fn f as, .Call (.Name x _) l [] _ => decide (I.fn f = x) && glb sc x && fine x && okEs I N sc as l
  | .mt m o as, .Call (.Attribute e x ap) l [] p => decide (I.mn m = x) && okE I N sc o e && !isCall0 e && okEs I N sc as l && decide (ap.endLine = p.line) && decide (l.length < 29)
  | .mk c as, .Call (.Name x _) l [] _ => decide (I.cn c = x) && glb sc x && fine x && okEs I N sc as l
  | .blt b as, .Call (.Name x _) (e :: l) [] _ => decide (blName b = x) && glb sc x && okEs I N sc as (e :: l)
  | .bmt m o as, .Call (.Attribute e x ap) (a :: l) [] p => decide (bmName m = x) && !(bmName m == ("?" : Str)) && okE I N sc o e && !isCall0 e && okEs I N sc as (a :: l) && decide (ap.endLine = p.line) && decide (l.length < 20)
  | .lits a, .Call (.Name x _) [.Call (.Attribute e y ap) [] [] p] [] _ => decide (x = ("list" : Str)) && glb sc x && decide (y = ("items" : Str)) && okE I N sc a e && !isCall0 e && decide (ap.endLine = p.line)
  | .isi a cs, .Call (.Name x _) [e, ec] [] _ => decide (x = ("isinstance" : Str)) && glb sc x && okE I N sc a e && (match cs, ec with | [c], ec => okCl I sc c ec | cs, .Tuple l _ _ => okCls I sc cs l && (decide (cs.length ≠ 1) && decide (cs.length ≤ big)) | _, _ => false)
  | .lc T own ik a elt, .ListComp elt' [⟨tg, it, [], 0⟩] scope _ => (match ik, it with
      | .seq, it => okE I N sc a it
      | .keys, it => okE I N sc a it && path a
      | .own, it => (match a with | .att b k => I.it k && okE I N sc b it && !isStar it | _ => false)
      | .rng, .Call (.Name x _) [e] [] _ => decide (x = ("range" : Str)) && glb sc x && okE I N sc a e
      | .enum, .Call (.Name x _) [e] [] _ => decide (x = ("enumerate" : Str)) && glb sc x && okE I N sc a e && (match T with | .tp _ => true | _ => false)
      | _, _ => false) && okTg N (relS scope sc) T tg && blkC N sc scope (ownP N own) && T.slots.all (fun j => decide (j ∈ own)) && okE I N (relS scope sc) elt elt'
  | .lcIf T own ik a c elt, .ListComp elt' [⟨tg, it, [ec], 0⟩] scope _ => (match ik, it with
      | .seq, it => okE I N sc a it
      | .keys, it => okE I N sc a it && path a
      | .own, it => (match a with | .att b k => I.it k && okE I N sc b it && !isStar it | _ => false)
      | .rng, .Call (.Name x _) [e] [] _ => decide (x = ("range" : Str)) && glb sc x && okE I N sc a e
      | .enum, .Call (.Name x _) [e] [] _ => decide (x = ("enumerate" : Str)) && glb sc x && okE I N sc a e && (match T with | .tp _ => true | _ => false)
      | _, _ => false) && okTg N (relS scope sc) T tg && blkC N sc scope (ownP N own) && T.slots.all (fun j => decide (j ∈ own)) && okE I N (relS scope sc) elt elt' && okE I N (relS scope sc) c ec
  | .dc T own ik a k v, .DictComp k' v' [⟨tg, it, [], 0⟩] scope _ => (match ik, it with
      | .seq, it => okE I N sc a it
      | .keys, it => okE I N sc a it && path a
      | .own, it => (match a with | .att b k => I.it k && okE I N sc b it && !isStar it | _ => false)
      | .rng, .Call (.Name x _) [e] [] _ => decide (x = ("range" : Str)) && glb sc x && okE I N sc a e
      | .enum, .Call (.Name x _) [e] [] _ => decide (x = ("enumerate" : Str)) && glb sc x && okE I N sc a e && (match T with | .tp _ => true | _ => false)
      | _, _ => false) && okTg N (relS scope sc) T tg && blkC N sc scope (ownP N own) && T.slots.all (fun j => decide (j ∈ own)) && okE I N (relS scope sc) k k' && okE I N (relS scope sc) v v'
  | .dcIf T own ik a c k v, .DictComp k' v' [⟨tg, it, [ec], 0⟩] scope _ => (match ik, it with
      | .seq, it => okE I N sc a it
      | .keys, it => okE I N sc a it && path a
      | .own, it => (match a with | .att b k => I.it k && okE I N sc b it && !isStar it | _ => false)
      | .rng, .Call (.Name x _) [e] [] _ => decide (x = ("range" : Str)) && glb sc x && okE I N sc a e
      | .enum, .Call (.Name x _) [e] [] _ => decide (x = ("enumerate" : Str)) && glb sc x && okE I N sc a e && (match T with | .tp _ => true | _ => false)
      | _, _ => false) && okTg N (relS scope sc) T tg && blkC N sc scope (ownP N own) && T.slots.all (fun j => decide (j ∈ own)) && okE I N (relS scope sc) k k' && okE I N (relS scope sc) v v' && okE I N (relS scope sc) c ec
  | .mkc a, e => okE I N sc a e
  | _, _ => false
def okEs (I : Ci) (N : List Str) (sc : Scope) : Ces → List Expr → Bool
  | .nil, [] => true
  | .cons a r, e :: es => okE I N sc a e && okEs I N sc r es
  | _, _ => false
end
/-- what the checker says of the form -/
theorem okE_noStar {I : Ci} {N : List Str} {sc : Scope} : ∀ (c : Ce) v p, okE I N sc c (.Starred v p) = false
  | .mkc a, v, p => by rw [okE]; exact okE_noStar a v p
  | .x _, _, _ => by simp only [okE]
  | .k _, _, _ => by simp only [okE]
  | .g _, _, _ => by simp only [okE]
  | .bin _ _ _, _, _ => by simp only [okE]
  | .neg _, _, _ => by simp only [okE]
  | .inv _, _, _ => by simp only [okE]
  | .cmp _ _ _, _, _ => by simp only [okE]
  | .cmp2 _ _ _ _ _, _, _ => by simp only [okE]
  | .and _ _, _, _ => by simp only [okE]
  | .or _ _, _, _ => by simp only [okE]
  | .not _, _, _ => by simp only [okE]
  | .ife _ _ _, _, _ => by simp only [okE]
  | .tup _, _, _ => by simp only [okE]
  | .lst _, _, _ => by simp only [okE]
  | .dct0, _, _ => by simp only [okE]
  | .dct1 _ _, _, _ => by simp only [okE]
  | .ix _ _, _, _ => by simp only [okE]
  | .sl _ _ _, _, _ => by simp only [okE]
  | .rev _, _, _ => by simp only [okE]
  | .att _ _, _, _ => by simp only [okE]
  | .fn _ _, _, _ => by simp only [okE]
  | .mt _ _ _, _, _ => by simp only [okE]
  | .mk _ _, _, _ => by simp only [okE]
  | .call _ _, _, _ => by simp only [okE]
  | .fnd _ _ _, _, _ => by simp only [okE]
  | .mkd _ _ _, _, _ => by simp only [okE]
  | .bm0 _ _, _, _ => by simp only [okE]
  | .lits _, _, _ => by simp only [okE]
  | .blt _ _, _, _ => by simp only [okE]
  | .bmt _ _ _, _, _ => by simp only [okE]
  | .isi _ _, _, _ => by simp only [okE]
  | .lc _ _ _ _ _, _, _ => by simp only [okE]
  | .lcIf _ _ _ _ _ _, _, _ => by simp only [okE]
  | .dc _ _ _ _ _ _, _, _ => by simp only [okE]
  | .dcIf _ _ _ _ _ _ _, _, _ => by simp only [okE]
theorem okE_noSet {I : Ci} {N : List Str} {sc : Scope} : ∀ (c : Ce) v k p, okE I N sc c (.Set v k p) = false
  | .mkc a, v, k, p => by rw [okE]; exact okE_noSet a v k p
  | .x _, _, _, _ => by simp only [okE]
  | .k _, _, _, _ => by simp only [okE]
  | .g _, _, _, _ => by simp only [okE]
  | .bin _ _ _, _, _, _ => by simp only [okE]
  | .neg _, _, _, _ => by simp only [okE]
  | .inv _, _, _, _ => by simp only [okE]
  | .cmp _ _ _, _, _, _ => by simp only [okE]
  | .cmp2 _ _ _ _ _, _, _, _ => by simp only [okE]
  | .and _ _, _, _, _ => by simp only [okE]
  | .or _ _, _, _, _ => by simp only [okE]
  | .not _, _, _, _ => by simp only [okE]
  | .ife _ _ _, _, _, _ => by simp only [okE]
  | .tup _, _, _, _ => by simp only [okE]
  | .lst _, _, _, _ => by simp only [okE]
  | .dct0, _, _, _ => by simp only [okE]
  | .dct1 _ _, _, _, _ => by simp only [okE]
  | .ix _ _, _, _, _ => by simp only [okE]
  | .sl _ _ _, _, _, _ => by simp only [okE]
  | .rev _, _, _, _ => by simp only [okE]
  | .att _ _, _, _, _ => by simp only [okE]
  | .fn _ _, _, _, _ => by simp only [okE]
  | .mt _ _ _, _, _, _ => by simp only [okE]
  | .mk _ _, _, _, _ => by simp only [okE]
  | .call _ _, _, _, _ => by simp only [okE]
  | .fnd _ _ _, _, _, _ => by simp only [okE]
  | .mkd _ _ _, _, _, _ => by simp only [okE]
  | .bm0 _ _, _, _, _ => by simp only [okE]
  | .lits _, _, _, _ => by simp only [okE]
  | .blt _ _, _, _, _ => by simp only [okE]
  | .bmt _ _ _, _, _, _ => by simp only [okE]
  | .isi _ _, _, _, _ => by simp only [okE]
  | .lc _ _ _ _ _, _, _, _ => by simp only [okE]
  | .lcIf _ _ _ _ _ _, _, _, _ => by simp only [okE]
  | .dc _ _ _ _ _ _, _, _, _ => by simp only [okE]
  | .dcIf _ _ _ _ _ _ _, _, _, _ => by simp only [okE]
theorem okE_noSlice {I : Ci} {N : List Str} {sc : Scope} : ∀ (c : Ce) s1 s2 s3 p, okE I N sc c (.Slice s1 s2 s3 p) = false
  | .mkc a, s1, s2, s3, p => by rw [okE]; exact okE_noSlice a s1 s2 s3 p
  | .x _, _, _, _, _ => by simp only [okE]
  | .k _, _, _, _, _ => by simp only [okE]
  | .g _, _, _, _, _ => by simp only [okE]
  | .bin _ _ _, _, _, _, _ => by simp only [okE]
  | .neg _, _, _, _, _ => by simp only [okE]
  | .inv _, _, _, _, _ => by simp only [okE]
  | .cmp _ _ _, _, _, _, _ => by simp only [okE]
  | .cmp2 _ _ _ _ _, _, _, _, _ => by simp only [okE]
  | .and _ _, _, _, _, _ => by simp only [okE]
  | .or _ _, _, _, _, _ => by simp only [okE]
  | .not _, _, _, _, _ => by simp only [okE]
  | .ife _ _ _, _, _, _, _ => by simp only [okE]
  | .tup _, _, _, _, _ => by simp only [okE]
  | .lst _, _, _, _, _ => by simp only [okE]
  | .dct0, _, _, _, _ => by simp only [okE]
  | .dct1 _ _, _, _, _, _ => by simp only [okE]
  | .ix _ _, _, _, _, _ => by simp only [okE]
  | .sl _ _ _, _, _, _, _ => by simp only [okE]
  | .rev _, _, _, _, _ => by simp only [okE]
  | .att _ _, _, _, _, _ => by simp only [okE]
  | .fn _ _, _, _, _, _ => by simp only [okE]
  | .mt _ _ _, _, _, _, _ => by simp only [okE]
  | .mk _ _, _, _, _, _ => by simp only [okE]
  | .call _ _, _, _, _, _ => by simp only [okE]
  | .fnd _ _ _, _, _, _, _ => by simp only [okE]
  | .mkd _ _ _, _, _, _, _ => by simp only [okE]
  | .bm0 _ _, _, _, _, _ => by simp only [okE]
  | .lits _, _, _, _, _ => by simp only [okE]
  | .blt _ _, _, _, _, _ => by simp only [okE]
  | .bmt _ _ _, _, _, _, _ => by simp only [okE]
  | .isi _ _, _, _, _, _ => by simp only [okE]
  | .lc _ _ _ _ _, _, _, _, _ => by simp only [okE]
  | .lcIf _ _ _ _ _ _, _, _, _, _ => by simp only [okE]
  | .dc _ _ _ _ _ _, _, _, _, _ => by simp only [okE]
  | .dcIf _ _ _ _ _ _ _, _, _, _, _ => by simp only [okE]
theorem okE_star {I : Ci} {N : List Str} {sc : Scope} {c : Ce} {e : Expr} (h : okE I N sc c e = true) : isStar e = false ∧ isSet e = false ∧ isSlice e = false := by
  cases e with
  | Starred v p => rw [okE_noStar] at h; cases h
  | Set v k p => rw [okE_noSet] at h; cases h
  | Slice a b c p => rw [okE_noSlice] at h; cases h
  | _ => exact ⟨rfl, rfl, rfl⟩
theorem star_of {e : Expr} (h : isStar e = false) (es : List Expr) (env : PySem.Env) : starEach (e :: es) env = (false, eval e env) :: starEach es env := by
  cases e <;> first | rfl | cases h
theorem okEs_star {I : Ci} {N : List Str} {sc : Scope} {env : PySem.Env} : ∀ {c : Ces} {es : List Expr} {p : Pos}, okEs I N sc c es = true → (backTo p (starEach es env)).any (·.1) = false
  | .nil, [], _, _ => rfl
  | .cons a r, e :: es, p, h => by
    rw [okEs, Bool.and_eq_true] at h
    rw [star_of (okE_star h.1).1]
    show (false || (backTo p (starEach es env)).any (·.1)) = false
    rw [okEs_star h.2]; rfl
  | .nil, _ :: _, _, h => by simp [okEs] at h
  | .cons _ _, [], _, h => by simp [okEs] at h
theorem all_any {l : List (Bool × Sem Value)} (h : l.any (·.1) = false) : l.all (fun x => !x.1) = true := by
  induction l with
  | nil => rfl
  | cons a l ih =>
    rw [List.any_cons, Bool.or_eq_false_iff] at h
    rw [List.all_cons, h.1, ih h.2]; rfl
theorem okEs_len {I : Ci} {N : List Str} {sc : Scope} : ∀ {c : Ces} {es : List Expr}, okEs I N sc c es = true → (c matches .nil) = es.isEmpty
  | .nil, [], _ => rfl
  | .cons a r, e :: es, h => rfl
  | .nil, _ :: _, h => by simp [okEs] at h
  | .cons _ _, [], h => by simp [okEs] at h
theorem base_of {e : Expr} {n : Str} {env : PySem.Env} (h : isCall0 e = false) : attributeBase e n env (eval e env) = eval e env := by
  unfold attributeBase
  split
  · simp [isCall0] at h
  · rfl
theorem mark_of {e : Expr} {op : CmpOp} (h : isSet e = false) : behindInMarks op e = false := by cases e <;> first | rfl | cases h
theorem ix_of {e : Expr} (h : isSlice e = false) : PlainIx e := fun o i => by cases e <;> first | rfl | cases h
theorem fold_of {e : Expr} {env : PySem.Env} (h : isSet e = false) : ∀ x, foldedSetIterable e env x = pure x := fun x => by cases e <;> first | rfl | cases h
theorem swap_of {e : Expr} {t : Option Expr} {l : Nat} {env : PySem.Env} (h : isComp e = false) : swapsWith e t l env = pure false := by cases e <;> first | rfl | cases h
theorem few_of {l : List (Bool × Sem Value)} {n : Nat} (h : l.any (·.1) = false) (hn : n < 29) : methodCallForm n l [] = true := by
  unfold methodCallForm
  rw [all_any h]
  simp
  omega
theorem meth_eval {o : Expr} {m : Str} {ap p : Pos} {l : List Expr} {env : PySem.Env} (hb : isCall0 o = false) (ha : (backTo p (starEach l env)).any (·.1) = false) (hn : l.length < 29) (hl : ap.endLine = p.line) :
    eval (.Call (.Attribute o m ap) l [] p) env = (do
      let ov ← eval o env
      standAt ap.atName
      let (f, first) ← holding [ov] (getMethod ov m (do return (← importBound o env).getD true))
      callWith p f first (backTo p (starEach l env)) (backToKw p (keywordEach [] env))) := by
  have e0 : eval (.Call (.Attribute o m ap) l [] p) env = (do
      let ov ← attributeBase o m env (eval o env)
      standAt ap.atName
      methodCall o m ap p env ov (l.length + ([] : List Keyword).length) (backTo p (starEach l env)) (backToKw p (keywordEach [] env))) := by rfl
  rw [e0, base_of hb]
  have hf : methodCallForm (l.length + ([] : List Keyword).length) (backTo p (starEach l env)) (backToKw p (keywordEach [] env)) = true := few_of ha (by simpa using hn)
  have hline : (ap.endLine == p.line) = true := by rw [hl]; simp
  unfold methodCall calleeOf methodCallPos
  simp only [hf, hline, if_true, Bool.not_true, Bool.false_or]
  rfl
end EW
set_option maxRecDepth 100000
set_option maxHeartbeats 2000000
namespace EW
open PySem L2 PySem.Spec PyProof.Rows
def wpE (X : Cx) (e : Expr) : TE := fun σ H Q => ∀ pins s, Inv X pins σ H s → wpAny (model X.prog X.w) X.A (eval e X.env) (EP X pins σ Q) X.xe s
def wpT (X : Cx) (e : Expr) : TT := fun σ H Q => ∀ pins s, Inv X pins σ H s → wpAny (model X.prog X.w) X.A (isTrue e X.env (eval e X.env)) (TP X pins σ Q) X.xe s
def wpW (X : Cx) (e : Expr) : TT := fun σ H Q => ∀ whole pins s, Inv X pins σ H s → wpAny (model X.prog X.w) X.A (isTrue e X.env whole) (TP X pins σ Q) X.xe s
def wpA (X : Cx) (es : List Expr) : TA := fun σ H Q => ∀ pos pins s, Inv X pins σ H s → wpAny (model X.prog X.w) X.A (spliced (backTo pos (starEach es X.env))) (AP X pins σ Q) X.xe s
section
variable {X : Cx}
theorem seE {e : Expr} : PE X e (wpE X e) := ⟨fun pins s _ _ _ I h => h pins s I⟩
theorem seT {e : Expr} : PT X e (wpT X e) := ⟨fun pins s _ _ _ I h => h pins s I⟩
theorem seW {e : Expr} : PW X e (wpW X e) := ⟨fun whole pins s _ _ _ I h => h whole pins s I⟩
theorem seA {es : List Expr} : PA X es (wpA X es) := ⟨fun pos pins s _ _ _ I h => h pos pins s I⟩
theorem ofE {e : Expr} {t : TE} {σ : L2.St} {H : Hp} {Q : VK} (p : PE X e t) (h : t σ H Q) : wpE X e σ H Q := fun pins s I => p.run pins s σ H Q I h
theorem ofT {e : Expr} {t : TT} {σ : L2.St} {H : Hp} {Q : Bool → Hp → Prop} (p : PT X e t) (h : t σ H Q) : wpT X e σ H Q := fun pins s I => p.run pins s σ H Q I h
theorem ofW {e : Expr} {t : TT} {σ : L2.St} {H : Hp} {Q : Bool → Hp → Prop} (p : PW X e t) (h : t σ H Q) : wpW X e σ H Q := fun whole pins s I => p.run whole pins s σ H Q I h
theorem ofA {e : List Expr} {t : TA} {σ : L2.St} {H : Hp} {Q : List V → Hp → Prop} (p : PA X e t) (h : t σ H Q) : wpA X e σ H Q := fun pos pins s I => p.run pos pins s σ H Q I h
end
def bltNames : List Str := ["len", "int", "abs", "list", "tuple", "all", "any", "dict", "sum", "min", "sorted", "isinstance", "range", "enumerate", "str", "bool"]
structure Fit (I : Ci) (n : Nat) (F : Fx) (X : Cx) : Prop where
  L : Lk X.prog X.w X.K X.mg X.base I n F
  hr : Room (2 * n + 1) X.A
  nd : X.N.Nodup
  calm : X.calm = true
  bn : ∀ x ∈ bltNames, X.mg x = none
def SndE (I : Ci) (X : Cx) (F : Fx) (e : Expr) (c : Ce) : Prop := ∀ W G ρ H σ δ μ Q, Takes X W → Wd I X.K G ρ μ H → EnvR I X.K G ρ δ σ → Po I X.K W σ G ρ H (evE F c δ μ) (QE I X.K H Q) → wpE X e σ H Q
def SndT (I : Ci) (X : Cx) (F : Fx) (e : Expr) (c : Ce) : Prop := ∀ W G ρ H σ δ μ Q, Takes X W → Wd I X.K G ρ μ H → EnvR I X.K G ρ δ σ → Po I X.K W σ G ρ H (evT F c δ μ) (QB Q) → wpT X e σ H Q
def SndA (I : Ci) (X : Cx) (F : Fx) (es : List Expr) (c : Ces) : Prop := ∀ W G ρ H σ δ μ Q, Takes X W → Wd I X.K G ρ μ H → EnvR I X.K G ρ δ σ → Po I X.K W σ G ρ H (evEs F c δ μ) (QA I X.K Q) → wpA X es σ H Q
section
variable {I : Ci} {X : Cx} {n : Nat} {F : Fx} {W : WX} {σ : L2.St} {G G0 : Hp} {ρ ρ0 : List Addr} {H H0 : Hp} {μ : Mu} {δ : EW.Env}
theorem bindE {e : Expr} {c : Ce} {β : Type} {f : Res → Mu → Out β} {S : β → Mu → Hp → List Addr → Hp → Prop} {R : VK} (h : SndE I X F e c) (tk : Takes X W) (A : Aft G0 ρ0 H0 G ρ H) (w : Wd I X.K G ρ μ H) (ev : EnvR I X.K G ρ δ σ) (P : Po I X.K W σ G0 ρ0 H0 ((evE F c δ μ).bind f) S)
    (k : ∀ x μ1, Po I X.K W σ G0 ρ0 H0 (f x μ1) S → ∀ v G1 ρ1 H1, Aft G ρ H G1 ρ1 H1 → Wd I X.K G1 ρ1 μ1 H1 → ResR I X.K G1 ρ1 H1 x v → New H x v → R v H1) : wpE X e σ H R := by
  refine h W G ρ H σ δ μ R tk w ev ?_
  revert P
  cases evE F c δ μ with
  | ok x μ1 => exact fun P G1 ρ1 H1 a1 w1 v rr nn => k x μ1 P v G1 ρ1 H1 a1 w1 rr nn
  | ex z μ1 => exact fun P => Po.step (o := (.ex z μ1 : Out Res)) (S := QE I X.K H R) A P
  | no => exact fun P => P
theorem bindT {e : Expr} {c : Ce} {β : Type} {f : Bool → Mu → Out β} {S : β → Mu → Hp → List Addr → Hp → Prop} {R : Bool → Hp → Prop} (h : SndT I X F e c) (tk : Takes X W) (A : Aft G0 ρ0 H0 G ρ H) (w : Wd I X.K G ρ μ H) (ev : EnvR I X.K G ρ δ σ) (P : Po I X.K W σ G0 ρ0 H0 ((evT F c δ μ).bind f) S)
    (k : ∀ x μ1, Po I X.K W σ G0 ρ0 H0 (f x μ1) S → ∀ G1 ρ1 H1, Aft G ρ H G1 ρ1 H1 → Wd I X.K G1 ρ1 μ1 H1 → R x H1) : wpT X e σ H R := by
  refine h W G ρ H σ δ μ R tk w ev ?_
  revert P
  cases evT F c δ μ with
  | ok x μ1 => exact fun P G1 ρ1 H1 a1 w1 => k x μ1 P G1 ρ1 H1 a1 w1
  | ex z μ1 => exact fun P => Po.step (o := (.ex z μ1 : Out Bool)) (S := QB R) A P
  | no => exact fun P => P
theorem bindA {e : List Expr} {c : Ces} {β : Type} {f : List Val → Mu → Out β} {S : β → Mu → Hp → List Addr → Hp → Prop} {R : List V → Hp → Prop} (h : SndA I X F e c) (tk : Takes X W) (A : Aft G0 ρ0 H0 G ρ H) (w : Wd I X.K G ρ μ H) (ev : EnvR I X.K G ρ δ σ) (P : Po I X.K W σ G0 ρ0 H0 ((evEs F c δ μ).bind f) S)
    (k : ∀ x μ1, Po I X.K W σ G0 ρ0 H0 (f x μ1) S → ∀ v G1 ρ1 H1, Aft G ρ H G1 ρ1 H1 → Wd I X.K G1 ρ1 μ1 H1 → ValsR I X.K G1 ρ1 x v → R v H1) : wpA X e σ H R := by
  refine h W G ρ H σ δ μ R tk w ev ?_
  revert P
  cases evEs F c δ μ with
  | ok x μ1 => exact fun P G1 ρ1 H1 a1 w1 v rr => k x μ1 P v G1 ρ1 H1 a1 w1 rr
  | ex z μ1 => exact fun P => Po.step (o := (.ex z μ1 : Out (List Val))) (S := QA I X.K R) A P
  | no => exact fun P => P
/-- a result becomes an argument -/
theorem ResR.arg {r : Res} {v : V} (w : Wd I X.K G ρ μ H) (A : Aft G0 ρ0 H0 G ρ H) (rr : ResR I X.K G ρ H r v) (nn : New H0 r v) :
    ∃ G' ρ', Aft G0 ρ0 H0 G' ρ' H ∧ Wd I X.K G' ρ' (r.arg μ).2 H ∧ ValR I X.K G' ρ' (r.arg μ).1 v ∧ Ex G G' ∧ Pre ρ ρ' := by
  cases r with
  | fz d => exact ⟨G, ρ, A, w, rr, Ex.refl _, fun _ _ z => z⟩
  | cel k => exact ⟨G, ρ, A, w, ValR.nm w (u := .cel k) rr, Ex.refl _, fun _ _ z => z⟩
  | nw o =>
    cases e : o.frozen with
    | some d =>
      have e' : Res.arg μ (.nw o) = (.fz d, μ) := by simp only [Res.arg, e]
      rw [e']
      obtain ⟨G', a', w', r', ex⟩ := ResR.frz (r := .nw o) (d := d) w rr e A nn
      exact ⟨G', ρ, a', w', r', ex, fun _ _ z => z⟩
    | none =>
      have e' : Res.arg μ (.nw o) = (.cel μ.length, μ ++ [o]) := by simp only [Res.arg, e]
      rw [e']
      obtain ⟨a, h, h1, h2, h3, h4, h5, h6⟩ := rr
      obtain ⟨b1, b2, b3, b4⟩ := w.hold A h2 h3 h4 h5 h6 (nn o a rfl h1)
      exact ⟨G, ρ ++ [a], b1, b2, ⟨a, b3, h1⟩, Ex.refl _, b4⟩
theorem argO_inv {α : Type} {o : Out Res} {f : Val → Mu → Out α} : (argO o).bind f = o.bind fun r μ1 => f (r.arg μ1).1 (r.arg μ1).2 := by
  cases o <;> rfl
theorem bindV {e : Expr} {c : Ce} {β : Type} {f : Val → Mu → Out β} {S : β → Mu → Hp → List Addr → Hp → Prop} {R : VK} (h : SndE I X F e c) (tk : Takes X W) (A : Aft G0 ρ0 H0 G ρ H) (w : Wd I X.K G ρ μ H) (ev : EnvR I X.K G ρ δ σ) (P : Po I X.K W σ G0 ρ0 H0 ((argO (evE F c δ μ)).bind f) S)
    (k : ∀ x μ1, Po I X.K W σ G0 ρ0 H0 (f x μ1) S → ∀ v G1 ρ1 H1, Aft G ρ H G1 ρ1 H1 → Wd I X.K G1 ρ1 μ1 H1 → ValR I X.K G1 ρ1 x v → R v H1) : wpE X e σ H R := by
  rw [argO_inv] at P
  refine bindE h tk A w ev P fun x μ1 P' v G1 ρ1 H1 a1 w1 rr nn => ?_
  obtain ⟨G', ρ', b1, b2, b3, _, _⟩ := ResR.arg w1 a1 rr nn
  exact k _ _ P' v G' ρ' H1 b1 b2 b3
def rIxD : R2 := fun x y H Q => ∃ a v, x = .ref a ∧ DGet H a y (some v) ∧ Q v H
theorem ix_dict (hu : X.A.units + 1 < cLine) : IxR X rIxD := by
  intro value slice pins s σ H x y v u Q J rx ry h hs
  obtain ⟨a, z, rfl, g, q⟩ := h
  obtain rfl : v = Value.ref a := rx
  unfold subscriptTail
  refine wpAny_bind ?_
  rw [getitemInPython_of_ne (dict_typeIs J g).not_modules]
  refine wpAny_bind (wpAny_specialOf (dict_typeIs J g) PySem.F.slot_dict_getitem.lookup ?_)
  have fin : wpAny (model X.prog X.w) X.A (subscripted slice false (.ref a) u) (fun r s₃ => wpAny (model X.prog X.w) X.A (letTemporaryGo value (.ref a) r >>= fun _ => pure r) (EP X pins σ Q) X.xe s₃) X.xe s := by
    rw [hs]
    exact wpAny_operating (wpAny_mono (d_getItem hu J g ry fun w' s3 I3 rw' => ⟨z, H, I3, rw', q⟩) (fun r s₃ h₃ => wpAny_bind (wpAny_letTemporaryGo (wpAny_pure h₃))) fun _ _ x => x)
  first
    | exact wpAny_pure (wpAny_bind fin)
    | exact wpAny_bind (wpAny_pure (wpAny_bind fin))
    | exact wpAny_bind fin
theorem atI_vals {ws : List Val} {vs : List V} {i : Int} {u : Val} (r : ValsR I X.K G ρ ws vs) (h : atI ws i = some u) : ∃ v, atI vs i = some v ∧ ValR I X.K G ρ u v := by
  unfold atI at h ⊢
  rw [r.length]
  cases q : ixN ws.length i with
  | none => rw [q] at h; cases h
  | some j =>
    rw [q] at h
    exact r.get h
theorem ix_ok (hu : X.A.units + 1 < cLine) {x y : Res} {vx vy : V} {Q : VK} (p : Po I X.K W σ G ρ H (outO (ixR x y μ) μ) (QE I X.K H0 Q)) (w : Wd I X.K G ρ μ H) (rx : ResR I X.K G ρ H x vx) (ry : ResR I X.K G ρ H y vy) : rIxD vx vy H Q ∨ rIx X.K vx vy H Q := by
  obtain ⟨r, hr, p'⟩ := p.outO
  clear p
  unfold ixR at hr
  split at hr
  · rename_i ks ws d hd
    split at hr
    · rename_i k hk
      obtain ⟨u, h1, h2⟩ := Option.map_eq_some_iff.mp hr
      subst h2
      obtain ⟨a, kvs, e, g, h3, h4⟩ := rx.dct w hd
      subst h3
      obtain ⟨v, h5, h6⟩ := (dget_reps h4).1 u h1
      exact .inl ⟨a, v, e, .inl ⟨kvs, k, g, Rep.key ry hk, h5.symm⟩, p'.val w (h6.nm w)⟩
    · cases hr
  · rename_i n hd
    split at hr
    · rename_i z
      split at hr
      · rename_i hz
        obtain ⟨c, h1, h2⟩ := Option.map_eq_some_iff.mp hr
        subst h2
        exact .inr (.inr (.inr ⟨z, n, c, rx, ry, Nat.le_trans hz bigLine, h1, p'.fz w rfl⟩))
      · cases hr
    · split at hr
      · rename_i ws hs
        obtain ⟨u, h1, h2⟩ := Option.map_eq_some_iff.mp hr
        subst h2
        obtain ⟨a, vs, e, hsq, h4⟩ := rx.seq w hs
        obtain ⟨v, h5, h6⟩ := atI_vals h4 h1
        have q := p'.val w (h6.nm w)
        rcases hsq with hsq | hsq
        · exact .inr (.inl ⟨a, vs, n, v, e, ry, hsq, h5, q⟩)
        · exact .inr (.inr (.inl ⟨a, vs, n, v, e, ry, hsq, h5, q⟩))
      · cases hr
  · cases hr
theorem cut_vals {ws : List Val} {vs : List V} {lo hi : Option Int} (r : ValsR I X.K G ρ ws vs) : ValsR I X.K G ρ (cutD ws lo hi) (cutV vs lo hi) := by
  unfold cutD cutV
  rw [r.length]
  exact (r.drop _).take _
theorem cut_reps {ws : List D} {vs : List V} {lo hi : Option Int} (r : Reps I X.K G ws vs) : Reps I X.K G (cutD ws lo hi) (cutV vs lo hi) := by
  unfold cutD cutV
  rw [r.length]
  exact (r.drop _).take _
theorem sl_ok {x : Res} {vx : V} {lo hi : Option Int} {Q : VK} (p : Po I X.K W σ G ρ H (outO (slR x lo hi μ) μ) (QE I X.K H0 Q)) (A : Aft G0 ρ0 H0 G ρ H) (w : Wd I X.K G ρ μ H) (rx : ResR I X.K G ρ H x vx) : rSlS vx lo hi H Q ∨ rSlA X.K vx lo hi H Q ∨ rSlL X.K vx lo hi H Q := by
  obtain ⟨r, hr, p'⟩ := p.outO
  clear p
  unfold slR at hr
  split at hr
  · rename_i z
    split at hr
    · rename_i hz
      cases hr
      exact .inl ⟨z, rx, Nat.le_trans hz bigLine, p'.fz w rfl⟩
    · cases hr
  · rename_i ds
    cases hr
    obtain ⟨a, vs, e, h1, r1⟩ := rx
    refine .inr (.inl ⟨a, vs, e, .inl (.inl (w.sub.tup h1)), fun hw => ?_, fun _ q hq => p'.tup w (cut_reps r1) hq⟩)
    have e2 : cutD ds lo hi = ds := by
      unfold cutD
      rw [r1.length] at hw
      rw [hw.1, hw.2]
      simp
    rw [e2] at p'
    exact p'.fz w ⟨a, vs, rfl, h1, r1⟩
  · obtain ⟨ws, h1, h2⟩ := Option.map_eq_some_iff.mp hr
    subst h2
    obtain ⟨a, vs, e, hs, r1⟩ := rx.lsq w h1
    exact .inr (.inr ⟨a, vs, e, hs, fun q hq => p'.nw A w ⟨_, rfl, cut_vals r1⟩ (fun _ z => nomatch z) hq⟩)
theorem tru_val {x : Res} {vx : V} {Q : Bool → Hp → Prop} (p : Po I X.K W σ G ρ H (truth x μ) (QB Q)) (w : Wd I X.K G ρ μ H) (rx : ResR I X.K G ρ H x vx) : ∃ k, TruV X.K vx H k ∧ Q k H := by
  unfold truth at p
  split at p
  · rename_i b
    rw [show vx = _ from rx]
    exact ⟨b, rfl, p.bl w⟩
  · rw [show vx = _ from rx]
    exact ⟨false, rfl, p.bl w⟩
  · rw [show vx = _ from rx]
    exact ⟨_, rfl, p.bl w⟩
  · split at p
    · rename_i y hy
      rw [show vx = _ from rx]
      exact ⟨_, ⟨Nat.le_trans hy bigLine, rfl⟩, p.bl w⟩
    · exact p.elim
  · split at p
    · rename_i ws hs
      obtain ⟨a, vs, e, hsq, r1⟩ := rx.seq w hs
      have e2 : vs.isEmpty = ws.isEmpty := by
        have := r1.length
        cases vs <;> cases ws <;> simp_all
      rw [e]
      rcases hsq with hsq | hsq
      · exact ⟨!ws.isEmpty, .inl ⟨vs, hsq, by rw [e2]⟩, p.bl w⟩
      · exact ⟨!ws.isEmpty, .inr (.inl ⟨vs, hsq, by rw [e2]⟩), p.bl w⟩
    · exact p.elim
theorem ResR.mut {r : Res} {v : V} {ws : List Val} (w : Wd I X.K G ρ μ H) (h : ResR I X.K G ρ H r v) (e : mutV μ r = some ws) :
    ∃ a vs, v = .ref a ∧ H a = some (.lst vs) ∧ ValsR I X.K G ρ ws vs ∧ ∀ es us, ValsR I X.K G ρ es us → Wd I X.K G ρ (putL μ es r) (upd H a (.lst us)) ∧ (∀ G0 ρ0 H0, Aft G0 ρ0 H0 G ρ H → New H0 r v → Aft G0 ρ0 H0 G ρ (upd H a (.lst us))) := by
  cases r with
  | fz d => simp [mutV] at e
  | nw oo =>
    cases oo <;> simp [mutV] at e
    subst e
    obtain ⟨a, x, h1, h2, h3, h4, ⟨vs, h5, h6⟩, _⟩ := h
    subst h5
    exact ⟨a, vs, h1, h4, h6, fun es us r' => ⟨w.writeN h2 h3, fun G0 ρ0 H0 a0 nn => a0.writeN (nn _ a rfl h1)⟩⟩
  | cel k =>
    obtain ⟨a, h1, h2⟩ := h
    simp only [mutV] at e
    split at e
    · rename_i ds q
      cases e
      obtain ⟨x, h3, _, vs, h5, h6⟩ := w.cel h1 q (fun _ z => nomatch z)
      subst h5
      exact ⟨a, vs, h2, h3, h6, fun es us r' => ⟨w.write h1 q (fun _ z => nomatch z) (fun _ z => nomatch z) ⟨us, rfl, r'⟩, fun G0 ρ0 H0 a0 _ => a0.trans (Aft.write w h1 q (fun _ z => nomatch z))⟩⟩
    · cases e
end
end EW
set_option maxRecDepth 100000
set_option maxHeartbeats 2000000
namespace EW
open PySem L2
section
variable {I : Ci} {K : PySem.W.Frag} {G G0 : Hp} {ρ ρ0 : List Addr} {H H0 : Hp} {μ : Mu} {δ : Env} {σ : L2.St}
theorem take_get {α : Type} {n k : Nat} {l : List α} {a : α} (h : l[k]? = some a) (hk : k < n) : (l.take n)[k]? = some a := by
  rw [List.getElem?_take_of_lt hk]; exact h
theorem ValR.take {n : Nat} {u : Val} {v : V} (b : u.below n = true) (r : ValR I K G ρ u v) : ValR I K G (ρ.take n) u v := by
  cases u with
  | fz d => exact r
  | cel k =>
    obtain ⟨a, h1, h2⟩ := r
    exact ⟨a, take_get h1 (of_decide_eq_true b), h2⟩
theorem ValsR.take' {n : Nat} : ∀ {ws : List Val} {vs : List V}, (cellsOf ws).all (fun k => decide (k < n)) = true → ValsR I K G ρ ws vs → ValsR I K G (ρ.take n) ws vs
  | [], vs, _, r => r
  | .fz d :: ws, vs, b, ⟨v, t, h1, h2, h3⟩ => ⟨v, t, h1, h2, ValsR.take' (ws := ws) b h3⟩
  | .cel k :: ws, vs, b, ⟨v, t, h1, h2, h3⟩ => by
    have b' : (decide (k < n) && (cellsOf ws).all fun k => decide (k < n)) = true := b
    rw [Bool.and_eq_true] at b'
    exact ⟨v, t, h1, ValR.take (u := .cel k) b'.1 h2, ValsR.take' b'.2 h3⟩
theorem RepO.take {n : Nat} {o : O} {h : HO} (b : o.below n = true) (r : RepO I K G ρ o h) : RepO I K G (ρ.take n) o h := by
  cases o with
  | lst ws => obtain ⟨vs, h1, h2⟩ := r; exact ⟨vs, h1, h2.take' b⟩
  | tup ws => obtain ⟨vs, h1, h2⟩ := r; exact ⟨vs, h1, h2.take' b⟩
  | dct ks ws => obtain ⟨vs, h1, h2, h3⟩ := r; exact ⟨vs, h1, h2, h3.take' b⟩
  | ins c ws => obtain ⟨dx, fs, h1, h2, h3⟩ := r; exact ⟨dx, fs, h1, h2, h3.take' b⟩
  | ice d => exact r
theorem Wd.take {n : Nat} (w : Wd I K G ρ μ H) (b : closed n μ = true) : Wd I K G (ρ.take n) (μ.take n) H := by
  refine ⟨w.sub, by rw [List.length_take, List.length_take, w.len], w.nd.sublist (List.take_sublist _ _), fun k a o h1 h2 => ?_⟩
  have hk : k < n := by
    have := (List.getElem?_eq_some_iff.mp h1).1
    rw [List.length_take] at this; omega
  have bo : o.below n = true := List.all_eq_true.mp b o (List.mem_iff_getElem?.mpr ⟨k, h2⟩)
  rw [List.getElem?_take_of_lt hk] at h1 h2
  obtain ⟨h, h5, h6⟩ := w.cell k a o h1 h2
  refine ⟨h, h5, ?_⟩
  cases o with
  | ice d => exact h6
  | lst ws => exact ⟨h6.1, RepO.take (o := .lst ws) bo h6.2⟩
  | tup ws => exact ⟨h6.1, RepO.take (o := .tup ws) bo h6.2⟩
  | dct ks ws => exact ⟨h6.1, RepO.take (o := .dct ks ws) bo h6.2⟩
  | ins c ws => exact ⟨h6.1, RepO.take (o := .ins c ws) bo h6.2⟩
theorem Aft.take {n : Nat} (a : Aft G0 ρ0 H0 G ρ H) (hn : ρ0.length = n) : Aft G0 ρ0 H0 G (ρ.take n) H := by
  obtain ⟨t, e, f⟩ := a.pre
  refine ⟨a.ex, a.fr, a.nw, [], ?_, fun _ z => nomatch z⟩
  rw [e, ← hn, List.take_left', List.append_nil]
  rfl
end
end EW
set_option maxRecDepth 100000
set_option maxHeartbeats 2000000
namespace EW
open PySem L2 PySem.Spec PyProof.Rows
section
variable {I : Ci} {X : Cx} {n k : Nat} {F : Fx} {W : WX} {σ : L2.St} {G G0 : Hp} {ρ ρ0 : List Addr} {H H0 : Hp} {μ : Mu} {δ : EW.Env} {f C : Addr} {fd : FuncData} {ps : List Str} {sp : Sp}
theorem run_at {pins : List (Addr × Obj)} {s : Shared} {Q : VK} {us : List Value} {vs : List V} (Ff : FnOk X.prog X.w X.K X.mg X.base (L2.CX X.prog X.w) k f fd ps sp) (hr : Room k X.A) (hb : Binds X.K fd ps []) (tk : Takes X W) (J : Inv X pins σ H s) (r : Vals vs us) (h : sp vs H Q fun cls d H' => W cls d σ H') :
    wpAny (model X.prog X.w) X.A (call (.ref f) us) (EP X pins σ Q) X.xe s := run_fnS (E := fun σ cls d H' => W cls d σ H') Ff hr hb (passAt tk σ) J r h
theorem wpE_call0 {x : Str} {p pos : Pos} {Q : VK} (Ff : FnOk X.prog X.w X.K X.mg X.base (L2.CX X.prog X.w) k f fd ps sp) (hr : Room k X.A) (hb : Binds X.K fd ps []) (tk : Takes X W) (hg : Gl X x) (hm : X.mg x = some (.ref f)) (hk : PySem.W.keepIn X.K (.ref f) = true) (hd : (x == ("__debug__" : Str)) = false)
    (h : sp [] H Q fun cls d H' => W cls d σ H') : wpE X (.Call (.Name x p) [] [] pos) σ H Q := by
  intro pins s J
  refine wpAny_Call_Name_kw (ld_glob J hg hm ?_ hd)
  exact PySem.W.callWith_K0 J.kIn hk (run_at (us := []) Ff hr hb tk J .nil h)
theorem wpE_call {x : Str} {p pos : Pos} {e : Expr} {es : List Expr} {Q : VK} (Ff : FnOk X.prog X.w X.K X.mg X.base (L2.CX X.prog X.w) k f fd ps sp) (hr : Room k X.A) (hb : Binds X.K fd ps []) (tk : Takes X W) (hg : Gl X x) (hm : X.mg x = some (.ref f)) (hk : PySem.W.keepIn X.K (.ref f) = true) (hd : (x == ("__debug__" : Str)) = false)
    (h : wpA X (e :: es) σ H fun vs H1 => sp vs H1 Q fun cls d H' => W cls d σ H') (he : starEach (e :: es) X.env = (false, eval e X.env) :: starEach es X.env) (hpl : (backTo pos (starEach es X.env)).any (·.1) = false) : wpE X (.Call (.Name x p) (e :: es) [] pos) σ H Q := by
  intro pins s J
  refine wpAny_Call_Name_kw (ld_glob J hg hm ?_ hd)
  refine PySem.W.callWith_K (h₀ := X.base) J.ok.mod.kin hk (thn (h pos pins s J) fun us s1 ⟨vs, H1, I1, r, q⟩ => ⟨I1.kIn, ?_⟩) he hpl
  exact run_at Ff hr hb tk I1 r q
theorem wpE_meth0 {m : Str} {apos pos : Pos} {o : Expr} {Q : VK} {pl : Sem Bool} (hr : Room k X.A) (tk : Takes X W)
    (h : wpE X o σ H fun x H1 => ∃ C f fd ps sp, Cls X.K C ∧ Meth X.K C m f ∧ FnOk X.prog X.w X.K X.mg X.base (L2.CX X.prog X.w) k f fd ps sp ∧ Binds X.K fd ps [] ∧ ∃ a dx fs, x = .ref a ∧ H1 a = some (.ins C dx fs) ∧ fs.lookup m = none ∧ sp [x] H1 Q fun cls d H' => W cls d σ H')
    (ht : eval (.Call (.Attribute o m apos) [] [] pos) X.env = (do
      let ov ← eval o X.env
      standAt apos.atName
      let (f, first) ← holding [ov] (getMethod ov m pl)
      callWith pos f first (backTo pos (starEach [] X.env)) (backToKw pos (keywordEach [] X.env)))) : wpE X (.Call (.Attribute o m apos) [] [] pos) σ H Q := by
  intro pins s J
  refine PySem.W.methodCall_KW (pl := pl) (thn (h pins s J) fun u s1 ⟨x, H1, I1, rx, C, f, fd, ps, sp, c, hm, Ff, hb, a, dx, fs, ex, ea, l, q⟩ => ?_) ht
  subst ex
  obtain rfl : u = Value.ref a := rx
  refine getmeth_ok I1 ea c hm l ?_
  exact PySem.W.callWith_K0 (first := [.ref a]) I1.kIn hm.kp (run_at (us := [.ref a]) (vs := [.ref a]) Ff hr hb tk I1 (.cons rfl .nil) q)
theorem wpE_meth {m : Str} {apos pos : Pos} {o e : Expr} {es : List Expr} {Q : VK} {pl : Sem Bool} (hr : Room k X.A) (tk : Takes X W)
    (h : wpE X o σ H fun x H1 => ∃ C f fd ps sp, Cls X.K C ∧ Meth X.K C m f ∧ FnOk X.prog X.w X.K X.mg X.base (L2.CX X.prog X.w) k f fd ps sp ∧ Binds X.K fd ps [] ∧ ∃ a dx fs, x = .ref a ∧ H1 a = some (.ins C dx fs) ∧ fs.lookup m = none ∧ wpA X (e :: es) σ H1 fun vs H2 => sp (x :: vs) H2 Q fun cls d H' => W cls d σ H')
    (hst : starEach (e :: es) X.env = (false, eval e X.env) :: starEach es X.env) (hpl : (backTo pos (starEach es X.env)).any (·.1) = false)
    (ht : eval (.Call (.Attribute o m apos) (e :: es) [] pos) X.env = (do
      let ov ← eval o X.env
      standAt apos.atName
      let (f, first) ← holding [ov] (getMethod ov m pl)
      callWith pos f first (backTo pos (starEach (e :: es) X.env)) (backToKw pos (keywordEach [] X.env)))) : wpE X (.Call (.Attribute o m apos) (e :: es) [] pos) σ H Q := by
  intro pins s J
  refine PySem.W.methodCall_KW (pl := pl) (thn (h pins s J) fun u s1 ⟨x, H1, I1, rx, C, f, fd, ps, sp, c, hm, Ff, hb, a, dx, fs, ex, ea, l, q⟩ => ?_) ht
  subst ex
  obtain rfl : u = Value.ref a := rx
  refine getmeth_ok I1 ea c hm l ?_
  refine PySem.W.callWith_K (first := [.ref a]) (h₀ := X.base) J.ok.mod.kin hm.kp (thn (q pos pins s1 I1) fun us s2 ⟨vs, H2, I2, r, q2⟩ => ⟨I2.kIn, ?_⟩) hst hpl
  exact run_at (us := .ref a :: us) (vs := .ref a :: vs) Ff hr hb tk I2 (.cons rfl r) q2
/-- an object is made -/
theorem run_makeS {pins : List (Addr × Obj)} {s : Shared} {Q : VK} {us : List Value} {vs : List V} (M : Mk X.K C f) (Ff : FnOk X.prog X.w X.K X.mg X.base (L2.CX X.prog X.w) k f fd ps sp) (hr : Room (k + 1) X.A) (hb : Binds X.K fd ps []) (tk : Takes X W) (J : Inv X pins σ H s) (r : Vals vs us)
    (h : ∀ x dx, H x = none → H dx = none → dx ≠ x → sp (.ref x :: vs) (upd (upd H dx (.own x)) x (.ins C dx [])) (fun v H2 => v = .non ∧ Q (.ref x) H2) fun cls d H' => W cls d σ H') :
    wpAny (model X.prog X.w) X.A (call (.ref C) us) (EP X pins σ Q) X.xe s := by
  have hq := h (s.heap.objs.size + 1) s.heap.objs.size (J.hok.fresh (Nat.le_succ _)) (J.hok.fresh (Nat.le_refl _)) (Nat.ne_of_lt (Nat.lt_succ_self _))
  have I2 := Inv.made (C := C) J
  have r2 : Vals (V.ref (s.heap.objs.size + 1) :: vs) (Value.ref (s.heap.objs.size + 1) :: us) := .cons rfl r
  have hl : (Value.ref (s.heap.objs.size + 1) :: us).length = ps.length := by
    have e := r2.length
    rw [Ff.len _ _ _ _ hq] at e
    exact e.symm
  refine wpAny_call (make_map (f := f) J.kIn M.makes M.init (beq_iff_eq.mp M.fn) (codeAny_mono (Ff.run _ X.stack _ _ ⟨Value.ref (s.heap.objs.size + 1) :: us, []⟩ (Value.ref (s.heap.objs.size + 1) :: us) _ _ _ (hr.make C us [])
    (I2.env0.make C us []) (by
      have := hb { s with heap := _ } (Value.ref (s.heap.objs.size + 1) :: us) I2.kIn (by rw [List.append_nil]; exact hl)
      rw [List.append_nil] at this
      exact this) r2 hq) fun r s' hq' => ?_))
  cases r with
  | error e => exact passAt tk σ pins _ _ e s' I2 hq'
  | ok fl =>
    cases fl with
    | ret u =>
      obtain ⟨v, H', I3, rv, ev, q3⟩ := I2.after hq'
      subst ev
      exact ⟨rv, ⟨V.ref (s.heap.objs.size + 1), H', I3, rfl, q3⟩⟩
    | next => exact False.elim hq'
    | brk => exact False.elim hq'
    | cont => exact False.elim hq'
abbrev MakeP (X : Cx) (C : Addr) (sp : Sp) (W : WX) (σ : L2.St) (vs : List V) (H : Hp) (Q : VK) : Prop := ∀ x dx, H x = none → H dx = none → dx ≠ x → sp (.ref x :: vs) (upd (upd H dx (.own x)) x (.ins C dx [])) (fun v H2 => v = .non ∧ Q (.ref x) H2) fun cls d H' => W cls d σ H'
theorem wpE_make0 {x : Str} {p pos : Pos} {Q : VK} (M : Mk X.K C f) (Ff : FnOk X.prog X.w X.K X.mg X.base (L2.CX X.prog X.w) k f fd ps sp) (hr : Room (k + 1) X.A) (hb : Binds X.K fd ps []) (tk : Takes X W) (hg : Gl X x) (hm : X.mg x = some (.ref C)) (hd : (x == ("__debug__" : Str)) = false)
    (h : MakeP X C sp W σ [] H Q) : wpE X (.Call (.Name x p) [] [] pos) σ H Q := by
  intro pins s J
  refine wpAny_Call_Name_kw (ld_glob J hg hm ?_ hd)
  exact PySem.W.callWith_K0 J.kIn M.kp (run_makeS (us := []) M Ff hr hb tk J .nil h)
theorem wpE_make {x : Str} {p pos : Pos} {e : Expr} {es : List Expr} {Q : VK} (M : Mk X.K C f) (Ff : FnOk X.prog X.w X.K X.mg X.base (L2.CX X.prog X.w) k f fd ps sp) (hr : Room (k + 1) X.A) (hb : Binds X.K fd ps []) (tk : Takes X W) (hg : Gl X x) (hm : X.mg x = some (.ref C)) (hd : (x == ("__debug__" : Str)) = false)
    (h : wpA X (e :: es) σ H fun vs H1 => MakeP X C sp W σ vs H1 Q) (he : starEach (e :: es) X.env = (false, eval e X.env) :: starEach es X.env) (hpl : (backTo pos (starEach es X.env)).any (·.1) = false) : wpE X (.Call (.Name x p) (e :: es) [] pos) σ H Q := by
  intro pins s J
  refine wpAny_Call_Name_kw (ld_glob J hg hm ?_ hd)
  refine PySem.W.callWith_K (h₀ := X.base) J.ok.mod.kin M.kp (thn (h pos pins s J) fun us s1 ⟨vs, H1, I1, r, q⟩ => ⟨I1.kIn, ?_⟩) he hpl
  exact run_makeS M Ff hr hb tk I1 r q
theorem cells_flat : ∀ {ws : List Val}, (cellsOf ws).isEmpty = true → ∃ ds : List D, ws = ds.map Val.fz
  | [], _ => ⟨[], rfl⟩
  | .fz d :: r, h => by obtain ⟨ds, e⟩ := cells_flat (ws := r) h; exact ⟨d :: ds, by rw [e]; rfl⟩
  | .cel k :: r, h => by simp [cellsOf] at h
theorem make_ok {g : List Val → Mu → Out Res} {c : Nat} {ws : List Val} {vs : List V} {Q : VK} (p : Po I X.K W σ G ρ H (makeR g c ws μ) (QE I X.K H0 Q)) (A : Aft G0 ρ0 H0 G ρ H) (w : Wd I X.K G ρ μ H) (r : ValsR I X.K G ρ ws vs) : MakeP X (I.ca c) (spF I X.K g) W σ vs H Q := by
  intro x dx hx hdx hne
  have hx1 : upd H dx (.own x) x = none := by rw [upd_ne (fun z => hne z.symm)]; exact hx
  have keep : ∀ a o, H a = some o → upd (upd H dx (.own x)) x (.ins (I.ca c) dx []) a = some o := fun a o e => Ex.new hx1 _ _ (Ex.new hdx _ _ e)
  unfold makeR at p
  split at p
  · rename_i hemp
    obtain ⟨ds, rfl⟩ := cells_flat hemp
    have w1 : Wd I X.K G [x] [.ins c []] (upd (upd H dx (.own x)) x (.ins (I.ca c) dx [])) := by
      refine ⟨((w.lay hdx (.own x)).lay hx1 _).sub, rfl, by simp, fun k a o e1 e2 => ?_⟩
      have hk : k = 0 := by
        have := (List.getElem?_eq_some_iff.mp e1).1
        simp at this; exact this
      subst hk
      simp at e1 e2
      subst e1 e2
      exact ⟨_, upd_same, w.gfree hx, dx, [], rfl, by simp [Ci.ns], rfl⟩
    refine ⟨G, [x], [.ins c []], .cel 0 :: ds.map Val.fz, w1, ⟨_, _, rfl, ⟨x, rfl, rfl⟩, (Vals.reps r).vals⟩, ?_⟩
    have back : ∀ G' H', Aft G [x] (upd (upd H dx (.own x)) x (.ins (I.ca c) dx [])) G' [x] H' → Sub G' H' → Aft G ρ H G' ρ H' ∧ Wd I X.K G' ρ μ H' := by
      intro G' H' a' sb
      have nx : ∀ a o, H a = some o → a ∉ [x] := fun a o e m => by
        have : a = x := by simpa using m
        subst this; rw [hx] at e; cases e
      refine ⟨⟨a'.ex, fun a o e _ => a'.fr' (keep a o e) (nx a o e), fun a o e g _ => a'.nw a o (keep a o e) g (nx a o e), [], by simp, fun _ z => nomatch z⟩, sb, w.len, w.nd, fun k a o e1 e2 => ?_⟩
      obtain ⟨h, h1, h2⟩ := w.cell k a o e1 e2
      exact ⟨h, a'.fr' (keep a h h1) (nx a h h1), h2.ex a'.ex (fun _ _ z => z) fun z => a'.nw a h (keep a h h1) z (nx a h h1)⟩
    revert p
    cases g (.cel 0 :: ds.map Val.fz) [.ins c []] with
    | ok rr μ' =>
      dsimp only
      intro p
      intro G' ρ' H' a' w' v hv nv
      split at p
      · rename_i o e
        cases e
        split at p
        · rename_i fo
          have e : ρ' = [x] := grown_none a' (by rw [w'.len]; rfl)
          subst e
          obtain ⟨b1, b2⟩ := back G' H' a' w'.sub
          refine ⟨hv, p G' ρ H' b1 b2 (.ref x) ?_ fun o' a _ z => ?_⟩
          · obtain ⟨h, h1, h2, h3⟩ := w'.cel (k := 0) (a := x) (o := o) rfl rfl (O.flat_ni fo)
            exact ⟨x, h, rfl, w.fresh hx, h2, h1, h3.flat fo, O.flat_ni fo⟩
          · cases z
            exact A.fresh hx (A.sup (w.fresh hx))
        · exact p.elim
      · exact p.elim
      · rename_i e; cases e
      · rename_i e; cases e
    | ex z μ' =>
      dsimp only
      intro p cls d G' ρ' H' a' w' er
      have a2 : Aft G [x] (upd (upd H dx (.own x)) x (.ins (I.ca c) dx [])) G' [x] H' := ⟨a'.ex, a'.fr, a'.nw, [], by simp, fun _ z => nomatch z⟩
      obtain ⟨b1, b2⟩ := back G' H' a2 w'.sub
      exact p cls d G' ρ H' b1 b2 er
    | no => intro p; exact p
  · have w1 := (w.lay hdx (.own x)).lay hx1 (.ins (I.ca c) dx [])
    obtain ⟨B1, B2, B3, B4⟩ := w1.hold (o := .ins c []) ((Aft.lay (G := G) (ρ := ρ) hdx (.own x)).trans (Aft.lay hx1 (.ins (I.ca c) dx []))) (w.fresh hx) (w.gfree hx) upd_same ⟨dx, [], rfl, by simp [Ci.ns], rfl⟩ (fun _ z => nomatch z) hx
    refine ⟨G, ρ ++ [x], μ ++ [.ins c []], .cel μ.length :: ws, B2, ⟨_, _, rfl, ⟨x, B3, rfl⟩, r.ex (Ex.refl _) B4⟩, ?_⟩
    unfold makeC at p
    revert p
    cases g (.cel μ.length :: ws) (μ ++ [.ins c []]) with
    | ok rr μ' =>
      dsimp only
      intro p
      intro G' ρ' H' a' w' v hv nv
      split at p
      · rename_i e
        cases e
        split at p
        · rename_i hc
          split at p
          · rename_i o ho
            split at p
            · rename_i fo
              have hx2 := a'.pref B3
              obtain ⟨h, h1, h2, h3⟩ := w'.cel hx2 ho (O.flat_ni fo)
              refine ⟨hv, p G' _ H' ((B1.trans a').take w.len) (w'.take hc) (.ref x) ⟨x, h, rfl, fun m => ?_, h2, h1, h3.flat fo, O.flat_ni fo⟩ fun o' a _ z => ?_⟩
              · obtain ⟨j, hj⟩ := List.mem_iff_getElem?.mp m
                have hjn : j < μ.length := by
                  have := (List.getElem?_eq_some_iff.mp hj).1
                  rw [List.length_take] at this; omega
                rw [List.getElem?_take_of_lt hjn] at hj
                exact absurd (inj_get w'.nd hj hx2) (by omega)
              · cases z
                exact A.fresh hx (A.sup (w.fresh hx))
            · exact p.elim
          · exact p.elim
        · exact p.elim
      · exact p.elim
      · rename_i e; cases e
      · rename_i e; cases e
    | ex z μ' =>
      dsimp only
      intro p cls d G' ρ' H' a' w' er
      split at p
      · rename_i hc
        exact p cls d G' _ H' ((B1.trans a').take w.len) (w'.take hc) er
      · exact p.elim
    | no => intro p; exact p
end
end EW
set_option maxRecDepth 100000
set_option maxHeartbeats 2000000
namespace EW
open PySem L2 PySem.Spec PyProof.Rows
section
variable {X : Cx} {tg : Expr} {pins : List (Addr × Obj)} {σ : L2.St} {H : Hp} {s : Shared} {R : It → Hp → Prop}
/-- what is walked, by values -/
def rIt (K : PySem.W.Frag) (x : V) (H : Hp) (R : It → Hp → Prop) : Prop :=
  (∃ a, x = .ref a ∧ (∃ xs, SqL K H a xs) ∧ R (Itl K a) H) ∨ (∃ a, x = .ref a ∧ (∃ xs, SqT K H a xs) ∧ R (Itt K a) H) ∨ ∃ z, x = .str z ∧ R (Its z) H
theorem it_by {x : V} {v : Value} (I1 : Inv X pins σ H s) (r1 : RelV x v) (h : rIt X.K x H R) : wpAny (model X.prog X.w) X.A (pyIter v) (PIE X pins σ tg R) X.xe s := by
  rcases h with ⟨a, e, ⟨xs, hq⟩, q⟩ | ⟨a, e, ⟨xs, hq⟩, q⟩ | ⟨z, e, q⟩
  · subst e
    cases r1
    obtain ⟨its, rv, p, hz⟩ := I1.list hq
    refine wpAny_pyIter_list p.isList ?_
    refine ⟨s.heap.objs.size, [s.heap.objs.size], _, _, H, rfl, I1.kept (t' := s.toks) fun b o e => Heap.get?_push_of_some _ e, turn_list a _, ⟨_, Heap.get?_push_size _ rfl, rfl, rfl⟩, fun b hb => ?_, q⟩
    have e : b = s.heap.objs.size := by simpa using hb
    subst e
    exact I1.fpOk (Nat.le_refl _) (I1.hok.fresh (Nat.le_refl _))
  · subst e
    cases r1
    obtain ⟨its, rv, p, hz⟩ := I1.tuple hq
    refine wpAny_pyIter_tuple (show s.heap.IsTuple a its.toArray from p) ?_
    refine ⟨s.heap.objs.size, [s.heap.objs.size], _, _, H, rfl, I1.kept (t' := s.toks) fun b o e => Heap.get?_push_of_some _ e, turn_tuple a _, ⟨_, Heap.get?_push_size _ rfl, rfl, rfl⟩, fun b hb => ?_, q⟩
    have e : b = s.heap.objs.size := by simpa using hb
    subst e
    exact I1.fpOk (Nat.le_refl _) (I1.hok.fresh (Nat.le_refl _))
  · subst e
    obtain ⟨t, rfl⟩ := r1
    cases ha : z.cps.all (· < 128)
    · exact wpAny_pyIter_wide ha (pi_one (tk := s.toks) I1 _ (turn_str _ z t "str_iterator" (.inr rfl)) ⟨_, Heap.get?_push_size _ rfl, rfl, rfl⟩ q)
    · exact wpAny_pyIter_ascii ha (pi_one (tk := s.toks) I1 _ (turn_str _ z t "str_ascii_iterator" (.inl rfl)) ⟨_, Heap.get?_push_size _ rfl, rfl, rfl⟩ q)
end
def wpI (X : Cx) (tg iter : Expr) : TI := fun σ H R => ∀ pins s, Inv X pins σ H s → wpAny (model X.prog X.w) X.A (eval iter X.env) (fun v s1 => wpAny (model X.prog X.w) X.A (pyIter v) (PIE X pins σ tg R) X.xe s1) X.xe s
theorem seI {X : Cx} {tg iter : Expr} : PI X tg iter (wpI X tg iter) := ⟨fun pins s _ _ _ I h => h pins s I⟩
theorem ofI {X : Cx} {tg iter : Expr} {t : TI} {σ : L2.St} {H : Hp} {R : It → Hp → Prop} (p : PI X tg iter t) (h : t σ H R) : wpI X tg iter σ H R := fun pins s I => p.run pins s σ H R I h
theorem wpI_seq {X : Cx} {tg iter : Expr} {σ : L2.St} {H : Hp} {R : It → Hp → Prop} (h : wpE X iter σ H fun x H1 => rIt X.K x H1 R) : wpI X tg iter σ H R := fun pins s J => thn (h pins s J) fun v s1 ⟨x, H1, I1, r1, q1⟩ => it_by I1 r1 q1
def rEn (K : PySem.W.Frag) (vs : List V) (H : Hp) (R : It → Hp → Prop) : Prop := (∃ a xs, vs = [.ref a] ∧ SqL K H a xs ∧ R (Ite K a) H) ∨ ∃ a xs, vs = [.ref a] ∧ SqT K H a xs ∧ R (IteT K a) H
theorem wpI_enum {X : Cx} {e : Expr} {p pos tpos : Pos} {elts : List Expr} {kk : Nat} {σ : L2.St} {H : Hp} {R : It → Hp → Prop} (hg : Gl X "enumerate") (hm : X.mg "enumerate" = none) (hs : starEach [e] X.env = [(false, eval e X.env)]) (h : wpA X [e] σ H fun vs H1 => rEn X.K vs H1 R) :
    wpI X (.Tuple elts kk tpos) (.Call (.Name "enumerate" p) [e] [] pos) σ H R := by
  intro pins s J
  refine Call_ (ld_blt J hg hm boot_enumerate (PyProof.Rows.callWith_type1 (thn (h pos pins s J) fun us s1 ⟨vs, H1, I1, r1, q1⟩ => ?_) hs rfl))
  have fin : ∀ b, b = s1.heap.objs.size + 1 ∨ b = s1.heap.objs.size → FpOk X pins H1 b := fun b e' => by
    have hle : s1.heap.objs.size ≤ b := by
      rcases e' with z | z
      · rw [z]; exact Nat.le_add_right _ _
      · rw [z]; exact Nat.le_refl _
    exact I1.fpOk hle (I1.hok.fresh hle)
  rcases q1 with ⟨a, xs, ex, hq, q⟩ | ⟨a, xs, ex, hq, q⟩
  · subst ex
    cases r1 with
    | cons r rr =>
      cases rr
      cases r
      obtain ⟨its, rv, p', hz⟩ := I1.list hq
      refine call_enumerate_list p'.isList fun h' he hit hsz hk => wpAny_pyIter_enum he ?_
      have I2 : Inv X pins σ H1 { s1 with heap := h' } := I1.kept (t' := s1.toks) hk
      exact ⟨s1.heap.objs.size + 1, [s1.heap.objs.size + 1, s1.heap.objs.size], _, _, H1, rfl, I2, turn_enum a (s1.heap.objs.size + 1) s1.heap.objs.size, ⟨⟨.none, he⟩, hit, Nat.succ_ne_self _⟩, fun b hb => fin b (by simpa using hb), q⟩
  · subst ex
    cases r1 with
    | cons r rr =>
      cases rr
      cases r
      obtain ⟨its, rv, p', hz⟩ := I1.tuple hq
      refine call_enumT (show s1.heap.IsTuple a its.toArray from p') fun h' he hit hsz hk => wpAny_pyIter_enum he ?_
      have I2 : Inv X pins σ H1 { s1 with heap := h' } := I1.kept (t' := s1.toks) hk
      exact ⟨s1.heap.objs.size + 1, [s1.heap.objs.size + 1, s1.heap.objs.size], _, _, H1, rfl, I2, turn_enumT a (s1.heap.objs.size + 1) s1.heap.objs.size, ⟨⟨.none, he⟩, hit, Nat.succ_ne_self _⟩, fun b hb => fin b (by simpa using hb), q⟩
def ItR (I : Ci) (K : PySem.W.Frag) (G : Hp) (ρ : List Addr) (H : Hp) : Item → V → Prop
  | .one w, x => ValR I K G ρ w x
  | .pr i w, x => ∃ T z, x = .ref T ∧ SqT K H T [.int i, z] ∧ ValR I K G ρ w z
structure ItOk (I : Ci) (K : PySem.W.Frag) (G0 : Hp) (ρ0 : List Addr) (H0 : Hp) (J : It) (its : List Item) (c : Ck) : Prop where
  go : ∀ i G' ρ' μ' H', Aft G0 ρ0 H0 G' ρ' H' → Wd I K G' ρ' μ' H' → chk c μ' = true → i < its.length → J.go i H'
  stop : ∀ G' ρ' μ' H', Aft G0 ρ0 H0 G' ρ' H' → Wd I K G' ρ' μ' H' → chk c μ' = true → J.stop its.length H'
  yld : ∀ (i : Nat) G' ρ' μ' H' x H'' it, Aft G0 ρ0 H0 G' ρ' H' → Wd I K G' ρ' μ' H' → chk c μ' = true → its[i]? = some it → J.yld i H' x H'' → Aft G' ρ' H' G' ρ' H'' ∧ Wd I K G' ρ' μ' H'' ∧ ItR I K G' ρ' H'' it x
section
variable {I : Ci} {K : PySem.W.Frag} {G : Hp} {ρ : List Addr} {H : Hp} {μ : Mu}
/-- a sequence as it stands at each turn -/
def Stays (I : Ci) (K : PySem.W.Frag) (G : Hp) (ρ : List Addr) (H : Hp) (c : Ck) (ws : List Val) (φ : Hp → List V → Prop) : Prop :=
  ∀ G' ρ' μ' H', Aft G ρ H G' ρ' H' → Wd I K G' ρ' μ' H' → chk c μ' = true → ∃ vs, φ H' vs ∧ ValsR I K G' ρ' ws vs
theorem it_list {a : Addr} {ws : List Val} {c : Ck} (st : Stays I K G ρ H c ws fun H' vs => SqL K H' a vs) : ItOk I K G ρ H (Itl K a) (ws.map .one) c := by
  refine ⟨fun i G' ρ' μ' H' A w ck hi => ?_, fun G' ρ' μ' H' A w ck => ?_, fun i G' ρ' μ' H' x H'' it A w ck e y => ?_⟩
  · obtain ⟨vs, h1, h2⟩ := st G' ρ' μ' H' A w ck
    have hi' : i < vs.length := by rw [h2.length]; simpa using hi
    exact ⟨vs, vs[i], h1, List.getElem?_eq_getElem hi'⟩
  · obtain ⟨vs, h1, h2⟩ := st G' ρ' μ' H' A w ck
    exact ⟨vs, h1, by rw [h2.length, List.length_map]; exact Nat.le_refl _⟩
  · obtain ⟨vs, h1, h2⟩ := st G' ρ' μ' H' A w ck
    obtain ⟨e1, y⟩ := y
    subst e1
    rw [List.getElem?_map] at e
    cases q : ws[i]? with
    | none => rw [q] at e; cases e
    | some u =>
      rw [q] at e
      cases e
      obtain ⟨v, h3, h4⟩ := h2.get q
      have := y vs h1
      rw [h3] at this
      cases this
      exact ⟨Aft.refl, w, h4⟩
theorem it_tup {a : Addr} {ws : List Val} {c : Ck} (st : Stays I K G ρ H c ws fun H' vs => SqT K H' a vs) : ItOk I K G ρ H (Itt K a) (ws.map .one) c := by
  refine ⟨fun i G' ρ' μ' H' A w ck hi => ?_, fun G' ρ' μ' H' A w ck => ?_, fun i G' ρ' μ' H' x H'' it A w ck e y => ?_⟩
  · obtain ⟨vs, h1, h2⟩ := st G' ρ' μ' H' A w ck
    have hi' : i < vs.length := by rw [h2.length]; simpa using hi
    exact ⟨vs, vs[i], h1, List.getElem?_eq_getElem hi'⟩
  · obtain ⟨vs, h1, h2⟩ := st G' ρ' μ' H' A w ck
    exact ⟨vs, h1, by rw [h2.length, List.length_map]; exact Nat.le_refl _⟩
  · obtain ⟨vs, h1, h2⟩ := st G' ρ' μ' H' A w ck
    obtain ⟨e1, y⟩ := y
    subst e1
    rw [List.getElem?_map] at e
    cases q : ws[i]? with
    | none => rw [q] at e; cases e
    | some u =>
      rw [q] at e
      cases e
      obtain ⟨v, h3, h4⟩ := h2.get q
      have := y vs h1
      rw [h3] at this
      cases this
      exact ⟨Aft.refl, w, h4⟩
theorem enumI_get : ∀ {ws : List Val} {k : Int} {i : Nat} {it : Item}, (enumI k ws)[i]? = some it → ∃ w, ws[i]? = some w ∧ it = .pr (k + i) w
  | [], _, _, _, h => by simp [enumI] at h
  | w :: ws, k, 0, it, h => by simp [enumI] at h; exact ⟨w, rfl, by rw [← h]; simp⟩
  | w :: ws, k, i + 1, it, h => by
    simp only [enumI, List.getElem?_cons_succ] at h
    obtain ⟨w', h1, h2⟩ := enumI_get h
    exact ⟨w', by simpa using h1, by rw [h2]; congr 1; push_cast; omega⟩
theorem enumI_len : ∀ (ws : List Val) (k : Int), (enumI k ws).length = ws.length
  | [], _ => rfl
  | d :: ds, k => by rw [enumI, List.length_cons, enumI_len, List.length_cons]
theorem it_enum {a : Addr} {ws : List Val} {c : Ck} (st : Stays I K G ρ H c ws fun H' vs => SqL K H' a vs) : ItOk I K G ρ H (Ite K a) (enumI 0 ws) c := by
  refine ⟨fun i G' ρ' μ' H' A w ck hi => ?_, fun G' ρ' μ' H' A w ck => ?_, fun i G' ρ' μ' H' x H'' it A w ck e y => ?_⟩
  · obtain ⟨vs, h1, h2⟩ := st G' ρ' μ' H' A w ck
    have hi' : i < vs.length := by rw [h2.length]; rw [enumI_len] at hi; exact hi
    exact ⟨vs, vs[i], h1, List.getElem?_eq_getElem hi'⟩
  · obtain ⟨vs, h1, h2⟩ := st G' ρ' μ' H' A w ck
    exact ⟨vs, h1, by rw [h2.length, enumI_len]; exact Nat.le_refl _⟩
  · obtain ⟨vs, h1, h2⟩ := st G' ρ' μ' H' A w ck
    obtain ⟨T, z, e1, hT, e2, y⟩ := y
    subst e1 e2
    obtain ⟨u, h3, h4⟩ := enumI_get e
    subst h4
    obtain ⟨v, h5, h6⟩ := h2.get h3
    have := y vs h1
    rw [h5] at this
    cases this
    refine ⟨Aft.lay hT _, w.lay hT _, T, z, rfl, .inl (.inl ?_), h6⟩
    rw [upd_same]; simp
theorem it_enumT {a : Addr} {ws : List Val} {c : Ck} (st : Stays I K G ρ H c ws fun H' vs => SqT K H' a vs) : ItOk I K G ρ H (IteT K a) (enumI 0 ws) c := by
  refine ⟨fun i G' ρ' μ' H' A w ck hi => ?_, fun G' ρ' μ' H' A w ck => ?_, fun i G' ρ' μ' H' x H'' it A w ck e y => ?_⟩
  · obtain ⟨vs, h1, h2⟩ := st G' ρ' μ' H' A w ck
    have hi' : i < vs.length := by rw [h2.length]; rw [enumI_len] at hi; exact hi
    exact ⟨vs, vs[i], h1, List.getElem?_eq_getElem hi'⟩
  · obtain ⟨vs, h1, h2⟩ := st G' ρ' μ' H' A w ck
    exact ⟨vs, h1, by rw [h2.length, enumI_len]; exact Nat.le_refl _⟩
  · obtain ⟨vs, h1, h2⟩ := st G' ρ' μ' H' A w ck
    obtain ⟨T, z, e1, hT, e2, y⟩ := y
    subst e1 e2
    obtain ⟨u, h3, h4⟩ := enumI_get e
    subst h4
    obtain ⟨v, h5, h6⟩ := h2.get h3
    have := y vs h1
    rw [h5] at this
    cases this
    refine ⟨Aft.lay hT _, w.lay hT _, T, z, rfl, .inl (.inl ?_), h6⟩
    rw [upd_same]; simp
theorem it_str {z : Str} : ItOk I K G ρ H (Its z) ((signs z).map .one) none := by
  refine ⟨fun i G' ρ' μ' H' A w ck hi => ?_, fun G' ρ' μ' H' A w ck => ?_, fun i G' ρ' μ' H' x H'' it A w ck e y => ?_⟩
  · show i < z.cps.size
    simpa [signs] using hi
  · show z.cps.size ≤ ((signs z).map Item.one).length
    simp [signs]
  · obtain ⟨e1, c, hc, e2⟩ := y
    subst e1 e2
    refine ⟨Aft.refl, w, ?_⟩
    unfold signs at e
    rw [List.getElem?_map, List.getElem?_map, Array.getElem?_toList, hc] at e
    cases e
    exact rfl
theorem it_rng {lo : Int} {n : Nat} : ItOk I K G ρ H (Itr lo n) (rngI lo n) none := by
  refine ⟨fun i G' ρ' μ' H' A w ck hi => ?_, fun G' ρ' μ' H' A w ck => ?_, fun i G' ρ' μ' H' x H'' it A w ck e y => ?_⟩
  · have : i < n := by simpa [rngI] using hi
    exact this
  · have : n ≤ (rngI lo n).length := by simp [rngI]
    exact this
  · obtain ⟨e1, e2⟩ := y
    subst e1 e2
    refine ⟨Aft.refl, w, ?_⟩
    unfold rngI at e
    rw [List.getElem?_map] at e
    cases q : (List.range n)[i]? with
    | none => rw [q] at e; cases e
    | some j =>
      rw [q] at e
      have hj : j = i := by
        obtain ⟨h1, h2⟩ := List.getElem?_eq_some_iff.mp q
        rw [List.getElem_range] at h2
        exact h2.symm
      subst hj
      cases e
      exact rfl
theorem it_keys {d : Addr} {od : Obj} {kvs : List (Key × V)} (g : G d = some (.dK kvs)) (h : H d = some (.frz od (.dK kvs))) : ItOk I K G ρ H (Itk d od kvs) ((kvs.map (·.1)).map fun k => .one (.fz (kD k))) none := by
  have st : ∀ {G' : Hp} {ρ' : List Addr} {H' : Hp}, Aft G ρ H G' ρ' H' → H' d = some (.frz od (.dK kvs)) := fun A => A.fr d _ h fun _ => ⟨_, g⟩
  refine ⟨fun i G' ρ' μ' H' A w ck hi => ⟨st A, by simpa using hi⟩, fun G' ρ' μ' H' A w ck => ⟨st A, by simp⟩, fun i G' ρ' μ' H' x H'' it A w ck e y => ?_⟩
  obtain ⟨e1, k, v, hk, e2⟩ := y
  subst e1 e2
  refine ⟨Aft.refl, w, ?_⟩
  rw [List.getElem?_map, List.getElem?_map, hk] at e
  cases e
  cases k <;> exact rfl
theorem stay_l {a : Addr} {vs : List V} (s : Sub G H) (h : SqL K G a vs) : ∀ G' ρ' H', Aft G ρ H G' ρ' H' → SqL K H' a vs := fun G' ρ' H' A => by
  rcases h with (h | ⟨o, h⟩) | h
  · rcases s _ _ h with q | ⟨_, _, z, _⟩
    · exact .inl (.inl (A.fr _ _ q fun _ => ⟨_, h⟩))
    · cases z
  · rcases s _ _ h with q | ⟨_, _, z, _⟩
    · exact .inl (.inr ⟨o, A.fr _ _ q fun _ => ⟨_, h⟩⟩)
    · cases z
  · exact .inr h
theorem stay_t {a : Addr} {vs : List V} (s : Sub G H) (h : SqT K G a vs) : ∀ G' ρ' H', Aft G ρ H G' ρ' H' → SqT K H' a vs := fun G' ρ' H' A => by
  rcases h with (h | ⟨o, h⟩) | h
  · rcases s _ _ h with q | ⟨_, _, z, _⟩
    · exact .inl (.inl (A.fr _ _ q fun _ => ⟨_, h⟩))
    · cases z
  · rcases s _ _ h with q | ⟨_, _, z, _⟩
    · exact .inl (.inr ⟨o, A.fr _ _ q fun _ => ⟨_, h⟩⟩)
    · cases z
  · exact .inr h
/-- a sequence that is walked is a list or a tuple that stays, or a text -/
theorem seqI_ok {r : Res} {v : V} {ws : List Val} {c : Ck} (w : Wd I K G ρ μ H) (h : ResR I K G ρ H r v) (e : seqI r μ = some (ws, c)) :
    (∃ z, r = .fz (.str z) ∧ v = .str z ∧ ws = signs z ∧ c = none) ∨ chk c μ = true ∧ ((∃ a, v = .ref a ∧ Stays I K G ρ H c ws fun H' vs => SqL K H' a vs) ∨ ∃ a, v = .ref a ∧ Stays I K G ρ H c ws fun H' vs => SqT K H' a vs) := by
  unfold seqI at e
  split at e
  · rename_i z
    cases e
    exact .inl ⟨z, rfl, h, rfl, rfl⟩
  · rename_i d hz
    obtain ⟨us, h1, h2⟩ := Option.map_eq_some_iff.mp e
    cases h2
    refine .inr ⟨rfl, ?_⟩
    unfold seqV at h1
    split at h1
    · rename_i us' q
      cases h1
      unfold lsqV at q
      split at q
      · rename_i ds hd
        cases q
        cases hd
        obtain ⟨a, vs, e1, g1, r1⟩ := h
        exact .inl ⟨a, e1, fun G' ρ' μ' H' A w' _ => ⟨vs, stay_l w.sub g1 G' ρ' H' A, (Reps.mono A.ex _ _ r1).vals⟩⟩
      · unfold lstV at q
        split at q
        · rename_i ds hd
          cases q
          cases hd
          obtain ⟨a, vs, e1, g1, r1⟩ := h
          exact .inl ⟨a, e1, fun G' ρ' μ' H' A w' _ => ⟨vs, stay_l w.sub (.inl (.inl g1)) G' ρ' H' A, (Reps.mono A.ex _ _ r1).vals⟩⟩
        · rename_i hd; cases hd
        · rename_i hd; cases hd
        · cases q
    · unfold tupV at h1
      split at h1
      · rename_i ds hd
        cases h1
        cases hd
        obtain ⟨a, vs, e1, g1, r1⟩ := h
        exact .inr ⟨a, e1, fun G' ρ' μ' H' A w' _ => ⟨vs, stay_t w.sub (.inl (.inl g1)) G' ρ' H' A, (Reps.mono A.ex _ _ r1).vals⟩⟩
      · rename_i ds hd
        cases h1
        cases hd
        obtain ⟨a, vs, e1, g1, r1⟩ := h
        exact .inr ⟨a, e1, fun G' ρ' μ' H' A w' _ => ⟨vs, stay_t w.sub g1 G' ρ' H' A, (Reps.mono A.ex _ _ r1).vals⟩⟩
      · rename_i hd; cases hd
      · rename_i hd; cases hd
      · cases h1
  · rename_i k
    obtain ⟨a, h1, h2⟩ := h
    split at e
    · rename_i us q
      cases e
      refine .inr ⟨decide_eq_true q, .inl ⟨a, h2, fun G' ρ' μ' H' A w' ck => ?_⟩⟩
      obtain ⟨x, h3, _, vs, h5, h6⟩ := w'.cel (A.pref h1) (of_decide_eq_true ck) (fun _ z => nomatch z)
      subst h5
      exact ⟨vs, .inl (.inl h3), h6⟩
    · rename_i us q
      cases e
      refine .inr ⟨decide_eq_true q, .inr ⟨a, h2, fun G' ρ' μ' H' A w' ck => ?_⟩⟩
      obtain ⟨x, h3, _, vs, h5, h6⟩ := w'.cel (A.pref h1) (of_decide_eq_true ck) (fun _ z => nomatch z)
      subst h5
      exact ⟨vs, .inl (.inl h3), h6⟩
    · cases e
  · cases e
end
def setAll (σ : L2.St) : List Nat → List V → L2.St
  | j :: js, v :: vs => setAll (σ.set j (some v)) js vs
  | _, _ => σ
def gsT : List Nat → TGs
  | [] => gNil
  | j :: js => gCons (gName j) (gsT js)
def gU (K : PySem.W.Frag) : Tg → TG
  | .nm j => gName j
  | .tp js => fun v σ H Q => gTup K js.length (gsT js) v σ H Q ∨ gLst K js.length (gsT js) v σ H Q
theorem PG.or {X : Cx} {e : Expr} {t u : TG} (h1 : PG X e t) (h2 : PG X e u) : PG X e fun v σ H Q => t v σ H Q ∨ u v σ H Q := ⟨fun pins s σ H v u Q I r h => h.elim (fun q => h1.run pins s σ H v u Q I r q) fun q => h2.run pins s σ H v u Q I r q⟩
theorem loc_of {sc : Scope} {x : Str} (h : loc sc x = true) : sc.names.lookup x = some .local := by
  unfold loc at h
  split at h
  · assumption
  · cases h
theorem okNm_pgs {X : Cx} (nd : X.N.Nodup) : ∀ {js : List Nat} {es : List Expr}, okNm X.N X.env.scope js es = true → PGs X es (gsT js) ∧ (assignEach es X.env).length = js.length ∧ (assignEach es X.env).findIdx? (·.1) = none
  | [], [], _ => ⟨pgs_nil, rfl, rfl⟩
  | j :: js, .Name x p :: es, h => by
    simp only [okNm, Bool.and_eq_true, decide_eq_true_eq] at h
    obtain ⟨h1, h2, h3⟩ := okNm_pgs nd h.2
    have hl := loc_of h.1.2
    refine ⟨pgs_cons (pg_name nd h.1.1 (.inl hl) (.inr hl)) h1 rfl, ?_, ?_⟩
    · show (assignEach es X.env).length + 1 = js.length + 1
      rw [h2]
    · show (List.findIdx? (fun x => x.1) ((false, assign (.Name x p) X.env) :: assignEach es X.env)) = none
      rw [List.findIdx?_cons, h3]
      rfl
  | [], _ :: _, h => by simp [okNm] at h
  | j :: js, [], h => by simp [okNm] at h
  | j :: js, .BoolOp .. :: _, h | j :: js, .NamedExpr .. :: _, h | j :: js, .BinOp .. :: _, h | j :: js, .UnaryOp .. :: _, h | j :: js, .Lambda .. :: _, h | j :: js, .IfExp .. :: _, h | j :: js, .Dict .. :: _, h | j :: js, .Set .. :: _, h | j :: js, .ListComp .. :: _, h | j :: js, .SetComp .. :: _, h | j :: js, .DictComp .. :: _, h | j :: js, .GeneratorExp .. :: _, h | j :: js, .Await .. :: _, h | j :: js, .Yield .. :: _, h | j :: js, .YieldFrom .. :: _, h | j :: js, .Compare .. :: _, h | j :: js, .Call .. :: _, h | j :: js, .FormattedValue .. :: _, h | j :: js, .JoinedStr .. :: _, h | j :: js, .Constant .. :: _, h | j :: js, .Attribute .. :: _, h | j :: js, .Subscript .. :: _, h | j :: js, .Starred .. :: _, h | j :: js, .List .. :: _, h | j :: js, .Tuple .. :: _, h | j :: js, .Slice .. :: _, h => by simp [okNm] at h
theorem okTg_pg {X : Cx} (nd : X.N.Nodup) (hc : X.calm = true) {T : Tg} {tg : Expr} (h : okTg X.N X.env.scope T tg = true) : PG X tg (gU X.K T) := by
  cases T with
  | nm j =>
    cases tg with
    | Name x p =>
      simp only [okTg, Bool.and_eq_true, decide_eq_true_eq] at h
      have hl := loc_of h.2
      exact pg_name nd h.1 (.inl hl) (.inr hl)
    | _ => simp [okTg] at h
  | tp js =>
    cases tg with
    | Tuple es k p =>
      obtain ⟨h1, h2, h3⟩ := okNm_pgs nd (by simpa [okTg] using h)
      exact PG.or (pg_tup hc h1 h2 h3) (pg_lst hc h1 h2 h3)
    | _ => simp [okTg] at h
theorem gsT_of {Q : L2.St → Hp → Prop} {H : Hp} : ∀ {js : List Nat} {vs : List V} {σ : L2.St}, vs.length = js.length → Q (setAll σ js vs) H → gsT js vs σ H Q
  | [], vs, σ, e, h => by
    have : vs = [] := List.length_eq_zero_iff.mp e
    subst this
    exact ⟨rfl, h⟩
  | j :: js, [], σ, e, h => by simp at e
  | j :: js, v :: vs, σ, e, h => ⟨v, vs, rfl, gsT_of (by simpa using e) h⟩
theorem setAll_env {I : Ci} {K : PySem.W.Frag} {G : Hp} {ρ : List Addr} : ∀ {js : List Nat} {ds : List Val} {vs : List V} {δ : EW.Env} {σ : L2.St}, ValsR I K G ρ ds vs → EnvR I K G ρ δ σ → EnvR I K G ρ (setAllV δ js ds) (setAll σ js vs)
  | [], ds, vs, δ, σ, _, ev => by cases ds <;> cases vs <;> exact ev
  | j :: js, [], vs, δ, σ, r, ev => by rw [show vs = [] from r]; exact ev
  | j :: js, d :: ds, _, δ, σ, ⟨v, t, e, h1, h2⟩, ev => by
    subst e
    exact setAll_env (js := js) h2 (ev.set h1)
theorem wipe_set {σ : L2.St} {j : Nat} {x : V} : ∀ {vs : List Nat}, j ∈ vs → wipe (σ.set j (some x)) vs = wipe σ vs
  | [], h => nomatch h
  | v :: vs, h => by
    unfold wipe
    by_cases hv : j ∈ vs
    · rw [wipe_set hv]
    · have e : v = j := by
        rcases List.mem_cons.mp h with z | z
        · exact z.symm
        · exact (hv z).elim
      subst e
      have key : ∀ (us : List Nat), v ∉ us → wipe (σ.set v (some x)) us = (wipe σ us).set v (some x) := by
        intro us
        induction us with
        | nil => intro _; rfl
        | cons u us ih =>
          intro hu
          simp only [List.mem_cons, not_or] at hu
          unfold wipe
          rw [ih hu.2, List.set_comm _ _ hu.1]
      rw [key vs hv, List.set_set]
theorem wipe_all : ∀ {js : List Nat} {xs : List V} {σ : L2.St} {vs : List Nat}, (∀ j ∈ js, j ∈ vs) → wipe (setAll σ js xs) vs = wipe σ vs
  | [], xs, σ, vs, _ => by cases xs <;> rfl
  | j :: js, [], σ, vs, _ => rfl
  | j :: js, x :: xs, σ, vs, h => by
    show wipe (setAll (σ.set j (some x)) js xs) vs = _
    rw [wipe_all fun k hk => h k (List.mem_cons_of_mem _ hk), wipe_set (h j List.mem_cons_self)]
theorem bind_run {I : Ci} {K : PySem.W.Frag} {G : Hp} {ρ : List Addr} {H : Hp} {μ : Mu} {T : Tg} {it : Item} {v : V} {δ δ' : EW.Env} {σ : L2.St} {Q : L2.St → Hp → Prop} (w : Wd I K G ρ μ H) (ev : EnvR I K G ρ δ σ) (r : ItR I K G ρ H it v) (h : bindI μ T it δ = some δ')
    (q : ∀ σ', EnvR I K G ρ δ' σ' → (∀ vs, (∀ j ∈ T.slots, j ∈ vs) → wipe σ' vs = wipe σ vs) → Q σ' H) : gU K T v σ H Q := by
  unfold bindI at h
  split at h
  · rename_i j u
    cases h
    exact q _ (ev.set (ValR.nm w r)) fun vs hv => wipe_set (hv j (by simp [Tg.slots]))
  · rename_i js u
    split at h
    · rename_i ws hs
      split at h
      · rename_i hl
        cases h
        obtain ⟨a, vs, e, hsq, r1⟩ := ((ValR.nm w r).res (H := H)).seq w hs
        have hl' : vs.length = js.length := by rw [r1.length]; exact hl
        have fin : gsT js vs σ H Q := gsT_of hl' (q _ (setAll_env r1 ev) fun us hu => wipe_all hu)
        rcases hsq with hsq | hsq
        · exact .inr ⟨a, vs, e, hsq, hl', fin⟩
        · exact .inl ⟨a, vs, e, hsq, hl', fin⟩
      · cases h
    · cases h
  · rename_i i j n u
    cases h
    obtain ⟨t, z, e, h1, r1⟩ := r
    refine .inl ⟨t, [.int n, z], e, h1, rfl, gsT_of rfl (q _ ((ev.set (w := .fz (.int n)) rfl).set (ValR.nm w r1)) fun us hu => ?_)⟩
    exact wipe_all (js := [i, j]) (xs := [.int n, z]) hu
  · cases h
end EW
set_option maxRecDepth 100000
set_option maxHeartbeats 2000000
namespace EW
open PySem L2 PySem.Spec PyProof.Rows
theorem glb_of {X : Cx} {x : Str} (h : glb X.env.scope x = true) : Gl X x := by
  unfold glb at h
  split at h
  · rename_i e; exact e
  · cases h
section
variable {I : Ci} {X : Cx} {n : Nat} {F : Fx} {W : WX} {σ : L2.St} {G G0 : Hp} {ρ ρ0 : List Addr} {H H0 : Hp} {μ : Mu} {δ : EW.Env}
theorem walk_ok {ik : Ik} {x x' : Res} {v : V} {μ' : Mu} (hk : ik ≠ .keys) (w : Wd I X.K G ρ μ H) (A : Aft G0 ρ0 H0 G ρ H) (rr : ResR I X.K G ρ H x v) (nn : New H0 x v) (e : walkR ik x μ = some (x', μ')) :
    ∃ G' ρ', Aft G0 ρ0 H0 G' ρ' H ∧ Wd I X.K G' ρ' μ' H ∧ ResR I X.K G' ρ' H x' v ∧ ∀ o, x' ≠ .nw o := by
  unfold walkR at e
  split at e
  · exact (hk rfl).elim
  · rename_i o
    split at e
    · rename_i d hd
      cases e
      obtain ⟨G', a', w', r', _⟩ := ResR.frz (r := .nw o) w rr hd A nn
      exact ⟨G', ρ, a', w', r', fun _ z => nomatch z⟩
    · cases e
      obtain ⟨a, h, h1, h2, h3, h4, h5, h6⟩ := rr
      obtain ⟨b1, b2, b3, b4⟩ := w.hold A h2 h3 h4 h5 h6 (nn o a rfl h1)
      exact ⟨G, ρ ++ [a], b1, b2, ⟨a, b3, h1⟩, fun _ z => nomatch z⟩
  · rename_i hn1 hn2
    cases e
    refine ⟨G, ρ, A, w, rr, fun o z => ?_⟩
    subst z
    exact hn1 o rfl
abbrev itB {β : Type} (ik : Ik) (g : List Item × Ck → Mu → Out β) : Res → Mu → Out β := fun x μ1 => match walkR ik x μ1 with
    | some (x', μ1') => (itemsR ik x' μ1').bind g
    | none => .no
theorem iter_ok {ik : Ik} {a : Ce} {e : Expr} {tg it : Expr} {β : Type} {g : List Item × Ck → Mu → Out β} {S : β → Mu → Hp → List Addr → Hp → Prop} {R : It → Hp → Prop} (Ft : Fit I n F X) (ha : SndE I X F e a) (hse : isStar e = false)
    (hit : (ik = .seq ∧ it = e) ∨ (ik = .rng ∧ ∃ p q, it = .Call (.Name "range" p) [e] [] q ∧ Gl X "range") ∨ (ik = .enum ∧ (∃ p q, it = .Call (.Name "enumerate" p) [e] [] q) ∧ Gl X "enumerate" ∧ ∃ l k p, tg = .Tuple l k p))
    (tk : Takes X W) (A : Aft G0 ρ0 H0 G ρ H) (w : Wd I X.K G ρ μ H) (ev : EnvR I X.K G ρ δ σ) (P : Po I X.K W σ G0 ρ0 H0 ((evE F a δ μ).bind (itB ik g)) S)
    (k : ∀ its c μ2, Po I X.K W σ G0 ρ0 H0 (g (its, c) μ2) S → ∀ J G1 ρ1 H1, Aft G ρ H G1 ρ1 H1 → Wd I X.K G1 ρ1 μ2 H1 → ItOk I X.K G1 ρ1 H1 J its c → R J H1) : wpI X tg it σ H R := by
  have hs : starEach [e] X.env = [(false, eval e X.env)] := star_of hse [] X.env
  rcases hit with ⟨rfl, rfl⟩ | ⟨rfl, p, q, rfl, hg⟩ | ⟨rfl, ⟨p, q, rfl⟩, hg, l, kk, p2, rfl⟩
  · refine wpI_seq (bindE ha tk A w ev P fun x μ1 P1 v G1 ρ1 H1 a1 w1 rr nn => ?_)
    unfold itB at P1
    split at P1
    · rename_i x' μ1' hw
      obtain ⟨G', ρ', b1, b2, b3, b4⟩ := walk_ok (ik := .seq) (by intro z; cases z) w1 a1 rr nn hw
      cases hq : itemsR .seq x' μ1' with
      | no => rw [hq] at P1; exact P1.elim
      | ex z μ2 =>
        unfold itemsR at hq
        dsimp only at hq
        split at hq <;> cases hq
      | ok pr μ2 =>
        rw [hq] at P1
        replace P1 : Po I X.K W σ G0 ρ0 H0 (g pr μ2) S := P1
        unfold itemsR at hq
        dsimp only at hq
        split at hq
        · rename_i ws c hsq
          cases hq
          rcases seqI_ok b2 b3 hsq with ⟨z, h1, h2, h3, h4⟩ | ⟨h0, ⟨a, h1, h2⟩ | ⟨a, h1, h2⟩⟩
          · subst h3 h4
            exact .inr (.inr ⟨z, h2, k _ _ _ P1 _ G' ρ' H1 b1 b2 it_str⟩)
          · obtain ⟨vs, q1, q2⟩ := h2 G' ρ' _ H1 Aft.refl b2 h0
            exact .inl ⟨a, h1, ⟨vs, q1⟩, k _ _ _ P1 _ G' ρ' H1 b1 b2 (it_list h2)⟩
          · obtain ⟨vs, q1, q2⟩ := h2 G' ρ' _ H1 Aft.refl b2 h0
            exact .inr (.inl ⟨a, h1, ⟨vs, q1⟩, k _ _ _ P1 _ G' ρ' H1 b1 b2 (it_tup h2)⟩)
        · cases hq
    · exact P1.elim
  · refine ofI (pi_range1 hg (Ft.bn _ (by simp [bltNames])) (pa_cons seE pa_nil hs) hs) (bindE ha tk A w ev P fun x μ1 P1 v G1 ρ1 H1 a1 w1 rr nn => ?_)
    unfold itB at P1
    split at P1
    · rename_i x' μ1' hw
      obtain ⟨G', ρ', b1, b2, b3, b4⟩ := walk_ok (ik := .rng) (by intro z; cases z) w1 a1 rr nn hw
      cases hq : itemsR .rng x' μ1' with
      | no => rw [hq] at P1; exact P1.elim
      | ex z μ2 =>
        unfold itemsR at hq
        dsimp only at hq
        split at hq
        · split at hq <;> cases hq
        · cases hq
      | ok pr μ2 =>
        rw [hq] at P1
        replace P1 : Po I X.K W σ G0 ρ0 H0 (g pr μ2) S := P1
        unfold itemsR at hq
        dsimp only at hq
        split at hq
        · rename_i i
          split at hq
          · rename_i hi
            cases hq
            exact ⟨i, by rw [show v = _ from b3], by omega, by omega, k _ _ _ P1 _ G' ρ' H1 b1 b2 it_rng⟩
          · cases hq
        · cases hq
    · exact P1.elim
  · refine wpI_enum hg (Ft.bn _ (by simp [bltNames])) hs (ofA (pa_cons seE pa_nil hs) (bindE ha tk A w ev P fun x μ1 P1 v G1 ρ1 H1 a1 w1 rr nn => ?_))
    unfold itB at P1
    split at P1
    · rename_i x' μ1' hw
      obtain ⟨G', ρ', b1, b2, b3, b4⟩ := walk_ok (ik := .enum) (by intro z; cases z) w1 a1 rr nn hw
      cases hq : itemsR .enum x' μ1' with
      | no => rw [hq] at P1; exact P1.elim
      | ex z μ2 =>
        unfold itemsR at hq
        dsimp only at hq
        split at hq
        · cases hq
        · split at hq <;> cases hq
      | ok pr μ2 =>
        rw [hq] at P1
        replace P1 : Po I X.K W σ G0 ρ0 H0 (g pr μ2) S := P1
        unfold itemsR at hq
        dsimp only at hq
        split at hq
        · cases hq
        · rename_i hstr
          split at hq
          · rename_i ws c hsq
            cases hq
            rcases seqI_ok b2 b3 hsq with ⟨z, h1, h2, h3, h4⟩ | ⟨h0, ⟨a, h1, h2⟩ | ⟨a, h1, h2⟩⟩
            · exact (hstr z h1).elim
            · obtain ⟨vs, q1, q2⟩ := h2 G' ρ' _ H1 Aft.refl b2 h0
              exact .inl ⟨a, vs, by rw [h1], q1, k _ _ _ P1 _ G' ρ' H1 b1 b2 (it_enum h2)⟩
            · obtain ⟨vs, q1, q2⟩ := h2 G' ρ' _ H1 Aft.refl b2 h0
              exact .inr ⟨a, vs, by rw [h1], q1, k _ _ _ P1 _ G' ρ' H1 b1 b2 (it_enumT h2)⟩
          · cases hq
    · exact P1.elim
def Bd (I : Ci) (K : PySem.W.Frag) (G2 : Hp) (ρ2 : List Addr) (H2 : Hp) (Ky : VK) (Kn : Hp → Prop) : Out (Option Val) → Prop
  | .ok none μ3 => ∀ G3 ρ3 H3, Aft G2 ρ2 H2 G3 ρ3 H3 → Wd I K G3 ρ3 μ3 H3 → Kn H3
  | .ok (some u) μ3 => ∀ y G3 ρ3 H3, Aft G2 ρ2 H2 G3 ρ3 H3 → Wd I K G3 ρ3 μ3 H3 → ValR I K G3 ρ3 u y → Ky y H3
  | .ex _ _ => False
  | .no => False
def BodyOk (I : Ci) (X : Cx) (tt : TT) (te : TE) (g : EW.Env → Mu → Out (Option Val)) : Prop := ∀ δ' μ' G2 ρ2 H2 σ2 (Ky : VK) (Kn : Hp → Prop), Wd I X.K G2 ρ2 μ' H2 → EnvR I X.K G2 ρ2 δ' σ2 →
  Bd I X.K G2 ρ2 H2 Ky Kn (g δ' μ') → tt σ2 H2 fun b H3 => if b = true then te σ2 H3 Ky else Kn H3
theorem EnvR.wipe {K : PySem.W.Frag} (ev : EnvR I K G ρ δ σ) : ∀ vs : List Nat, EnvR I K G ρ (wipeD δ vs) (L2.wipe σ vs)
  | [] => ev
  | v :: vs => (EnvR.wipe ev vs).unset
theorem wipe_idem (τ : L2.St) (vs : List Nat) : L2.wipe (L2.wipe τ vs) vs = L2.wipe τ vs := by
  have key : ∀ (us : List Nat), (∀ u ∈ us, u ∈ vs) → L2.wipe (L2.wipe τ vs) us = L2.wipe τ vs := by
    intro us
    induction us with
    | nil => intro _; rfl
    | cons u us ih =>
      intro hu
      show (L2.wipe (L2.wipe τ vs) us).set u none = _
      rw [ih fun v hv => hu v (List.mem_cons_of_mem _ hv)]
      have hm := hu u List.mem_cons_self
      clear ih hu
      induction vs with
      | nil => exact nomatch hm
      | cons v vs ih2 =>
        show ((L2.wipe τ vs).set v none).set u none = (L2.wipe τ vs).set v none
        by_cases e : v = u
        · subst e; rw [List.set_set]
        · rcases List.mem_cons.mp hm with q | q
          · exact (e q.symm).elim
          · rw [List.set_comm _ _ e, ih2 q]
  exact key vs fun u h => h
theorem lc_loop {T : Tg} {own : List Nat} {tt : TT} {te : TE} {g : EW.Env → Mu → Out (Option Val)} {its : List Item} {c : Ck} {Q : VK} {J : It} (hT : ∀ j ∈ T.slots, j ∈ own) (hb : BodyOk I X tt te g) (A : Aft G0 ρ0 H0 G ρ H) (w : Wd I X.K G ρ μ H) (ev : EnvR I X.K G ρ δ σ) (it : ItOk I X.K G ρ H J its c) (hlen : its.length ≤ big)
    (P : Po I X.K W σ G0 ρ0 H0 (lcLoop T (wipeD δ own) c g its [] μ) (QE I X.K H0 Q)) : ∀ D, H D = none → ∃ Wv : Nat → Nat → Hp → Prop, (∃ m, Wv 0 m (upd H D (.lst []))) ∧ ∀ i m H', Wv i m H' →
  (J.stop i H' ∧ Q (.ref D) H') ∨ (J.go i H' ∧ ∃ Nx : Hp → Prop, (∀ H2, Nx H2 → ∃ m', m' < m ∧ Wv (i + 1) m' H2) ∧ ∀ x H2, J.yld i H' x H2 → gU X.K T x (L2.wipe σ own) H2 fun σ2 H3 => L2.wipe σ2 own = L2.wipe σ own ∧ tt σ2 H3 fun b H4 =>
    if b = true then te σ2 H4 fun y H5 => ∃ acc, H5 D = some (.lst acc) ∧ acc.length < sizeLine ∧ Nx (upd H5 D (.lst (acc ++ [y]))) else Nx H4) := by
  intro Dl hD
  have nD : Dl ∉ ρ := w.fresh hD
  have gD : G Dl = none := w.gfree hD
  refine ⟨fun i m H' => m = its.length - i ∧ i ≤ its.length ∧ ∃ G' ρ' μ' acc vs, acc.length ≤ i ∧ Aft G ρ H G' ρ' H' ∧ Wd I X.K G' ρ' μ' H' ∧ H' Dl = some (.lst vs) ∧ G' Dl = none ∧ Dl ∉ ρ' ∧ ValsR I X.K G' ρ' acc vs ∧ Po I X.K W σ G0 ρ0 H0 (lcLoop T (wipeD δ own) c g (its.drop i) acc μ') (QE I X.K H0 Q),
    ⟨its.length, by simp, Nat.zero_le _, G, ρ, μ, [], [], Nat.le_refl _, Aft.lay hD _, w.lay hD _, upd_same, gD, nD, rfl, P⟩, ?_⟩
  rintro i m H' ⟨rfl, hi, G', ρ', μ', acc, vs, hal, a1, w1, hv, gv, nv, rv, P1⟩
  by_cases hlt : i < its.length
  · have hd : its[i]? = some its[i] := List.getElem?_eq_getElem hlt
    rw [List.drop_eq_getElem_cons hlt] at P1
    unfold lcLoop at P1
    split at P1
    · rename_i ck
      split at P1
      · exact P1.elim
      · rename_i δ' hbi
        refine .inr ⟨it.go i G' ρ' μ' H' a1 w1 ck hlt, fun H2 => its.length - (i + 1) < its.length - i ∧ i + 1 ≤ its.length ∧ ∃ G' ρ' μ' acc vs, acc.length ≤ i + 1 ∧ Aft G ρ H G' ρ' H2 ∧ Wd I X.K G' ρ' μ' H2 ∧ H2 Dl = some (.lst vs) ∧ G' Dl = none ∧ Dl ∉ ρ' ∧ ValsR I X.K G' ρ' acc vs ∧ Po I X.K W σ G0 ρ0 H0 (lcLoop T (wipeD δ own) c g (its.drop (i + 1)) acc μ') (QE I X.K H0 Q), fun H2 q => ⟨its.length - (i + 1), q.1, rfl, q.2⟩, fun x H2 y => ?_⟩
        obtain ⟨a2, w2, r2⟩ := it.yld i G' ρ' μ' H' x H2 _ a1 w1 ck hd y
        have a12 := a1.trans a2
        refine bind_run w2 ((ev.mono a12).wipe own) r2 hbi fun σ3 ev3 hw => ⟨?_, ?_⟩
        · rw [hw own hT, wipe_idem]
        · refine hb δ' μ' G' ρ' H2 σ3 _ _ w2 ev3 ?_
          have hv2 : H2 Dl = some (.lst vs) := a2.fr' hv nv
          revert P1
          cases g δ' μ' with
          | ok r μ3 =>
            cases r with
            | none =>
              intro P1 G3 ρ3 H3 a3 w3
              exact ⟨by omega, hlt, G3, ρ3, μ3, acc, vs, Nat.le_succ_of_le hal, a12.trans a3, w3, a3.fr' hv2 nv, a3.nw _ _ hv2 gv nv, a3.old hv2 nv, rv.mono a3, P1⟩
            | some u =>
              intro P1 y' G3 ρ3 H3 a3 w3 ry
              have hv3 := a3.fr' hv2 nv
              have gv3 := a3.nw _ _ hv2 gv nv
              have nv3 := a3.old hv2 nv
              refine ⟨vs, hv3, ?_, by omega, hlt, G3, ρ3, μ3, acc ++ [u], vs ++ [y'], by simp; exact hal, (a12.trans a3).writeN hD, w3.writeN nv3 gv3, upd_same, gv3, nv3, (rv.mono a3).append (ValsR.one ry), P1⟩
              rw [rv.length]
              exact Nat.lt_of_le_of_lt hal (Nat.lt_of_lt_of_le hlt (Nat.le_trans hlen bigLine))
          | ex z μ3 => intro P1; exact P1
          | no => intro P1; exact P1
    · exact P1.elim
  · have e : i = its.length := by omega
    subst e
    rw [List.drop_length] at P1
    unfold lcLoop at P1
    split at P1
    · rename_i ck
      refine .inl ⟨it.stop G' ρ' μ' H' a1 w1 ck, P1 G' ρ' H' (A.trans a1) w1 (.ref Dl) ⟨Dl, _, rfl, nv, gv, hv, ⟨vs, rfl, rv⟩, fun _ z => nomatch z⟩ fun o a _ e2 => ?_⟩
      cases e2
      exact A.fresh hD (A.sup nD)
    · exact P1.elim
end
abbrev blk (X : Cx) (scope : Scope) (s : Shared) (H : Hp) (C : Addr) (cl : List (Str × Addr)) (fp : List Addr) : Cx := X.blk s H scope (compEnvC scope cl C X.env) fp
def teB (X : Cx) (scope : Scope) (elt : Expr) : TE := fun σ H Q => ∀ s H0 C cl fp, wpE (blk X scope s H0 C cl fp) elt σ H Q
def ttB (X : Cx) (scope : Scope) (c : Expr) : TT := fun σ H Q => ∀ s H0 C cl fp, wpT (blk X scope s H0 C cl fp) c σ H Q
section
variable {I : Ci} {X : Cx} {n : Nat} {F : Fx} {scope : Scope} {elt c : Expr} {s : Shared} {H0 : Hp} {C : Addr} {cl : List (Str × Addr)} {fp : List Addr}
theorem seB : PE (blk X scope s H0 C cl fp) elt (teB X scope elt) := ⟨fun pins s1 σ1 H1 Q1 J hq => hq s H0 C cl fp pins s1 J⟩
theorem seTB : PTs (blk X scope s H0 C cl fp) [c] (ttB X scope c) := pts_one ⟨fun pins s1 σ1 H1 Q1 J hq => hq s H0 C cl fp pins s1 J⟩
theorem takesB : Takes (blk X scope s H0 C cl fp) (fun _ _ _ _ => False) := fun _ _ ⟨_, _, _, _, _, _, _, _, _, _, _, _, _, _, _, _, w⟩ => w.elim
theorem fitB (Ft : Fit I n F X) : Fit I n F (blk X scope s H0 C cl fp) := ⟨Ft.L, Ft.hr, Ft.nd, Ft.calm, Ft.bn⟩
theorem scB : (blk X scope s H0 C cl fp).env.scope = relS scope X.env.scope := rfl
theorem body1 {ce : Ce} (h : ∀ s H C cl fp, SndE I (blk X scope s H C cl fp) F elt ce) : BodyOk I X tYes (teB X scope elt) fun δ' μ' => (argO (evE F ce δ' μ')).bind fun w μ'' => .ok (some w) μ'' := by
  intro δ' μ' G2 ρ2 H2 σ2 Ky Kn w2 ev2 hk
  unfold tYes
  dsimp only
  rw [if_pos rfl]
  intro s H C cl fp
  have P : Po I X.K (fun _ _ _ _ => False) σ2 G2 ρ2 H2 ((argO (evE F ce δ' μ')).bind fun w μ'' => .ok w μ'') (QV I X.K Ky) := by
    replace hk : Bd I X.K G2 ρ2 H2 Ky Kn ((argO (evE F ce δ' μ')).bind fun w μ'' => .ok (some w) μ'') := hk
    revert hk
    cases evE F ce δ' μ' with
    | ok x μ1 => exact fun hk G' ρ' H' a' w' y ry => hk y G' ρ' H' a' w' ry
    | ex z μ1 => exact fun hk => hk.elim
    | no => exact fun hk => hk.elim
  exact bindV (X := blk X scope s H C cl fp) (h s H C cl fp) takesB Aft.refl w2 ev2 P fun x μ1 P1 v G1 ρ1 H1 a1 w1 r1 => (P1.step a1).ok w1 v r1
theorem body2 {ce cc : Ce} (h : ∀ s H C cl fp, SndE I (blk X scope s H C cl fp) F elt ce) (ht : ∀ s H C cl fp, SndT I (blk X scope s H C cl fp) F c cc) : BodyOk I X (ttB X scope c) (teB X scope elt) fun δ' μ' => (evT F cc δ' μ').bind fun k μ4 => if k then (argO (evE F ce δ' μ4)).bind fun w μ'' => .ok (some w) μ'' else .ok none μ4 := by
  intro δ' μ' G2 ρ2 H2 σ2 Ky Kn w2 ev2 hk
  intro s H C cl fp
  refine ht s H C cl fp (fun _ _ _ _ => False) G2 ρ2 H2 σ2 δ' μ' _ takesB w2 ev2 ?_
  replace hk : Bd I X.K G2 ρ2 H2 Ky Kn ((evT F cc δ' μ').bind fun k μ4 => if k then (argO (evE F ce δ' μ4)).bind fun w μ'' => .ok (some w) μ'' else .ok none μ4) := hk
  revert hk
  cases evT F cc δ' μ' with
  | ok b μ1 =>
    cases b with
    | false =>
      intro hk G' ρ' H' a' w'
      have q : Kn H' := hk G' ρ' H' a' w'
      show (if false = true then teB X scope elt σ2 H' Ky else Kn H')
      rw [if_neg (by decide)]
      exact q
    | true =>
      intro hk G' ρ' H' a' w'
      show (if true = true then teB X scope elt σ2 H' Ky else Kn H')
      rw [if_pos rfl]
      intro s H C cl fp
      have P : Po I X.K (fun _ _ _ _ => False) σ2 G' ρ' H' ((argO (evE F ce δ' μ1)).bind fun w μ'' => .ok w μ'') (QV I X.K Ky) := by
        replace hk : Bd I X.K G2 ρ2 H2 Ky Kn ((argO (evE F ce δ' μ1)).bind fun w μ'' => .ok (some w) μ'') := hk
        revert hk
        cases evE F ce δ' μ1 with
        | ok x μ1 => exact fun hk G3 ρ3 H3 a3 w3 y ry => hk y G3 ρ3 H3 (a'.trans a3) w3 ry
        | ex z μ1 => exact fun hk => hk.elim
        | no => exact fun hk => hk.elim
      exact bindV (X := blk X scope s H C cl fp) (h s H C cl fp) takesB Aft.refl w' (ev2.mono a') P fun x μ1 P1 v G1 ρ1 H1 a1 w1 r1 => (P1.step a1).ok w1 v r1
  | ex z μ1 => exact fun hk => hk.elim
  | no => exact fun hk => hk.elim
end
end EW
set_option maxRecDepth 100000
set_option maxHeartbeats 2000000
namespace EW
open PySem L2 PySem.Spec PyProof.Rows
section
variable {I : Ci} {K : PySem.W.Frag} {G : Hp} {ρ : List Addr} {H : Hp} {μ : Mu}
theorem Wd.lock (w : Wd I K G ρ μ H) {d : Addr} {kvs : List (Key × V)} {od : Obj} (g : G d = some (.dK kvs)) : Wd I K G ρ μ (upd H d (.frz od (.dK kvs))) := by
  refine ⟨fun a o e => ?_, w.len, w.nd, fun k a o e1 e2 => ?_⟩
  · by_cases ha : a = d
    · subst ha; rw [g] at e; cases e; exact .inr ⟨od, kvs, rfl, upd_same⟩
    · rcases w.sub a o e with q | ⟨ob, kv, q1, q2⟩
      · exact .inl (by rw [upd_ne ha]; exact q)
      · exact .inr ⟨ob, kv, q1, by rw [upd_ne ha]; exact q2⟩
  · obtain ⟨x, q, r⟩ := w.cell k a o e1 e2
    by_cases ha : a = d
    · subst ha
      refine ⟨_, upd_same, ?_⟩
      cases o with
      | ice d => exact r
      | _ => have := r.1; rw [g] at this; cases this
    · exact ⟨x, by rw [upd_ne ha]; exact q, r⟩
theorem Wd.unlock (w : Wd I K G ρ μ H) {d : Addr} {kvs : List (Key × V)} (g : G d = some (.dK kvs)) : Wd I K G ρ μ (upd H d (.dK kvs)) := by
  refine ⟨fun a o e => ?_, w.len, w.nd, fun k a o e1 e2 => ?_⟩
  · by_cases ha : a = d
    · subst ha; rw [g] at e; cases e; exact .inl upd_same
    · rcases w.sub a o e with q | ⟨ob, kv, q1, q2⟩
      · exact .inl (by rw [upd_ne ha]; exact q)
      · exact .inr ⟨ob, kv, q1, by rw [upd_ne ha]; exact q2⟩
  · obtain ⟨x, q, r⟩ := w.cell k a o e1 e2
    by_cases ha : a = d
    · subst ha
      refine ⟨_, upd_same, ?_⟩
      cases o with
      | ice d => exact r
      | _ => have := r.1; rw [g] at this; cases this
    · exact ⟨x, by rw [upd_ne ha]; exact q, r⟩
theorem Aft.unlock {d : Addr} {kvs : List (Key × V)} {od : Obj} {G' : Hp} {ρ' : List Addr} {H' : Hp} (h : H d = some (.dK kvs)) (a : Aft G ρ (upd H d (.frz od (.dK kvs))) G' ρ' H') : Aft G ρ H G' ρ' (upd H' d (.dK kvs)) := by
  refine ⟨a.ex, fun b u e n => ?_, fun b u e g n => ?_, ?_⟩
  · by_cases hb : b = d
    · subst hb; rw [h] at e; cases e; exact upd_same
    · rw [upd_ne hb]; exact a.fr b u (by rw [upd_ne hb]; exact e) n
  · by_cases hb : b = d
    · subst hb; exact a.nw b _ upd_same g n
    · exact a.nw b u (by rw [upd_ne hb]; exact e) g n
  · obtain ⟨t, e, f⟩ := a.pre
    refine ⟨t, e, fun b hb => ⟨?_, (f b hb).2⟩⟩
    have := (f b hb).1
    by_cases hbd : b = d
    · subst hbd; rw [upd_same] at this; cases this
    · rw [upd_ne hbd] at this; exact this
theorem ResR.unlock {d : Addr} {kvs : List (Key × V)} {G' H' : Hp} {ρ' : List Addr} {r : Res} {v : V} (g : G' d = some (.dK kvs)) (rr : ResR I K G' ρ' H' r v) : ResR I K G' ρ' (upd H' d (.dK kvs)) r v := by
  cases r with
  | fz e => exact rr
  | cel k => exact rr
  | nw o =>
    obtain ⟨a, x, h1, h2, h3, h4, h5, h6⟩ := rr
    exact ⟨a, x, h1, h2, h3, by rw [upd_ne (fun z => by subst z; rw [g] at h3; cases h3)]; exact h4, h5, h6⟩
theorem New.unlock {d : Addr} {kvs : List (Key × V)} {od : Obj} {r : Res} {v : V} (n : New (upd H d (.frz od (.dK kvs))) r v) : New H r v := fun o a e1 e2 => by
  have := n o a e1 e2
  by_cases hb : a = d
  · subst hb; rw [upd_same] at this; cases this
  · rw [upd_ne hb] at this; exact this
end
/-- the rest of the heap stands -/
def Same0 (H H' : Hp) : Prop := ∀ a o, H a = some o → (∀ kvs, o ≠ .dK kvs) → H' a = some o
theorem vis_of {sc : Scope} {x : Str} (h : vis sc x = true) : Vis sc x := by
  unfold vis at h
  split at h
  · rename_i e; exact .inl e
  · rename_i e; exact .inr (.inl e)
  · rename_i e; exact .inr (.inr e)
  · cases h
theorem fine_of {x : Str} (h : fine x = true) : (x == ("__debug__" : Str)) = false ∧ (x == ("__classdict__" : Str)) = false ∧ x ≠ "__name__" := by
  unfold fine at h
  simp only [Bool.and_eq_true, Bool.not_eq_true'] at h
  exact ⟨h.1.1, h.1.2, by simpa using h.2⟩
theorem idx_of {l : List Nat} {a i : Nat} (h : l.idxOf? a = some i) : l[i]? = some a := by
  induction l generalizing i with
  | nil => simp [List.idxOf?] at h
  | cons b l ih =>
    rw [List.idxOf?_cons] at h
    split at h
    · rename_i e
      cases h
      simp at e
      rw [e]; rfl
    · obtain ⟨j, h1, h2⟩ := Option.map_eq_some_iff.mp h
      subst h2
      simpa using ih h1
theorem zip_look {I : Ci} {K : PySem.W.Frag} {G : Hp} {ρ : List Addr} {l : List Nat} {n i : Nat} {u : Val} (inj : ∀ a b, a ∈ l → b ∈ l → I.an a = I.an b → a = b) : ∀ {ws : List Val} {fs : List (Str × V)}, fs.map (·.1) = (l.take ws.length).map I.an → ValsR I K G ρ ws (fs.map (·.2)) → l.idxOf? n = some i → ws[i]? = some u → ∃ v, fs.lookup (I.an n) = some v ∧ ValR I K G ρ u v := by
  induction l generalizing i with
  | nil => intro ws fs _ _ h; simp [List.idxOf?] at h
  | cons b l ih =>
    intro ws fs e r h hu
    cases ws with
    | nil => simp at hu
    | cons w ws =>
      cases fs with
      | nil => simp at e
      | cons f fs =>
        obtain ⟨v0, r0, e1, h1, h2⟩ := r
        cases e1
        simp only [List.map_cons, List.length_cons, List.take_succ_cons, List.cons.injEq] at e
        rw [List.idxOf?_cons] at h
        obtain ⟨fn, fv⟩ := f
        split at h
        · rename_i eb
          cases h
          have eb' : b = n := by simpa using eb
          simp at hu
          subst hu eb'
          refine ⟨fv, ?_, h1⟩
          rw [List.lookup_cons]
          have : (I.an b == fn) = true := by rw [← e.1]; simp
          rw [this]
        · rename_i eb
          obtain ⟨j, h3, h4⟩ := Option.map_eq_some_iff.mp h
          subst h4
          obtain ⟨v, q1, q2⟩ := ih (fun a b ha hb => inj a b (List.mem_cons_of_mem _ ha) (List.mem_cons_of_mem _ hb)) e.2 h2 h3 (by simpa using hu)
          refine ⟨v, ?_, q2⟩
          rw [List.lookup_cons]
          have hn : n ∈ l := List.mem_iff_getElem?.mpr ⟨j, idx_of h3⟩
          have : (I.an n == fn) = false := by
            rw [beq_eq_false_iff_ne]
            intro z
            have e0 : fn = I.an b := e.1
            have := inj n b (List.mem_cons_of_mem _ hn) List.mem_cons_self (z.trans e0)
            exact eb (by simp [this])
          rw [this]
          exact q1
section
variable {I : Ci} {X : Cx} {n : Nat} {F : Fx} {W : WX} {σ : L2.St} {G G0 : Hp} {ρ ρ0 : List Addr} {H H0 : Hp} {μ : Mu} {δ : EW.Env}
theorem fld_ok (L : Lk X.prog X.w X.K X.mg X.base I n F) {r : Res} {v : V} {c : Nat} {ws : List Val} {a i : Nat} {u : Val} (w : Wd I X.K G ρ μ H) (rr : ResR I X.K G ρ H r v) (h : insV μ r = some (c, ws)) (hi : (F.fl c).idxOf? a = some i) (hu : ws[i]? = some u) :
    ∃ p dx fs z, v = .ref p ∧ H p = some (.ins (I.ca c) dx fs) ∧ Cls X.K (I.ca c) ∧ NoAttr X.K (I.ca c) (I.an a) ∧ fs.lookup (I.an a) = some z ∧ ValR I X.K G ρ u z := by
  rw [L.fl] at hi
  obtain ⟨p, dx, fs, e, h1, h2, h3⟩ := rr.ins w h
  have ha : a ∈ I.fl c := List.mem_iff_getElem?.mpr ⟨i, idx_of hi⟩
  obtain ⟨z, q1, q2⟩ := zip_look (I := I) (L.inj c) h2 h3 hi hu
  exact ⟨p, dx, fs, z, e, h1, (L.att c a ha).1, (L.att c a ha).2, q1, q2⟩
theorem res_ne (u : Val) (o : O) : u.res ≠ .nw o := fun z => by cases u <;> cases z
theorem path_run (Ft : Fit I n F X) : ∀ {c : Ce} {e : Expr}, path c = true → okE I X.N X.env.scope c e = true → ∀ {r : Res} {μ' : Mu}, evE F c δ μ = .ok r μ' → Wd I X.K G ρ μ H → EnvR I X.K G ρ δ σ →
    μ' = μ ∧ ∃ v, ResR I X.K G ρ H r v ∧ (∀ o, r ≠ .nw o) ∧ ∀ H', Same0 H H' → ∀ Q : VK, Q v H' → wpE X e σ H' Q
  | .x i, e, _, ok, r, μ', he, w, ev => by
    cases e with
    | Name x p =>
      simp only [okE, Bool.and_eq_true, decide_eq_true_eq] at ok
      simp only [evE] at he
      split at he
      · rename_i u hu
        cases he
        obtain ⟨v, h1, h2⟩ := ev.2 i u hu
        obtain ⟨f1, f2, _⟩ := fine_of ok.2
        refine ⟨rfl, v, (h2.nm w).res, fun o => res_ne _ o, fun H' _ Q q => ofE (pe_var ok.1.1 (vis_of ok.1.2) f1 f2) ⟨v, h1, q⟩⟩
      · cases he
    | _ => simp [okE] at ok
  | .att a m, e, hp, ok, r, μ', he, w, ev => by
    cases e with
    | Attribute e x p =>
      simp only [okE, Bool.and_eq_true, decide_eq_true_eq, Bool.not_eq_true'] at ok
      simp only [evE] at he
      cases hq : evE F a δ μ with
      | ok r1 μ1 =>
        rw [hq] at he
        simp only [Out.bind] at he
        obtain ⟨e1, v1, rr1, _, run1⟩ := path_run Ft (c := a) (by simpa [path] using hp) ok.1.2 hq w ev
        subst e1
        split at he
        · rename_i c ws hi
          split at he
          · rename_i i hx
            split at he
            · rename_i u hu
              cases he
              obtain ⟨p, dx, fs, z, e2, h1, h2, h3, h4, h5⟩ := fld_ok Ft.L w rr1 hi hx hu
              refine ⟨rfl, z, (h5.nm w).res, fun o => res_ne _ o, fun H' sm Q q => ?_⟩
              · rw [← ok.1.1]
                refine ofE (pe_fld seE (base_of ok.2)) (run1 H' sm _ ⟨p, I.ca c, dx, fs, z, e2, sm p _ h1 (fun _ z => nomatch z), h2, h3, h4, q⟩)
            · cases he
          · cases he
        · cases he
      | ex z μ1 => rw [hq] at he; cases he
      | no => rw [hq] at he; cases he
    | _ => simp [okE] at ok
  | .k _, e, hp, _, _, _, _, _, _ | .g _, e, hp, _, _, _, _, _, _ | .bin _ _ _, e, hp, _, _, _, _, _, _ | .neg _, e, hp, _, _, _, _, _, _ | .inv _, e, hp, _, _, _, _, _, _ | .cmp _ _ _, e, hp, _, _, _, _, _, _ | .cmp2 _ _ _ _ _, e, hp, _, _, _, _, _, _ | .and _ _, e, hp, _, _, _, _, _, _ | .or _ _, e, hp, _, _, _, _, _, _ | .not _, e, hp, _, _, _, _, _, _ | .ife _ _ _, e, hp, _, _, _, _, _, _ | .tup _, e, hp, _, _, _, _, _, _ | .lst _, e, hp, _, _, _, _, _, _ | .dct0, e, hp, _, _, _, _, _, _ | .dct1 _ _, e, hp, _, _, _, _, _, _ | .ix _ _, e, hp, _, _, _, _, _, _ | .sl _ _ _, e, hp, _, _, _, _, _, _ | .rev _, e, hp, _, _, _, _, _, _ | .fn _ _, e, hp, _, _, _, _, _, _ | .mt _ _ _, e, hp, _, _, _, _, _, _ | .mk _ _, e, hp, _, _, _, _, _, _ | .call _ _, e, hp, _, _, _, _, _, _ | .blt _ _, e, hp, _, _, _, _, _, _ | .bmt _ _ _, e, hp, _, _, _, _, _, _ | .isi _ _, e, hp, _, _, _, _, _, _ | .lc _ _ _ _ _, e, hp, _, _, _, _, _, _ | .lcIf _ _ _ _ _ _, e, hp, _, _, _, _, _, _ | .dc _ _ _ _ _ _, e, hp, _, _, _, _, _, _ | .dcIf _ _ _ _ _ _ _, e, hp, _, _, _, _, _, _ | .mkc _, e, hp, _, _, _, _, _, _ => by simp [path] at hp
/-- a dict that is walked -/
theorem keys_at (Ft : Fit I n F X) {a : Ce} {e : Expr} {β : Type} {g : List Item × Ck → Mu → Out β} {S : β → Mu → Hp → List Addr → Hp → Prop} (hp : path a = true) (ok : okE I X.N X.env.scope a e = true) (A : Aft G0 ρ0 H0 G ρ H) (w : Wd I X.K G ρ μ H) (ev : EnvR I X.K G ρ δ σ)
    (P : Po I X.K W σ G0 ρ0 H0 ((evE F a δ μ).bind (itB .keys g)) S) : ∃ G1 μ1 d kvs, Aft G0 ρ0 H0 G1 ρ H ∧ Aft G ρ H G1 ρ H ∧ Wd I X.K G1 ρ μ1 H ∧ G1 d = some (.dK kvs) ∧ (∀ H', Same0 H H' → ∀ Q : VK, Q (.ref d) H' → wpE X e σ H' Q) ∧ Po I X.K W σ G0 ρ0 H0 (g ((kvs.map (·.1)).map fun k => .one (.fz (kD k)), none) μ1) S := by
  cases hq : evE F a δ μ with
  | no => rw [hq] at P; exact P.elim
  | ex z μ1 =>
    exfalso
    have : ∀ {c : Ce}, path c = true → ∀ z μ1, evE F c δ μ ≠ .ex z μ1 := by
      intro c
      induction c using Ce.rec (motive_2 := fun _ => True) with
      | x i => intro _ z μ1 h; simp only [evE] at h; split at h <;> cases h
      | att a m ih =>
        intro hp z μ1 h
        simp only [evE] at h
        cases h2 : evE F a δ μ with
        | ok r μ2 =>
          rw [h2] at h
          simp only [Out.bind] at h
          split at h
          · split at h
            · split at h <;> cases h
            · cases h
          · cases h
        | ex z2 μ2 => exact ih (by simpa [path] using hp) z2 μ2 h2
        | no => rw [h2] at h; cases h
      | nil => trivial
      | cons => trivial
      | _ => intro hp; simp [path] at hp
    exact this hp z μ1 hq
  | ok r μ1 =>
    rw [hq] at P
    replace P : Po I X.K W σ G0 ρ0 H0 (itB .keys g r μ1) S := P
    obtain ⟨e1, v, rr, nn, run⟩ := path_run Ft hp ok hq w ev
    subst e1
    unfold itB at P
    cases r with
    | nw o => exact (nn o rfl).elim
    | fz d =>
      simp only [walkR, itemsR] at P
      cases d with
      | dct ks ds =>
        obtain ⟨d, kvs, e2, g2, k2, r2⟩ := rr
        subst e2 k2
        exact ⟨G, μ1, d, kvs, A, Aft.refl, w, g2, run, P⟩
      | _ => exact P.elim
    | cel k =>
      obtain ⟨p, h1, h2⟩ := rr
      subst h2
      simp only [walkR] at P
      cases ho : μ1[k]? with
      | none => rw [ho] at P; exact P.elim
      | some o =>
        rw [ho] at P
        cases hf : o.frozen with
        | none => simp only [hf] at P; exact P.elim
        | some d =>
          simp only [hf] at P
          obtain ⟨G', a', w', ex⟩ := w.ice ho hf
          have hl : k < μ1.length := (List.getElem?_eq_some_iff.mp ho).1
          obtain ⟨x, q1, q2⟩ := w'.cell k p (.ice d) h1 (by rw [List.getElem?_set_self hl])
          obtain ⟨q3, _⟩ := q2
          cases d with
          | dct ks ds =>
            obtain ⟨d, kvs, e2, g2, k2, r2⟩ := q3
            cases e2
            subst k2
            exact ⟨G', _, p, kvs, A.trans a', a', w', g2, run, P⟩
          | _ => exact P.elim
theorem lcLoop_calm {T : Tg} {δw : EW.Env} {c : Ck} {g : EW.Env → Mu → Out (Option Val)} : ∀ {its : List Item} {acc : List Val} {μ : Mu} {z : Exc} {μ' : Mu}, lcLoop T δw c g its acc μ ≠ .ex z μ'
  | [], acc, μ, z, μ', h => by unfold lcLoop at h; split at h <;> cases h
  | d :: ds, acc, μ, z, μ', h => by
    unfold lcLoop at h
    split at h
    · split at h
      · cases h
      · split at h
        · exact lcLoop_calm h
        · exact lcLoop_calm h
        · cases h
    · cases h
/-- a comprehension's reading over a dict -/
theorem lcK_rd (Ft : Fit I n F X) {a : Ce} {e tg : Expr} {T : Tg} {own : List Nat} {tt : TT} {te : TE} {g : EW.Env → Mu → Out (Option Val)} {Q : VK} (hp : path a = true) (ok : okE I X.N X.env.scope a e = true) (hT : ∀ j ∈ T.slots, j ∈ own) (hb : BodyOk I X tt te g) (A : Aft G0 ρ0 H0 G ρ H) (w : Wd I X.K G ρ μ H) (ev : EnvR I X.K G ρ δ σ)
    (P : Po I X.K W σ G0 ρ0 H0 ((evE F a δ μ).bind (itB .keys fun it μ2 => if it.1.length ≤ big then lcLoop T (wipeD δ own) it.2 g it.1 [] μ2 else .no)) (QE I X.K H0 Q)) : tLc (wpI X tg e) (gU X.K T) tt te own σ H Q ∨ tLockE (tLc (wpI X tg e) (gU X.K T) tt te own) σ H Q := by
  obtain ⟨G1, μ1, d, kvs, A1, a1, w1, g1, run, P1⟩ := keys_at Ft hp ok A w ev P
  split at P1
  · rename_i hlen
    rcases w1.sub d _ g1 with hH | ⟨ob, kvs', z, hH⟩
    · right
      refine ⟨d, .dK kvs, hH, trivial, fun od => ?_⟩
      have sm : Same0 H (upd H d (.frz od (.dK kvs))) := fun b o e n => by
        have hb : b ≠ d := fun z => by subst z; rw [hH] at e; cases e; exact n kvs rfl
        rw [upd_ne hb]; exact e
      refine ofI (pi_keys seE) (run _ sm _ ⟨d, od, rfl, .inl ⟨kvs, upd_same, ?_⟩⟩)
      have wl := w1.lock (od := od) g1
      refine lc_loop (Q := fun v H' => H' d = some (.frz od (.dK kvs)) ∧ Q v (upd H' d (.dK kvs))) (G0 := G1) (ρ0 := ρ) (H0 := upd H d (.frz od (.dK kvs))) (W := W) hT hb Aft.refl wl (ev.mono a1) (it_keys g1 upd_same) hlen ?_
      revert P1
      cases hq : lcLoop T (wipeD δ own) none g ((kvs.map (·.1)).map fun k => .one (.fz (kD k))) [] μ1 with
      | ok r μ2 =>
        intro P1 G2 ρ2 H2 a2 w2 v rr nn
        have g2 := a2.ex _ _ g1
        exact ⟨a2.fr d _ upd_same fun _ => ⟨_, g1⟩, P1 G2 ρ2 _ (A1.trans (a2.unlock hH)) (w2.unlock g2) v (rr.unlock g2) ((nn.unlock).back A1 (a2.unlock hH) (rr.unlock g2))⟩
      | ex z μ2 => exact (lcLoop_calm hq).elim
      | no => exact fun P1 => P1
    · left
      cases z
      refine ofI (pi_keys seE) (run H (fun _ _ e _ => e) _ ⟨d, ob, rfl, .inl ⟨kvs, hH, ?_⟩⟩)
      exact lc_loop hT hb A1 w1 (ev.mono a1) (it_keys g1 hH) hlen P1
  · exact P1.elim
end
end EW
set_option maxRecDepth 100000
set_option maxHeartbeats 2000000
namespace EW
open PySem L2
section
variable {I : Ci} {X : Cx} {n : Nat} {F : Fx} {W : WX} {σ : L2.St} {G G0 : Hp} {ρ ρ0 : List Addr} {H H0 : Hp} {μ : Mu} {δ : EW.Env}
theorem bind2 {α β γ : Type} {o : Out α} {f : α → Mu → Out β} {g : β → Mu → Out γ} : (o.bind f).bind g = o.bind fun x μ => (f x μ).bind g := by cases o <;> rfl
theorem own_ok {a : Ce} {k : Nat} {it tg : Expr} {β : Type} {g : List Item × Ck → Mu → Out β} {S : β → Mu → Hp → List Addr → Hp → Prop} {R : It → Hp → Prop} (Ft : Fit I n F X) (ha : SndE I X F it a) (hk : I.it k = true)
    (tk : Takes X W) (A : Aft G0 ρ0 H0 G ρ H) (w : Wd I X.K G ρ μ H) (ev : EnvR I X.K G ρ δ σ) (P : Po I X.K W σ G0 ρ0 H0 ((evE F (.att a k) δ μ).bind (itB .own g)) S)
    (kk : ∀ its c μ2, Po I X.K W σ G0 ρ0 H0 (g (its, c) μ2) S → ∀ J G1 ρ1 H1, Aft G ρ H G1 ρ1 H1 → Wd I X.K G1 ρ1 μ2 H1 → ItOk I X.K G1 ρ1 H1 J its c → R J H1) : wpI X tg it σ H R := by
  simp only [evE] at P
  rw [bind2] at P
  refine ofI (pi_own (CI := L2.CX X.prog X.w) (EI := fun _ _ _ => False) (n := 1) seE passF (Ft.hr.mono (by omega))) (bindE ha tk A w ev P fun r μ1 P1 v G1 ρ1 H1 a1 w1 r1 n1 => ?_)
  split at P1
  · rename_i c ws hi
    split at P1
    · rename_i i hx
      split at P1
      · rename_i u hu
        obtain ⟨q, dx, fs, z, e2, h1, h2, h3, h4, h5⟩ := fld_ok Ft.L w1 r1 hi hx hu
        have hf : k ∈ I.fl c := by
          rw [Ft.L.fl] at hx
          exact List.mem_iff_getElem?.mpr ⟨i, idx_of hx⟩
        obtain ⟨fi, i1, i2⟩ := Ft.L.itr c k hk hf
        have h6 := h5.nm w1
        replace P1 : Po I X.K W σ G0 ρ0 H0 (itB .own g ((u.nm μ1).res) μ1) S := P1
        generalize u.nm μ1 = y at P1 h6
        unfold itB at P1
        cases y with
        | cel j => exact P1.elim
        | fz d =>
          simp only [Val.res, walkR, itemsR] at P1
          cases d with
          | tup ds =>
            replace P1 : Po I X.K W σ G0 ρ0 H0 (g ((ds.map Val.fz).map .one, none) μ1) S := P1
            obtain ⟨t, vs, e3, g1, rr⟩ := h6
            have st : Stays I X.K G1 ρ1 H1 none (ds.map Val.fz) fun H' vs => SqT X.K H' t vs := fun G' ρ' μ' H' A' w' _ => ⟨vs, stay_t w1.sub (.inl (.inl g1)) G' ρ' H' A', (Reps.mono A'.ex _ _ rr).vals⟩
            obtain ⟨us, q1, q2⟩ := st G1 ρ1 μ1 H1 Aft.refl w1 rfl
            exact ⟨_, fi, q, dx, t, _, fs, us, i1, i2, e2, h1, by rw [h4, e3], q1, kk _ _ _ P1 _ G1 ρ1 H1 a1 w1 (it_tup st)⟩
          | _ => exact P1.elim
      · exact P1.elim
    · exact P1.elim
  · exact P1.elim
end
end EW
set_option maxRecDepth 100000
set_option maxHeartbeats 4000000
namespace EW
open PySem L2 PySem.Spec PyProof.Rows
section
variable {I : Ci} {X : Cx} {n : Nat} {F : Fx} {a b c : Ce} {ea eb ec : Expr} {p : Pos}
theorem snd_k {d : D} {cn : Const} {j : Nat} (ok : okC d cn = true) : SndE I X F (.Constant cn j p) (.k d) := by
  intro W G ρ H σ δ μ Q tk w ev P
  cases d <;> cases cn <;> simp [okC] at ok
  · exact ofE pe_non (P.fz w rfl)
  · subst ok; exact ofE pe_bl (P.fz w rfl)
  · subst ok; exact ofE pe_int (P.fz w rfl)
  · subst ok; exact ofE pe_str (P.fz w rfl)
theorem snd_g (Ft : Fit I n F X) {k : Nat} {x : Str} (e : I.gn k = x) (hg : glb X.env.scope x = true) (hf : fine x = true) : SndE I X F (.Name x p) (.g k) := by
  intro W G ρ H σ δ μ Q tk w ev P
  simp only [evE] at P
  split at P
  · rename_i d hd
    obtain ⟨u, v, h1, h2, h3⟩ := Ft.L.gd k d hd
    rw [e] at h1
    exact ofE (pe_glob (glb_of hg) h1 h2 (fine_of hf).1) (P.fz w (h3 G))
  · exact P.elim
theorem snd_neg (ha : SndE I X F ea a) : SndE I X F (.UnaryOp .USub ea p) (.neg a) := by
  intro W G ρ H σ δ μ Q tk w ev P
  simp only [evE] at P
  refine ofE (pe_un un_neg seE) (bindE ha tk Aft.refl w ev P fun x μ1 P1 v G1 ρ1 H1 a1 w1 r1 n1 => ?_)
  split at P1
  · rename_i i
    exact ⟨i, r1, (P1.step a1).fz w1 rfl⟩
  · exact P1.elim
theorem ResR.grow {G' : Hp} {r : Res} {v : V} (e : Ex G G') (g : ∀ o a, r = .nw o → v = .ref a → G' a = none) (h : ResR I X.K G ρ H r v) : ResR I X.K G' ρ H r v := by
  cases r with
  | fz d => exact Rep.mono e d v h
  | cel k => exact h
  | nw o =>
    obtain ⟨a, x, h1, h2, h3, h4, h5, h6⟩ := h
    exact ⟨a, x, h1, h2, g o a rfl h1, h4, h5.ex e (fun _ _ z => z), h6⟩
theorem Res.fr_some {o : O} {d : D} (e : o.frozen = some d) : (Res.nw o).fr = .fz d := by simp only [Res.fr, e]
theorem Res.fr_none {o : O} (e : o.frozen = none) : (Res.nw o).fr = .nw o := by simp only [Res.fr, e]
theorem ResR.fr1 {r : Res} {v : V} (w : Wd I X.K G ρ μ H) (A : Aft G0 ρ0 H0 G ρ H) (h : ResR I X.K G ρ H r v) (n : New H0 r v) :
    ∃ G', Aft G0 ρ0 H0 G' ρ H ∧ Wd I X.K G' ρ μ H ∧ ResR I X.K G' ρ H r.fr v ∧ Ex G G' ∧ ∀ a, G a = none → (∀ o, r = .nw o → v ≠ .ref a) → G' a = none := by
  cases r with
  | fz d => exact ⟨G, A, w, h, Ex.refl _, fun _ z _ => z⟩
  | cel k => exact ⟨G, A, w, h, Ex.refl _, fun _ z _ => z⟩
  | nw o =>
    cases e : o.frozen with
    | none => rw [Res.fr_none e]; exact ⟨G, A, w, h, Ex.refl _, fun _ z _ => z⟩
    | some d =>
      rw [Res.fr_some e]
      obtain ⟨x, ho, h1, h2, h3, h4, h5, _⟩ := h
      subst h1
      refine ⟨upd G x ho, A.frz (n o x rfl rfl) h3, w.frz h4 h3 h2, O.frz_rep e h5 h3, Ex.new h3, fun a g z => ?_⟩
      rw [upd_ne (fun q => z o rfl (by rw [q]))]; exact g
theorem fr2 {x y : Res} {v u : V} {G1 G2 : Hp} {ρ1 ρ2 : List Addr} {H1 H2 : Hp} {μ2 : Mu} (a1 : Aft G ρ H G1 ρ1 H1) (a2 : Aft G1 ρ1 H1 G2 ρ2 H2) (w2 : Wd I X.K G2 ρ2 μ2 H2) (r1 : ResR I X.K G1 ρ1 H1 x v) (n1 : New H x v) (r2 : ResR I X.K G2 ρ2 H2 y u) (n2 : New H1 y u) :
    ∃ G', Aft G ρ H G' ρ2 H2 ∧ Wd I X.K G' ρ2 μ2 H2 ∧ ResR I X.K G' ρ2 H2 (x.nm μ2).fr v ∧ ResR I X.K G' ρ2 H2 y.fr u := by
  obtain ⟨Gy, A', w', ry, ex, far⟩ := r2.fr1 w2 (a1.trans a2) (n2.back a1 a2 r2)
  have rx0 := (r1.mono a2).nm w2
  have ne : ∀ o a, x.nm μ2 = .nw o → v = .ref a → ∀ o', y = .nw o' → u ≠ .ref a := fun o a e1 e2 o' e3 e4 => by
    have hx : x = .nw o := by
      cases x with
      | nw o'' => exact e1
      | fz d => cases e1
      | cel k =>
        have t : (match iceOf μ2 k with | some d => Res.fz d | none => .cel k) = .nw o := e1
        cases e : iceOf μ2 k with
        | some d => rw [e] at t; cases t
        | none => rw [e] at t; cases t
    subst hx
    obtain ⟨b, h, h1, h2, h3, h4, _⟩ := r1
    rw [h1] at e2; cases e2
    rw [n2 o' _ e3 e4] at h4; cases h4
  have rx1 : ResR I X.K Gy ρ2 H2 (x.nm μ2) v := rx0.grow ex fun o a e1 e2 => far a (by
    rw [e1] at rx0
    obtain ⟨b, h, h1, h2, h3, _⟩ := rx0
    rw [h1] at e2; cases e2
    exact h3) fun o' e3 => ne o a e1 e2 o' e3
  obtain ⟨Gx, A2, w3, rx, ex2, far2⟩ := rx1.fr1 w' A' (Res.nm_new n1)
  refine ⟨Gx, A2, w3, rx, ry.grow ex2 fun o a e1 e2 => far2 a ?_ fun o' e3 e4 => ?_⟩
  · rw [e1] at ry
    obtain ⟨b, h, h1, h2, h3, _⟩ := ry
    rw [h1] at e2; cases e2
    exact h3
  · have hy : y = .nw o := by
      cases y with
      | nw o'' =>
        cases e : o''.frozen with
        | some d => rw [Res.fr_some e] at e1; cases e1
        | none => rw [Res.fr_none e] at e1; exact e1
      | fz d => cases e1
      | cel k => cases e1
    exact ne o' a e3 e4 o hy e2
theorem snd_cmp (Ft : Fit I n F X) {op : CmpOp} (ha : SndE I X F ea a) (hb : SndE I X F eb b) (hs : isSet eb = false) : SndE I X F (.Compare ea [op] [eb] p) (.cmp op a b) := by
  intro W G ρ H σ δ μ Q tk w ev P
  simp only [evE] at P
  refine ofE (pe_cmpR opAny seE seE (mark_of hs)) (bindE ha tk Aft.refl w ev P fun x μ1 P1 v G1 ρ1 H1 a1 w1 r1 n1 => ?_)
  refine bindE hb tk a1 w1 (ev.mono a1) P1 fun y μ2 P2 u G2 ρ2 H2 a2 w2 r2 n2 => ?_
  obtain ⟨G', A', w', rx, ry⟩ := fr2 a1 a2 w2 r1 n1 r2 n2
  have P3 := (Po.step A' P2).bind
  have q : Po I X.K W σ G' ρ2 H2 (cmpR F op (x.nm μ2).fr y.fr μ2) (QB fun k H' => Q (.bl k) H') := P3.imp fun k μ' G' ρ' H' a' w' q => q.fz w' rfl
  have := cmp_ok Ft.L Ft.hr q w' rx ry
  intro pins s τ v' u' J hv hu
  exact wpAny_mono (this pins s τ v' u' J hv hu) (fun r s' ⟨z, H', J', rz, k, e, qq⟩ => ⟨z, H', J', rz, by rw [e]; exact qq⟩) fun _ _ z => z
theorem sndT_cmp (Ft : Fit I n F X) {op : CmpOp} (ha : SndE I X F ea a) (hb : SndE I X F eb b) (hs : isSet eb = false) : SndT I X F (.Compare ea [op] [eb] p) (.cmp op a b) := by
  intro W G ρ H σ δ μ Q tk w ev P
  simp only [evT] at P
  refine ofT (pt_cmpR opAny seE seE (mark_of hs)) (bindE ha tk Aft.refl w ev P fun x μ1 P1 v G1 ρ1 H1 a1 w1 r1 n1 => ?_)
  refine bindE hb tk a1 w1 (ev.mono a1) P1 fun y μ2 P2 u G2 ρ2 H2 a2 w2 r2 n2 => ?_
  obtain ⟨G', A', w', rx, ry⟩ := fr2 a1 a2 w2 r1 n1 r2 n2
  exact cmp_ok Ft.L Ft.hr (P2.step A') w' rx ry
theorem sndT_cmp2 (Ft : Fit I n F X) {o1 o2 : CmpOp} (ha : SndE I X F ea a) (hb : SndE I X F eb b) (hc : SndE I X F ec c) (hs : isSet ec = false) : SndT I X F (.Compare ea [o1, o2] [eb, ec] p) (.cmp2 o1 o2 a b c) := by
  intro W G ρ H σ δ μ Q tk w ev P
  simp only [evT] at P
  have hm : lastMarks [o1, o2] [eb, ec] = false := mark_of hs
  refine ofT (pt_chain opAny opAny seE seE seE hm) (bindE ha tk Aft.refl w ev P fun x μ1 P1 v G1 ρ1 H1 a1 w1 r1 n1 => ?_)
  refine bindE hb tk a1 w1 (ev.mono a1) P1 fun y μ2 P2 u G2 ρ2 H2 a2 w2 r2 n2 => ?_
  have A2 := a1.trans a2
  have P3 := (Po.step A2 P2).bind
  have key : ∀ k μ3 G3 ρ3 H3, Aft G2 ρ2 H2 G3 ρ3 H3 → Wd I X.K G3 ρ3 μ3 H3 → Po I X.K W σ G3 ρ3 H3 (if k = true then (evE F c δ μ3).bind fun z μ4 => cmpR F o2 (y.nm μ4) z μ4 else .ok false μ3) (QB Q) →
      (if k = true then wpE X ec σ H3 (fun z H4 => rAny X (compareOp o2) u z H4 fun b H5 => ∃ k', b = .bl k' ∧ Q k' H5) else ∃ k', V.bl false = .bl k' ∧ Q k' H3) := by
    intro k μ3 G3 ρ3 H3 a3 w3 P4
    cases k with
    | false =>
      rw [if_neg (by decide)] at P4 ⊢
      exact ⟨false, rfl, P4.bl w3⟩
    | true =>
      rw [if_pos rfl] at P4 ⊢
      refine bindE hc tk Aft.refl w3 (ev.mono (A2.trans a3)) P4 fun z μ4 P5 v4 G4 ρ4 H4 a4 w4 r4 n4 => ?_
      exact cmp_ok Ft.L Ft.hr (P5.step a4) w4 (((r2.mono a3).mono a4).nm w4) r4
  have q : Po I X.K W σ G2 ρ2 H2 (cmpR F o1 (x.nm μ2) y μ2) (QB fun k H3 => if k = true then wpE X ec σ H3 (fun z H4 => rAny X (compareOp o2) u z H4 fun b H5 => ∃ k', b = .bl k' ∧ Q k' H5) else ∃ k', V.bl false = .bl k' ∧ Q k' H3) :=
    P3.imp fun k μ' G' ρ' H' a' w' q => key k μ' G' ρ' H' a' w' q
  exact cmp_ok Ft.L Ft.hr q w2 ((r1.mono a2).nm w2) r2
theorem snd_and {e2 : Expr} {r : List Expr} (ha : SndE I X F ea a) (hb : SndE I X F (.BoolOp .And (e2 :: r) p) b) : SndE I X F (.BoolOp .And (ea :: e2 :: r) p) (.and a b) := by
  intro W G ρ H σ δ μ Q tk w ev P
  simp only [evE] at P
  refine ofE (pe_and seE seE) (bindE ha tk Aft.refl w ev P fun x μ1 P1 v G1 ρ1 H1 a1 w1 r1 n1 => ?_)
  split at P1
  · rename_i k
    refine ⟨k, r1, ?_⟩
    cases k with
    | true =>
      rw [if_pos rfl] at P1
      refine iteT (bindE hb tk a1 w1 (ev.mono a1) P1 fun y μ2 P2 u G2 ρ2 H2 a2 w2 r2 n2 => ?_)
      split at P2
      · rw [show u = _ from r2]; exact (P2.step (a1.trans a2)).fz w2 rfl
      · exact P2.elim
    | false =>
      rw [if_neg (by decide)] at P1
      exact iteF ((P1.step a1).fz w1 rfl)
  · exact P1.elim
theorem snd_or {e2 : Expr} {r : List Expr} (ha : SndE I X F ea a) (hb : SndE I X F (.BoolOp .Or (e2 :: r) p) b) : SndE I X F (.BoolOp .Or (ea :: e2 :: r) p) (.or a b) := by
  intro W G ρ H σ δ μ Q tk w ev P
  simp only [evE] at P
  refine ofE (pe_or seE seE) (bindE ha tk Aft.refl w ev P fun x μ1 P1 v G1 ρ1 H1 a1 w1 r1 n1 => ?_)
  split at P1
  · rename_i k
    refine ⟨k, r1, ?_⟩
    cases k with
    | true =>
      rw [if_pos rfl] at P1
      exact iteT ((P1.step a1).fz w1 rfl)
    | false =>
      rw [if_neg (by decide)] at P1
      refine iteF (bindE hb tk a1 w1 (ev.mono a1) P1 fun y μ2 P2 u G2 ρ2 H2 a2 w2 r2 n2 => ?_)
      split at P2
      · rw [show u = _ from r2]; exact (P2.step (a1.trans a2)).fz w2 rfl
      · exact P2.elim
  · exact P1.elim
theorem snd_one {op : BoolOp} (ha : SndE I X F ea a) : SndE I X F (.BoolOp op [ea] p) a := fun W G ρ H σ δ μ Q tk w ev P => ofE (pe_one seE) (ha W G ρ H σ δ μ Q tk w ev P)
theorem snd_not (ha : SndE I X F ea a) : SndE I X F (.UnaryOp .Not ea p) (.not a) := by
  intro W G ρ H σ δ μ Q tk w ev P
  simp only [evE] at P
  refine ofE (pe_not seE) (bindE ha tk Aft.refl w ev P fun x μ1 P1 v G1 ρ1 H1 a1 w1 r1 n1 => ?_)
  split at P1
  · rename_i k
    exact ⟨k, r1, (P1.step a1).fz w1 rfl⟩
  · exact P1.elim
theorem w_of_t {op : BoolOp} {l : List Expr} {σ : L2.St} {H : Hp} {Q : Bool → Hp → Prop} (h : wpT X (.BoolOp op l p) σ H Q) : wpW X (.BoolOp op l p) σ H Q := fun whole pins s J => h pins s J
theorem sndT_and {e2 : Expr} {r : List Expr} (ha : SndT I X F ea a) (hb : SndT I X F (.BoolOp .And (e2 :: r) p) b) : SndT I X F (.BoolOp .And (ea :: e2 :: r) p) (.and a b) := by
  intro W G ρ H σ δ μ Q tk w ev P
  simp only [evT] at P
  refine ofT (PW.pt (pw_and seT seW)) (bindT ha tk Aft.refl w ev P fun k μ1 P1 G1 ρ1 H1 a1 w1 => ?_)
  cases k with
  | true =>
    rw [if_pos rfl] at P1
    exact iteT (w_of_t (hb W G1 ρ1 H1 σ δ μ1 Q tk w1 (ev.mono a1) (P1.step a1)))
  | false =>
    rw [if_neg (by decide)] at P1
    exact iteF ((P1.step a1).bl w1)
theorem sndT_or {e2 : Expr} {r : List Expr} (ha : SndT I X F ea a) (hb : SndT I X F (.BoolOp .Or (e2 :: r) p) b) : SndT I X F (.BoolOp .Or (ea :: e2 :: r) p) (.or a b) := by
  intro W G ρ H σ δ μ Q tk w ev P
  simp only [evT] at P
  refine ofT (PW.pt (pw_or seT seW)) (bindT ha tk Aft.refl w ev P fun k μ1 P1 G1 ρ1 H1 a1 w1 => ?_)
  cases k with
  | true =>
    rw [if_pos rfl] at P1
    exact iteT ((P1.step a1).bl w1)
  | false =>
    rw [if_neg (by decide)] at P1
    exact iteF (w_of_t (hb W G1 ρ1 H1 σ δ μ1 Q tk w1 (ev.mono a1) (P1.step a1)))
theorem sndT_and1 (ha : SndT I X F ea a) : SndT I X F (.BoolOp .And [ea] p) a := fun W G ρ H σ δ μ Q tk w ev P => ofT (PW.pt (pw_and1 seT)) (ha W G ρ H σ δ μ Q tk w ev P)
theorem sndT_or1 (ha : SndT I X F ea a) : SndT I X F (.BoolOp .Or [ea] p) a := fun W G ρ H σ δ μ Q tk w ev P => ofT (PW.pt (pw_or1 seT)) (ha W G ρ H σ δ μ Q tk w ev P)
theorem sndT_not (ha : SndT I X F ea a) : SndT I X F (.UnaryOp .Not ea p) (.not a) := by
  intro W G ρ H σ δ μ Q tk w ev P
  simp only [evT] at P
  exact ofT (pt_not seT) (bindT ha tk Aft.refl w ev P fun k μ1 P1 G1 ρ1 H1 a1 w1 => (P1.step a1).bl w1)
/-- a test by a value's truth -/
theorem sndT_val (ha : SndE I X F ea a) (he : ∀ whole, PySem.isTrue ea X.env whole = (do let v ← whole; standAt ea.pos; holding [v] (truthy v))) (e : ∀ δ μ, evT F a δ μ = (evE F a δ μ).bind fun r μ1 => truth r μ1) : SndT I X F ea a := by
  intro W G ρ H σ δ μ Q tk w ev P
  rw [e] at P
  exact ofT (pt_truth seE he) (bindE ha tk Aft.refl w ev P fun x μ1 P1 v G1 ρ1 H1 a1 w1 r1 n1 => tru_val (P1.step a1) w1 r1)
theorem snd_ife (hc : SndT I X F ec c) (ha : SndE I X F ea a) (hb : SndE I X F eb b) : SndE I X F (.IfExp ec ea eb p) (.ife c a b) := by
  intro W G ρ H σ δ μ Q tk w ev P
  simp only [evE] at P
  refine ofE (pe_ifExp seT seE seE) (bindT hc tk Aft.refl w ev P fun k μ1 P1 G1 ρ1 H1 a1 w1 => ?_)
  cases k with
  | true =>
    rw [if_pos rfl] at P1
    exact iteT (ha W G1 ρ1 H1 σ δ μ1 Q tk w1 (ev.mono a1) ((P1.step a1).imp fun r μ' G' ρ' H' a' w' q v rr nn => q v rr (nn.back a1 a' rr)))
  | false =>
    rw [if_neg (by decide)] at P1
    exact iteF (hb W G1 ρ1 H1 σ δ μ1 Q tk w1 (ev.mono a1) ((P1.step a1).imp fun r μ' G' ρ' H' a' w' q v rr nn => q v rr (nn.back a1 a' rr)))
theorem snd_tup {es : Ces} {l : List Expr} {k : Nat} (h : SndA I X F l es) : SndE I X F (.Tuple l k p) (.tup es) := by
  intro W G ρ H σ δ μ Q tk w ev P
  simp only [evE] at P
  refine ofE (pe_tup seA) (bindA h tk Aft.refl w ev P fun ws μ1 P1 vs G1 ρ1 H1 a1 w1 r1 => ?_)
  split at P1
  · rename_i hl
    refine ⟨by rw [r1.length]; exact Nat.le_trans hl bigLine, fun x hx => ?_⟩
    split at P1
    · rename_i ds hd
      exact (P1.step a1).tup w1 (fzAll_reps hd (r1.nm w1)) hx
    · exact (P1.step a1).nw a1 w1 ⟨vs, rfl, r1⟩ (fun _ z => nomatch z) hx
  · exact P1.elim
theorem snd_lst {es : Ces} {l : List Expr} (h : SndA I X F l es) : SndE I X F (.List l p) (.lst es) := by
  intro W G ρ H σ δ μ Q tk w ev P
  simp only [evE] at P
  refine ofE (pe_lst seA) (bindA h tk Aft.refl w ev P fun ws μ1 P1 vs G1 ρ1 H1 a1 w1 r1 => ?_)
  split at P1
  · rename_i hl
    exact ⟨by rw [r1.length]; exact Nat.le_trans hl bigLine, fun x hx => (P1.step a1).nw a1 w1 ⟨vs, rfl, r1.nm w1⟩ (fun _ z => nomatch z) hx⟩
  · exact P1.elim
theorem snd_dct0 : SndE I X F (.Dict [] [] p) .dct0 := by
  intro W G ρ H σ δ μ Q tk w ev P
  simp only [evE] at P
  exact ofE pe_dnewK fun x hx => P.nw Aft.refl w ⟨[], rfl, rfl, rfl⟩ (fun _ z => nomatch z) hx
theorem snd_dct1 (ha : SndE I X F ea a) (hb : SndE I X F eb b) : SndE I X F (.Dict [some ea] [eb] p) (.dct1 a b) := by
  intro W G ρ H σ δ μ Q tk w ev P
  simp only [evE] at P
  refine ofE (pe_disp (pps_cons seE seE pps_nil) rfl rfl (by simp) (Nat.le_of_ble_eq_true rfl)) fun q hq => ?_
  have nP : q ∉ ρ := w.fresh hq
  have gP : G q = none := w.gfree hq
  have A0 : Aft G ρ H G ρ (upd H q (.dK [])) := Aft.lay hq _
  refine bindV ha tk A0 (w.lay hq _) (ev.mono A0) P fun x μ1 P1 v1 G1 ρ1 H1 a1 w1 r1 => ?_
  refine bindV hb tk (A0.trans a1) w1 (ev.mono (A0.trans a1)) P1 fun y μ2 P2 v2 G2 ρ2 H2 a2 w2 r2 => ?_
  have B := (A0.trans a1).trans a2
  have a12 := a1.trans a2
  have hp2 : H2 q = some (.dK []) := a12.fr' upd_same nP
  have gp2 : G2 q = none := a12.nw _ _ upd_same gP nP
  have np2 : q ∉ ρ2 := a12.old upd_same nP
  split at P2
  · rename_i d
    split at P2
    · rename_i k hk
      have ek := Rep.key r1 hk
      refine ⟨hp2, [(k, v2)], by rw [ek]; rfl, Nat.le_of_ble_eq_true rfl, ?_⟩
      refine P2 G2 ρ2 _ (B.writeN hq) (w2.writeN np2 gp2) (.ref q) ⟨q, _, rfl, np2, gp2, upd_same, ⟨_, rfl, rfl, ⟨_, _, rfl, r2, rfl⟩⟩, fun _ z => nomatch z⟩ fun o a _ e => ?_
      cases e; exact hq
    · exact P2.elim
  · exact P2.elim
theorem snd_ix (Ft : Fit I n F X) (ha : SndE I X F ea a) (hb : SndE I X F eb b) (hs : isSlice eb = false) : SndE I X F (.Subscript ea eb p) (.ix a b) := by
  intro W G ρ H σ δ μ Q tk w ev P
  simp only [evE] at P
  have hu : X.A.units + 1 < cLine := by have := Ft.hr.un; omega
  refine ofE (pe_ix ((ix_dict hu).or ix_seq) seE seE (ix_of hs)) (bindE ha tk Aft.refl w ev P fun x μ1 P1 v G1 ρ1 H1 a1 w1 r1 n1 => ?_)
  refine bindE hb tk a1 w1 (ev.mono a1) P1 fun y μ2 P2 u G2 ρ2 H2 a2 w2 r2 n2 => ?_
  exact ix_ok hu (P2.step (a1.trans a2)) w2 ((r1.mono a2).nm w2) r2
theorem snd_att (Ft : Fit I n F X) {k : Nat} {x : Str} (e : I.an k = x) (ha : SndE I X F ea a) (hc : isCall0 ea = false) : SndE I X F (.Attribute ea x p) (.att a k) := by
  intro W G ρ H σ δ μ Q tk w ev P
  simp only [evE] at P
  subst e
  refine ofE (pe_fld seE (base_of hc)) (bindE ha tk Aft.refl w ev P fun r μ1 P1 v G1 ρ1 H1 a1 w1 r1 n1 => ?_)
  split at P1
  · rename_i c ws hi
    split at P1
    · rename_i i hx
      split at P1
      · rename_i u hu
        obtain ⟨q, dx, fs, z, e2, h1, h2, h3, h4, h5⟩ := fld_ok Ft.L w1 r1 hi hx hu
        exact ⟨q, _, dx, fs, z, e2, h1, h2, h3, h4, (P1.step a1).val w1 (h5.nm w1)⟩
      · exact P1.elim
    · exact P1.elim
  · exact P1.elim
theorem snd_mkc (ha : SndE I X F ea a) : SndE I X F ea (.mkc a) := by
  intro W G ρ H σ δ μ Q tk w ev P
  simp only [evE] at P
  refine bindE ha tk Aft.refl w ev P fun r μ1 P1 v G1 ρ1 H1 a1 w1 r1 n1 => ?_
  cases r with
  | fz d => exact P1 G1 ρ1 H1 a1 w1 v r1 n1
  | cel k => exact P1 G1 ρ1 H1 a1 w1 v r1 n1
  | nw o =>
    obtain ⟨q, h, h1, h2, h3, h4, h5, h6⟩ := r1
    obtain ⟨b1, b2, b3, b4⟩ := w1.hold a1 h2 h3 h4 h5 h6 (n1 o q rfl h1)
    exact P1 G1 (ρ1 ++ [q]) H1 b1 b2 v ⟨q, b3, h1⟩ (fun _ _ z => nomatch z)
end
end EW
set_option maxRecDepth 100000
set_option maxHeartbeats 4000000
namespace EW
open PySem L2 PySem.Spec PyProof.Rows
def SndO (I : Ci) (X : Cx) (F : Fx) (e : Option Expr) (c : Ce) : Prop := (e = none ∧ isK c = true) ∨ ∃ e', e = some e' ∧ isK c = false ∧ SndE I X F e' c
def wpO (X : Cx) (e : Option Expr) : TO := match e with
  | none => tNoPart
  | some e => tPart (wpE X e)
theorem seO {X : Cx} {e : Option Expr} : PO X e (wpO X e) := by
  cases e with
  | none => exact po_none
  | some e => exact po_some seE
section
variable {I : Ci} {X : Cx} {n : Nat} {F : Fx} {a b c : Ce} {ea eb ec : Expr} {p : Pos} {W : WX} {σ : L2.St} {G G0 : Hp} {ρ ρ0 : List Addr} {H H0 : Hp} {μ : Mu} {δ : EW.Env}
theorem bindO {e : Option Expr} {β : Type} {f : Option Int → Mu → Out β} {S : β → Mu → Hp → List Addr → Hp → Prop} {R : Option Int → Hp → Prop} (h : SndO I X F e c) (tk : Takes X W) (A : Aft G0 ρ0 H0 G ρ H) (w : Wd I X.K G ρ μ H) (ev : EnvR I X.K G ρ δ σ) (P : Po I X.K W σ G0 ρ0 H0 ((partO (isK c) (evE F c δ μ) μ).bind f) S)
    (k : ∀ i μ1, Po I X.K W σ G0 ρ0 H0 (f i μ1) S → ∀ G1 ρ1 H1, Aft G ρ H G1 ρ1 H1 → Wd I X.K G1 ρ1 μ1 H1 → R i H1) : wpO X e σ H R := by
  rcases h with ⟨rfl, hk⟩ | ⟨e', rfl, hk, h⟩
  · rw [hk] at P
    exact k none μ P G ρ H Aft.refl w
  · rw [hk] at P
    have e2 : (partO false (evE F c δ μ) μ).bind f = (evE F c δ μ).bind fun r μ1 => (match r with | .fz (.int i) => Out.ok (some i) μ1 | _ => .no).bind f := by
      unfold partO
      cases evE F c δ μ <;> rfl
    rw [e2] at P
    refine bindE h tk A w ev P fun x μ1 P1 v G1 ρ1 H1 a1 w1 r1 n1 => ?_
    split at P1
    · rename_i i
      exact ⟨i, r1, k (some i) μ1 P1 G1 ρ1 H1 a1 w1⟩
    · exact P1.elim
end
section
variable {I : Ci} {X : Cx} {n : Nat} {F : Fx} {a b c : Ce} {ea eb ec : Expr} {p p2 : Pos}
theorem snd_sl {lo hi : Option Expr} {l h : Ce} (ha : SndE I X F ea a) (hl : SndO I X F lo l) (hh : SndO I X F hi h) : SndE I X F (.Subscript ea (.Slice lo hi none p2) p) (.sl a l h) := by
  intro W G ρ H σ δ μ Q tk w ev P
  simp only [evE] at P
  refine ofE (pe_slice (sl_str.or (sl_tupA.or sl_list)) seE seO seO) (bindE ha tk Aft.refl w ev P fun x μ1 P1 v G1 ρ1 H1 a1 w1 r1 n1 => ?_)
  refine bindO hl tk a1 w1 (ev.mono a1) P1 fun i μ2 P2 G2 ρ2 H2 a2 w2 => ?_
  refine bindO hh tk (a1.trans a2) w2 (ev.mono (a1.trans a2)) P2 fun j μ3 P3 G3 ρ3 H3 a3 w3 => ?_
  have A3 := (a1.trans a2).trans a3
  exact sl_ok (P3.step A3) A3 w3 ((r1.mono (a2.trans a3)).nm w3)
theorem snd_fn (Ft : Fit I n F X) {f : Nat} {x : Str} {as : Ces} {l : List Expr} {p0 : Pos} (e : I.fn f = x) (hg : glb X.env.scope x = true) (hf : fine x = true) (ok : okEs I X.N X.env.scope as l = true) (h : SndA I X F l as) : SndE I X F (.Call (.Name x p0) l [] p) (.fn f as) := by
  intro W G ρ H σ δ μ Q tk w ev P
  simp only [evE] at P
  subst e
  split at P
  · rename_i hd
    have hr : Room (2 * n) X.A := Ft.hr.mono (by omega)
    obtain ⟨f', fd, ps, Ff, hm, hk, hb⟩ := Ft.L.fn f hd
    cases l with
    | nil =>
      cases as with
      | cons _ _ => simp [okEs] at ok
      | nil =>
        simp only [evEs, Out.bind] at P
        exact wpE_call0 Ff hr hb tk (glb_of hg) hm hk (fine_of hf).1 (lend_ok P Aft.refl w rfl)
    | cons e es =>
      cases as with
      | nil => simp [okEs] at ok
      | cons a r =>
        rw [okEs, Bool.and_eq_true] at ok
        exact wpE_call Ff hr hb tk (glb_of hg) hm hk (fine_of hf).1 (bindA h tk Aft.refl w ev P fun ws μ1 P1 vs G1 ρ1 H1 a1 w1 r1 => lend_ok (P1.step a1) a1 w1 r1) (star_of (okE_star ok.1).1 es X.env) (okEs_star ok.2)
  · exact P.elim
theorem no_fld {c m k : Nat} {fs : List (Str × V)} (h : ∀ a ∈ I.fl c, I.an a ≠ I.mn m) (e : fs.map (·.1) = I.ns c k) : fs.lookup (I.mn m) = none := by
  have hn : I.mn m ∉ fs.map (·.1) := by
    rw [e]
    unfold Ci.ns
    intro z
    obtain ⟨a, h1, h2⟩ := List.mem_map.mp z
    exact h a (List.mem_of_mem_take h1) h2
  clear e
  induction fs with
  | nil => rfl
  | cons f fs ih =>
    obtain ⟨x, v⟩ := f
    simp only [List.map_cons, List.mem_cons, not_or] at hn
    rw [List.lookup_cons]
    have : (I.mn m == x) = false := by rw [beq_eq_false_iff_ne]; exact hn.1
    rw [this]
    exact ih hn.2
theorem snd_mt (Ft : Fit I n F X) {m : Nat} {x : Str} {as : Ces} {l : List Expr} {ap : Pos} (e : I.mn m = x) (ha : SndE I X F ea a) (hc : isCall0 ea = false) (ok : okEs I X.N X.env.scope as l = true) (hl : ap.endLine = p.line) (hn : l.length < 29) (h : SndA I X F l as) : SndE I X F (.Call (.Attribute ea x ap) l [] p) (.mt m a as) := by
  intro W G ρ H σ δ μ Q tk w ev P
  simp only [evE] at P
  subst e
  have hr : Room (2 * n) X.A := Ft.hr.mono (by omega)
  have ht := meth_eval (o := ea) (m := I.mn m) (ap := ap) (p := p) (l := l) (env := X.env) hc (okEs_star ok) hn hl
  cases l with
  | nil =>
    cases as with
    | cons _ _ => simp [okEs] at ok
    | nil =>
      refine wpE_meth0 (k := 2 * n) hr tk (bindE ha tk Aft.refl w ev P fun r μ1 P1 v G1 ρ1 H1 a1 w1 r1 n1 => ?_) ht
      split at P1
      · rename_i c ws hi
        split at P1
        · rename_i hd
          obtain ⟨⟨f, fd, ps, Ff, M, B⟩, ck, nf⟩ := Ft.L.mt c m hd
          obtain ⟨q, dx, fs, e, h1, h2, h3⟩ := r1.ins w1 hi
          simp only [evEs, Out.bind] at P1
          obtain ⟨G2, ρ2, b1, b2, b3, _, _⟩ := ResR.arg w1 a1 r1 n1
          exact ⟨_, f, fd, ps, _, ck.cls, M, Ff, B, q, dx, fs, e, h1, no_fld nf h2, lend_ok (P1.step b1) b1 b2 ⟨v, [], rfl, b3, rfl⟩⟩
        · exact P1.elim
      · exact P1.elim
  | cons e es =>
    cases as with
    | nil => simp [okEs] at ok
    | cons a' r =>
      have ok' := ok
      rw [okEs, Bool.and_eq_true] at ok'
      refine wpE_meth (k := 2 * n) hr tk (bindE ha tk Aft.refl w ev P fun r μ1 P1 v G1 ρ1 H1 a1 w1 r1 n1 => ?_) (star_of (okE_star ok'.1).1 es X.env) (okEs_star ok'.2) ht
      split at P1
      · rename_i c ws hi
        split at P1
        · rename_i hd
          obtain ⟨⟨f, fd, ps, Ff, M, B⟩, ck, nf⟩ := Ft.L.mt c m hd
          obtain ⟨q, dx, fs, e, h1, h2, h3⟩ := r1.ins w1 hi
          obtain ⟨G2, ρ2, b1, b2, b3, _, _⟩ := ResR.arg w1 a1 r1 n1
          refine ⟨_, f, fd, ps, _, ck.cls, M, Ff, B, q, dx, fs, e, h1, no_fld nf h2, bindA h tk b1 b2 (ev.mono b1) P1 fun ws μ2 P2 vs G3 ρ3 H3 a3 w3 r3 => ?_⟩
          exact lend_ok (P2.step (b1.trans a3)) (b1.trans a3) w3 ⟨v, vs, rfl, b3.mono a3, r3⟩
        · exact P1.elim
      · exact P1.elim
theorem snd_mk (Ft : Fit I n F X) {c : Nat} {x : Str} {as : Ces} {l : List Expr} {p0 : Pos} (e : I.cn c = x) (hg : glb X.env.scope x = true) (hf : fine x = true) (ok : okEs I X.N X.env.scope as l = true) (h : SndA I X F l as) : SndE I X F (.Call (.Name x p0) l [] p) (.mk c as) := by
  intro W G ρ H σ δ μ Q tk w ev P
  simp only [evE] at P
  subst e
  split at P
  · rename_i hd
    obtain ⟨f', fd, ps, Ff, hm, M, hb⟩ := Ft.L.mkk c hd
    cases l with
    | nil =>
      cases as with
      | cons _ _ => simp [okEs] at ok
      | nil =>
        simp only [evEs, Out.bind] at P
        exact wpE_make0 M Ff Ft.hr hb tk (glb_of hg) hm (fine_of hf).1 (make_ok P Aft.refl w rfl)
    | cons e es =>
      cases as with
      | nil => simp [okEs] at ok
      | cons a r =>
        rw [okEs, Bool.and_eq_true] at ok
        exact wpE_make M Ff Ft.hr hb tk (glb_of hg) hm (fine_of hf).1 (bindA h tk Aft.refl w ev P fun ws μ1 P1 vs G1 ρ1 H1 a1 w1 r1 => make_ok (P1.step a1) a1 w1 (r1.nm w1)) (star_of (okE_star ok.1).1 es X.env) (okEs_star ok.2)
  · exact P.elim
theorem wpE_blt {x : Str} {v : Value} {e : Expr} {l : List Expr} {p0 : Pos} {σ : L2.St} {H : Hp} {Q : VK} (hv : bootBuiltins x = some v) (hk : (∃ id, v = .builtin id) ∨ ∃ T, v = .type T) (hg : Gl X x) (hm : X.mg x = none) (hn : x ≠ "__name__") (hd : (x == ("__debug__" : Str)) = false)
    (fin : wpA X (e :: l) σ H fun vs H1 => rcAny X v vs H1 Q) (he : starEach (e :: l) X.env = (false, eval e X.env) :: starEach l X.env) (hpl : (backTo p (starEach l X.env)).any (·.1) = false) : wpE X (.Call (.Name x p0) (e :: l) [] p) σ H Q := by
  rcases hk with ⟨id, rfl⟩ | ⟨T, rfl⟩
  · exact ofE (pe_callB crAny hg hm hv seA hn hd he hpl) fin
  · exact ofE (pe_callTy crAny hg hm hv seA hn hd he hpl) fin
theorem val_kind (b : Bl) : (∃ id, valOf b = .builtin id) ∨ ∃ T, valOf b = .type T := by
  cases b <;> first | exact .inl ⟨_, rfl⟩ | exact .inr ⟨_, rfl⟩
theorem bl_boot (b : Bl) : bootBuiltins (blName b) = some (valOf b) := by
  cases b <;> decide +kernel
theorem bl_in (b : Bl) : blName b ∈ bltNames := by
  cases b <;> simp [bltNames, blName]
theorem bl_nn (b : Bl) : blName b ≠ "__name__" := by
  cases b <;> decide +kernel
theorem bl_nd (b : Bl) : (blName b == ("__debug__" : Str)) = false := by
  cases b <;> decide +kernel
theorem snd_blt (Ft : Fit I n F X) {b : Bl} {x : Str} {as : Ces} {e : Expr} {l : List Expr} {p0 : Pos} (ex : blName b = x) (hg : glb X.env.scope x = true) (ok : okEs I X.N X.env.scope as (e :: l) = true) (h : SndA I X F (e :: l) as) : SndE I X F (.Call (.Name x p0) (e :: l) [] p) (.blt b as) := by
  intro W G ρ H σ δ μ Q tk w ev P
  simp only [evE] at P
  have h1 := bl_boot b
  have h2 := bl_in b
  have h3 := bl_nn b
  have h4 := bl_nd b
  rw [ex] at h1 h2 h3 h4
  cases as with
  | nil => simp [okEs] at ok
  | cons a r =>
    rw [okEs, Bool.and_eq_true] at ok
    refine wpE_blt h1 (val_kind b) (glb_of hg) (Ft.bn _ h2) h3 h4 ?_ (star_of (okE_star ok.1).1 l X.env) (okEs_star ok.2)
    exact bindA h tk Aft.refl w ev P fun ws μ1 P1 vs G1 ρ1 H1 a1 w1 r1 => blt_ok Ft.L Ft.hr Ft.calm (P1.step a1) a1 w1 (r1.nm w1)
end
end EW
set_option maxRecDepth 100000
set_option maxHeartbeats 4000000
namespace EW
open PySem L2 PySem.Spec PyProof.Rows
def mAny (X : Cx) (id : String) : V → List V → Hp → VK → Prop := fun x xs H Q => ∀ (pins : List (Addr × Obj)) (s : Shared) (σ : L2.St) (v : Value) (us : List Value), Inv X pins σ H s → RelV x v → Vals xs us → wpAny (model X.prog X.w) X.A (call (.builtin id) (v :: us)) (EP X pins σ Q) X.xe s
theorem mtAny {X : Cx} {id : String} : MtR X id (mAny X id) := fun pins s σ H x xs v us Q I rx r h => h pins s σ v us I rx r
theorem MtR.any {X : Cx} {id : String} {r : V → List V → Hp → VK → Prop} {x : V} {xs : List V} {H : Hp} {Q : VK} (hc : MtR X id r) (h : r x xs H Q) : mAny X id x xs H Q := fun pins s σ v us I hx hv => hc pins s σ H x xs v us Q I hx hv h
/-- what a method is looked up by -/
def TyG (X : Cx) (T : String) (x : V) (H : Hp) : Prop := ∀ (pins : List (Addr × Obj)) (σ : L2.St) (s : Shared) (v : Value), Inv X pins σ H s → RelV x v → s.TypeIs v T ∧ ∀ a, v = .ref a → ∃ ob, s.heap.get? a = some ob ∧ ob.dict = none
theorem TyG.of {X : Cx} {T : String} {x : V} {H : Hp} (h : tyV X.K T x H) : TyG X T x H := fun _ _ _ _ J r => tyV_is J r h
theorem TyG.dict {X : Cx} {a : Addr} {H : Hp} (h : IsD H a) : TyG X "dict" (.ref a) H := fun _ _ _ v J r => by
  obtain rfl : v = Value.ref a := r
  exact ⟨(isD_at J h).1, (isD_at J h).2.1⟩
def tBMG (X : Cx) (T : String) (r : V → List V → Hp → VK → Prop) (to : TE) (t : TA) : TE := fun σ H Q => to σ H fun x H1 => TyG X T x H1 ∧ t σ H1 fun xs H2 => r x xs H2 Q
def tBMG0 (X : Cx) (T : String) (r : V → List V → Hp → VK → Prop) (to : TE) : TE := fun σ H Q => to σ H fun x H1 => TyG X T x H1 ∧ r x [] H1 Q
section
variable {X : Cx} {o e : Expr} {es : List Expr} {to : TE} {t : TA} {name : Str} {apos cpos : Pos} {T id : String} {r : V → List V → Hp → VK → Prop}
theorem pe_bmG (pa : PlainAttrs T) (slot : Slot T name id) (hty : typeOf (.builtin id) = pure (.type "method_descriptor")) (hm : MtR X id r) (ho : PE X o to) (ha : PA X (e :: es) t)
    (hbase : attributeBase o name X.env (eval o X.env) = eval o X.env)
    (hfew : ((backTo cpos (starEach (e :: es) X.env)).all (fun x => !x.1) && (backToKw cpos (keywordEach [] X.env)).all (fun x => x.1.isSome)
      && decide ((e :: es).length + ([] : List Keyword).length + (if ([] : List Keyword).isEmpty then 0 else 1) < 30)) = true)
    (hline : (apos.endLine == cpos.line) = true) (hs : starEach (e :: es) X.env = (false, eval e X.env) :: starEach es X.env) (hplain : (backTo cpos (starEach es X.env)).any (·.1) = false) :
    PE X (.Call (.Attribute o name apos) (e :: es) [] cpos) (tBMG X T r to t) := by
  refine ⟨fun pins s σ H Q I h => ?_⟩
  refine wpAny_Call_method_late hbase hfew hline rfl (thn (ho.run pins s σ H _ I h) fun v s1 ⟨x, H1, I1, r1, ty, q1⟩ => ?_)
  obtain ⟨h1, h2⟩ := ty pins σ s1 v I1 r1
  refine ⟨T, id, pa, slot, hty, h1, h2, ?_⟩
  have hA := ha.run cpos pins s1 σ H1 _ I1 q1
  rw [hs] at hA ⊢
  refine Calls.callWith_builtin (by show (false || (backTo cpos (starEach es X.env)).any (·.1)) = false; rw [hplain] <;> rfl) (Calls.evalArgs_plain ?_)
  exact thn hA fun us s2 ⟨vs, H2, I2, r2, q2⟩ => hm pins s2 σ H2 x vs v us Q I2 r1 r2 q2
theorem pe_bmG0 (pa : PlainAttrs T) (slot : Slot T name id) (hty : typeOf (.builtin id) = pure (.type "method_descriptor")) (hm : MtR X id r) (ho : PE X o to)
    (hbase : attributeBase o name X.env (eval o X.env) = eval o X.env) (hline : (apos.endLine == cpos.line) = true) : PE X (.Call (.Attribute o name apos) [] [] cpos) (tBMG0 X T r to) := by
  refine ⟨fun pins s σ H Q I h => ?_⟩
  refine wpAny_Call_method0_late hbase hline (thn (ho.run pins s σ H _ I h) fun v s1 ⟨x, H1, I1, r1, ty, q1⟩ => ?_)
  obtain ⟨h1, h2⟩ := ty pins σ s1 v I1 r1
  exact ⟨T, id, pa, slot, hty, h1, h2, Calls.callWith_builtin rfl (PySem.evalArgs_none (hm pins s1 σ H1 x [] v [] Q I1 r1 .nil q1))⟩
/-- d.get(k), d.get(k, x) -/
def rDG : V → List V → Hp → VK → Prop := fun x xs H Q => ∃ a y o, x = .ref a ∧ DGet H a y o ∧ ((xs = [y] ∧ Q (o.getD .non) H) ∨ ∃ z, xs = [y, z] ∧ Q (o.getD z) H)
theorem mt_dget (hu : X.A.units + 1 < cLine) : MtR X "dict.get" rDG := by
  intro pins s σ H x xs v us Q I rx r h
  obtain ⟨a, y, o, rfl, g, h⟩ := h
  obtain rfl : v = Value.ref a := rx
  rcases h with ⟨rfl, q⟩ | ⟨z, rfl, q⟩
  · cases r with
    | cons r1 r2 =>
      cases r2
      exact d_get1 hu I g r1 fun w' s3 I3 rw' => ⟨_, H, I3, rw', q⟩
  · cases r with
    | cons r1 r2 =>
      cases r2 with
      | cons r3 r4 =>
        cases r4
        exact d_get2 hu I g r1 r3 fun w' s3 I3 rw' => ⟨_, H, I3, rw', q⟩
end
section
variable {I : Ci} {X : Cx} {n : Nat} {F : Fx} {a b c : Ce} {ea eb ec : Expr} {p p2 : Pos}
theorem few_of' {l : List Expr} {e : Expr} (h : (backTo p (starEach (e :: l) X.env)).any (·.1) = false) (hn : l.length < 20) : ((backTo p (starEach (e :: l) X.env)).all (fun x => !x.1) && (backToKw p (keywordEach [] X.env)).all (fun x => x.1.isSome)
      && decide ((e :: l).length + ([] : List Keyword).length + (if ([] : List Keyword).isEmpty then 0 else 1) < 30)) = true := by
  rw [all_any h]
  simp [keywordEach, backToKw]
  omega
/-- a method of a list or a text -/
theorem snd_bm {m : Bm} {T id : String} {x : Str} {as : Ces} {e : Expr} {l : List Expr} {ap : Pos} (pa : PlainAttrs T) (slot : Slot T x id) (hty : typeOf (.builtin id) = pure (.type "method_descriptor")) (ha : SndE I X F ea a) (hc : isCall0 ea = false) (ok : okEs I X.N X.env.scope as (e :: l) = true) (hl : ap.endLine = p.line) (hn : l.length < 20) (h : SndA I X F (e :: l) as)
    (ty : ∀ {G ρ μ H r v}, Wd I X.K G ρ μ H → ResR I X.K G ρ H r v → bmRecv m r μ = true → TyG X T v H)
    (fin : ∀ {W σ G ρ μ H G0 ρ0 H0 r v ws vs Q}, Po I X.K W σ G0 ρ0 H0 (bmtR m (r.nm μ) (ws.map (Val.nm μ)) μ) (QE I X.K H0 Q) → Aft G0 ρ0 H0 G ρ H → Wd I X.K G ρ μ H → ResR I X.K G ρ H r v → New H0 r v → ValsR I X.K G ρ ws vs → mAny X id v vs H Q) : SndE I X F (.Call (.Attribute ea x ap) (e :: l) [] p) (.bmt m a as) := by
  intro W G ρ H σ δ μ Q tk w ev P
  simp only [evE] at P
  cases as with
  | nil => simp [okEs] at ok
  | cons a' r' =>
    have ok' := ok
    rw [okEs, Bool.and_eq_true] at ok'
    have hst := star_of (okE_star ok'.1).1 l X.env
    refine ofE (pe_bmG pa slot hty mtAny seE seA (base_of hc) (few_of' (okEs_star ok) hn) (by rw [hl]; simp) hst (okEs_star ok'.2)) (bindE ha tk Aft.refl w ev P fun r μ1 P1 v G1 ρ1 H1 a1 w1 r1 n1 => ?_)
    split at P1
    · rename_i hrecv
      refine ⟨ty w1 r1 hrecv, bindA h tk a1 w1 (ev.mono a1) P1 fun ws μ2 P2 vs G2 ρ2 H2 a2 w2 r2 => ?_⟩
      exact fin P2 (a1.trans a2) w2 (r1.mono a2) n1 r2
    · exact P1.elim
theorem ty_list {m : Bm} (hm : bmRecv m = fun x μ => (mutV μ x).isSome) {G ρ μ H r v} (w : Wd I X.K G ρ μ H) (rr : ResR I X.K G ρ H r v) (h : bmRecv m r μ = true) : TyG X "list" v H := by
  rw [hm] at h
  obtain ⟨ws, e⟩ := Option.isSome_iff_exists.mp h
  obtain ⟨q, vs, e1, h1, _⟩ := rr.mut w e
  rw [e1]
  exact .of (.inl ⟨rfl, vs, .inl (.inl h1)⟩)
theorem ty_lsq {G ρ μ H r v} (w : Wd I X.K G ρ μ H) (rr : ResR I X.K G ρ H r v) (h : (lsqV μ r).isSome = true) : TyG X "list" v H := by
  obtain ⟨ws, e⟩ := Option.isSome_iff_exists.mp h
  obtain ⟨q, vs, e1, h1, _⟩ := rr.lsq w e
  rw [e1]
  exact .of (.inl ⟨rfl, vs, h1⟩)
theorem ty_dct {G ρ μ H r v} (w : Wd I X.K G ρ μ H) (rr : ResR I X.K G ρ H r v) (h : (dctV μ r).isSome = true) : TyG X "dict" v H := by
  obtain ⟨⟨ks, ws⟩, e⟩ := Option.isSome_iff_exists.mp h
  obtain ⟨q, kvs, e1, h1, _⟩ := rr.dct w e
  rw [e1]
  exact .dict (.inl ⟨kvs, h1⟩)
theorem ValsR.erase {K : PySem.W.Frag} {G : Hp} {ρ : List Addr} {ws : List Val} {vs : List V} (j : Nat) (r : ValsR I K G ρ ws vs) : ValsR I K G ρ (ws.eraseIdx j) (vs.eraseIdx j) := by
  rw [List.eraseIdx_eq_take_drop_succ, List.eraseIdx_eq_take_drop_succ]
  exact (r.take j).append (r.drop (j + 1))
theorem seq_of {n : Nat} {i : Int} {j : Nat} (h : ixN n i = some j) : seqIndex? i n = some j := (ixN_seq h).1
theorem find_at {us : List V} {u : V} {j : Nat} (h : (us.findIdx? fun x => eqV x u) = some j) : ∃ z, us[j]? = some z ∧ eqV z u = true ∧ ∀ (m : Nat) (z' : V), m < j → us[m]? = some z' → eqV z' u = false := by
  obtain ⟨hj, h1, h2⟩ := List.findIdx?_eq_some_iff_getElem.mp h
  refine ⟨us[j], List.getElem?_eq_getElem hj, h1, fun m z' hm hz => ?_⟩
  obtain ⟨hm', rfl⟩ := List.getElem?_eq_some_iff.mp hz
  have := h2 m hm
  simpa using this
theorem pop_ok {W : WX} {σ : L2.St} {G ρ μ H G0 ρ0 H0 r v Q} {i : Int} (P : Po I X.K W σ G0 ρ0 H0 (popR r i μ) (QE I X.K H0 Q)) (A : Aft G0 ρ0 H0 G ρ H) (w : Wd I X.K G ρ μ H) (rr : ResR I X.K G ρ H r v) (nn : New H0 r v) :
    ∃ l xs k y, v = .ref l ∧ H l = some (.lst xs) ∧ -(2 ^ 63) ≤ i ∧ i < 2 ^ 63 ∧ ixN xs.length i = some k ∧ xs[k]? = some y ∧ Q y (upd H l (.lst (xs.eraseIdx k))) := by
  unfold popR at P
  split at P
  · rename_i ds hm
    split at P
    · rename_i hi
      split at P
      · rename_i j hj
        split at P
        · rename_i u hu
          obtain ⟨q, us, e2, h1, r2, wr⟩ := rr.mut w hm
          obtain ⟨y, e3, r3⟩ := r2.get hu
          obtain ⟨w3, a3⟩ := wr (ds.eraseIdx j) (us.eraseIdx j) (r2.erase j)
          refine ⟨q, us, j, y, e2, h1, hi.1, hi.2, by rw [r2.length]; exact hj, e3, ?_⟩
          exact (P.step (a3 G0 ρ0 H0 A nn)).val w3 (r3.nm w)
        · exact P.elim
      · exact P.elim
    · exact P.elim
  · exact P.elim
theorem snd_bmt {n0 : Nat} (hr : Room (2 * n0 + 1) X.A) {m : Bm} {x : Str} {as : Ces} {e : Expr} {l : List Expr} {ap : Pos} (ex : bmName m = x) (hq : (bmName m == ("?" : Str)) = false) (ha : SndE I X F ea a) (hc : isCall0 ea = false) (ok : okEs I X.N X.env.scope as (e :: l) = true) (hl : ap.endLine = p.line) (hn : l.length < 20) (h : SndA I X F (e :: l) as) : SndE I X F (.Call (.Attribute ea x ap) (e :: l) [] p) (.bmt m a as) := by
  subst ex
  cases m with
  | append =>
    refine snd_bm PySem.F.plainAttrs_list PySem.F.slot_list_append PySem.F.type_list_append ha hc ok hl hn h (ty_list rfl) ?_
    intro W σ G ρ μ H G0 ρ0 H0 r v ws vs Q P A w rr nn rv
    have rv' := rv.nm w
    revert P rv'
    generalize ws.map (Val.nm μ) = us
    intro P rv'
    cases us with
    | nil => exact P.elim
    | cons u t =>
      cases t with
      | cons _ _ => exact P.elim
      | nil =>
        simp only [bmtR] at P
        split at P
        · rename_i ds hm
          split at P
          · rename_i hlen
            obtain ⟨y, e1, r1⟩ := rv'.v1
            obtain ⟨q, us, e2, h1, r2, wr⟩ := (rr.nm w).mut w hm
            obtain ⟨w3, a3⟩ := wr (ds ++ [u]) (us ++ [y]) (r2.append (ValsR.one r1))
            refine MtR.any mt_append ⟨q, us, y, e2, e1, h1, by rw [r2.length]; exact Nat.lt_of_lt_of_le hlen bigLine, ?_⟩
            exact (P.step (a3 G0 ρ0 H0 A (Res.nm_new nn))).fz w3 rfl
          · exact P.elim
        · exact P.elim
  | extend =>
    refine snd_bm PySem.F.plainAttrs_list PySem.F.slot_list_extend PySem.F.type_list_extend ha hc ok hl hn h (ty_list rfl) ?_
    intro W σ G ρ μ H G0 ρ0 H0 r v ws vs Q P A w rr nn rv
    unfold bmtR at P
    split at P
    all_goals (first | exact P.elim | (rename_i hx _; cases hx; done) | (rename_i hx; cases hx; done) | skip)
    rename_i u hw
    split at P
    · rename_i ds es hm he
      split at P
      · rename_i hlen
        have rv' := rv.nm w
        rw [hw] at rv'
        obtain ⟨y, e1, r1⟩ := rv'.v1
        obtain ⟨q2, zs, e3, h3, r3⟩ := (r1.res (H := H)).lst w he
        obtain ⟨q, us, e2, h1, r2, wr⟩ := (rr.nm w).mut w hm
        obtain ⟨w3, a3⟩ := wr (ds ++ es) (us ++ zs) (r2.append r3)
        refine MtR.any mt_extend ⟨q, q2, us, zs, e2, by rw [e1, e3], h1, h3, by rw [r2.length, r3.length]; exact Nat.le_of_lt (Nat.lt_of_lt_of_le hlen bigLine), ?_⟩
        exact (P.step (a3 G0 ρ0 H0 A (Res.nm_new nn))).fz w3 rfl
      · exact P.elim
    · exact P.elim
  | insert =>
    refine snd_bm PySem.F.plainAttrs_list PySem.F.slot_list_insert PySem.F.type_list_insert ha hc ok hl hn h (ty_list rfl) ?_
    intro W σ G ρ μ H G0 ρ0 H0 r v ws vs Q P A w rr nn rv
    have rv' := rv.nm w
    revert P rv'
    generalize ws.map (Val.nm μ) = us
    intro P rv'
    unfold bmtR at P
    split at P
    all_goals (first | exact P.elim | (rename_i hx _; cases hx; done) | (rename_i hx; cases hx; done) | skip)
    rename_i i u _
    split at P
    · rename_i ds hm
      split at P
      · rename_i hlen
        obtain ⟨y0, y, e1, r0, r1⟩ := rv'.v2
        obtain ⟨q, us, e2, h1, r2, wr⟩ := (rr.nm w).mut w hm
        obtain ⟨w3, a3⟩ := wr (ds.take i.toNat ++ [u] ++ ds.drop i.toNat) (us.take i.toNat ++ [y] ++ us.drop i.toNat) (((r2.take _).append (ValsR.one r1)).append (r2.drop _))
        refine MtR.any mt_insert ⟨q, us, i, y, e2, by rw [e1, show y0 = _ from r0], h1, by rw [r2.length]; exact Nat.lt_of_lt_of_le hlen.1 bigLine, hlen.2.1, hlen.2.2, ?_⟩
        exact (P.step (a3 G0 ρ0 H0 A (Res.nm_new nn))).fz w3 rfl
      · exact P.elim
    · exact P.elim
  | join =>
    refine snd_bm PySem.F.plainAttrs_str PySem.F.slot_str_join PySem.F.type_str_join ha hc ok hl hn h (fun {G ρ μ H r v} w rr hrecv => ?_) ?_
    · unfold bmRecv at hrecv
      dsimp only at hrecv
      split at hrecv
      · rw [show v = _ from rr]; exact .of rfl
      · cases hrecv
    · intro W σ G ρ μ H G0 ρ0 H0 r v ws vs Q P A w rr nn rv
      unfold bmtR at P
      split at P
      all_goals (first | exact P.elim | (rename_i hx _; cases hx; done) | (rename_i hx; cases hx; done) | skip)
      rename_i u hw
      split at P
      · rename_i s ys hs hy
        split at P
        · rename_i hlen
          have rv' := rv.nm w
          rw [hw] at rv'
          obtain ⟨y, e1, r1⟩ := rv'.v1
          obtain ⟨ds, h3, h4⟩ := Option.bind_eq_some_iff.mp hy
          obtain ⟨q2, zs, e3, h5, r3⟩ := (r1.res (H := H)).seq w h3
          rw [strsOf_ok h4 r3] at h5
          have rr' := rr.nm w
          rw [hs] at rr'
          exact MtR.any mt_join ⟨s, q2, ys, rr', by rw [e1, e3], h5, hlen, (P.step A).fz w rfl⟩
        · exact P.elim
      · exact P.elim
  | pop =>
    refine snd_bm PySem.F.plainAttrs_list PySem.F.slot_list_pop PySem.F.type_list_pop ha hc ok hl hn h (ty_list rfl) ?_
    intro W σ G ρ μ H G0 ρ0 H0 r v ws vs Q P A w rr nn rv
    have rv' := rv.nm w
    revert P rv'
    generalize ws.map (Val.nm μ) = us
    intro P rv'
    unfold bmtR at P
    split at P
    all_goals (first | exact P.elim | (rename_i hx _; cases hx; done) | (rename_i hx; cases hx; done) | skip)
    rename_i i _
    obtain ⟨y, e1, r1⟩ := rv'.v1
    obtain ⟨q, xs, k, z, e2, h1, h2, h3, h4, h5, h6⟩ := pop_ok P A w (rr.nm w) (Res.nm_new nn)
    exact MtR.any mt_popAt ⟨q, xs, i, k, z, e2, by rw [e1, show y = _ from r1], h1, h2, h3, seq_of h4, h5, h6⟩
  | get =>
    refine snd_bm PySem.F.plainAttrs_dict PySem.F.slot_dict_get PySem.F.type_dict_get ha hc ok hl hn h ty_dct ?_
    intro W σ G ρ μ H G0 ρ0 H0 r v ws vs Q P A w rr nn rv
    have rv' := rv.nm w
    revert P rv'
    generalize ws.map (Val.nm μ) = us
    intro P rv'
    have key : ∀ (k d : Val) (y : V), Po I X.K W σ G0 ρ0 H0 (getR (r.nm μ) k d μ) (QE I X.K H0 Q) → ValR I X.K G ρ k y → ∃ a o, v = .ref a ∧ DGet H a y o ∧ ∀ z, ValR I X.K G ρ d z → Q (o.getD z) H := by
      intro k d y P ry
      unfold getR at P
      split at P
      · rename_i ks ws hd
        split at P
        · rename_i kd
          split at P
          · rename_i key hk
            obtain ⟨a, kvs, e, g, h3, h4⟩ := (rr.nm w).dct w hd
            subst h3
            obtain ⟨i1, i2⟩ := dget_reps (k := key) h4
            refine ⟨a, valV kvs key, e, .inl ⟨kvs, key, g, Rep.key ry hk, rfl⟩, fun z rz => ?_⟩
            cases hg : dget (kvs.map (·.1)) ws key with
            | none =>
              rw [hg] at P
              rw [i2 hg]
              exact (P.step A).val w (rz.nm w)
            | some u =>
              rw [hg] at P
              obtain ⟨v', q1, q2⟩ := i1 u hg
              rw [q1]
              exact (P.step A).val w (q2.nm w)
          · exact P.elim
        · exact P.elim
      · exact P.elim
    have hu : X.A.units + 1 < cLine := by have := hr.un; omega
    unfold bmtR at P
    split at P
    all_goals (first | exact P.elim | (rename_i hx _; cases hx; done) | (rename_i hx; cases hx; done) | skip)
    · obtain ⟨y, e1, r1⟩ := rv'.v1
      obtain ⟨a, o, q1, q2, q3⟩ := key _ _ y P r1
      exact MtR.any (mt_dget hu) ⟨a, y, o, q1, q2, .inl ⟨e1, q3 .non rfl⟩⟩
    · obtain ⟨y, z, e1, r1, r2⟩ := rv'.v2
      obtain ⟨a, o, q1, q2, q3⟩ := key _ _ y P r1
      exact MtR.any (mt_dget hu) ⟨a, y, o, q1, q2, .inr ⟨z, e1, q3 z r2⟩⟩
  | index =>
    refine snd_bm PySem.F.plainAttrs_list PySem.F.slot_list_index PySem.F.type_list_index ha hc ok hl hn h ty_lsq ?_
    intro W σ G ρ μ H G0 ρ0 H0 r v ws vs Q P A w rr nn rv
    have rv' := rv.nm w
    revert P rv'
    generalize ws.map (Val.nm μ) = us
    intro P rv'
    unfold bmtR at P
    split at P
    all_goals (first | exact P.elim | (rename_i hx _; cases hx; done) | (rename_i hx; cases hx; done) | skip)
    rename_i d _
    unfold indexR at P
    split at P
    · rename_i u us hd hus
      split at P
      · rename_i j hj
        obtain ⟨y, e1, r1⟩ := rv'.v1
        obtain ⟨ds, h3, h4⟩ := Option.bind_eq_some_iff.mp hus
        obtain ⟨q2, zs, e3, h5, r3⟩ := (rr.nm w).lsq w h3
        obtain ⟨e4, f4⟩ := fls_reps h4 (r3.nm w)
        subst e4
        obtain ⟨z, z1, z2, z3⟩ := find_at hj
        have ey := D.fl_rep hd r1
        subst ey
        exact MtR.any mt_index ⟨q2, zs, y, j, z, e3, e1, h5, D.fl_flat hd, f4, z1, z2, z3, (P.step A).fz w rfl⟩
      · exact P.elim
    · exact P.elim
  | clear =>
    refine snd_bm PySem.F.plainAttrs_dict PySem.F.slot_dict_clear PySem.F.type_dict_clear ha hc ok hl hn h ty_dct ?_
    intro W σ G ρ μ H G0 ρ0 H0 r v ws vs Q P A w rr nn rv
    unfold bmtR at P
    split at P
    all_goals (first | exact P.elim | (rename_i hx _; cases hx; done) | (rename_i hx; cases hx; done) | skip)
  | items => exact absurd hq (by decide +kernel)
/-- xs.pop(), d.clear() -/
theorem snd_bm0 {m : Bm} {x : Str} {ap : Pos} (ex : bmName m = x) (hm : m.zero = true) (ha : SndE I X F ea a) (hc : isCall0 ea = false) (hl : ap.endLine = p.line) : SndE I X F (.Call (.Attribute ea x ap) [] [] p) (.bm0 m a) := by
  subst ex
  have hl' : (ap.endLine == p.line) = true := by rw [hl]; simp
  intro W G ρ H σ δ μ Q tk w ev P
  simp only [evE] at P
  cases m with
  | pop =>
    refine ofE (pe_bmG0 PySem.F.plainAttrs_list PySem.F.slot_list_pop PySem.F.type_list_pop mt_pop seE (base_of hc) hl') (bindE ha tk Aft.refl w ev P fun r μ1 P1 v G1 ρ1 H1 a1 w1 r1 n1 => ?_)
    split at P1
    · rename_i hrecv
      refine ⟨ty_list rfl w1 r1 hrecv, ?_⟩
      obtain ⟨q, xs, k, z, e2, h1, h2, h3, h4, h5, h6⟩ := pop_ok P1 (Aft.trans Aft.refl a1) w1 r1 n1
      have hk : k = xs.length - 1 := by
        unfold ixN at h4
        rw [if_neg (by decide)] at h4
        split at h4
        · have := Option.some.inj h4
          omega
        · cases h4
      subst hk
      have he : xs.eraseIdx (xs.length - 1) = xs.dropLast := by
        rw [List.eraseIdx_length_sub_one]
      rw [he] at h6
      exact ⟨q, xs, z, e2, rfl, h1, h5, h6⟩
    · exact P1.elim
  | clear =>
    refine ofE (pe_bmG0 PySem.F.plainAttrs_dict PySem.F.slot_dict_clear PySem.F.type_dict_clear mtd_clear seE (base_of hc) hl') (bindE ha tk Aft.refl w ev P fun r μ1 P1 v G1 ρ1 H1 a1 w1 r1 n1 => ?_)
    split at P1
    · rename_i hrecv
      refine ⟨ty_dct w1 r1 hrecv, ?_⟩
      unfold bm0R clearR at P1
      dsimp only at P1
      split at P1
      · rename_i k
        split at P1
        · rename_i ks ws hk
          obtain ⟨q, h1, h2⟩ := r1
          obtain ⟨x, h3, _, kvs, h5, h6, h7⟩ := w1.cel h1 hk (fun _ z => nomatch z)
          subst h5
          have ni : ∀ d, O.dct ks ws ≠ .ice d := fun _ z => nomatch z
          refine ⟨q, kvs, h2, rfl, h3, ?_⟩
          exact (P1.step (a1.trans (Aft.write w1 h1 hk ni))).fz (w1.write h1 hk ni (fun _ z => nomatch z) (o' := .dct [] []) (h := .dK []) ⟨[], rfl, rfl, rfl⟩) rfl
        · exact P1.elim
      · exact P1.elim
    · exact P1.elim
  | _ => simp [Bm.zero] at hm
theorem sndA_nil : SndA I X F [] .nil := fun W G ρ H σ δ μ Q tk w ev P => ofA pa_nil (P G ρ H Aft.refl w [] rfl)
theorem sndA_cons {l : List Expr} {r : Ces} (ha : SndE I X F ea a) (hs : isStar ea = false) (h : SndA I X F l r) : SndA I X F (ea :: l) (.cons a r) := by
  intro W G ρ H σ δ μ Q tk w ev P
  simp only [evEs] at P
  refine ofA (pa_cons seE seA (star_of hs l X.env)) (bindV ha tk Aft.refl w ev P fun x μ1 P1 v G1 ρ1 H1 a1 w1 r1 => ?_)
  refine bindA h tk a1 w1 (ev.mono a1) P1 fun ws μ2 P2 vs G2 ρ2 H2 a2 w2 r2 => ?_
  exact P2 G2 ρ2 H2 (a1.trans a2) w2 (v :: vs) ⟨v, vs, rfl, r1.mono a2, r2⟩
end
end EW
set_option maxRecDepth 100000
set_option maxHeartbeats 4000000
namespace EW
open PySem L2 PySem.Spec PyProof.Rows
section
variable {I : Ci} {X : Cx} {n : Nat} {F : Fx} {a b c : Ce} {ea eb ec : Expr} {p p2 : Pos}
theorem ty_boot {t : String} (h : tyOk t = true) : bootBuiltins (Str.ofString t) = some (.type t) ∧ Str.ofString t ∈ bltNames ∧ Str.ofString t ≠ "__name__" ∧ (Str.ofString t == ("__debug__" : Str)) = false := by
  simp only [tyOk, Bool.or_eq_true, beq_iff_eq] at h
  rcases h with ((((rfl | rfl) | rfl) | rfl) | rfl) | rfl <;> exact ⟨by decide +kernel, by simp [bltNames], by decide +kernel, by decide +kernel⟩
/-- the name of a class as a value -/
theorem wpE_cls (Ft : Fit I n F X) {d : D} {G : Hp} {σ : L2.St} {H : Hp} {Q : VK} (hk : ∀ c, d = .cls c → F.kc c = true) (ok : okCl I X.env.scope d ec = true) (q : ∀ v, Rep I X.K G d v → Q v H) : wpE X ec σ H Q := by
  cases d <;> cases ec <;> simp [okCl] at ok
  · rename_i c x p
    obtain ⟨h1, h2⟩ := ok
    have := Ft.L.kcn c (hk c rfl)
    rw [← h2] at this
    exact ofE (pe_glob (glb_of h1) this.1 (v := .ref (I.ca c)) rfl this.2) (q _ rfl)
  · rename_i t x p
    obtain ⟨⟨h1, h2⟩, h3⟩ := ok
    subst h2
    obtain ⟨b1, b2, b3, b4⟩ := ty_boot h3
    exact ofE (pe_bltn (v := .ty t) (glb_of h1) (Ft.bn _ b2) b1 rfl b3 b4) (q _ rfl)
theorem isi_boot : bootBuiltins ("isinstance" : Str) = some (.builtin "isinstance") := by decide +kernel
theorem okCl_star {d : D} (ok : okCl I X.env.scope d ec = true) : isStar ec = false := by
  cases d <;> cases ec <;> simp [okCl] at ok <;> rfl
theorem okCls_args (Ft : Fit I n F X) {G : Hp} {σ : L2.St} : ∀ {cs : List D} {l : List Expr} {H : Hp} {Q : List V → Hp → Prop}, okCls I X.env.scope cs l = true → (∀ vs, Reps I X.K G cs vs → Q vs H) → wpA X l σ H Q
  | [], [], H, Q, _, q => ofA pa_nil (q [] rfl)
  | .ty t :: ds, .Name x p :: es, H, Q, ok, q => by
    simp only [okCls, Bool.and_eq_true, decide_eq_true_eq] at ok
    obtain ⟨⟨⟨h1, h2⟩, h3⟩, h4⟩ := ok
    subst h2
    obtain ⟨b1, b2, b3, b4⟩ := ty_boot h3
    exact ofA (pa_cons (pe_bltn (v := .ty t) (glb_of h1) (Ft.bn _ b2) b1 rfl b3 b4) seA rfl) (okCls_args Ft h4 fun vs r => q (.ty t :: vs) ⟨_, _, rfl, rfl, r⟩)
  | [], _ :: _, _, _, ok, _ => by simp [okCls] at ok
  | d :: ds, [], _, _, ok, _ => by cases d <;> simp [okCls] at ok
  | d :: ds, e :: es, H, Q, ok, q => by
    cases d <;> cases e <;> simp [okCls] at ok
    rename_i t x p
    obtain ⟨⟨⟨h1, h2⟩, h3⟩, h4⟩ := ok
    subst h2
    obtain ⟨b1, b2, b3, b4⟩ := ty_boot h3
    exact ofA (pa_cons (pe_bltn (v := .ty t) (glb_of h1) (Ft.bn _ b2) b1 rfl b3 b4) seA rfl) (okCls_args Ft h4 fun vs r => q (.ty t :: vs) ⟨_, _, rfl, rfl, r⟩)
theorem isi_kc {W : WX} {σ : L2.St} {G : Hp} {ρ : List Addr} {H : Hp} {μ : Mu} {x : Res} {d : D} {S : Res → Mu → Hp → List Addr → Hp → Prop} (P : Po I X.K W σ G ρ H (isiR F x μ [d]) S) : ∀ c, d = .cls c → F.kc c = true := by
  intro c e
  subst e
  unfold isiR isi1 at P
  dsimp only at P
  by_cases h : F.kc c = true
  · exact h
  · rw [if_neg h] at P
    exact P.elim
theorem snd_isi1 (Ft : Fit I n F X) {d : D} {p0 : Pos} (ha : SndE I X F ea a) (hs : isStar ea = false) (hg : glb X.env.scope ("isinstance" : Str) = true) (ok : okCl I X.env.scope d ec = true) : SndE I X F (.Call (.Name "isinstance" p0) [ea, ec] [] p) (.isi a [d]) := by
  intro W G ρ H σ δ μ Q tk w ev P
  simp only [evE] at P
  have hs2 := okCl_star ok
  refine wpE_blt isi_boot (.inl ⟨_, rfl⟩) (glb_of hg) (Ft.bn _ (by simp [bltNames])) (by decide +kernel) (by decide +kernel) ?_ (star_of hs [ec] X.env) (by rw [star_of hs2]; rfl)
  refine ofA (pa_cons seE (pa_cons seE pa_nil (star_of hs2 [] X.env)) (star_of hs [ec] X.env)) (bindE ha tk Aft.refl w ev P fun x μ1 P1 v G1 ρ1 H1 a1 w1 r1 n1 => ?_)
  exact wpE_cls Ft (G := G1) (isi_kc P1) ok fun u ru => isi_ok Ft.L (P1.step a1) w1 r1 ru
theorem snd_isiT (Ft : Fit I n F X) {cs : List D} {l : List Expr} {k : Nat} {p0 p1 : Pos} (ha : SndE I X F ea a) (hs : isStar ea = false) (hg : glb X.env.scope ("isinstance" : Str) = true) (ok : okCls I X.env.scope cs l = true) (hl : cs.length ≠ 1) (hlen : cs.length ≤ big) : SndE I X F (.Call (.Name "isinstance" p0) [ea, .Tuple l k p1] [] p) (.isi a cs) := by
  intro W G ρ H σ δ μ Q tk w ev P
  simp only [evE] at P
  refine wpE_blt isi_boot (.inl ⟨_, rfl⟩) (glb_of hg) (Ft.bn _ (by simp [bltNames])) (by decide +kernel) (by decide +kernel) ?_ (star_of hs [.Tuple l k p1] X.env) rfl
  refine ofA (pa_cons seE (pa_cons (pe_tup seA) pa_nil rfl) (star_of hs [.Tuple l k p1] X.env)) (bindE ha tk Aft.refl w ev P fun x μ1 P1 v G1 ρ1 H1 a1 w1 r1 n1 => ?_)
  refine okCls_args Ft (G := G1) ok fun us ru => ⟨by rw [ru.length]; exact Nat.le_trans hlen bigLine, fun q hq => ?_⟩
  have A2 := a1.trans (Aft.lay (G := G1) (ρ := ρ1) hq (.tup us))
  exact isiT_ok (vc := v) (P1.step A2) hl (w1.lay hq _) (r1.mono (Aft.lay hq _)) upd_same ru
theorem own_map {N : List Str} {own : List Nat} : (ownP N own).map (·.2) = own := by
  unfold ownP
  rw [List.map_map]
  show own.map (fun i => i) = own
  simp
theorem snd_lc_rd (Ft : Fit I n F X) {T : Tg} {own : List Nat} {tg it elt : Expr} {ifs : List Expr} {scope : Scope} {tt : TT} {te : TE} {σ : L2.St} {H : Hp} {Q : VK} (hbk : blkC X.N X.env.scope scope (ownP X.N own) = true) (hT : okTg X.N (relS scope X.env.scope) T tg = true) (hset : isSet it = false)
    (ht : ∀ (s : Shared) (H : Hp) (C : Addr) (cl : List (Str × Addr)) (fp : List Addr), PTs (blk X scope s H C cl fp) ifs tt) (he : ∀ (s : Shared) (H : Hp) (C : Addr) (cl : List (Str × Addr)) (fp : List Addr), PE (blk X scope s H C cl fp) elt te)
    (h : tLc (wpI X tg it) (gU X.K T) tt te own σ H Q ∨ tLockE (tLc (wpI X tg it) (gU X.K T) tt te own) σ H Q) : wpE X (.ListComp elt [⟨tg, it, ifs, 0⟩] scope p) σ H Q := by
  have hpg : ∀ (s : Shared) (H : Hp) (C : Addr) (cl : List (Str × Addr)) (fp : List Addr), PG (blk X scope s H C cl fp) tg (gU X.K T) := fun s H C cl fp => okTg_pg (X := blk X scope s H C cl fp) Ft.nd Ft.calm hT
  have P0 : PE X (.ListComp elt [⟨tg, it, ifs, 0⟩] scope p) (tLc (wpI X tg it) (gU X.K T) tt te own) := by
    have := pe_lc (pos := p) Ft.calm Ft.nd seI (blkOk_by hbk) hpg ht he (fold_of hset)
    rw [own_map] at this
    exact this
  rcases h with h | h
  · exact ofE P0 h
  · exact ofE (pe_lock P0) h
def okIt (I : Ci) (X : Cx) (ik : Ik) (a : Ce) (it : Expr) (e : Expr) (tg : Expr) : Prop := (ik = .seq ∧ it = e) ∨ (ik = .rng ∧ ∃ p q, it = .Call (.Name "range" p) [e] [] q ∧ Gl X "range") ∨ (ik = .enum ∧ (∃ p q, it = .Call (.Name "enumerate" p) [e] [] q) ∧ Gl X "enumerate" ∧ ∃ l k p, tg = .Tuple l k p) ∨ (ik = .own ∧ it = e ∧ ∃ b k, a = .att b k ∧ I.it k = true)
/-- what the text says of the core of an iterable -/
def coreOf : Ik → Ce → Ce
  | .own, .att b _ => b
  | _, a => a
theorem iter_any {ik : Ik} {a : Ce} {e : Expr} {tg it : Expr} {β : Type} {g : List Item × Ck → Mu → Out β} {S : β → Mu → Hp → List Addr → Hp → Prop} {R : It → Hp → Prop} (Ft : Fit I n F X) (ha : SndE I X F e (coreOf ik a)) (hse : isStar e = false) (hit : okIt I X ik a it e tg)
    (tk : Takes X W) (A : Aft G0 ρ0 H0 G ρ H) (w : Wd I X.K G ρ μ H) (ev : EnvR I X.K G ρ δ σ) (P : Po I X.K W σ G0 ρ0 H0 ((evE F a δ μ).bind (itB ik g)) S)
    (k : ∀ its c μ2, Po I X.K W σ G0 ρ0 H0 (g (its, c) μ2) S → ∀ J G1 ρ1 H1, Aft G ρ H G1 ρ1 H1 → Wd I X.K G1 ρ1 μ2 H1 → ItOk I X.K G1 ρ1 H1 J its c → R J H1) : wpI X tg it σ H R := by
  rcases hit with ⟨h1, h2⟩ | ⟨h1, h2⟩ | ⟨h1, h2⟩ | ⟨h1, h2, b, kk, h3, h4⟩
  · subst h1; exact iter_ok Ft ha hse (.inl ⟨rfl, h2⟩) tk A w ev P k
  · subst h1; exact iter_ok Ft ha hse (.inr (.inl ⟨rfl, h2⟩)) tk A w ev P k
  · subst h1; exact iter_ok Ft ha hse (.inr (.inr ⟨rfl, h2⟩)) tk A w ev P k
  · subst h1 h2 h3; exact own_ok Ft ha h4 tk A w ev P k
theorem snd_lc (Ft : Fit I n F X) {T : Tg} {own : List Nat} {ik : Ik} {tg it elt : Expr} {scope : Scope} {ce : Ce} (hbk : blkC X.N X.env.scope scope (ownP X.N own) = true) (hT : okTg X.N (relS scope X.env.scope) T tg = true) (hset : isSet it = false) (hown : T.slots.all (fun j => decide (j ∈ own)) = true)
    (hit : (∃ e, okIt I X ik a it e tg ∧ SndE I X F e (coreOf ik a) ∧ isStar e = false) ∨ (ik = .keys ∧ path a = true ∧ okE I X.N X.env.scope a it = true)) (he : ∀ s H C cl fp, SndE I (blk X scope s H C cl fp) F elt ce) : SndE I X F (.ListComp elt [⟨tg, it, [], 0⟩] scope p) (.lc T own ik a ce) := by
  intro W G ρ H σ δ μ Q tk w ev P
  have hT' : ∀ j ∈ T.slots, j ∈ own := fun j hj => of_decide_eq_true (List.all_eq_true.mp hown j hj)
  refine snd_lc_rd Ft hbk hT hset (fun _ _ _ _ _ => pts_nil) (fun _ _ _ _ _ => seB) ?_
  simp only [evE] at P
  rcases hit with ⟨e, hi, ha, hs⟩ | ⟨rfl, hp, ok⟩
  · left
    refine iter_any Ft ha hs hi tk Aft.refl w ev P fun its c μ2 P2 J G1 ρ1 H1 a1 w1 io => ?_
    dsimp only at P2
    split at P2
    · rename_i hl
      exact lc_loop hT' (body1 he) a1 w1 (ev.mono a1) io hl P2
    · exact P2.elim
  · exact lcK_rd Ft hp ok hT' (body1 he) Aft.refl w ev P
theorem snd_lcIf (Ft : Fit I n F X) {T : Tg} {own : List Nat} {ik : Ik} {tg it elt cnd : Expr} {scope : Scope} {ce cc : Ce} (hbk : blkC X.N X.env.scope scope (ownP X.N own) = true) (hT : okTg X.N (relS scope X.env.scope) T tg = true) (hset : isSet it = false) (hown : T.slots.all (fun j => decide (j ∈ own)) = true)
    (hit : (∃ e, okIt I X ik a it e tg ∧ SndE I X F e (coreOf ik a) ∧ isStar e = false) ∨ (ik = .keys ∧ path a = true ∧ okE I X.N X.env.scope a it = true)) (he : ∀ s H C cl fp, SndE I (blk X scope s H C cl fp) F elt ce) (hcn : ∀ s H C cl fp, SndT I (blk X scope s H C cl fp) F cnd cc) : SndE I X F (.ListComp elt [⟨tg, it, [cnd], 0⟩] scope p) (.lcIf T own ik a cc ce) := by
  intro W G ρ H σ δ μ Q tk w ev P
  have hT' : ∀ j ∈ T.slots, j ∈ own := fun j hj => of_decide_eq_true (List.all_eq_true.mp hown j hj)
  refine snd_lc_rd Ft hbk hT hset (fun _ _ _ _ _ => seTB) (fun _ _ _ _ _ => seB) ?_
  simp only [evE] at P
  rcases hit with ⟨e, hi, ha, hs⟩ | ⟨rfl, hp, ok⟩
  · left
    refine iter_any Ft ha hs hi tk Aft.refl w ev P fun its c μ2 P2 J G1 ρ1 H1 a1 w1 io => ?_
    dsimp only at P2
    split at P2
    · rename_i hl
      exact lc_loop hT' (body2 he hcn) a1 w1 (ev.mono a1) io hl P2
    · exact P2.elim
  · exact lcK_rd Ft hp ok hT' (body2 he hcn) Aft.refl w ev P
theorem snd_x {i : Nat} {x : Str} (h1 : X.N[i]? = some x) (h2 : vis X.env.scope x = true) (h3 : fine x = true) : SndE I X F (.Name x p) (.x i) := by
  intro W G ρ H σ δ μ Q tk w ev P
  simp only [evE] at P
  split at P
  · rename_i u hu
    obtain ⟨v, q1, q2⟩ := ev.2 i u hu
    obtain ⟨f1, f2, _⟩ := fine_of h3
    exact ofE (pe_var h1 (vis_of h2) f1 f2) ⟨v, q1, P.val w (q2.nm w)⟩
  · exact P.elim
theorem no_snd (h : ∀ δ μ, evE F c δ μ = .no) : SndE I X F ec c := fun W G ρ H σ δ μ Q tk w ev P => by rw [h] at P; exact P.elim
theorem no_sndT (h : ∀ δ μ, evT F c δ μ = .no) : SndT I X F ec c := fun W G ρ H σ δ μ Q tk w ev P => by rw [h] at P; exact P.elim
end
end EW
set_option maxRecDepth 100000
set_option maxHeartbeats 4000000
namespace EW
open PySem L2 PySem.Spec PyProof.Rows
theorem relV_ni {z : V} (h : L2.RelV z Value.notImplemented) : False := by
  cases z <;> simp [L2.RelV] at h
section
variable {X : Cx} {W : WX} {k : Nat} {f C : Addr} {fd : FuncData} {ps : List Str} {sp : Sp} {σ : L2.St} {H : Hp}
/-- an operator of an own class -/
theorem bin_own {op : Operator} {a b dx dy : Addr} {fs gs : List (Str × V)} {Q : VK} (F : FnOk X.prog X.w X.K X.mg X.base (L2.CX X.prog X.w) k f fd ps sp) (hr : Room k X.A) (hm : Meth X.K C (PySem.dunder op.info.2) f) (sf : PySem.W.selfFirst X.K C = true) (hb : Binds X.K fd ps []) (tk : Takes X W)
    (ha : H a = some (.ins C dx fs)) (hb' : H b = some (.ins C dy gs)) (h : sp [.ref a, .ref b] H Q fun cls d H' => W cls d σ H') (pins : List (Addr × Obj)) (s : Shared) (I : Inv X pins σ H s) : wpAny (model X.prog X.w) X.A (binaryOp op (.ref a) (.ref b)) (EP X pins σ Q) X.xe s := by
  obtain ⟨mA, J, _⟩ := ins_get I.hok ha
  obtain ⟨od, J, _⟩ := J.look
  obtain ⟨mB, J2, _⟩ := ins_get I.hok hb'
  obtain ⟨od2, J2, _⟩ := J2.look
  obtain ⟨m, hF⟩ := I.fr
  refine PySem.W.binop_K hF I.ok.mod.kin J J2.type sf hm.at_ hm.fn (thn (run_at (us := [.ref a, .ref b]) (vs := [.ref a, .ref b]) F hr hb tk I (.cons rfl (.cons rfl .nil)) h) fun r s' hz => ?_)
  obtain ⟨z, H', I', rz, q⟩ := hz
  cases r <;> first | exact ⟨z, H', I', rz, q⟩ | exact (relV_ni rz).elim
/-- ~x -/
theorem inv_own {a dx : Addr} {fs : List (Str × V)} {Q : VK} (F : FnOk X.prog X.w X.K X.mg X.base (L2.CX X.prog X.w) k f fd ps sp) (hr : Room k X.A) (hm : Meth X.K C "__invert__" f) (hb : Binds X.K fd ps []) (tk : Takes X W)
    (ha : H a = some (.ins C dx fs)) (h : sp [.ref a] H Q fun cls d H' => W cls d σ H') (pins : List (Addr × Obj)) (s : Shared) (I : Inv X pins σ H s) : wpAny (model X.prog X.w) X.A (unaryOp .Invert (.ref a)) (EP X pins σ Q) X.xe s := by
  obtain ⟨mA, J, _⟩ := ins_get I.hok ha
  obtain ⟨od, J, _⟩ := J.look
  obtain ⟨m, hF⟩ := I.fr
  exact PySem.W.ksp_inv hF I.ok.mod.kin J hm.at_ hm.fn (run_at (us := [.ref a]) (vs := [.ref a]) F hr hb tk I (.cons rfl .nil) h)
end
section
variable {I : Ci} {X : Cx} {n : Nat} {F : Fx} {W : WX} {σ : L2.St} {G G0 : Hp} {ρ ρ0 : List Addr} {H H0 : Hp} {μ : Mu} {δ : EW.Env} {a b c : Ce} {ea eb ec : Expr} {p p2 : Pos}
theorem snd_rev {j : Nat} {p1 p2 p3 : Pos} (ha : SndE I X F ea a) : SndE I X F (.Subscript ea (.Slice none none (some (.UnaryOp .USub (.Constant (.int 1) j p1) p2)) p3) p) (.rev a) := by
  intro W G ρ H σ δ μ Q tk w ev P
  simp only [evE] at P
  refine ofE (pe_revL seE) (bindE ha tk Aft.refl w ev P fun x μ1 P1 v G1 ρ1 H1 a1 w1 r1 n1 => ?_)
  split at P1
  · rename_i ds hd
    obtain ⟨q, vs, e, h1, h2⟩ := r1.lsq w1 hd
    subst e
    exact ⟨q, vs, rfl, h1, fun z hz => (P1.step a1).nw (a1.trans Aft.refl) w1 ⟨_, rfl, h2.reverse⟩ (fun _ z => nomatch z) hz⟩
  · exact P1.elim
theorem insF_fr {x : Res} {c : Nat} {ds : List D} (h : insF x = some (c, ds)) : x.fr = .fz (.ins c ds) := by
  unfold insF at h
  split at h
  · cases h; rfl
  · rename_i c' ws
    obtain ⟨ds', h1, h2⟩ := Option.map_eq_some_iff.mp h
    cases h2
    exact Res.fr_some (by simp only [O.frozen, h1, Option.map_some])
  · cases h
theorem opM_name (L : Lk X.prog X.w X.K X.mg X.base I n F) {op : Operator} {m : Nat} (h : opM op = some m) : I.mn m = PySem.dunder op.info.2 := by
  have e : ∀ i, i < 8 → I.mn (i + 4) = (["__xor__", "__and__", "__or__", "__sub__", "__add__", "__invert__", "__call__", "__iter__"] : List Str).getD i "" := fun i hi => by
    have q := congrArg (fun l : List Str => l[i]?) L.opn
    rw [List.getElem?_map, List.getElem?_range hi] at q
    rw [List.getD_eq_getElem?_getD, ← q]; rfl
  cases op <;> simp [opM] at h <;> subst h
  · exact (e 4 (by decide)).trans (by decide +kernel)
  · exact (e 3 (by decide)).trans (by decide +kernel)
  · exact (e 2 (by decide)).trans (by decide +kernel)
  · exact (e 0 (by decide)).trans (by decide +kernel)
  · exact (e 1 (by decide)).trans (by decide +kernel)
theorem rb_mono {m : Sem Value} {A : Around} {pins : List (Addr × Obj)} {σ : L2.St} {Q Q' : VK} {E : Value → Shared → Prop} {s : Shared} {M : Model} (h : wpAny M A m (EP X pins σ Q) E s) (k : ∀ v H', Q v H' → Q' v H') : wpAny M A m (EP X pins σ Q') E s :=
  wpAny_mono h (fun v s1 ⟨x, H1, I1, r1, q1⟩ => ⟨x, H1, I1, r1, k _ _ q1⟩) fun _ _ z => z
theorem snd_binO (Ft : Fit I n F X) {op : Operator} (ha : SndE I X F ea a) (hb : SndE I X F eb b) : SndE I X F (.BinOp ea op eb p) (.bin op a b) := by
  intro W G ρ H σ δ μ Q tk w ev P
  simp only [evE] at P
  intro pins s J
  refine wpAny_BinOp (binT (R := fun x y H => ∀ (pins : List (Addr × Obj)) (s : Shared) (v u : Value), Inv X pins σ H s → RelV x v → RelV y u → wpAny (model X.prog X.w) X.A (binaryOp op v u) (EP X pins σ Q) X.xe s) seE seE J ?_ fun v u s2 x y H2 I2 rx ry q => q pins s2 v u I2 rx ry)
  refine bindE ha tk Aft.refl w ev P fun x μ1 P1 v G1 ρ1 H1 a1 w1 r1 n1 => ?_
  refine bindE hb tk a1 w1 (ev.mono a1) P1 fun y μ2 P2 u G2 ρ2 H2 a2 w2 r2 n2 => ?_
  unfold binO at P2
  split at P2
  · rename_i c ds c' ds' hx hy
    split at P2
    · rename_i m hm
      split at P2
      · rename_i hc
        obtain ⟨rfl, hd⟩ := hc
        have n1' := Res.nm_new (μ := μ2) n1
        obtain ⟨G', A', w', rx, ry⟩ := fr2 a1 a2 w2 r1 n1 r2 n2
        rw [insF_fr hx] at rx
        rw [insF_fr hy] at ry
        obtain ⟨⟨f, fd, ps, Ff, M, B, _⟩, sf⟩ := Ft.L.op c m hd
        rw [opM_name Ft.L hm] at M
        obtain ⟨q1, dx, fs, e1, h1, _⟩ := id rx
        obtain ⟨q2, dy, gs, e2, h2, _⟩ := id ry
        have sp := lend_ok (vs := [v, u]) (P2.step A') A' w' ⟨_, _, rfl, rx, _, _, rfl, ry, rfl⟩
        subst e1 e2
        intro pins s v' u' J hv hu
        cases hv; cases hu
        exact bin_own Ff (Ft.hr.mono (by omega)) M sf B tk (w'.sub.ins h1) (w'.sub.ins h2) sp pins s J
      · exact P2.elim
    · exact P2.elim
  · intro pins s v' u' J hv hu
    exact bin_ok (P2.step (a1.trans a2)) (a1.trans a2) w2 ((r1.mono a2).nm w2) r2 pins s σ v' u' J hv hu
theorem snd_inv (Ft : Fit I n F X) (ha : SndE I X F ea a) : SndE I X F (.UnaryOp .Invert ea p) (.inv a) := by
  intro W G ρ H σ δ μ Q tk w ev P
  simp only [evE] at P
  intro pins s J
  refine wpAny_UnaryOp (thn (bindE (R := fun x H => ∀ (pins : List (Addr × Obj)) (s : Shared) (v : Value), Inv X pins σ H s → RelV x v → wpAny (model X.prog X.w) X.A (unaryOp .Invert v) (EP X pins σ Q) X.xe s) ha tk Aft.refl w ev P (fun x μ1 P1 v G1 ρ1 H1 a1 w1 r1 n1 => ?_) pins s J) fun v s1 ⟨x, H1, I1, r1, q1⟩ => q1 pins s1 v I1 r1)
  split at P1
  · rename_i c ds hx
    split at P1
    · rename_i hd
      obtain ⟨G', A', w', rx, _, _⟩ := r1.fr1 w1 (Aft.trans Aft.refl a1) n1
      rw [insF_fr hx] at rx
      obtain ⟨⟨f, fd, ps, Ff, M, B, _⟩, sf⟩ := Ft.L.op c 9 hd
      have en : I.mn 9 = "__invert__" := by
        have q := congrArg (fun l : List Str => l[5]?) Ft.L.opn
        rw [List.getElem?_map, List.getElem?_range (by decide)] at q
        exact Option.some.inj q
      rw [en] at M
      obtain ⟨q1, dx, fs, e1, h1, _⟩ := id rx
      have sp := lend_ok (vs := [v]) (P1.step A') A' w' ⟨_, _, rfl, rx, rfl⟩
      subst e1
      intro pins s v' J hv
      cases hv
      exact inv_own Ff (Ft.hr.mono (by omega)) M B tk (w'.sub.ins h1) sp pins s J
    · exact P1.elim
  · exact P1.elim
theorem run_atD {k : Nat} {f : Addr} {fd : FuncData} {ps : List Str} {sp : Sp} {pins : List (Addr × Obj)} {s : Shared} {Q : VK} {us ds : List Value} {vs dvs : List V} (Ff : FnOk X.prog X.w X.K X.mg X.base (L2.CX X.prog X.w) k f fd ps sp) (hr : Room k X.A) (hb : Binds X.K fd ps ds) (hd : Vals dvs ds) (tk : Takes X W) (J : Inv X pins σ H s) (r : Vals vs us) (h : sp (vs ++ dvs) H Q fun cls d H' => W cls d σ H') :
    wpAny (model X.prog X.w) X.A (call (.ref f) us) (EP X pins σ Q) X.xe s := run_fnSD (E := fun σ cls d H' => W cls d σ H') Ff hr hb hd (passAt tk σ) J r h
theorem snd_fnd (Ft : Fit I n F X) {f : Nat} {x : Str} {as : Ces} {ds : List D} {l : List Expr} {p0 : Pos} (e : I.fn f = x) (hg : glb X.env.scope x = true) (hf : fine x = true) (ok : okEs I X.N X.env.scope as l = true) (h : SndA I X F l as) : SndE I X F (.Call (.Name x p0) l [] p) (.fnd f as ds) := by
  intro W G ρ H σ δ μ Q tk w ev P
  simp only [evE] at P
  subst e
  split at P
  · rename_i hd
    rw [Bool.and_eq_true] at hd
    have hr : Room (2 * n) X.A := Ft.hr.mono (by omega)
    obtain ⟨f', fd, ps, Ff, hm, hk, us0, dvs, hb, hdv, hrep⟩ := Ft.L.fnd f ds hd.1 hd.2
    intro pins s J
    refine wpAny_Call_Name_kw (ld_glob J (glb_of hg) hm ?_ (fine_of hf).1)
    cases l with
    | nil =>
      cases as with
      | cons _ _ => simp [okEs] at ok
      | nil =>
        simp only [evEs, Out.bind, List.nil_append] at P
        refine PySem.W.callWith_K0 J.kIn hk ?_
        exact run_atD (us := []) (vs := []) Ff hr hb hdv tk J .nil (lend_ok P Aft.refl w (hrep G).vals)
    | cons e es =>
      cases as with
      | nil => simp [okEs] at ok
      | cons a r =>
        rw [okEs, Bool.and_eq_true] at ok
        refine PySem.W.callWith_K (h₀ := X.base) J.ok.mod.kin hk (thn ((bindA (R := fun vs H1 => spF I X.K (F.fn f) (vs ++ dvs) H1 Q fun cls d H' => W cls d σ H') h tk Aft.refl w ev P fun ws μ1 P1 vs G1 ρ1 H1 a1 w1 r1 => lend_ok (P1.step a1) a1 w1 (r1.append (hrep G1).vals)) p pins s J) fun us s1 ⟨vs, H1, I1, r, q⟩ => ⟨I1.kIn, ?_⟩) (star_of (okE_star ok.1).1 es X.env) (okEs_star ok.2)
        exact run_atD Ff hr hb hdv tk I1 r q
  · exact P.elim
theorem run_makeSD {k : Nat} {f C : Addr} {fd : FuncData} {ps : List Str} {sp : Sp} {pins : List (Addr × Obj)} {s : Shared} {Q : VK} {us ds : List Value} {vs dvs : List V} (M : Mk X.K C f) (Ff : FnOk X.prog X.w X.K X.mg X.base (L2.CX X.prog X.w) k f fd ps sp) (hr : Room (k + 1) X.A) (hb : Binds X.K fd ps ds) (hd : Vals dvs ds) (tk : Takes X W) (J : Inv X pins σ H s) (r : Vals vs us)
    (h : MakeP X C sp W σ (vs ++ dvs) H Q) : wpAny (model X.prog X.w) X.A (call (.ref C) us) (EP X pins σ Q) X.xe s := by
  have hq := h (s.heap.objs.size + 1) s.heap.objs.size (J.hok.fresh (Nat.le_succ _)) (J.hok.fresh (Nat.le_refl _)) (Nat.ne_of_lt (Nat.lt_succ_self _))
  have I2 := Inv.made (C := C) J
  have r2 : Vals (V.ref (s.heap.objs.size + 1) :: (vs ++ dvs)) (Value.ref (s.heap.objs.size + 1) :: (us ++ ds)) := .cons rfl (r.append hd)
  have hl : (Value.ref (s.heap.objs.size + 1) :: (us ++ ds)).length = ps.length := by
    have e := r2.length
    rw [Ff.len _ _ _ _ hq] at e
    exact e.symm
  refine wpAny_call (make_map (f := f) J.kIn M.makes M.init (beq_iff_eq.mp M.fn) (codeAny_mono (Ff.run _ X.stack _ _ ⟨Value.ref (s.heap.objs.size + 1) :: us, []⟩ (Value.ref (s.heap.objs.size + 1) :: (us ++ ds)) _ _ _ (hr.make C us [])
    (I2.env0.make C us []) (hb { s with heap := _ } (Value.ref (s.heap.objs.size + 1) :: us) I2.kIn hl) r2 hq) fun r s' hq' => ?_))
  cases r with
  | error e => exact passAt tk σ pins _ _ e s' I2 hq'
  | ok fl =>
    cases fl with
    | ret u =>
      obtain ⟨v, H', I3, rv, ev, q3⟩ := I2.after hq'
      subst ev
      exact ⟨rv, ⟨V.ref (s.heap.objs.size + 1), H', I3, rfl, q3⟩⟩
    | next => exact False.elim hq'
    | brk => exact False.elim hq'
    | cont => exact False.elim hq'
theorem snd_mkd (Ft : Fit I n F X) {c : Nat} {x : Str} {as : Ces} {ds : List D} {l : List Expr} {p0 : Pos} (e : I.cn c = x) (hg : glb X.env.scope x = true) (hf : fine x = true) (ok : okEs I X.N X.env.scope as l = true) (h : SndA I X F l as) : SndE I X F (.Call (.Name x p0) l [] p) (.mkd c as ds) := by
  intro W G ρ H σ δ μ Q tk w ev P
  simp only [evE] at P
  subst e
  split at P
  · rename_i hd
    rw [Bool.and_eq_true] at hd
    obtain ⟨f', fd, ps, Ff, hm, M, us0, dvs, hb, hdv, hrep⟩ := Ft.L.mkd c ds hd.1 hd.2
    intro pins s J
    refine wpAny_Call_Name_kw (ld_glob J (glb_of hg) hm ?_ (fine_of hf).1)
    cases l with
    | nil =>
      cases as with
      | cons _ _ => simp [okEs] at ok
      | nil =>
        simp only [evEs, Out.bind, List.nil_append] at P
        exact PySem.W.callWith_K0 J.kIn M.kp (run_makeSD (us := []) (vs := []) M Ff Ft.hr hb hdv tk J .nil (make_ok P Aft.refl w ((hrep G).vals.nm w)))
    | cons e es =>
      cases as with
      | nil => simp [okEs] at ok
      | cons a r =>
        rw [okEs, Bool.and_eq_true] at ok
        refine PySem.W.callWith_K (h₀ := X.base) J.ok.mod.kin M.kp (thn ((bindA (R := fun vs H1 => MakeP X (I.ca c) (spF I X.K (F.mt c 0)) W σ (vs ++ dvs) H1 Q) h tk Aft.refl w ev P fun ws μ1 P1 vs G1 ρ1 H1 a1 w1 r1 => make_ok (P1.step a1) a1 w1 ((r1.append (hrep G1).vals).nm w1)) p pins s J) fun us s1 ⟨vs, H1, I1, r, q⟩ => ⟨I1.kIn, ?_⟩) (star_of (okE_star ok.1).1 es X.env) (okEs_star ok.2)
        exact run_makeSD M Ff Ft.hr hb hdv tk I1 r q
  · exact P.elim
theorem call_own {k : Nat} {f C a dx : Addr} {fd : FuncData} {ps : List Str} {sp : Sp} {fs : List (Str × V)} {us : List Value} {vs : List V} {Q : VK} {pins : List (Addr × Obj)} {s : Shared} (Ff : FnOk X.prog X.w X.K X.mg X.base (L2.CX X.prog X.w) k f fd ps sp) (hr : Room (k + 1) X.A) (M : Meth X.K C "__call__" f) (hfn : PySem.W.fnIn X.K f = true) (hb : Binds X.K fd ps []) (tk : Takes X W) (J : Inv X pins σ H s) (r : Vals vs us) (ha : H a = some (.ins C dx fs))
    (h : sp (.ref a :: vs) H Q fun cls d H' => W cls d σ H') : wpAny (model X.prog X.w) X.A (call (.ref a) us) (EP X pins σ Q) X.xe s := by
  obtain ⟨mA, J1, _⟩ := ins_get J.hok ha
  obtain ⟨od, J1, _⟩ := J1.look
  refine wpAny_call (PySem.W.kco_code J.kIn J1 rfl M.at_ M.fn hfn ?_)
  have r2 : Vals (V.ref a :: vs) (Value.ref a :: us) := .cons rfl r
  have hl : (Value.ref a :: us ++ []).length = ps.length := by
    rw [List.append_nil]
    have e := r2.length
    rw [Ff.len _ _ _ _ h] at e
    exact e.symm
  have hb' := hb s (Value.ref a :: us) J.kIn hl
  rw [List.append_nil] at hb'
  refine codeAny_mono (Ff.run X.A X.stack s H ⟨Value.ref a :: us, []⟩ (Value.ref a :: us) (V.ref a :: vs) Q _ (hr.mono (Nat.le_succ _)) J.env0 hb' r2 h) fun r s' hq => ?_
  cases r with
  | error e => exact passAt tk σ pins H s e s' J hq
  | ok fl =>
    cases fl with
    | ret u => exact J.after hq
    | next => exact False.elim hq
    | brk => exact False.elim hq
    | cont => exact False.elim hq
theorem callWith_obj {M : Model} {A : Around} {E : Value → Shared → Prop} {s : Shared} {env : PySem.Env} {pos : Pos} {x C : Addr} {Q : Value → Shared → Prop} {e : Expr} {rest : List Expr}
    (h : wpAny M A (spliced (backTo pos (starEach (e :: rest) env))) (fun vs s₁ => (∃ ox od, ox.data = .plain ∧ PySem.W.InstAt s₁.heap x ox C od) ∧ wpAny M A (call (.ref x) ([] ++ vs)) Q E s₁) E s)
    (he : starEach (e :: rest) env = (false, eval e env) :: starEach rest env) (hplain : (backTo pos (starEach rest env)).any (·.1) = false) :
    wpAny M A (callWith pos (.ref x) [] (backTo pos (starEach (e :: rest) env)) []) Q E s := by
  rw [he] at h ⊢
  unfold callWith
  refine wpAny_bind (wpAny_holding (wpAny_mono (Calls.evalArgs_plain (Q := fun a s₁ => (∃ ox od, ox.data = .plain ∧ PySem.W.InstAt s₁.heap x ox C od) ∧ wpAny M A (call (.ref x) ([] ++ a.pos) a.kw) Q E s₁) h) (fun a s₁ ⟨⟨ox, od, hd, I⟩, hc⟩ => wpAny_bind (wpAny_standAt ?_)) fun _ _ y => y))
  have L := PySem.W.kco_keeper (M := M) I hd
  have hp : ((backTo pos ((false, eval e env) :: starEach rest env)).any (·.1) || ([] : List (Option Str × Sem Value)).any (·.1.isNone)) = false := by
    show ((false || (backTo pos (starEach rest env)).any (·.1)) || false) = false
    rw [hplain]; rfl
  simp only [hp]
  refine wpAny_bind (L.here ?_)
  have tail : ∀ {t : Sem Value}, wpAny M A t Q E s₁ → wpAny M A (t >>= fun r => holding [r] point >>= fun _ => pure r) Q E s₁ :=
    fun ht => wpAny_bind (wpAny_mono ht (fun r s₂ hr => wpAny_bind (wpAny_holding (wpAny_point (wpAny_pure hr)))) fun _ _ y => y)
  exact tail (wpAny_operateT hc)
theorem snd_call (Ft : Fit I n F X) {x : Str} {as : Ces} {l : List Expr} {p0 : Pos} (ha : SndE I X F (.Name x p0) a) (ok : okEs I X.N X.env.scope as l = true) (h : SndA I X F l as) : SndE I X F (.Call (.Name x p0) l [] p) (.call a as) := by
  intro W G ρ H σ δ μ Q tk w ev P
  simp only [evE] at P
  have en : I.mn 10 = "__call__" := by
    have q := congrArg (fun l : List Str => l[6]?) Ft.L.opn
    rw [List.getElem?_map, List.getElem?_range (by decide)] at q
    exact Option.some.inj q
  intro pins s J
  refine wpAny_Call_Name_kw (thn (bindE (R := fun v H1 => ∀ (pins : List (Addr × Obj)) (s : Shared) (u : Value), Inv X pins σ H1 s → RelV v u → wpAny (model X.prog X.w) X.A (callWith p u [] (backTo p (starEach l X.env)) (backToKw p (keywordEach [] X.env))) (EP X pins σ Q) X.xe s) ha tk Aft.refl w ev P (fun r μ1 P1 v G1 ρ1 H1 a1 w1 r1 n1 => ?_) pins s J) fun u s1 ⟨v, H1, I1, rv, q⟩ => q pins s1 u I1 rv)
  intro pins s u J rv
  split at P1
  · rename_i c ws hi
    split at P1
    · rename_i hd
      obtain ⟨⟨f, fd, ps, Ff, M, B, hfn⟩, sf⟩ := Ft.L.op c 10 hd
      rw [en] at M
      obtain ⟨q, dx, fs, e, h1, h2, h3⟩ := r1.ins w1 hi
      obtain ⟨G2, ρ2, b1, b2, b3, _, _⟩ := ResR.arg w1 a1 r1 n1
      subst e
      obtain rfl : u = Value.ref q := rv
      obtain ⟨mA, J1, _⟩ := ins_get J.hok h1
      obtain ⟨od, J1, _⟩ := J1.look
      cases l with
      | nil =>
        cases as with
        | cons _ _ => simp [okEs] at ok
        | nil =>
          simp only [evEs, Out.bind] at P1
          split at P1
          · exact PySem.W.kco_callWith0 J.kIn J1 rfl M.at_ (call_own (us := []) (vs := []) Ff Ft.hr M hfn B tk J .nil h1 (lend_ok (P1.step b1) b1 b2 ⟨_, [], rfl, b3, rfl⟩))
          · exact P1.elim
      | cons e es =>
        cases as with
        | nil => simp [okEs] at ok
        | cons a' r =>
          rw [okEs, Bool.and_eq_true] at ok
          refine callWith_obj (C := I.ca c) (thn ((bindA (R := fun vs H2 => (∃ dx' fs', H2 q = some (.ins (I.ca c) dx' fs')) ∧ spF I X.K (F.mt c 10) (.ref q :: vs) H2 Q fun cls d H' => W cls d σ H') h tk b1 b2 (ev.mono b1) P1 fun ws μ2 P2 vs G3 ρ3 H3 a3 w3 r3 => ?_) p pins s J) fun us s1 ⟨vs, H2, I2, r, ⟨dx', fs', h4⟩, q2⟩ => ?_) (star_of (okE_star ok.1).1 es X.env) (okEs_star ok.2)
          · split at P2
            · rename_i hc
              obtain ⟨⟨c', ws'⟩, hi', ec⟩ := Option.map_eq_some_iff.mp hc
              cases ec
              have b4 := (b3.mono a3).nm w3
              obtain ⟨q', dx', fs', e', h5, _⟩ := (b4.res (H := H3)).ins w3 hi'
              cases e'
              exact ⟨⟨dx', fs', h5⟩, lend_ok (P2.step (b1.trans a3)) (b1.trans a3) w3 ⟨_, vs, rfl, b3.mono a3, r3⟩⟩
            · exact P2.elim
          · obtain ⟨mB, J2, _⟩ := ins_get I2.hok h4
            obtain ⟨od2, J2, _⟩ := J2.look
            exact ⟨⟨_, _, rfl, J2⟩, call_own Ff Ft.hr M hfn B tk I2 r h4 q2⟩
    · exact P1.elim
  · exact P1.elim
end
end EW
set_option maxRecDepth 100000
set_option maxHeartbeats 4000000
namespace EW
open PySem L2 PySem.Spec PyProof.Rows
section
variable {I : Ci} {K : PySem.W.Frag} {G : Hp} {ρ : List Addr}
theorem putK_reps {kvs : List (Key × V)} {ws : List Val} {k : Key} {u : Val} {v : V} (r : ValsR I K G ρ ws (kvs.map (·.2))) (ru : ValR I K G ρ u v) : (putK kvs k v).map (·.1) = putKs (kvs.map (·.1)) k ∧ ValsR I K G ρ (putWs (kvs.map (·.1)) ws k u) ((putK kvs k v).map (·.2)) := by
  have ha : hasK (kvs.map (·.1)) k = kvs.any fun kv => decide (kv.1 = k) := by unfold hasK; rw [List.any_map]; rfl
  unfold putK putKs putWs
  rw [ha]
  by_cases h : (kvs.any fun kv => decide (kv.1 = k)) = true
  · rw [if_pos h, if_pos h, if_pos h]
    clear h ha
    induction kvs generalizing ws with
    | nil =>
      cases ws with
      | nil => exact ⟨rfl, rfl⟩
      | cons _ _ => obtain ⟨_, _, z, _⟩ := r; cases z
    | cons kv kvs ih =>
      cases ws with
      | nil => cases r
      | cons x ws =>
        obtain ⟨v0, t, h1, h2, h3⟩ := r
        cases h1
        obtain ⟨i1, i2⟩ := ih h3
        refine ⟨?_, ?_⟩
        · simp only [List.map_cons, List.cons.injEq]
          refine ⟨?_, i1⟩
          split <;> rfl
        · simp only [List.map_cons, setK]
          refine ⟨_, _, rfl, ?_, i2⟩
          by_cases e : kv.1 = k
          · rw [if_pos e, if_pos e]; exact ru
          · rw [if_neg e, if_neg e]; exact h2
  · rw [if_neg h, if_neg h, if_neg h]
    refine ⟨by simp, ?_⟩
    rw [List.map_append]
    exact r.append (ValsR.one ru)
end
section
variable {I : Ci} {X : Cx} {n : Nat} {F : Fx} {W : WX} {σ : L2.St} {G G0 : Hp} {ρ ρ0 : List Addr} {H H0 : Hp} {μ : Mu} {δ : EW.Env}
def SD (I : Ci) (K : PySem.W.Frag) (Ky : V → VK) (Kn : Hp → Prop) : Option (Key × Val) → Mu → Hp → List Addr → Hp → Prop
  | none => fun _ _ _ H' => Kn H'
  | some (k, u) => fun _ G' ρ' H' => ∀ z, ValR I K G' ρ' u z → Ky (kV k) z H'
def BodyOkD (I : Ci) (X : Cx) (tt : TT) (tk tv : TE) (g : EW.Env → Mu → Out (Option (Key × Val))) : Prop := ∀ δ' μ' G2 ρ2 H2 σ2 (Ky : V → VK) (Kn : Hp → Prop), Wd I X.K G2 ρ2 μ' H2 → EnvR I X.K G2 ρ2 δ' σ2 →
  Po I X.K (fun _ _ _ _ => False) σ2 G2 ρ2 H2 (g δ' μ') (SD I X.K Ky Kn) → tt σ2 H2 fun b H3 => if b = true then tk σ2 H3 fun y H4 => tv σ2 H4 fun z H5 => Ky y z H5 else Kn H3
section
variable {scope : Scope} {kx vx c : Expr} {ck cv cc : Ce} {s : Shared} {C : Addr} {cl : List (Str × Addr)} {fp : List Addr}
theorem pair_rd (hk : ∀ s H C cl fp, SndE I (blk X scope s H C cl fp) F kx ck) (hv : ∀ s H C cl fp, SndE I (blk X scope s H C cl fp) F vx cv) {δ' : EW.Env} {μ' : Mu} {σ2 : L2.St} {Ky : V → VK} {Kn : Hp → Prop} (w : Wd I X.K G ρ μ' H) (ev : EnvR I X.K G ρ δ' σ2)
    (P : Po I X.K (fun _ _ _ _ => False) σ2 G ρ H ((argO (evE F ck δ' μ')).bind fun wk μ'' => (argO (evE F cv δ' μ'')).bind fun wv μ3 => keyO wk wv μ3) (SD I X.K Ky Kn)) : teB X scope kx σ2 H fun y H4 => teB X scope vx σ2 H4 fun z H5 => Ky y z H5 := by
  intro s Hx C cl fp
  refine bindV (X := blk X scope s Hx C cl fp) (hk s Hx C cl fp) takesB Aft.refl w ev P fun wk μ1 P1 y G1 ρ1 H1 a1 w1 ry => ?_
  intro s Hx C cl fp
  refine bindV (X := blk X scope s Hx C cl fp) (hv s Hx C cl fp) takesB a1 w1 (ev.mono a1) P1 fun wv μ3 P2 z G3 ρ3 H3 a3 w3 rz => ?_
  unfold keyO at P2
  split at P2
  · rename_i d
    split at P2
    · rename_i key hkey
      rw [Rep.key (show Rep I X.K G1 d y from ry) hkey]
      exact (P2.step (a1.trans a3)).ok w3 z rz
    · exact P2.elim
  · exact P2.elim
theorem bodyD1 (hk : ∀ s H C cl fp, SndE I (blk X scope s H C cl fp) F kx ck) (hv : ∀ s H C cl fp, SndE I (blk X scope s H C cl fp) F vx cv) : BodyOkD I X tYes (teB X scope kx) (teB X scope vx) fun δ' μ' => (argO (evE F ck δ' μ')).bind fun wk μ'' => (argO (evE F cv δ' μ'')).bind fun wv μ3 => keyO wk wv μ3 := by
  intro δ' μ' G2 ρ2 H2 σ2 Ky Kn w2 ev2 P
  unfold tYes
  dsimp only
  rw [if_pos rfl]
  exact pair_rd hk hv w2 ev2 P
theorem bodyD2 (hk : ∀ s H C cl fp, SndE I (blk X scope s H C cl fp) F kx ck) (hv : ∀ s H C cl fp, SndE I (blk X scope s H C cl fp) F vx cv) (ht : ∀ s H C cl fp, SndT I (blk X scope s H C cl fp) F c cc) : BodyOkD I X (ttB X scope c) (teB X scope kx) (teB X scope vx) fun δ' μ' => (evT F cc δ' μ').bind fun b μ4 => if b then (argO (evE F ck δ' μ4)).bind fun wk μ'' => (argO (evE F cv δ' μ'')).bind fun wv μ3 => keyO wk wv μ3 else .ok none μ4 := by
  intro δ' μ' G2 ρ2 H2 σ2 Ky Kn w2 ev2 P
  intro s Hx C cl fp
  refine bindT (X := blk X scope s Hx C cl fp) (ht s Hx C cl fp) takesB Aft.refl w2 ev2 P fun b μ1 P1 G1 ρ1 H1 a1 w1 => ?_
  cases b with
  | false =>
    show (if false = true then _ else Kn H1)
    rw [if_neg (by decide)]
    exact (P1.step a1).ok w1
  | true =>
    show (if true = true then _ else Kn H1)
    rw [if_pos rfl]
    exact pair_rd hk hv w1 (ev2.mono a1) (P1.step a1)
end
theorem dc_loop {T : Tg} {own : List Nat} {tt : TT} {tk tv : TE} {g : EW.Env → Mu → Out (Option (Key × Val))} {its : List Item} {c : Ck} {Q : VK} {J : It} (hT : ∀ j ∈ T.slots, j ∈ own) (hb : BodyOkD I X tt tk tv g) (A : Aft G0 ρ0 H0 G ρ H) (w : Wd I X.K G ρ μ H) (ev : EnvR I X.K G ρ δ σ) (it : ItOk I X.K G ρ H J its c) (hlen : its.length ≤ big)
    (P : Po I X.K W σ G0 ρ0 H0 (dcLoop T (wipeD δ own) c g its [] [] μ) (QE I X.K H0 Q)) : ∀ D, H D = none → ∃ Wv : Nat → Nat → Hp → Prop, (∃ m, Wv 0 m (upd H D (.dK []))) ∧ ∀ i m H', Wv i m H' →
  (J.stop i H' ∧ Q (.ref D) H') ∨ (J.go i H' ∧ ∃ Nx : Hp → Prop, (∀ H2, Nx H2 → ∃ m', m' < m ∧ Wv (i + 1) m' H2) ∧ ∀ x H2, J.yld i H' x H2 → gU X.K T x (L2.wipe σ own) H2 fun σ2 H3 => L2.wipe σ2 own = L2.wipe σ own ∧ tt σ2 H3 fun b H4 =>
    if b = true then tk σ2 H4 fun y H5 => tv σ2 H5 fun z H6 => ∃ kvs k, y = kV k ∧ H6 D = some (.dK kvs) ∧ kvs.length < sizeLine ∧ Nx (upd H6 D (.dK (putK kvs k z))) else Nx H4) := by
  intro Dl hD
  have nD : Dl ∉ ρ := w.fresh hD
  have gD : G Dl = none := w.gfree hD
  refine ⟨fun i m H' => m = its.length - i ∧ i ≤ its.length ∧ ∃ G' ρ' μ' ws kvs, kvs.length ≤ i ∧ Aft G ρ H G' ρ' H' ∧ Wd I X.K G' ρ' μ' H' ∧ H' Dl = some (.dK kvs) ∧ G' Dl = none ∧ Dl ∉ ρ' ∧ ValsR I X.K G' ρ' ws (kvs.map (·.2)) ∧ Po I X.K W σ G0 ρ0 H0 (dcLoop T (wipeD δ own) c g (its.drop i) (kvs.map (·.1)) ws μ') (QE I X.K H0 Q),
    ⟨its.length, by simp, Nat.zero_le _, G, ρ, μ, [], [], Nat.le_refl _, Aft.lay hD _, w.lay hD _, upd_same, gD, nD, rfl, P⟩, ?_⟩
  rintro i m H' ⟨rfl, hi, G', ρ', μ', ws, kvs, hal, a1, w1, hv, gv, nv, rv, P1⟩
  by_cases hlt : i < its.length
  · have hd : its[i]? = some its[i] := List.getElem?_eq_getElem hlt
    rw [List.drop_eq_getElem_cons hlt] at P1
    unfold dcLoop at P1
    split at P1
    · rename_i ck
      split at P1
      · exact P1.elim
      · rename_i δ' hbi
        refine .inr ⟨it.go i G' ρ' μ' H' a1 w1 ck hlt, fun H2 => its.length - (i + 1) < its.length - i ∧ i + 1 ≤ its.length ∧ ∃ G' ρ' μ' ws kvs, kvs.length ≤ i + 1 ∧ Aft G ρ H G' ρ' H2 ∧ Wd I X.K G' ρ' μ' H2 ∧ H2 Dl = some (.dK kvs) ∧ G' Dl = none ∧ Dl ∉ ρ' ∧ ValsR I X.K G' ρ' ws (kvs.map (·.2)) ∧ Po I X.K W σ G0 ρ0 H0 (dcLoop T (wipeD δ own) c g (its.drop (i + 1)) (kvs.map (·.1)) ws μ') (QE I X.K H0 Q), fun H2 q => ⟨its.length - (i + 1), q.1, rfl, q.2⟩, fun x H2 y => ?_⟩
        obtain ⟨a2, w2, r2⟩ := it.yld i G' ρ' μ' H' x H2 _ a1 w1 ck hd y
        have a12 := a1.trans a2
        refine bind_run w2 ((ev.mono a12).wipe own) r2 hbi fun σ3 ev3 hw => ⟨?_, ?_⟩
        · rw [hw own hT, wipe_idem]
        · refine hb δ' μ' G' ρ' H2 σ3 (fun y z H6 => ∃ kvs k, y = kV k ∧ H6 Dl = some (.dK kvs) ∧ kvs.length < sizeLine ∧ _) _ w2 ev3 ?_
          have hv2 : H2 Dl = some (.dK kvs) := a2.fr' hv nv
          revert P1
          cases g δ' μ' with
          | ok r μ3 =>
            cases r with
            | none =>
              intro P1 G3 ρ3 H3 a3 w3
              exact ⟨by omega, hlt, G3, ρ3, μ3, ws, kvs, Nat.le_succ_of_le hal, a12.trans a3, w3, a3.fr' hv2 nv, a3.nw _ _ hv2 gv nv, a3.old hv2 nv, rv.mono a3, P1⟩
            | some ku =>
              obtain ⟨k, u⟩ := ku
              intro P1 G3 ρ3 H3 a3 w3 y' ry
              have hv3 := a3.fr' hv2 nv
              have gv3 := a3.nw _ _ hv2 gv nv
              have nv3 := a3.old hv2 nv
              obtain ⟨e1, e2⟩ := putK_reps (k := k) (rv.mono a3) ry
              refine ⟨kvs, k, rfl, hv3, Nat.lt_of_le_of_lt hal (Nat.lt_of_lt_of_le hlt (Nat.le_trans hlen bigLine)), by omega, hlt, G3, ρ3, μ3, putWs (kvs.map (·.1)) ws k u, putK kvs k y', Nat.le_trans (length_putK kvs k y') (by omega), (a12.trans a3).writeN hD, w3.writeN nv3 gv3, upd_same, gv3, nv3, e2, ?_⟩
              rw [e1]
              exact P1
          | ex z μ3 => intro P1; exact P1.elim
          | no => intro P1; exact P1
    · exact P1.elim
  · have e : i = its.length := by omega
    subst e
    rw [List.drop_length] at P1
    unfold dcLoop at P1
    split at P1
    · rename_i ck
      refine .inl ⟨it.stop G' ρ' μ' H' a1 w1 ck, P1 G' ρ' H' (A.trans a1) w1 (.ref Dl) ⟨Dl, _, rfl, nv, gv, hv, ⟨kvs, rfl, rfl, rv⟩, fun _ z => nomatch z⟩ fun o a _ e2 => ?_⟩
      cases e2
      exact A.fresh hD (A.sup nD)
    · exact P1.elim
end
end EW
set_option maxRecDepth 100000
set_option maxHeartbeats 4000000
namespace EW
open PySem L2 PySem.Spec PyProof.Rows
section
variable {I : Ci} {X : Cx} {n : Nat} {F : Fx} {W : WX} {σ : L2.St} {G G0 : Hp} {ρ ρ0 : List Addr} {H H0 : Hp} {μ : Mu} {δ : EW.Env}
theorem dcLoop_calm {T : Tg} {δw : EW.Env} {c : Ck} {g : EW.Env → Mu → Out (Option (Key × Val))} : ∀ {its : List Item} {ks : List Key} {ws : List Val} {μ : Mu} {z : Exc} {μ' : Mu}, dcLoop T δw c g its ks ws μ ≠ .ex z μ'
  | [], ks, ws, μ, z, μ', h => by unfold dcLoop at h; split at h <;> cases h
  | d :: ds, ks, ws, μ, z, μ', h => by
    unfold dcLoop at h
    split at h
    · split at h
      · cases h
      · split at h
        · exact dcLoop_calm h
        · exact dcLoop_calm h
        · cases h
    · cases h
theorem dcK_rd (Ft : Fit I n F X) {a : Ce} {e tg : Expr} {T : Tg} {own : List Nat} {tt : TT} {tk1 tv : TE} {g : EW.Env → Mu → Out (Option (Key × Val))} {Q : VK} (hp : path a = true) (ok : okE I X.N X.env.scope a e = true) (hT : ∀ j ∈ T.slots, j ∈ own) (hb : BodyOkD I X tt tk1 tv g) (A : Aft G0 ρ0 H0 G ρ H) (w : Wd I X.K G ρ μ H) (ev : EnvR I X.K G ρ δ σ)
    (P : Po I X.K W σ G0 ρ0 H0 ((evE F a δ μ).bind (itB .keys fun it μ2 => if it.1.length ≤ big then dcLoop T (wipeD δ own) it.2 g it.1 [] [] μ2 else .no)) (QE I X.K H0 Q)) : tDc (wpI X tg e) (gU X.K T) tt tk1 tv own σ H Q ∨ tLockE (tDc (wpI X tg e) (gU X.K T) tt tk1 tv own) σ H Q := by
  obtain ⟨G1, μ1, d, kvs, A1, a1, w1, g1, run, P1⟩ := keys_at Ft hp ok A w ev P
  split at P1
  · rename_i hlen
    rcases w1.sub d _ g1 with hH | ⟨ob, kvs', z, hH⟩
    · right
      refine ⟨d, .dK kvs, hH, trivial, fun od => ?_⟩
      have sm : Same0 H (upd H d (.frz od (.dK kvs))) := fun b o e n => by
        have hb : b ≠ d := fun z => by subst z; rw [hH] at e; cases e; exact n kvs rfl
        rw [upd_ne hb]; exact e
      refine ofI (pi_keys seE) (run _ sm _ ⟨d, od, rfl, .inl ⟨kvs, upd_same, ?_⟩⟩)
      have wl := w1.lock (od := od) g1
      refine dc_loop (Q := fun v H' => H' d = some (.frz od (.dK kvs)) ∧ Q v (upd H' d (.dK kvs))) (G0 := G1) (ρ0 := ρ) (H0 := upd H d (.frz od (.dK kvs))) (W := W) hT hb Aft.refl wl (ev.mono a1) (it_keys g1 upd_same) hlen ?_
      revert P1
      cases hq : dcLoop T (wipeD δ own) none g ((kvs.map (·.1)).map fun k => .one (.fz (kD k))) [] [] μ1 with
      | ok r μ2 =>
        intro P1 G2 ρ2 H2 a2 w2 v rr nn
        have g2 := a2.ex _ _ g1
        exact ⟨a2.fr d _ upd_same fun _ => ⟨_, g1⟩, P1 G2 ρ2 _ (A1.trans (a2.unlock hH)) (w2.unlock g2) v (rr.unlock g2) ((nn.unlock).back A1 (a2.unlock hH) (rr.unlock g2))⟩
      | ex z μ2 => exact (dcLoop_calm hq).elim
      | no => exact fun P1 => P1
    · left
      cases z
      refine ofI (pi_keys seE) (run H (fun _ _ e _ => e) _ ⟨d, ob, rfl, .inl ⟨kvs, hH, ?_⟩⟩)
      exact dc_loop hT hb A1 w1 (ev.mono a1) (it_keys g1 hH) hlen P1
  · exact P1.elim
end
section
variable {I : Ci} {X : Cx} {n : Nat} {F : Fx} {a b c : Ce} {ea eb ec : Expr} {p p2 : Pos}
theorem snd_dc_rd (Ft : Fit I n F X) {T : Tg} {own : List Nat} {tg it kx vx : Expr} {ifs : List Expr} {scope : Scope} {tt : TT} {tk1 tv : TE} {σ : L2.St} {H : Hp} {Q : VK} (hbk : blkC X.N X.env.scope scope (ownP X.N own) = true) (hT : okTg X.N (relS scope X.env.scope) T tg = true) (hset : isSet it = false)
    (ht : ∀ (s : Shared) (H : Hp) (C : Addr) (cl : List (Str × Addr)) (fp : List Addr), PTs (blk X scope s H C cl fp) ifs tt) (hk : ∀ (s : Shared) (H : Hp) (C : Addr) (cl : List (Str × Addr)) (fp : List Addr), PE (blk X scope s H C cl fp) kx tk1) (he : ∀ (s : Shared) (H : Hp) (C : Addr) (cl : List (Str × Addr)) (fp : List Addr), PE (blk X scope s H C cl fp) vx tv)
    (h : tDc (wpI X tg it) (gU X.K T) tt tk1 tv own σ H Q ∨ tLockE (tDc (wpI X tg it) (gU X.K T) tt tk1 tv own) σ H Q) : wpE X (.DictComp kx vx [⟨tg, it, ifs, 0⟩] scope p) σ H Q := by
  have hpg : ∀ (s : Shared) (H : Hp) (C : Addr) (cl : List (Str × Addr)) (fp : List Addr), PG (blk X scope s H C cl fp) tg (gU X.K T) := fun s H C cl fp => okTg_pg (X := blk X scope s H C cl fp) Ft.nd Ft.calm hT
  have P0 : PE X (.DictComp kx vx [⟨tg, it, ifs, 0⟩] scope p) (tDc (wpI X tg it) (gU X.K T) tt tk1 tv own) := by
    have := pe_dc (pos := p) Ft.calm Ft.nd seI (blkOk_by hbk) hpg ht hk he (fold_of hset)
    rw [own_map] at this
    exact this
  rcases h with h | h
  · exact ofE P0 h
  · exact ofE (pe_lock P0) h
theorem snd_dc (Ft : Fit I n F X) {T : Tg} {own : List Nat} {ik : Ik} {tg it kx vx : Expr} {scope : Scope} {ck1 cv : Ce} (hbk : blkC X.N X.env.scope scope (ownP X.N own) = true) (hT : okTg X.N (relS scope X.env.scope) T tg = true) (hset : isSet it = false) (hown : T.slots.all (fun j => decide (j ∈ own)) = true)
    (hit : (∃ e, okIt I X ik a it e tg ∧ SndE I X F e (coreOf ik a) ∧ isStar e = false) ∨ (ik = .keys ∧ path a = true ∧ okE I X.N X.env.scope a it = true)) (hk : ∀ s H C cl fp, SndE I (blk X scope s H C cl fp) F kx ck1) (he : ∀ s H C cl fp, SndE I (blk X scope s H C cl fp) F vx cv) : SndE I X F (.DictComp kx vx [⟨tg, it, [], 0⟩] scope p) (.dc T own ik a ck1 cv) := by
  intro W G ρ H σ δ μ Q tk w ev P
  have hT' : ∀ j ∈ T.slots, j ∈ own := fun j hj => of_decide_eq_true (List.all_eq_true.mp hown j hj)
  refine snd_dc_rd Ft hbk hT hset (fun _ _ _ _ _ => pts_nil) (fun _ _ _ _ _ => seB) (fun _ _ _ _ _ => seB) ?_
  simp only [evE] at P
  rcases hit with ⟨e, hi, ha, hs⟩ | ⟨rfl, hp, ok⟩
  · left
    refine iter_any Ft ha hs hi tk Aft.refl w ev P fun its c μ2 P2 J G1 ρ1 H1 a1 w1 io => ?_
    dsimp only at P2
    split at P2
    · rename_i hl
      exact dc_loop hT' (bodyD1 hk he) a1 w1 (ev.mono a1) io hl P2
    · exact P2.elim
  · exact dcK_rd Ft hp ok hT' (bodyD1 hk he) Aft.refl w ev P
theorem snd_dcIf (Ft : Fit I n F X) {T : Tg} {own : List Nat} {ik : Ik} {tg it kx vx cnd : Expr} {scope : Scope} {ck1 cv cc : Ce} (hbk : blkC X.N X.env.scope scope (ownP X.N own) = true) (hT : okTg X.N (relS scope X.env.scope) T tg = true) (hset : isSet it = false) (hown : T.slots.all (fun j => decide (j ∈ own)) = true)
    (hit : (∃ e, okIt I X ik a it e tg ∧ SndE I X F e (coreOf ik a) ∧ isStar e = false) ∨ (ik = .keys ∧ path a = true ∧ okE I X.N X.env.scope a it = true)) (hk : ∀ s H C cl fp, SndE I (blk X scope s H C cl fp) F kx ck1) (he : ∀ s H C cl fp, SndE I (blk X scope s H C cl fp) F vx cv) (hcn : ∀ s H C cl fp, SndT I (blk X scope s H C cl fp) F cnd cc) : SndE I X F (.DictComp kx vx [⟨tg, it, [cnd], 0⟩] scope p) (.dcIf T own ik a cc ck1 cv) := by
  intro W G ρ H σ δ μ Q tk w ev P
  have hT' : ∀ j ∈ T.slots, j ∈ own := fun j hj => of_decide_eq_true (List.all_eq_true.mp hown j hj)
  refine snd_dc_rd Ft hbk hT hset (fun _ _ _ _ _ => seTB) (fun _ _ _ _ _ => seB) (fun _ _ _ _ _ => seB) ?_
  simp only [evE] at P
  rcases hit with ⟨e, hi, ha, hs⟩ | ⟨rfl, hp, ok⟩
  · left
    refine iter_any Ft ha hs hi tk Aft.refl w ev P fun its c μ2 P2 J G1 ρ1 H1 a1 w1 io => ?_
    dsimp only at P2
    split at P2
    · rename_i hl
      exact dc_loop hT' (bodyD2 hk he hcn) a1 w1 (ev.mono a1) io hl P2
    · exact P2.elim
  · exact dcK_rd Ft hp ok hT' (bodyD2 hk he hcn) Aft.refl w ev P
end
end EW
set_option maxRecDepth 100000
set_option maxHeartbeats 4000000
namespace EW
open PySem L2 PySem.Spec PyProof.Rows
def rItL : V → Hp → VK → Prop := fun x H Q => ∃ (d : Addr) (kvs : List (Key × V)), x = .ref d ∧ Rd H d (.dK kvs) ∧
  ∀ (H' : Hp) (p : Addr) (ts : List Addr), (∀ b o, H b = some o → H' b = some o) → H p = none → (∀ t ∈ ts, H t = none) → p ∉ ts → H' p = some (.lst (ts.map V.ref)) → Paired (fun (t : Addr) (q : Key × V) => H' t = some (.tup [kV q.1, q.2])) ts kvs → Q (.ref p) H'
section
variable {X : Cx} {e : Expr} {te : TE} {p apos cpos pos : Pos}
theorem pe_litems (hc : X.calm = true) (he : PE X e te) (hg : Gl X "list") (hm : X.mg "list" = none) (hv : bootBuiltins "list" = some (.type "list")) (hbase : attributeBase e "items" X.env (eval e X.env) = eval e X.env) (hline : (apos.endLine == cpos.line) = true)
    (hs : starEach [.Call (.Attribute e "items" apos) [] [] cpos] X.env = (false, eval (.Call (.Attribute e "items" apos) [] [] cpos) X.env) :: starEach [] X.env := by rfl) :
    PE X (.Call (.Name "list" p) [.Call (.Attribute e "items" apos) [] [] cpos] [] pos) (fun σ H Q => te σ H fun x H1 => rItL x H1 Q) := by
  refine ⟨fun pins s σ H Q I hq => ?_⟩
  refine wpAny_Call_Name_kw (ld_blt I hg hm hv ?_)
  refine PyProof.Rows.callWith_type1 ?_ hs rfl
  rw [hs]
  show wpAny _ _ (spliced ((false, eval (.Call (.Attribute e "items" apos) [] [] cpos) X.env) :: backTo pos (starEach [] X.env))) _ _ s
  refine Calls.spliced_cons ?_
  refine wpAny_Call_method (T := "dict") (id := "dict.items") hbase rfl hline F.plainAttrs_dict F.slot_dict_items F.type_dict_items (thn (he.run pins s σ H _ I hq) fun u s1 ⟨x, H1, I1, rx, d, kvs, ex, hd, q⟩ => ?_)
  subst ex
  obtain rfl : u = Value.ref d := rx
  obtain ⟨hz, hs0, vs, kv, hdo⟩ := dk_rd I1.hok hd
  obtain ⟨ep, hat⟩ := hdo.dictAt
  have lk : kvs.length = vs.length := Paired.length kv
  have I2 : Inv X pins σ H1 { s1 with heap := s1.heap.push { cls := .type "dict_items", data := .fields #[.ref d] } } := I1.kept (t' := s1.toks) fun b ob q => Heap.get?_push_of_some _ q
  refine ⟨hdo.typeIs, hdo.mapOf.noDict, ?_⟩
  show wpAny _ _ (callWith cpos (.builtin "dict.items") [.ref d] [] []) _ X.xe s1
  refine method_meetsIn F.slot_dict_items F.entry_dict_items rfl (PySem.evalArgs_none ⟨rfl, hdo.typeIs, F.args_dict_items_1 _, _, meets_dict_items (mixKind X.prog X.w) d hs0, ⟨vs, hdo⟩, ?_⟩)
  refine Calls.spliced_nil ?_
  refine PySem.W.kdx_call (knd := mixKind X.prog X.w) (kvs := vs) (ep := ep) (I1.ok.hd hc) ⟨_, Heap.get?_push_size _ rfl, rfl, rfl⟩ (hat.push _) (by omega) fun h' tk acc c as hk hS hl hG hacc => ?_
  obtain ⟨H', k1, k2, k3, k4, k5, k6, J⟩ := LiI.items_laid (tk := tk) I2 hz kv hk hS hl hG hacc
  exact ⟨.ref _, H', J, rfl, q H' _ as k1 k2 k3 k4 k5 k6⟩
end
section
variable {I : Ci} {X : Cx} {n : Nat} {F : Fx} {W : WX} {σ : L2.St} {G G0 : Hp} {ρ ρ0 : List Addr} {H H0 H' : Hp} {μ : Mu} {δ : EW.Env} {a b c : Ce} {ea eb ec : Expr} {p p2 : Pos}
/-- new things, all of them frozen -/
def plusG (G H' : Hp) (ts : List Addr) : Hp := fun b => if b ∈ ts then H' b else G b
theorem plus_ex {ts : List Addr} (h : ∀ t ∈ ts, G t = none) : Ex G (plusG G H' ts) := fun b o e => by
  unfold plusG
  rw [if_neg (fun m => by rw [h b m] at e; cases e)]; exact e
theorem plus_ok {ts : List Addr} (w : Wd I X.K G ρ μ H) (keep : ∀ b o, H b = some o → H' b = some o) (new : ∀ t ∈ ts, H t = none) : Aft G ρ H (plusG G H' ts) ρ H' ∧ Wd I X.K (plusG G H' ts) ρ μ H' := by
  have g : ∀ t ∈ ts, G t = none := fun t ht => w.gfree (new t ht)
  refine ⟨⟨plus_ex g, fun b o e _ => keep b o e, fun b o e gb _ => ?_, [], by simp, fun _ z => nomatch z⟩, ⟨fun b o e => ?_, w.len, w.nd, fun k b o h1 h2 => ?_⟩⟩
  · unfold plusG
    rw [if_neg (fun m => by rw [new b m] at e; cases e)]; exact gb
  · unfold plusG at e
    split at e
    · exact .inl e
    · rcases w.sub b o e with q | ⟨ob, kvs, q1, q2⟩
      · exact .inl (keep b o q)
      · exact .inr ⟨ob, kvs, q1, keep b _ q2⟩
  · obtain ⟨x, q, cx⟩ := w.cell k b o h1 h2
    refine ⟨x, keep b x q, cx.ex (plus_ex g) (fun _ _ z => z) fun z => ?_⟩
    unfold plusG
    rw [if_neg (fun m => by rw [new b m] at q; cases q)]; exact z
theorem lits_reps {K : PySem.W.Frag} : ∀ {ts : List Addr} {kvs : List (Key × V)} {ds : List D}, Paired (fun (t : Addr) (q : Key × V) => G t = some (.tup [kV q.1, q.2])) ts kvs → Reps I K G ds (kvs.map (·.2)) → ValsR I K G ρ (litsD (kvs.map (·.1)) ds) (ts.map V.ref)
  | [], [], [], _, _ => rfl
  | [], [], _ :: _, _, h => by obtain ⟨_, _, z, _⟩ := h; cases z
  | t :: ts, (k, v) :: kvs, [], _, h => by cases (show (v :: _ : List V) = [] from h)
  | t :: ts, (k, v) :: kvs, d :: ds, .cons h1 h2, ⟨v', r, e, h3, h4⟩ => by
    cases e
    have kr : Rep I K G (kD k) (kV k) := by cases k <;> rfl
    exact ⟨.ref t, _, rfl, ⟨t, _, rfl, h1, ⟨_, _, rfl, kr, _, _, rfl, h3, rfl⟩⟩, lits_reps h2 h4⟩
  | [], _ :: _, _, h, _ => by cases h
  | _ :: _, [], _, h, _ => by cases h
theorem snd_lits (Ft : Fit I n F X) {x y : Str} {ap : Pos} {p0 p3 : Pos} (ex : x = ("list" : Str)) (hg : glb X.env.scope x = true) (ey : y = ("items" : Str)) (ha : SndE I X F ea a) (hc : isCall0 ea = false) (hl : ap.endLine = p3.line) : SndE I X F (.Call (.Name x p0) [.Call (.Attribute ea y ap) [] [] p3] [] p) (.lits a) := by
  subst ex ey
  intro W G ρ H σ δ μ Q tk w ev P
  simp only [evE] at P
  refine ofE (pe_litems Ft.calm seE (glb_of hg) (Ft.bn _ (by simp [bltNames])) (by decide +kernel) (base_of hc) (by rw [hl]; simp)) (bindE ha tk Aft.refl w ev P fun r μ1 P1 v G1 ρ1 H1 a1 w1 r1 n1 => ?_)
  unfold litsR at P1
  split at P1
  · rename_i ks ws hd
    split at P1
    · rename_i ds hf
      split at P1
      · obtain ⟨q, kvs, e, h1, h2, h3⟩ := r1.dct w1 hd
        subst h2
        refine ⟨q, kvs, e, h1, fun H' pl ts keep np nt nin hp pr => ?_⟩
        obtain ⟨b1, b2⟩ := plus_ok (H' := H') w1 keep nt
        have rp := fzAll_reps hf (h3.nm w1)
        have pr' : Paired (fun (t : Addr) (q : Key × V) => plusG G1 H' ts t = some (.tup [kV q.1, q.2])) ts kvs := by
          have key : ∀ {us : List Addr} {ls : List (Key × V)}, (∀ u ∈ us, u ∈ ts) → Paired (fun (t : Addr) (q : Key × V) => H' t = some (.tup [kV q.1, q.2])) us ls → Paired (fun (t : Addr) (q : Key × V) => plusG G1 H' ts t = some (.tup [kV q.1, q.2])) us ls := by
            intro us ls hu h
            induction h with
            | nil => exact .nil
            | cons h1 h2 ih =>
              refine .cons ?_ (ih fun u hm => hu u (List.mem_cons_of_mem _ hm))
              unfold plusG
              rw [if_pos (hu _ List.mem_cons_self)]; exact h1
          exact key (fun _ h => h) pr
        have gp : plusG G1 H' ts pl = none := by
          unfold plusG
          rw [if_neg nin]; exact w1.gfree np
        refine (P1.step (a1.trans b1)).ok b2 (.ref pl) ⟨pl, _, rfl, w1.fresh np, gp, hp, ⟨_, rfl, lits_reps pr' (Reps.mono (plus_ex fun t ht => w1.gfree (nt t ht)) _ _ rp)⟩, fun _ z => nomatch z⟩ fun o b _ e2 => ?_
        cases e2
        exact a1.fresh np (a1.sup (w1.fresh np))
      · exact P1.elim
    · exact P1.elim
  · exact P1.elim
end
end EW
set_option maxRecDepth 100000
set_option maxHeartbeats 8000000
namespace EW
open PySem L2 PySem.Spec PyProof.Rows
theorem and_of {X : Cx} {I : Ci} {F : Fx} {a b : Ce} {e e2 : Expr} {r : List Expr} {p : Pos} (ha : SndE I X F e a) (hb : match r with | [] => SndE I X F e2 b | e3 :: r' => SndE I X F (.BoolOp .And (e2 :: e3 :: r') p) b) : SndE I X F (.BoolOp .And (e :: e2 :: r) p) (.and a b) := by
  cases r with
  | nil => exact snd_and ha (snd_one hb)
  | cons e3 r' => exact snd_and ha hb
theorem or_of {X : Cx} {I : Ci} {F : Fx} {a b : Ce} {e e2 : Expr} {r : List Expr} {p : Pos} (ha : SndE I X F e a) (hb : match r with | [] => SndE I X F e2 b | e3 :: r' => SndE I X F (.BoolOp .Or (e2 :: e3 :: r') p) b) : SndE I X F (.BoolOp .Or (e :: e2 :: r) p) (.or a b) := by
  cases r with
  | nil => exact snd_or ha (snd_one hb)
  | cons e3 r' => exact snd_or ha hb
theorem andT_of {X : Cx} {I : Ci} {F : Fx} {a b : Ce} {e e2 : Expr} {r : List Expr} {p : Pos} (ha : SndT I X F e a) (hb : match r with | [] => SndT I X F e2 b | e3 :: r' => SndT I X F (.BoolOp .And (e2 :: e3 :: r') p) b) : SndT I X F (.BoolOp .And (e :: e2 :: r) p) (.and a b) := by
  cases r with
  | nil => exact sndT_and ha (sndT_and1 hb)
  | cons e3 r' => exact sndT_and ha hb
theorem orT_of {X : Cx} {I : Ci} {F : Fx} {a b : Ce} {e e2 : Expr} {r : List Expr} {p : Pos} (ha : SndT I X F e a) (hb : match r with | [] => SndT I X F e2 b | e3 :: r' => SndT I X F (.BoolOp .Or (e2 :: e3 :: r') p) b) : SndT I X F (.BoolOp .Or (e :: e2 :: r) p) (.or a b) := by
  cases r with
  | nil => exact sndT_or ha (sndT_or1 hb)
  | cons e3 r' => exact sndT_or ha hb
theorem lc_shape {I : Ci} {N : List Str} {sc : Scope} {T own ik a elt elt' gs scope p} (ok : okE I N sc (.lc T own ik a elt) (.ListComp elt' gs scope p) = true) : ∃ tg it, gs = [⟨tg, it, [], 0⟩] := by
  cases gs with
  | nil => simp [okE] at ok
  | cons g gs =>
    cases gs with
    | cons _ _ => simp [okE] at ok
    | nil =>
      obtain ⟨tg, it, ifs, as⟩ := g
      cases ifs with
      | cons _ _ => simp [okE] at ok
      | nil =>
        by_cases h : as = 0
        · subst h; exact ⟨_, _, rfl⟩
        · simp [okE, h] at ok
theorem lcIf_shape {I : Ci} {N : List Str} {sc : Scope} {T own ik a cnd elt elt' gs scope p} (ok : okE I N sc (.lcIf T own ik a cnd elt) (.ListComp elt' gs scope p) = true) : ∃ tg it ec, gs = [⟨tg, it, [ec], 0⟩] := by
  cases gs with
  | nil => simp [okE] at ok
  | cons g gs =>
    cases gs with
    | cons _ _ => simp [okE] at ok
    | nil =>
      obtain ⟨tg, it, ifs, as⟩ := g
      cases ifs with
      | nil => simp [okE] at ok
      | cons ec ifs =>
        cases ifs with
        | cons _ _ => simp [okE] at ok
        | nil =>
          by_cases h : as = 0
          · subst h; exact ⟨_, _, _, rfl⟩
          · simp [okE, h] at ok
theorem dc_shape {I : Ci} {N : List Str} {sc : Scope} {T own ik a k v k' v' gs scope p} (ok : okE I N sc (.dc T own ik a k v) (.DictComp k' v' gs scope p) = true) : ∃ tg it, gs = [⟨tg, it, [], 0⟩] := by
  cases gs with
  | nil => simp [okE] at ok
  | cons g gs =>
    cases gs with
    | cons _ _ => simp [okE] at ok
    | nil =>
      obtain ⟨tg, it, ifs, as⟩ := g
      cases ifs with
      | cons _ _ => simp [okE] at ok
      | nil =>
        by_cases h : as = 0
        · subst h; exact ⟨_, _, rfl⟩
        · simp [okE, h] at ok
theorem dcIf_shape {I : Ci} {N : List Str} {sc : Scope} {T own ik a cnd k v k' v' gs scope p} (ok : okE I N sc (.dcIf T own ik a cnd k v) (.DictComp k' v' gs scope p) = true) : ∃ tg it ec, gs = [⟨tg, it, [ec], 0⟩] := by
  cases gs with
  | nil => simp [okE] at ok
  | cons g gs =>
    cases gs with
    | cons _ _ => simp [okE] at ok
    | nil =>
      obtain ⟨tg, it, ifs, as⟩ := g
      cases ifs with
      | nil => simp [okE] at ok
      | cons ec ifs =>
        cases ifs with
        | cons _ _ => simp [okE] at ok
        | nil =>
          by_cases h : as = 0
          · subst h; exact ⟨_, _, _, rfl⟩
          · simp [okE, h] at ok
theorem cmp2_shape {I : Ci} {N : List Str} {sc : Scope} {o1 o2 a b c l ops rs p} (ok : okE I N sc (.cmp2 o1 o2 a b c) (.Compare l ops rs p) = true) : ∃ q1 q2 r1 r2, ops = [q1, q2] ∧ rs = [r1, r2] := by
  cases ops with
  | nil => simp [okE] at ok
  | cons q1 ops =>
    cases ops with
    | nil => simp [okE] at ok
    | cons q2 ops =>
      cases ops with
      | cons _ _ => simp [okE] at ok
      | nil =>
        cases rs with
        | nil => simp [okE] at ok
        | cons r1 rs =>
          cases rs with
          | nil => simp [okE] at ok
          | cons r2 rs =>
            cases rs with
            | cons _ _ => simp [okE] at ok
            | nil => exact ⟨_, _, _, _, rfl, rfl⟩
theorem rev_shape {I : Ci} {N : List Str} {sc : Scope} {a : Ce} {e : Expr} (ok : okE I N sc (.rev a) e = true) : ∃ v j p1 p2 p3 p, e = .Subscript v (.Slice none none (some (.UnaryOp .USub (.Constant (.int 1) j p1) p2)) p3) p ∧ okE I N sc a v = true := by
  cases e with
  | Subscript v i p =>
    cases i with
    | Slice l h st p3 =>
      cases l with
      | some _ => simp [okE] at ok
      | none =>
        cases h with
        | some _ => simp [okE] at ok
        | none =>
          cases st with
          | none => simp [okE] at ok
          | some u =>
            cases u with
            | UnaryOp op c p2 =>
              cases op with
              | USub =>
                cases c with
                | Constant cn j p1 =>
                  cases cn with
                  | int i =>
                    by_cases hi : i = 1
                    · subst hi
                      exact ⟨v, j, p1, p2, p3, p, rfl, by simpa [okE] using ok⟩
                    · simp [okE, hi] at ok
                  | _ => simp [okE] at ok
                | _ => simp [okE] at ok
              | _ => simp [okE] at ok
            | _ => simp [okE] at ok
    | _ => simp [okE] at ok
  | _ => simp [okE] at ok
theorem lits_shape {I : Ci} {N : List Str} {sc : Scope} {a : Ce} {e : Expr} (ok : okE I N sc (.lits a) e = true) : ∃ x y v ap p0 p3 p, e = .Call (.Name x p0) [.Call (.Attribute v y ap) [] [] p3] [] p ∧ x = ("list" : Str) ∧ glb sc x = true ∧ y = ("items" : Str) ∧ okE I N sc a v = true ∧ isCall0 v = false ∧ ap.endLine = p3.line := by
  cases e with
  | Call fe l kw p =>
    cases fe with
    | Name x p0 =>
      cases kw with
      | cons _ _ =>
        cases l with
        | nil => simp [okE] at ok
        | cons c l => cases l <;> simp [okE] at ok
      | nil =>
        cases l with
        | nil => simp [okE] at ok
        | cons c l =>
          cases l with
          | cons _ _ => simp [okE] at ok
          | nil =>
            cases c with
            | Call fe2 l2 kw2 p3 =>
              cases fe2 with
              | Attribute v y ap =>
                cases l2 with
                | cons _ _ => simp [okE] at ok
                | nil =>
                  cases kw2 with
                  | cons _ _ => simp [okE] at ok
                  | nil =>
                    simp only [okE, Bool.and_eq_true, decide_eq_true_eq, Bool.not_eq_true'] at ok
                    obtain ⟨⟨⟨⟨⟨q1, q2⟩, q3⟩, q4⟩, q5⟩, q6⟩ := ok
                    exact ⟨_, _, _, _, _, _, _, rfl, q1, q2, q3, q4, q5, q6⟩
              | _ => simp [okE] at ok
            | _ => simp [okE] at ok
    | _ => cases l with
      | nil => simp [okE] at ok
      | cons c l => cases l <;> simp [okE] at ok
  | _ => simp [okE] at ok
mutual
theorem sndE {I : Ci} {n : Nat} {F : Fx} : ∀ (c : Ce) {e : Expr} {X : Cx}, Fit I n F X → okE I X.N X.env.scope c e = true → SndE I X F e c
  | .x i, e, X, Ft, ok => by
    cases e with
    | Name x p =>
      simp only [okE, Bool.and_eq_true, decide_eq_true_eq] at ok
      exact snd_x ok.1.1 ok.1.2 ok.2
    | _ => simp [okE] at ok
  | .k d, e, X, Ft, ok => by
    cases e with
    | Constant cn j p => exact snd_k (by simpa [okE] using ok)
    | _ => simp [okE] at ok
  | .g k, e, X, Ft, ok => by
    cases e with
    | Name x p =>
      simp only [okE, Bool.and_eq_true, decide_eq_true_eq] at ok
      exact snd_g Ft ok.1.1 ok.1.2 ok.2
    | _ => simp [okE] at ok
  | .bin op a b, e, X, Ft, ok => by
    cases e with
    | BinOp l op' r p =>
      simp only [okE, Bool.and_eq_true, decide_eq_true_eq] at ok
      obtain ⟨⟨h1, h2⟩, h3⟩ := ok
      subst h1
      exact snd_binO Ft (sndE a Ft h2) (sndE b Ft h3)
    | _ => simp [okE] at ok
  | .neg a, e, X, Ft, ok => by
    cases e with
    | UnaryOp op x p =>
      cases op with
      | USub => exact snd_neg (sndE a Ft (by simpa [okE] using ok))
      | _ => simp [okE] at ok
    | _ => simp [okE] at ok
  | .inv a, e, X, Ft, ok => by
    cases e with
    | UnaryOp op x p =>
      cases op with
      | Invert => exact snd_inv Ft (sndE a Ft (by simpa [okE] using ok))
      | _ => simp [okE] at ok
    | _ => simp [okE] at ok
  | .cmp op a b, e, X, Ft, ok => by
    cases e with
    | Compare l ops rs p =>
      cases ops with
      | nil => simp [okE] at ok
      | cons o ops =>
        cases ops with
        | cons _ _ => simp [okE] at ok
        | nil =>
          cases rs with
          | nil => simp [okE] at ok
          | cons r rs =>
            cases rs with
            | cons _ _ => simp [okE] at ok
            | nil =>
              simp only [okE, Bool.and_eq_true, decide_eq_true_eq] at ok
              obtain ⟨⟨h1, h2⟩, h3⟩ := ok
              subst h1
              exact snd_cmp Ft (sndE a Ft h2) (sndE b Ft h3) (okE_star h3).2.1
    | _ => simp [okE] at ok
  | .cmp2 _ _ _ _ _, e, X, Ft, ok => no_snd fun _ _ => by simp [evE]
  | .and a b, e, X, Ft, ok => by
    cases e with
    | BoolOp op l p =>
      cases op with
      | Or => simp [okE] at ok
      | And =>
        cases l with
        | nil => simp [okE] at ok
        | cons e1 l =>
          cases l with
          | nil => simp [okE] at ok
          | cons e2 r =>
            simp only [okE, Bool.and_eq_true] at ok
            refine and_of (sndE a Ft ok.1) ?_
            cases r with
            | nil => exact sndE b Ft ok.2
            | cons e3 r' => exact sndE b Ft ok.2
    | _ => simp [okE] at ok
  | .or a b, e, X, Ft, ok => by
    cases e with
    | BoolOp op l p =>
      cases op with
      | And => simp [okE] at ok
      | Or =>
        cases l with
        | nil => simp [okE] at ok
        | cons e1 l =>
          cases l with
          | nil => simp [okE] at ok
          | cons e2 r =>
            simp only [okE, Bool.and_eq_true] at ok
            refine or_of (sndE a Ft ok.1) ?_
            cases r with
            | nil => exact sndE b Ft ok.2
            | cons e3 r' => exact sndE b Ft ok.2
    | _ => simp [okE] at ok
  | .not a, e, X, Ft, ok => by
    cases e with
    | UnaryOp op x p =>
      cases op with
      | Not => exact snd_not (sndE a Ft (by simpa [okE] using ok))
      | _ => simp [okE] at ok
    | _ => simp [okE] at ok
  | .ife c a b, e, X, Ft, ok => by
    cases e with
    | IfExp ec ea eb p =>
      simp only [okE, Bool.and_eq_true] at ok
      exact snd_ife (sndT c Ft ok.1.1) (sndE a Ft ok.1.2) (sndE b Ft ok.2)
    | _ => simp [okE] at ok
  | .tup es, e, X, Ft, ok => by
    cases e with
    | Tuple l k p => exact snd_tup (sndEs es Ft (by simpa [okE] using ok))
    | _ => simp [okE] at ok
  | .lst es, e, X, Ft, ok => by
    cases e with
    | List l p => exact snd_lst (sndEs es Ft (by simpa [okE] using ok))
    | _ => simp [okE] at ok
  | .dct0, e, X, Ft, ok => by
    cases e with
    | Dict ks vs p =>
      cases ks with
      | cons _ _ => simp [okE] at ok
      | nil =>
        cases vs with
        | cons _ _ => simp [okE] at ok
        | nil => exact snd_dct0
    | _ => simp [okE] at ok
  | .dct1 a b, e, X, Ft, ok => by
    cases e with
    | Dict ks vs p =>
      cases ks with
      | nil => simp [okE] at ok
      | cons k ks =>
        cases k with
        | none => simp [okE] at ok
        | some k =>
          cases ks with
          | cons _ _ => simp [okE] at ok
          | nil =>
            cases vs with
            | nil => simp [okE] at ok
            | cons v vs =>
              cases vs with
              | cons _ _ => simp [okE] at ok
              | nil =>
                simp only [okE, Bool.and_eq_true] at ok
                exact snd_dct1 (sndE a Ft ok.1) (sndE b Ft ok.2)
    | _ => simp [okE] at ok
  | .ix a b, e, X, Ft, ok => by
    cases e with
    | Subscript v i p =>
      simp only [okE, Bool.and_eq_true] at ok
      exact snd_ix Ft (sndE a Ft ok.1.1) (sndE b Ft ok.1.2) (okE_star ok.1.2).2.2
    | _ => simp [okE] at ok
  | .sl a lo hi, e, X, Ft, ok => by
    cases e with
    | Subscript v i p =>
      cases i with
      | Slice l h st p2 =>
        cases st with
        | some _ => simp [okE] at ok
        | none =>
          simp only [okE, Bool.and_eq_true] at ok
          refine snd_sl (sndE a Ft ok.1.1) ?_ ?_
          · cases l with
            | none => exact .inl ⟨rfl, ok.1.2⟩
            | some l =>
              have := ok.1.2
              simp only [Bool.and_eq_true, Bool.not_eq_true'] at this
              exact .inr ⟨l, rfl, this.2, sndE lo Ft this.1⟩
          · cases h with
            | none => exact .inl ⟨rfl, ok.2⟩
            | some h =>
              have := ok.2
              simp only [Bool.and_eq_true, Bool.not_eq_true'] at this
              exact .inr ⟨h, rfl, this.2, sndE hi Ft this.1⟩
      | _ => simp [okE] at ok
    | _ => simp [okE] at ok
  | .rev a, e, X, Ft, ok => by
    obtain ⟨v, j, p1, p2, p3, p, rfl, ok'⟩ := rev_shape ok
    exact snd_rev (sndE a Ft ok')
  | .att a k, e, X, Ft, ok => by
    cases e with
    | Attribute v x p =>
      simp only [okE, Bool.and_eq_true, decide_eq_true_eq, Bool.not_eq_true'] at ok
      exact snd_att Ft ok.1.1 (sndE a Ft ok.1.2) ok.2
    | _ => simp [okE] at ok
  | .fn f as, e, X, Ft, ok => by
    cases e with
    | Call fe l kw p =>
      cases fe with
      | Name x p0 =>
        cases kw with
        | cons _ _ => simp [okE] at ok
        | nil =>
          simp only [okE, Bool.and_eq_true, decide_eq_true_eq] at ok
          exact snd_fn Ft ok.1.1.1 ok.1.1.2 ok.1.2 ok.2 (sndEs as Ft ok.2)
      | _ => simp [okE] at ok
    | _ => simp [okE] at ok
  | .mt m o as, e, X, Ft, ok => by
    cases e with
    | Call fe l kw p =>
      cases fe with
      | Attribute v x ap =>
        cases kw with
        | cons _ _ => simp [okE] at ok
        | nil =>
          simp only [okE, Bool.and_eq_true, decide_eq_true_eq, Bool.not_eq_true'] at ok
          obtain ⟨⟨⟨⟨⟨h1, h2⟩, h3⟩, h4⟩, h5⟩, h6⟩ := ok
          exact snd_mt Ft h1 (sndE o Ft h2) h3 h4 h5 h6 (sndEs as Ft h4)
      | _ => simp [okE] at ok
    | _ => simp [okE] at ok
  | .mk c as, e, X, Ft, ok => by
    cases e with
    | Call fe l kw p =>
      cases fe with
      | Name x p0 =>
        cases kw with
        | cons _ _ => simp [okE] at ok
        | nil =>
          simp only [okE, Bool.and_eq_true, decide_eq_true_eq] at ok
          exact snd_mk Ft ok.1.1.1 ok.1.1.2 ok.1.2 ok.2 (sndEs as Ft ok.2)
      | _ => simp [okE] at ok
    | _ => simp [okE] at ok
  | .call o as, e, X, Ft, ok => by
    cases e with
    | Call fe l kw p =>
      cases fe with
      | Name x p0 =>
        cases kw with
        | cons _ _ => simp [okE] at ok
        | nil =>
          rw [okE, Bool.and_eq_true] at ok
          exact snd_call Ft (sndE o Ft ok.1) ok.2 (sndEs as Ft ok.2)
      | _ => simp [okE] at ok
    | _ => simp [okE] at ok
  | .fnd f as ds, e, X, Ft, ok => by
    cases e with
    | Call fe l kw p =>
      cases fe with
      | Name x p0 =>
        cases kw with
        | cons _ _ => simp [okE] at ok
        | nil =>
          simp only [okE, Bool.and_eq_true, decide_eq_true_eq] at ok
          exact snd_fnd Ft ok.1.1.1 ok.1.1.2 ok.1.2 ok.2 (sndEs as Ft ok.2)
      | _ => simp [okE] at ok
    | _ => simp [okE] at ok
  | .mkd c as ds, e, X, Ft, ok => by
    cases e with
    | Call fe l kw p =>
      cases fe with
      | Name x p0 =>
        cases kw with
        | cons _ _ => simp [okE] at ok
        | nil =>
          simp only [okE, Bool.and_eq_true, decide_eq_true_eq] at ok
          exact snd_mkd Ft ok.1.1.1 ok.1.1.2 ok.1.2 ok.2 (sndEs as Ft ok.2)
      | _ => simp [okE] at ok
    | _ => simp [okE] at ok
  | .bm0 m o, e, X, Ft, ok => by
    cases e with
    | Call fe l kw p =>
      cases fe with
      | Attribute v x ap =>
        cases kw with
        | cons _ _ => cases l <;> simp [okE] at ok
        | nil =>
          cases l with
          | cons _ _ => simp [okE] at ok
          | nil =>
            simp only [okE, Bool.and_eq_true] at ok
            obtain ⟨⟨⟨⟨h1, h2⟩, h3⟩, h4⟩, h5⟩ := ok
            exact snd_bm0 (of_decide_eq_true h1) h2 (sndE o Ft h3) (by simpa using h4) (of_decide_eq_true h5)
      | _ => cases l <;> simp [okE] at ok
    | _ => simp [okE] at ok
  | .lits a, e, X, Ft, ok => by
    obtain ⟨x, y, v, ap, p0, p3, p, rfl, h1, h2, h3, h4, h5, h6⟩ := lits_shape ok
    exact snd_lits Ft h1 h2 h3 (sndE a Ft h4) h5 h6
  | .blt b as, e, X, Ft, ok => by
    cases e with
    | Call fe l kw p =>
      cases fe with
      | Name x p0 =>
        cases kw with
        | cons _ _ => cases l <;> simp [okE] at ok
        | nil =>
          cases l with
          | nil => simp [okE] at ok
          | cons e1 l =>
            simp only [okE, Bool.and_eq_true, decide_eq_true_eq] at ok
            exact snd_blt Ft ok.1.1 ok.1.2 ok.2 (sndEs as Ft ok.2)
      | _ => cases l <;> simp [okE] at ok
    | _ => simp [okE] at ok
  | .bmt m o as, e, X, Ft, ok => by
    cases e with
    | Call fe l kw p =>
      cases fe with
      | Attribute v x ap =>
        cases kw with
        | cons _ _ => cases l <;> simp [okE] at ok
        | nil =>
          cases l with
          | nil => simp [okE] at ok
          | cons e1 l =>
            simp only [okE, Bool.and_eq_true, decide_eq_true_eq, Bool.not_eq_true'] at ok
            obtain ⟨⟨⟨⟨⟨⟨h0, h1⟩, h2⟩, h3⟩, h4⟩, h5⟩, h6⟩ := ok
            exact snd_bmt Ft.hr h0 h1 (sndE o Ft h2) h3 h4 h5 h6 (sndEs as Ft h4)
      | _ => cases l <;> simp [okE] at ok
    | _ => simp [okE] at ok
  | .isi a cs, e, X, Ft, ok => by
    cases e with
    | Call fe l kw p =>
      cases fe with
      | Name x p0 =>
        cases kw with
        | cons _ _ => cases l with
          | nil => simp [okE] at ok
          | cons _ l => cases l with
            | nil => simp [okE] at ok
            | cons _ l => cases l <;> simp [okE] at ok
        | nil =>
          cases l with
          | nil => simp [okE] at ok
          | cons e1 l =>
            cases l with
            | nil => simp [okE] at ok
            | cons e2 l =>
              cases l with
              | cons _ _ => simp [okE] at ok
              | nil =>
                simp only [okE, Bool.and_eq_true, decide_eq_true_eq] at ok
                obtain ⟨⟨⟨h1, h2⟩, h3⟩, h4⟩ := ok
                subst h1
                split at h4
                · exact snd_isi1 Ft (sndE a Ft h3) (okE_star h3).1 h2 h4
                · simp only [Bool.and_eq_true, decide_eq_true_eq] at h4
                  obtain ⟨h5, h6, h7⟩ := h4
                  exact snd_isiT Ft (sndE a Ft h3) (okE_star h3).1 h2 h5 h6 h7
                · cases h4
      | _ => cases l with
        | nil => simp [okE] at ok
        | cons _ l => cases l with
          | nil => simp [okE] at ok
          | cons _ l => cases l <;> simp [okE] at ok
    | _ => simp [okE] at ok
  | .lc T own ik a elt, e, X, Ft, ok => by
    cases e with
    | ListComp elt' gs scope p =>
      obtain ⟨tg, it, rfl⟩ : ∃ tg it, gs = [⟨tg, it, [], 0⟩] := lc_shape ok
      unfold okE at ok; simp only [Bool.and_eq_true] at ok
      obtain ⟨⟨⟨⟨h1, h2⟩, h3⟩, h4⟩, h5⟩ := ok
      refine snd_lc Ft h3 h2 ?_ h4 ?_ (fun s H C cl fp => sndE elt (fitB Ft) h5)
      · split at h1
        · exact (okE_star h1).2.1
        · rw [Bool.and_eq_true] at h1; exact (okE_star h1.1).2.1
        · split at h1
          · simp only [Bool.and_eq_true] at h1; exact (okE_star h1.1.2).2.1
          · cases h1
        · rfl
        · rfl
        · cases h1
      · split at h1
        · exact .inl ⟨_, .inl ⟨rfl, rfl⟩, sndE a Ft h1, (okE_star h1).1⟩
        · rw [Bool.and_eq_true] at h1; exact .inr ⟨rfl, h1.2, h1.1⟩
        · split at h1
          · simp only [Bool.and_eq_true] at h1
            exact .inl ⟨_, .inr (.inr (.inr ⟨rfl, rfl, _, _, rfl, h1.1.1⟩)), sndE _ Ft h1.1.2, (okE_star h1.1.2).1⟩
          · cases h1
        · simp only [Bool.and_eq_true, decide_eq_true_eq] at h1
          obtain ⟨⟨q1, q2⟩, q3⟩ := h1
          subst q1
          exact .inl ⟨_, .inr (.inl ⟨rfl, _, _, rfl, glb_of q2⟩), sndE a Ft q3, (okE_star q3).1⟩
        · simp only [Bool.and_eq_true, decide_eq_true_eq] at h1
          obtain ⟨⟨⟨q1, q2⟩, q3⟩, q4⟩ := h1
          subst q1
          refine .inl ⟨_, .inr (.inr (.inl ⟨rfl, ⟨_, _, rfl⟩, glb_of q2, ?_⟩)), sndE a Ft q3, (okE_star q3).1⟩
          cases T with
          | nm j => cases q4
          | tp js => cases tg <;> simp [okTg] at h2 ⊢
        · cases h1
    | _ => simp [okE] at ok
  | .lcIf T own ik a cnd elt, e, X, Ft, ok => by
    cases e with
    | ListComp elt' gs scope p =>
      obtain ⟨tg, it, ec, rfl⟩ : ∃ tg it ec, gs = [⟨tg, it, [ec], 0⟩] := lcIf_shape ok
      unfold okE at ok; simp only [Bool.and_eq_true] at ok
      obtain ⟨⟨⟨⟨⟨h1, h2⟩, h3⟩, h4⟩, h5⟩, h6⟩ := ok
      refine snd_lcIf Ft h3 h2 ?_ h4 ?_ (fun s H C cl fp => sndE elt (fitB Ft) h5) (fun s H C cl fp => sndT cnd (fitB Ft) h6)
      · split at h1
        · exact (okE_star h1).2.1
        · rw [Bool.and_eq_true] at h1; exact (okE_star h1.1).2.1
        · split at h1
          · simp only [Bool.and_eq_true] at h1; exact (okE_star h1.1.2).2.1
          · cases h1
        · rfl
        · rfl
        · cases h1
      · split at h1
        · exact .inl ⟨_, .inl ⟨rfl, rfl⟩, sndE a Ft h1, (okE_star h1).1⟩
        · rw [Bool.and_eq_true] at h1; exact .inr ⟨rfl, h1.2, h1.1⟩
        · split at h1
          · simp only [Bool.and_eq_true] at h1
            exact .inl ⟨_, .inr (.inr (.inr ⟨rfl, rfl, _, _, rfl, h1.1.1⟩)), sndE _ Ft h1.1.2, (okE_star h1.1.2).1⟩
          · cases h1
        · simp only [Bool.and_eq_true, decide_eq_true_eq] at h1
          obtain ⟨⟨q1, q2⟩, q3⟩ := h1
          subst q1
          exact .inl ⟨_, .inr (.inl ⟨rfl, _, _, rfl, glb_of q2⟩), sndE a Ft q3, (okE_star q3).1⟩
        · simp only [Bool.and_eq_true, decide_eq_true_eq] at h1
          obtain ⟨⟨⟨q1, q2⟩, q3⟩, q4⟩ := h1
          subst q1
          refine .inl ⟨_, .inr (.inr (.inl ⟨rfl, ⟨_, _, rfl⟩, glb_of q2, ?_⟩)), sndE a Ft q3, (okE_star q3).1⟩
          cases T with
          | nm j => cases q4
          | tp js => cases tg <;> simp [okTg] at h2 ⊢
        · cases h1
    | _ => simp [okE] at ok
  | .dc T own ik a k v, e, X, Ft, ok => by
    cases e with
    | DictComp k' v' gs scope p =>
      obtain ⟨tg, it, rfl⟩ : ∃ tg it, gs = [⟨tg, it, [], 0⟩] := dc_shape ok
      unfold okE at ok; simp only [Bool.and_eq_true] at ok
      obtain ⟨⟨⟨⟨⟨h1, h2⟩, h3⟩, h4⟩, h5⟩, h6⟩ := ok
      refine snd_dc Ft h3 h2 ?_ h4 ?_ (fun s H C cl fp => sndE k (fitB Ft) h5) (fun s H C cl fp => sndE v (fitB Ft) h6)
      · split at h1
        · exact (okE_star h1).2.1
        · rw [Bool.and_eq_true] at h1; exact (okE_star h1.1).2.1
        · split at h1
          · simp only [Bool.and_eq_true] at h1; exact (okE_star h1.1.2).2.1
          · cases h1
        · rfl
        · rfl
        · cases h1
      · split at h1
        · exact .inl ⟨_, .inl ⟨rfl, rfl⟩, sndE a Ft h1, (okE_star h1).1⟩
        · rw [Bool.and_eq_true] at h1; exact .inr ⟨rfl, h1.2, h1.1⟩
        · split at h1
          · simp only [Bool.and_eq_true] at h1
            exact .inl ⟨_, .inr (.inr (.inr ⟨rfl, rfl, _, _, rfl, h1.1.1⟩)), sndE _ Ft h1.1.2, (okE_star h1.1.2).1⟩
          · cases h1
        · simp only [Bool.and_eq_true, decide_eq_true_eq] at h1
          obtain ⟨⟨q1, q2⟩, q3⟩ := h1
          subst q1
          exact .inl ⟨_, .inr (.inl ⟨rfl, _, _, rfl, glb_of q2⟩), sndE a Ft q3, (okE_star q3).1⟩
        · simp only [Bool.and_eq_true, decide_eq_true_eq] at h1
          obtain ⟨⟨⟨q1, q2⟩, q3⟩, q4⟩ := h1
          subst q1
          refine .inl ⟨_, .inr (.inr (.inl ⟨rfl, ⟨_, _, rfl⟩, glb_of q2, ?_⟩)), sndE a Ft q3, (okE_star q3).1⟩
          cases T with
          | nm j => cases q4
          | tp js => cases tg <;> simp [okTg] at h2 ⊢
        · cases h1
    | _ => simp [okE] at ok
  | .dcIf T own ik a cnd k v, e, X, Ft, ok => by
    cases e with
    | DictComp k' v' gs scope p =>
      obtain ⟨tg, it, ec, rfl⟩ : ∃ tg it ec, gs = [⟨tg, it, [ec], 0⟩] := dcIf_shape ok
      unfold okE at ok; simp only [Bool.and_eq_true] at ok
      obtain ⟨⟨⟨⟨⟨⟨h1, h2⟩, h3⟩, h4⟩, h5⟩, h6⟩, h7⟩ := ok
      refine snd_dcIf Ft h3 h2 ?_ h4 ?_ (fun s H C cl fp => sndE k (fitB Ft) h5) (fun s H C cl fp => sndE v (fitB Ft) h6) (fun s H C cl fp => sndT cnd (fitB Ft) h7)
      · split at h1
        · exact (okE_star h1).2.1
        · rw [Bool.and_eq_true] at h1; exact (okE_star h1.1).2.1
        · split at h1
          · simp only [Bool.and_eq_true] at h1; exact (okE_star h1.1.2).2.1
          · cases h1
        · rfl
        · rfl
        · cases h1
      · split at h1
        · exact .inl ⟨_, .inl ⟨rfl, rfl⟩, sndE a Ft h1, (okE_star h1).1⟩
        · rw [Bool.and_eq_true] at h1; exact .inr ⟨rfl, h1.2, h1.1⟩
        · split at h1
          · simp only [Bool.and_eq_true] at h1
            exact .inl ⟨_, .inr (.inr (.inr ⟨rfl, rfl, _, _, rfl, h1.1.1⟩)), sndE _ Ft h1.1.2, (okE_star h1.1.2).1⟩
          · cases h1
        · simp only [Bool.and_eq_true, decide_eq_true_eq] at h1
          obtain ⟨⟨q1, q2⟩, q3⟩ := h1
          subst q1
          exact .inl ⟨_, .inr (.inl ⟨rfl, _, _, rfl, glb_of q2⟩), sndE a Ft q3, (okE_star q3).1⟩
        · simp only [Bool.and_eq_true, decide_eq_true_eq] at h1
          obtain ⟨⟨⟨q1, q2⟩, q3⟩, q4⟩ := h1
          subst q1
          refine .inl ⟨_, .inr (.inr (.inl ⟨rfl, ⟨_, _, rfl⟩, glb_of q2, ?_⟩)), sndE a Ft q3, (okE_star q3).1⟩
          cases T with
          | nm j => cases q4
          | tp js => cases tg <;> simp [okTg] at h2 ⊢
        · cases h1
    | _ => simp [okE] at ok
  | .mkc a, e, X, Ft, ok => snd_mkc (sndE a Ft (by simpa [okE] using ok))
theorem sndT {I : Ci} {n : Nat} {F : Fx} : ∀ (c : Ce) {e : Expr} {X : Cx}, Fit I n F X → okE I X.N X.env.scope c e = true → SndT I X F e c
  | .x i, e, X, Ft, ok => by
    cases e with
    | Name x p =>
      simp only [okE, Bool.and_eq_true, decide_eq_true_eq] at ok
      exact sndT_val (snd_x ok.1.1 ok.1.2 ok.2) (fun _ => rfl) (fun _ _ => by simp only [evE, evT])
    | _ => simp [okE] at ok
  | .k d, e, X, Ft, ok => by
    cases e with
    | Constant cn j p => exact sndT_val (snd_k (by simpa [okE] using ok)) (fun _ => rfl) (fun _ _ => by simp only [evE, evT]; rfl)
    | _ => simp [okE] at ok
  | .cmp op a b, e, X, Ft, ok => by
    cases e with
    | Compare l ops rs p =>
      cases ops with
      | nil => simp [okE] at ok
      | cons o ops =>
        cases ops with
        | cons _ _ => simp [okE] at ok
        | nil =>
          cases rs with
          | nil => simp [okE] at ok
          | cons r rs =>
            cases rs with
            | cons _ _ => simp [okE] at ok
            | nil =>
              simp only [okE, Bool.and_eq_true, decide_eq_true_eq] at ok
              obtain ⟨⟨h1, h2⟩, h3⟩ := ok
              subst h1
              exact sndT_cmp Ft (sndE a Ft h2) (sndE b Ft h3) (okE_star h3).2.1
    | _ => simp [okE] at ok
  | .cmp2 o1 o2 a b c, e, X, Ft, ok => by
    cases e with
    | Compare l ops rs p =>
      obtain ⟨q1, q2, r1, r2, rfl, rfl⟩ : ∃ q1 q2 r1 r2, ops = [q1, q2] ∧ rs = [r1, r2] := cmp2_shape ok
      simp only [okE, Bool.and_eq_true, decide_eq_true_eq] at ok
      obtain ⟨⟨⟨⟨h1, h2⟩, h3⟩, h4⟩, h5⟩ := ok
      subst h1 h2
      exact sndT_cmp2 Ft (sndE a Ft h3) (sndE b Ft h4) (sndE c Ft h5) (okE_star h5).2.1
    | _ => simp [okE] at ok
  | .and a b, e, X, Ft, ok => by
    cases e with
    | BoolOp op l p =>
      cases op with
      | Or => simp [okE] at ok
      | And =>
        cases l with
        | nil => simp [okE] at ok
        | cons e1 l =>
          cases l with
          | nil => simp [okE] at ok
          | cons e2 r =>
            simp only [okE, Bool.and_eq_true] at ok
            refine andT_of (sndT a Ft ok.1) ?_
            cases r with
            | nil => exact sndT b Ft ok.2
            | cons e3 r' => exact sndT b Ft ok.2
    | _ => simp [okE] at ok
  | .or a b, e, X, Ft, ok => by
    cases e with
    | BoolOp op l p =>
      cases op with
      | And => simp [okE] at ok
      | Or =>
        cases l with
        | nil => simp [okE] at ok
        | cons e1 l =>
          cases l with
          | nil => simp [okE] at ok
          | cons e2 r =>
            simp only [okE, Bool.and_eq_true] at ok
            refine orT_of (sndT a Ft ok.1) ?_
            cases r with
            | nil => exact sndT b Ft ok.2
            | cons e3 r' => exact sndT b Ft ok.2
    | _ => simp [okE] at ok
  | .not a, e, X, Ft, ok => by
    cases e with
    | UnaryOp op x p =>
      cases op with
      | Not => exact sndT_not (sndT a Ft (by simpa [okE] using ok))
      | _ => simp [okE] at ok
    | _ => simp [okE] at ok
  | .att a k, e, X, Ft, ok => by
    cases e with
    | Attribute v x p =>
      simp only [okE, Bool.and_eq_true, decide_eq_true_eq, Bool.not_eq_true'] at ok
      exact sndT_val (snd_att Ft ok.1.1 (sndE a Ft ok.1.2) ok.2) (fun _ => rfl) (fun _ _ => by simp only [evE, evT])
    | _ => simp [okE] at ok
  | .ix a b, e, X, Ft, ok => by
    cases e with
    | Subscript v i p =>
      simp only [okE, Bool.and_eq_true] at ok
      exact sndT_val (snd_ix Ft (sndE a Ft ok.1.1) (sndE b Ft ok.1.2) (okE_star ok.1.2).2.2) (fun _ => rfl) (fun _ _ => by simp only [evE, evT])
    | _ => simp [okE] at ok
  | .fn f as, e, X, Ft, ok => by
    cases e with
    | Call fe l kw p =>
      cases fe with
      | Name x p0 =>
        cases kw with
        | cons _ _ => simp [okE] at ok
        | nil =>
          simp only [okE, Bool.and_eq_true, decide_eq_true_eq] at ok
          exact sndT_val (snd_fn Ft ok.1.1.1 ok.1.1.2 ok.1.2 ok.2 (sndEs as Ft ok.2)) (fun _ => rfl) (fun _ _ => by simp only [evE, evT])
      | _ => simp [okE] at ok
    | _ => simp [okE] at ok
  | .mt m o as, e, X, Ft, ok => by
    cases e with
    | Call fe l kw p =>
      cases fe with
      | Attribute v x ap =>
        cases kw with
        | cons _ _ => simp [okE] at ok
        | nil =>
          simp only [okE, Bool.and_eq_true, decide_eq_true_eq, Bool.not_eq_true'] at ok
          obtain ⟨⟨⟨⟨⟨h1, h2⟩, h3⟩, h4⟩, h5⟩, h6⟩ := ok
          exact sndT_val (snd_mt Ft h1 (sndE o Ft h2) h3 h4 h5 h6 (sndEs as Ft h4)) (fun _ => rfl) (fun _ _ => by simp only [evE, evT])
      | _ => simp [okE] at ok
    | _ => simp [okE] at ok
  | .blt b as, e, X, Ft, ok => by
    cases e with
    | Call fe l kw p =>
      cases fe with
      | Name x p0 =>
        cases kw with
        | cons _ _ => cases l <;> simp [okE] at ok
        | nil =>
          cases l with
          | nil => simp [okE] at ok
          | cons e1 l =>
            simp only [okE, Bool.and_eq_true, decide_eq_true_eq] at ok
            exact sndT_val (snd_blt Ft ok.1.1 ok.1.2 ok.2 (sndEs as Ft ok.2)) (fun _ => rfl) (fun _ _ => by simp only [evE, evT])
      | _ => cases l <;> simp [okE] at ok
    | _ => simp [okE] at ok
  | .isi a cs, e, X, Ft, ok => by
    cases e with
    | Call fe l kw p =>
      cases fe with
      | Name x p0 =>
        cases kw with
        | cons _ _ => cases l with
          | nil => simp [okE] at ok
          | cons _ l => cases l with
            | nil => simp [okE] at ok
            | cons _ l => cases l <;> simp [okE] at ok
        | nil =>
          cases l with
          | nil => simp [okE] at ok
          | cons e1 l =>
            cases l with
            | nil => simp [okE] at ok
            | cons e2 l =>
              cases l with
              | cons _ _ => simp [okE] at ok
              | nil =>
                simp only [okE, Bool.and_eq_true, decide_eq_true_eq] at ok
                obtain ⟨⟨⟨h1, h2⟩, h3⟩, h4⟩ := ok
                subst h1
                split at h4
                · exact sndT_val (snd_isi1 Ft (sndE a Ft h3) (okE_star h3).1 h2 h4) (fun _ => rfl) (fun _ _ => by simp only [evE, evT])
                · simp only [Bool.and_eq_true, decide_eq_true_eq] at h4
                  obtain ⟨h5, h6, h7⟩ := h4
                  exact sndT_val (snd_isiT Ft (sndE a Ft h3) (okE_star h3).1 h2 h5 h6 h7) (fun _ => rfl) (fun _ _ => by simp only [evE, evT])
                · cases h4
      | _ => cases l with
        | nil => simp [okE] at ok
        | cons _ l => cases l with
          | nil => simp [okE] at ok
          | cons _ l => cases l <;> simp [okE] at ok
    | _ => simp [okE] at ok
  | .g _, e, X, Ft, ok => no_sndT fun _ _ => by simp [evT]
  | .bin _ _ _, e, X, Ft, ok => no_sndT fun _ _ => by simp [evT]
  | .neg _, e, X, Ft, ok => no_sndT fun _ _ => by simp [evT]
  | .inv _, e, X, Ft, ok => no_sndT fun _ _ => by simp [evT]
  | .ife _ _ _, e, X, Ft, ok => no_sndT fun _ _ => by simp [evT]
  | .tup _, e, X, Ft, ok => no_sndT fun _ _ => by simp [evT]
  | .lst _, e, X, Ft, ok => no_sndT fun _ _ => by simp [evT]
  | .dct0, e, X, Ft, ok => no_sndT fun _ _ => by simp [evT]
  | .dct1 _ _, e, X, Ft, ok => no_sndT fun _ _ => by simp [evT]
  | .sl _ _ _, e, X, Ft, ok => no_sndT fun _ _ => by simp [evT]
  | .rev _, e, X, Ft, ok => no_sndT fun _ _ => by simp [evT]
  | .mk _ _, e, X, Ft, ok => no_sndT fun _ _ => by simp [evT]
  | .call _ _, e, X, Ft, ok => no_sndT fun _ _ => by simp [evT]
  | .fnd _ _ _, e, X, Ft, ok => no_sndT fun _ _ => by simp [evT]
  | .mkd _ _ _, e, X, Ft, ok => no_sndT fun _ _ => by simp [evT]
  | .bm0 _ _, e, X, Ft, ok => no_sndT fun _ _ => by simp [evT]
  | .lits _, e, X, Ft, ok => no_sndT fun _ _ => by simp [evT]
  | .bmt _ _ _, e, X, Ft, ok => no_sndT fun _ _ => by simp [evT]
  | .lc _ _ _ _ _, e, X, Ft, ok => no_sndT fun _ _ => by simp [evT]
  | .lcIf _ _ _ _ _ _, e, X, Ft, ok => no_sndT fun _ _ => by simp [evT]
  | .dc _ _ _ _ _ _, e, X, Ft, ok => no_sndT fun _ _ => by simp [evT]
  | .dcIf _ _ _ _ _ _ _, e, X, Ft, ok => no_sndT fun _ _ => by simp [evT]
  | .mkc _, e, X, Ft, ok => no_sndT fun _ _ => by simp [evT]
theorem sndEs {I : Ci} {n : Nat} {F : Fx} : ∀ (cs : Ces) {l : List Expr} {X : Cx}, Fit I n F X → okEs I X.N X.env.scope cs l = true → SndA I X F l cs
  | .nil, l, X, Ft, ok => by
    cases l with
    | nil => exact sndA_nil
    | cons _ _ => simp [okEs] at ok
  | .cons a r, l, X, Ft, ok => by
    cases l with
    | nil => simp [okEs] at ok
    | cons e l =>
      simp only [okEs, Bool.and_eq_true] at ok
      exact sndA_cons (sndE a Ft ok.1) (okE_star ok.1).1 (sndEs r Ft ok.2)
end
end EW
set_option maxRecDepth 100000
set_option maxHeartbeats 2000000
namespace EW
open PySem L2 PySem.Spec PyProof.Rows
mutual
inductive Cs where
  | set (i : Nat) (e : Ce) | par (is : List Nat) (es : Ces) | unp (T : Tg) (e : Ce)
  | put (o i e : Ce) | fld (o : Ce) (n : Nat) (e : Ce)
  | ex (e : Ce) | ret (e : Ce) | ret0
  | ife (c : Ce) (a b : Css)
  | for_ (T : Tg) (wp : List Nat) (ik : Ik) (a : Ce) (body : Css) | whl (m : Nat) (wp : List Nat) (c : Ce) (body : Css)
  | brk | cont | pass | never
  /-- no statement: from here on the thing does not change -/
  | ice (i : Nat) (p : List Nat)
inductive Css where
  | nil | cons (s : Cs) (r : Css)
end
def O.nm (μ : Mu) : O → O
  | .lst ws => .lst (ws.map (Val.nm μ))
  | .tup ws => .tup (ws.map (Val.nm μ))
  | .dct ks ws => .dct ks (ws.map (Val.nm μ))
  | .ins c ws => .ins c (ws.map (Val.nm μ))
  | .ice d => .ice d
def nmM (μ : Mu) : Mu := μ.map (O.nm μ)
def nmE (μ : Mu) (δ : Env) : Env := δ.map (Option.map (Val.nm μ))
def envB (n : Nat) (δ : Env) : Bool := δ.all fun o => match o with | some w => w.below n | none => true
/-- names that are no longer wanted are forgotten, new cells dropped where nobody holds them -/
def tidyM (n : Nat) (δ : Env) (μ : Mu) : Mu := if envB n δ && closed n μ then μ.take n else μ
def tidyE (wp : List Nat) (δ : Env) (μ : Mu) : Env := nmE μ (wipeD δ wp)
def tidy (n : Nat) (wp : List Nat) (δ : Env) (μ : Mu) (k : Env → Mu → Fl) : Fl := k (tidyE wp δ μ) (tidyM n (tidyE wp δ μ) (nmM μ))
def Out.run (o : Out Fl) (δ : Env) : Fl := match o with
  | .ok f _ => f
  | .ex z μ => .ex z δ μ
  | .no => .no
def loop (T : Tg) (wp : List Nat) (c : Ck) (n : Nat) (g : Env → Mu → Fl) : List Item → Env → Mu → Fl
  | [], δ, μ => if chk c μ then .nx δ μ else .no
  | d :: ds, δ, μ => if chk c μ then match bindI μ T d δ with
    | none => .no
    | some δ' => match g δ' μ with
      | .nx δ2 μ2 => loop T wp c n g ds (tidyE wp δ2 μ2) (tidyM n (tidyE wp δ2 μ2) (nmM μ2))
      | .ct δ2 μ2 => loop T wp c n g ds (tidyE wp δ2 μ2) (tidyM n (tidyE wp δ2 μ2) (nmM μ2))
      | .bk δ2 μ2 => .nx (tidyE wp δ2 μ2) (tidyM n (tidyE wp δ2 μ2) (nmM μ2))
      | f => f
    else .no
def wloop (wp : List Nat) (n : Nat) (c : Env → Mu → Out Bool) (g : Env → Mu → Fl) : Nat → Env → Mu → Fl
  | 0, _, _ => .no
  | m + 1, δ, μ => ((c δ μ).bind fun k μ1 => .ok (if k then
      match g δ μ1 with
      | .nx δ2 μ2 => wloop wp n c g m (tidyE wp δ2 μ2) (tidyM n (tidyE wp δ2 μ2) (nmM μ2))
      | .ct δ2 μ2 => wloop wp n c g m (tidyE wp δ2 μ2) (tidyM n (tidyE wp δ2 μ2) (nmM μ2))
      | .bk δ2 μ2 => .nx (tidyE wp δ2 μ2) (tidyM n (tidyE wp δ2 μ2) (nmM μ2))
      | f => f
    else .nx δ μ1) μ1).run δ
def putR (x y : Res) (w : Val) (μ : Mu) : Option Mu := match x with
  | .cel k => match μ[k]?, y with
    | some (.lst ws), .fz (.int n) => (ixN ws.length n).map fun j => μ.set k (.lst (ws.set j w))
    | some (.dct ks ws), .fz d => match d.key with
      | some key => if ks.length < big then some (μ.set k (.dct (putKs ks key) (putWs ks ws key w))) else none
      | none => none
    | _, _ => none
  | _ => none
def fldR (F : Fx) (x : Res) (n : Nat) (w : Val) (μ : Mu) : Option Mu := match x with
  | .cel k => match μ[k]? with
    | some (.ins c ws) => if ws.length < 900 then match (F.fl c).idxOf? n with
      | some i => if i < ws.length then some (μ.set k (.ins c (ws.set i w))) else if i = ws.length then some (μ.set k (.ins c (ws ++ [w]))) else none
      | none => none else none
    | _ => none
  | _ => none
/-- the cell that a local name leads to -/
def cellAt (F : Fx) (μ : Mu) : Val → List Nat → Option Nat
  | .cel k, [] => some k
  | .cel k, n :: p => match μ[k]? with
    | some (.ins c ws) => match (F.fl c).idxOf? n with
      | some i => match ws[i]? with | some w => cellAt F μ w p | none => none
      | none => none
    | _ => none
  | _, _ => none
def iceR (F : Fx) (δ : Env) (μ : Mu) (i : Nat) (p : List Nat) : Option Mu := match δ[i]? with
  | some (some w) => match cellAt F μ w p with
    | some k => match μ[k]? with
      | some o => (O.nm μ o).frozen.map fun d => μ.set k (.ice d)
      | none => none
    | none => none
  | _ => none
def Fl.ofO (δ : Env) (o : Option Mu) : Fl := match o with
  | some μ => .nx δ μ
  | none => .no
mutual
def evS (F : Fx) : Cs → Env → Mu → Fl
  | .set i e, δ, μ => ((argO (evE F e δ μ)).bind fun w μ1 => .ok (.nx (δ.set i (some w)) μ1) μ1).run δ
  | .par is es, δ, μ => ((evEs F es δ μ).bind fun ws μ1 => .ok (if ws.length = is.length then .nx (setAllV δ is ws) μ1 else .no) μ1).run δ
  | .unp T e, δ, μ => ((argO (evE F e δ μ)).bind fun w μ1 => .ok (match bindI μ1 T (.one w) δ with | some δ' => .nx δ' μ1 | none => .no) μ1).run δ
  | .put o i e, δ, μ => ((argO (evE F e δ μ)).bind fun w μ1 => (evE F o δ μ1).bind fun x μ2 => (evE F i δ μ2).bind fun y μ3 => .ok (Fl.ofO δ (putR x y w μ3)) μ3).run δ
  | .fld o n e, δ, μ => ((argO (evE F e δ μ)).bind fun w μ1 => (evE F o δ μ1).bind fun x μ2 => .ok (Fl.ofO δ (fldR F x n w μ2)) μ2).run δ
  | .ex e, δ, μ => ((evE F e δ μ).bind fun _ μ1 => .ok (.nx δ μ1) μ1).run δ
  | .ret e, δ, μ => ((evE F e δ μ).bind fun r μ1 => .ok (.rt r μ1) μ1).run δ
  | .ret0, δ, μ => .rt (.fz .non) μ
  | .ife c a b, δ, μ => ((evT F c δ μ).bind fun k μ1 => .ok (if k then evSs F a δ μ1 else evSs F b δ μ1) μ1).run δ
  | .for_ T wp ik a body, δ, μ => ((evE F a δ μ).bind fun x μ1 => match walkR ik x μ1 with
    | some (x', μ1') => (itemsR ik x' μ1').bind fun it μ2 => .ok (if it.1.length ≤ big then loop T wp it.2 μ2.length (fun δ' μ' => evSs F body δ' μ') it.1 (wipeD δ wp) μ2 else .no) μ2
    | none => .no).run δ
  | .whl m wp c body, δ, μ => wloop wp μ.length (fun δ' μ' => evT F c δ' μ') (fun δ' μ' => evSs F body δ' μ') m (wipeD δ wp) μ
  | .brk, δ, μ => .bk δ μ
  | .cont, δ, μ => .ct δ μ
  | .pass, δ, μ => .nx δ μ
  | .never, _, _ => .no
  | .ice i p, δ, μ => Fl.ofO δ (iceR F δ μ i p)
def evSs (F : Fx) : Css → Env → Mu → Fl
  | .nil, δ, μ => .nx δ μ
  | .cons s r, δ, μ => (evS F s δ μ).thn fun δ1 μ1 => evSs F r δ1 μ1
end
def PoS (I : Ci) (K : PySem.W.Frag) (W : WX) (D : Ends) (G : Hp) (ρ : List Addr) (H : Hp) : Fl → Prop
  | .nx δ μ => ∀ G' ρ' H' σ', Aft G ρ H G' ρ' H' → Wd I K G' ρ' μ H' → EnvR I K G' ρ' δ σ' → D.nx σ' H'
  | .bk δ μ => ∀ G' ρ' H' σ', Aft G ρ H G' ρ' H' → Wd I K G' ρ' μ H' → EnvR I K G' ρ' δ σ' → D.bk σ' H'
  | .ct δ μ => ∀ G' ρ' H' σ', Aft G ρ H G' ρ' H' → Wd I K G' ρ' μ H' → EnvR I K G' ρ' δ σ' → D.ct σ' H'
  | .rt r μ => ∀ G' ρ' H' v, Aft G ρ H G' ρ' H' → Wd I K G' ρ' μ H' → ResR I K G' ρ' H' r v → New H r v → D.rt v H'
  | .ex z δ μ => ∀ cls d G' ρ' H' σ', Aft G ρ H G' ρ' H' → Wd I K G' ρ' μ H' → EnvR I K G' ρ' δ σ' → ExcR I K G' H' z cls d → W cls d σ' H'
  | .no => False
section
variable {I : Ci} {K : PySem.W.Frag} {W : WX} {D : Ends} {σ : L2.St} {G G1 : Hp} {ρ ρ1 : List Addr} {H H1 : Hp} {μ : Mu} {δ : Env}
theorem PoS.step {f : Fl} (a : Aft G ρ H G1 ρ1 H1) (p : PoS I K W D G ρ H f) : PoS I K W D G1 ρ1 H1 f := by
  cases f with
  | nx δ μ => exact fun G' ρ' H' σ' a' => p G' ρ' H' σ' (a.trans a')
  | bk δ μ => exact fun G' ρ' H' σ' a' => p G' ρ' H' σ' (a.trans a')
  | ct δ μ => exact fun G' ρ' H' σ' a' => p G' ρ' H' σ' (a.trans a')
  | rt r μ => exact fun G' ρ' H' v a' w rr n => p G' ρ' H' v (a.trans a') w rr (n.back a a' rr)
  | ex z δ μ => exact fun cls d G' ρ' H' σ' a' => p cls d G' ρ' H' σ' (a.trans a')
  | no => exact p
theorem PoS.run {o : Out Fl} (ev : EnvR I K G ρ δ σ) (p : PoS I K W D G ρ H (o.run δ)) : Po I K W σ G ρ H o fun f _ G1 ρ1 H1 => PoS I K W D G1 ρ1 H1 f := by
  cases o with
  | ok f μ => exact fun G' ρ' H' a' w => PoS.step a' p
  | ex z μ => exact fun cls d G' ρ' H' a' w x => p cls d G' ρ' H' σ a' w (ev.mono a') x
  | no => exact p
theorem PoS.nxO {o : Option Mu} (p : PoS I K W D G ρ H (Fl.ofO δ o)) : ∃ μ', o = some μ' ∧ PoS I K W D G ρ H (.nx δ μ') := by
  cases o with
  | none => exact p.elim
  | some μ' => exact ⟨μ', rfl, p⟩
end
def wpS (X : Cx) (st : Stmt) : TS := fun D σ H => ∀ pins s, Inv X pins σ H s → wpAny (model X.prog X.w) X.A (exec st X.env) (SP X pins D) X.xe s
def wpSs (X : Cx) (st : List Stmt) : TS := fun D σ H => ∀ pins s, Inv X pins σ H s → wpAny (model X.prog X.w) X.A (execs st X.env) (SP X pins D) X.xe s
section
variable {X : Cx}
theorem seS {st : Stmt} : PS X st (wpS X st) := ⟨fun pins s _ _ _ I h => h pins s I⟩
theorem seSs {st : List Stmt} : PSs X st (wpSs X st) := ⟨fun pins s _ _ _ I h => h pins s I⟩
theorem ofS {st : Stmt} {t : TS} {σ : L2.St} {H : Hp} {D : Ends} (p : PS X st t) (h : t D σ H) : wpS X st D σ H := fun pins s I => p.run pins s σ H D I h
theorem ofSs {st : List Stmt} {t : TS} {σ : L2.St} {H : Hp} {D : Ends} (p : PSs X st t) (h : t D σ H) : wpSs X st D σ H := fun pins s I => p.run pins s σ H D I h
theorem wpE_mono {e : Expr} {σ : L2.St} {H : Hp} {Q Q' : VK} (h : wpE X e σ H Q) (k : ∀ v H', Q v H' → Q' v H') : wpE X e σ H Q' := fun pins s I => thn (h pins s I) fun v s1 ⟨x, H1, I1, r1, q1⟩ => ⟨x, H1, I1, r1, k _ _ q1⟩
end
structure FitS (I : Ci) (n : Nat) (F : Fx) (X : Cx) : Prop extends Fit I n F X where
  po : PassesOwn (model X.prog X.w) X.A X.env X.xe
  fnx : ∀ x, X.fn x = true
def SndS (I : Ci) (X : Cx) (F : Fx) (st : Stmt) (c : Cs) : Prop := ∀ W G ρ H σ δ μ D, Takes X W → Wd I X.K G ρ μ H → EnvR I X.K G ρ δ σ → PoS I X.K W D G ρ H (evS F c δ μ) → wpS X st D σ H
def SndSs (I : Ci) (X : Cx) (F : Fx) (st : List Stmt) (c : Css) : Prop := ∀ W G ρ H σ δ μ D, Takes X W → Wd I X.K G ρ μ H → EnvR I X.K G ρ δ σ → PoS I X.K W D G ρ H (evSs F c δ μ) → wpSs X st D σ H
/-- name = e, by the value -/
def SndN (I : Ci) (X : Cx) (F : Fx) (st : Stmt) (i : Nat) (c : Ce) : Prop := ∀ W G ρ H σ δ μ (D : Ends), Takes X W → Wd I X.K G ρ μ H → EnvR I X.K G ρ δ σ → Po I X.K W σ G ρ H (evE F c δ μ) (QE I X.K H fun v H' => D.nx (σ.set i (some v)) H') → wpS X st D σ H
section
variable {I : Ci} {X : Cx} {n : Nat} {F : Fx} {W : WX} {σ : L2.St} {G G0 : Hp} {ρ ρ0 : List Addr} {H H0 : Hp} {μ : Mu} {δ : EW.Env}
theorem bindN {st : Stmt} {i : Nat} {c : Ce} {β : Type} {f : Res → Mu → Out β} {S : β → Mu → Hp → List Addr → Hp → Prop} {D : Ends} (h : SndN I X F st i c) (tk : Takes X W) (A : Aft G0 ρ0 H0 G ρ H) (w : Wd I X.K G ρ μ H) (ev : EnvR I X.K G ρ δ σ) (P : Po I X.K W σ G0 ρ0 H0 ((evE F c δ μ).bind f) S)
    (k : ∀ x μ1, Po I X.K W σ G0 ρ0 H0 (f x μ1) S → ∀ v G1 ρ1 H1, Aft G ρ H G1 ρ1 H1 → Wd I X.K G1 ρ1 μ1 H1 → ResR I X.K G1 ρ1 H1 x v → New H x v → D.nx (σ.set i (some v)) H1) : wpS X st D σ H := by
  refine h W G ρ H σ δ μ D tk w ev ?_
  revert P
  cases evE F c δ μ with
  | ok x μ1 => exact fun P G1 ρ1 H1 a1 w1 v rr nn => k x μ1 P v G1 ρ1 H1 a1 w1 rr nn
  | ex z μ1 => exact fun P => Po.step (o := (.ex z μ1 : Out Res)) (S := QE I X.K H _) A P
  | no => exact fun P => P
theorem sndN_mkc {st : Stmt} {i : Nat} {a : Ce} (ha : SndN I X F st i a) : SndN I X F st i (.mkc a) := by
  intro W G ρ H σ δ μ D tk w ev P
  simp only [evE] at P
  refine bindN ha tk Aft.refl w ev P fun r μ1 P1 v G1 ρ1 H1 a1 w1 r1 n1 => ?_
  cases r with
  | fz d => exact P1 G1 ρ1 H1 a1 w1 v r1 n1
  | cel k => exact P1 G1 ρ1 H1 a1 w1 v r1 n1
  | nw o =>
    obtain ⟨q, h, h1, h2, h3, h4, h5, h6⟩ := r1
    obtain ⟨b1, b2, b3, b4⟩ := w1.hold a1 h2 h3 h4 h5 h6 (n1 o q rfl h1)
    exact P1 G1 (ρ1 ++ [q]) H1 b1 b2 v ⟨q, b3, h1⟩ (fun _ _ z => nomatch z)
theorem snd_set {st : Stmt} {i : Nat} {c : Ce} (h : SndN I X F st i c) : SndS I X F st (.set i c) := by
  intro W G ρ H σ δ μ D tk w ev P
  simp only [evS] at P
  have P0 := PoS.run ev P
  rw [argO_inv] at P0
  refine bindN h tk Aft.refl w ev P0 (fun x μ1 P1 v G1 ρ1 H1 a1 w1 r1 n1 => ?_)
  obtain ⟨G', ρ', b1, b2, b3, _, _⟩ := ResR.arg w1 a1 r1 n1
  exact (P1.step b1).ok b2 _ _ _ _ Aft.refl b2 ((ev.mono b1).set b3)
theorem sndSs_nil : SndSs I X F [] .nil := fun W G ρ H σ δ μ D tk w ev P => ofSs pss_nil (P G ρ H σ Aft.refl w ev)
theorem sndSs_cons {st : Stmt} {sts : List Stmt} {s : Cs} {r : Css} (h1 : SndS I X F st s) (h2 : SndSs I X F sts r) : SndSs I X F (st :: sts) (.cons s r) := by
  intro W G ρ H σ δ μ D tk w ev P
  simp only [evSs] at P
  refine ofSs (pss_cons seS seSs) ?_
  refine h1 W G ρ H σ δ μ _ tk w ev ?_
  revert P
  cases evS F s δ μ with
  | nx δ1 μ1 => exact fun P G1 ρ1 H1 σ1 a1 w1 ev1 => h2 W G1 ρ1 H1 σ1 δ1 μ1 D tk w1 ev1 (P.step a1)
  | bk δ1 μ1 => exact fun P => P
  | ct δ1 μ1 => exact fun P => P
  | rt r μ1 => exact fun P => P
  | ex z δ1 μ1 => exact fun P => P
  | no => exact fun P => P
theorem snd_ex {e : Expr} {c : Ce} {p : Pos} (h : SndE I X F e c) (hs : swapsWith e none p.line X.env = pure false) : SndS I X F (.Expr e p) (.ex c) := by
  intro W G ρ H σ δ μ D tk w ev P
  simp only [evS] at P
  refine ofS (ps_expr seE hs) (bindE h tk Aft.refl w ev (PoS.run ev P) fun x μ1 P1 v G1 ρ1 H1 a1 w1 r1 n1 => ?_)
  exact (P1.step a1).ok w1 _ _ _ _ Aft.refl w1 (ev.mono a1)
theorem snd_ret {e : Expr} {c : Ce} {p : Pos} (h : SndE I X F e c) : SndS I X F (.Return (some e) p) (.ret c) := by
  intro W G ρ H σ δ μ D tk w ev P
  simp only [evS] at P
  refine ofS (ps_ret seE) ?_
  refine h W G ρ H σ δ μ _ tk w ev ?_
  have P0 := PoS.run ev P
  revert P0 P
  cases evE F c δ μ with
  | ok r μ1 => exact fun P _ G1 ρ1 H1 a1 w1 v r1 n1 => P G1 ρ1 H1 v a1 w1 r1 n1
  | ex z μ1 => exact fun _ P0 => P0
  | no => exact fun P _ => P
theorem snd_ret0 {p : Pos} : SndS I X F (.Return none p) .ret0 := by
  intro W G ρ H σ δ μ D tk w ev P
  simp only [evS] at P
  exact ofS ps_retN (P G ρ H .non Aft.refl w rfl (fun _ _ z => nomatch z))
theorem snd_if {e : Expr} {c : Ce} {p : Pos} {a b : List Stmt} {ca cb : Css} (h : SndT I X F e c) (ha : SndSs I X F a ca) (hb : SndSs I X F b cb) : SndS I X F (.If e a b p) (.ife c ca cb) := by
  intro W G ρ H σ δ μ D tk w ev P
  simp only [evS] at P
  refine ofS (ps_if seT seSs seSs) (bindT h tk Aft.refl w ev (PoS.run ev P) fun k μ1 P1 G1 ρ1 H1 a1 w1 => ?_)
  have P2 := (P1.step a1).ok w1
  cases k with
  | true =>
    rw [if_pos rfl] at P2 ⊢
    exact ha W G1 ρ1 H1 σ δ μ1 D tk w1 (ev.mono a1) P2
  | false =>
    rw [if_neg (by decide)] at P2 ⊢
    exact hb W G1 ρ1 H1 σ δ μ1 D tk w1 (ev.mono a1) P2
theorem snd_brk {p : Pos} : SndS I X F (.Break p) .brk := by
  intro W G ρ H σ δ μ D tk w ev P
  simp only [evS] at P
  exact ofS ps_break (P G ρ H σ Aft.refl w ev)
theorem snd_cont {p : Pos} : SndS I X F (.Continue p) .cont := by
  intro W G ρ H σ δ μ D tk w ev P
  simp only [evS] at P
  exact ofS ps_continue (P G ρ H σ Aft.refl w ev)
theorem snd_pass {p : Pos} : SndS I X F (.Pass p) .pass := by
  intro W G ρ H σ δ μ D tk w ev P
  simp only [evS] at P
  exact ofS ps_pass (P G ρ H σ Aft.refl w ev)
theorem snd_never {st : Stmt} : SndS I X F st .never := by
  intro W G ρ H σ δ μ D tk w ev P
  simp only [evS] at P
  exact P.elim
end
end EW
set_option maxRecDepth 100000
set_option maxHeartbeats 2000000
namespace EW
open PySem L2 PySem.Spec PyProof.Rows
section
variable {I : Ci} {K : PySem.W.Frag} {G G0 : Hp} {ρ ρ0 : List Addr} {H H0 : Hp} {μ : Mu} {δ : Env} {σ : L2.St}
theorem RepO.nm {o : O} {h : HO} (w : Wd I K G ρ μ H) (r : RepO I K G ρ o h) : RepO I K G ρ (O.nm μ o) h := by
  cases o with
  | lst ws => obtain ⟨vs, h1, h2⟩ := r; exact ⟨vs, h1, h2.nm w⟩
  | tup ws => obtain ⟨vs, h1, h2⟩ := r; exact ⟨vs, h1, h2.nm w⟩
  | dct ks ws => obtain ⟨vs, h1, h2, h3⟩ := r; exact ⟨vs, h1, h2, h3.nm w⟩
  | ins c ws => obtain ⟨dx, fs, h1, h2, h3⟩ := r; exact ⟨dx, fs, h1, by rw [List.length_map]; exact h2, h3.nm w⟩
  | ice d => exact r
theorem O.nm_ni {o : O} (n : ∀ d, o ≠ .ice d) : ∀ d, O.nm μ o ≠ .ice d := fun d z => by
  cases o <;> simp [O.nm] at z
  rename_i d'; exact n d' rfl
theorem CelR.of_ice {a : Addr} {h : HO} {o : O} (n : ∀ d, o ≠ .ice d) (r : CelR I K G ρ a h o) : G a = none ∧ RepO I K G ρ o h := by
  cases o with
  | ice d => exact (n d rfl).elim
  | lst _ => exact r
  | tup _ => exact r
  | dct _ _ => exact r
  | ins _ _ => exact r
theorem CelR.nm {a : Addr} {h : HO} {o : O} (w : Wd I K G ρ μ H) (r : CelR I K G ρ a h o) : CelR I K G ρ a h (O.nm μ o) := by
  cases o with
  | ice d => exact r
  | lst ws => exact ⟨r.1, RepO.nm (o := .lst ws) w r.2⟩
  | tup ws => exact ⟨r.1, RepO.nm (o := .tup ws) w r.2⟩
  | dct ks ws => exact ⟨r.1, RepO.nm (o := .dct ks ws) w r.2⟩
  | ins c ws => exact ⟨r.1, RepO.nm (o := .ins c ws) w r.2⟩
theorem Wd.nmM (w : Wd I K G ρ μ H) : Wd I K G ρ (nmM μ) H := by
  refine ⟨w.sub, by unfold EW.nmM; rw [List.length_map]; exact w.len, w.nd, fun k a o h1 h2 => ?_⟩
  unfold EW.nmM at h2
  rw [List.getElem?_map] at h2
  obtain ⟨o', h3, h4⟩ := Option.map_eq_some_iff.mp h2
  subst h4
  obtain ⟨h, h5, h6⟩ := w.cell k a o' h1 h3
  exact ⟨h, h5, h6.nm w⟩
theorem EnvR.nmE (w : Wd I K G ρ μ H) (ev : EnvR I K G ρ δ σ) : EnvR I K G ρ (nmE μ δ) σ := by
  refine ⟨by unfold EW.nmE; rw [List.length_map]; exact ev.1, fun i u h => ?_⟩
  unfold EW.nmE at h
  rw [List.getElem?_map] at h
  obtain ⟨o, h1, h2⟩ := Option.map_eq_some_iff.mp h
  obtain ⟨u', h3, h4⟩ := Option.map_eq_some_iff.mp h2
  subst h3 h4
  obtain ⟨v, h5, h6⟩ := ev.2 i u' h1
  exact ⟨v, h5, h6.nm w⟩
theorem EnvR.wipeD (ev : EnvR I K G ρ δ σ) : ∀ vs : List Nat, EnvR I K G ρ (EW.wipeD δ vs) σ
  | [] => ev
  | v :: vs => (EnvR.wipeD ev vs).forget
theorem EnvR.take {n : Nat} (b : envB n δ = true) (ev : EnvR I K G ρ δ σ) : EnvR I K G (ρ.take n) δ σ := by
  refine ⟨ev.1, fun i u h => ?_⟩
  obtain ⟨v, h1, h2⟩ := ev.2 i u h
  have := List.all_eq_true.mp b (some u) (List.mem_iff_getElem?.mpr ⟨i, h⟩)
  exact ⟨v, h1, h2.take this⟩
theorem tidy_ok {n : Nat} {wp : List Nat} (A : Aft G0 ρ0 H0 G ρ H) (hn : ρ0.length = n) (w : Wd I K G ρ μ H) (ev : EnvR I K G ρ δ σ) : ∃ ρ', Aft G0 ρ0 H0 G ρ' H ∧ Wd I K G ρ' (tidyM n (tidyE wp δ μ) (nmM μ)) H ∧ EnvR I K G ρ' (tidyE wp δ μ) σ := by
  have ev2 : EnvR I K G ρ (tidyE wp δ μ) σ := (ev.wipeD wp).nmE w
  unfold tidyM
  split
  · rename_i h
    rw [Bool.and_eq_true] at h
    exact ⟨ρ.take n, A.take hn, w.nmM.take h.2, ev2.take h.1⟩
  · exact ⟨ρ, A, w.nmM, ev2⟩
theorem Wd.nmC {k : Nat} {o : O} (w : Wd I K G ρ μ H) (e : μ[k]? = some o) : Wd I K G ρ (μ.set k (O.nm μ o)) H := by
  refine ⟨w.sub, by rw [List.length_set]; exact w.len, w.nd, fun j a o' h1 h2 => ?_⟩
  by_cases hj : k = j
  · subst hj
    rw [List.getElem?_set_self (List.getElem?_eq_some_iff.mp e).1] at h2
    cases h2
    obtain ⟨h, h5, h6⟩ := w.cell k a o h1 e
    exact ⟨h, h5, h6.nm w⟩
  · rw [List.getElem?_set_ne hj] at h2
    exact w.cell j a o' h1 h2
theorem ice_ok {F : Fx} {i : Nat} {p : List Nat} {μ' : Mu} (w : Wd I K G ρ μ H) (e : iceR F δ μ i p = some μ') : ∃ G', Aft G ρ H G' ρ H ∧ Wd I K G' ρ μ' H := by
  unfold iceR at e
  split at e
  · split at e
    · rename_i k _
      split at e
      · rename_i o ho
        obtain ⟨d, h1, h2⟩ := Option.map_eq_some_iff.mp e
        subst h2
        obtain ⟨G', a, w', _⟩ := (w.nmC ho).ice (k := k) (List.getElem?_set_self (List.getElem?_eq_some_iff.mp ho).1) h1
        rw [List.set_set] at w'
        exact ⟨G', a, w'⟩
      · cases e
    · cases e
  · cases e
theorem putF_reps {l : List Nat} {n i : Nat} {u : Val} {y : V} (inj : ∀ a b, a ∈ l → b ∈ l → I.an a = I.an b → a = b) (ru : ValR I K G ρ u y) : ∀ {ws : List Val} {fs : List (Str × V)}, fs.map (·.1) = (l.take ws.length).map I.an → ValsR I K G ρ ws (fs.map (·.2)) → l.idxOf? n = some i →
    (i < ws.length → (putF (I.an n) y fs).map (·.1) = (l.take ws.length).map I.an ∧ ValsR I K G ρ (ws.set i u) ((putF (I.an n) y fs).map (·.2))) ∧
    (i = ws.length → (putF (I.an n) y fs).map (·.1) = (l.take (ws.length + 1)).map I.an ∧ ValsR I K G ρ (ws ++ [u]) ((putF (I.an n) y fs).map (·.2))) := by
  induction l generalizing i with
  | nil => intro ws fs _ _ h; simp [List.idxOf?] at h
  | cons b l ih =>
    intro ws fs e r h
    cases ws with
    | nil =>
      have hf : fs = [] := by
        have : fs.map (·.2) = [] := r
        simpa using this
      subst hf
      refine ⟨fun z => absurd z (by simp), fun z => ?_⟩
      subst z
      have hb := idx_of h
      simp at hb
      subst hb
      exact ⟨by simp [putF], ValsR.one ru⟩
    | cons w ws =>
      cases fs with
      | nil => simp at e
      | cons f fs =>
        obtain ⟨v0, r0, e1, h1, h2⟩ := r
        cases e1
        simp only [List.map_cons, List.length_cons, List.take_succ_cons, List.cons.injEq] at e
        rw [List.idxOf?_cons] at h
        obtain ⟨fn, fv⟩ := f
        have e0 : fn = I.an b := e.1
        split at h
        · rename_i eb
          cases h
          have eb' : b = n := by simpa using eb
          subst eb'
          refine ⟨fun _ => ?_, fun z => by simp at z⟩
          have hp : putF (I.an b) y ((fn, fv) :: fs) = (fn, y) :: fs := by simp [putF, e0]
          rw [hp]
          exact ⟨by simp only [List.map_cons, List.length_cons, List.take_succ_cons, List.cons.injEq]; exact e, y, _, rfl, ru, h2⟩
        · rename_i eb
          obtain ⟨j, h3, h4⟩ := Option.map_eq_some_iff.mp h
          subst h4
          have hn : n ∈ l := List.mem_iff_getElem?.mpr ⟨j, idx_of h3⟩
          have hne : ¬ fn = I.an n := by
            intro z
            have := inj n b (List.mem_cons_of_mem _ hn) List.mem_cons_self (z.symm.trans e0)
            exact eb (by simp [this])
          have hp : putF (I.an n) y ((fn, fv) :: fs) = (fn, fv) :: putF (I.an n) y fs := by simp [putF, hne]
          obtain ⟨i1, i2⟩ := ih (fun a b ha hb => inj a b (List.mem_cons_of_mem _ ha) (List.mem_cons_of_mem _ hb)) e.2 h2 h3
          rw [hp]
          refine ⟨fun z => ?_, fun z => ?_⟩
          · obtain ⟨q1, q2⟩ := i1 (by simpa using z)
            exact ⟨by simp only [List.map_cons, List.length_cons, List.take_succ_cons, List.cons.injEq]; exact ⟨e0, q1⟩, fv, _, rfl, h1, q2⟩
          · obtain ⟨q1, q2⟩ := i2 (by simpa using z)
            exact ⟨by simp only [List.map_cons, List.length_cons, List.take_succ_cons, List.cons.injEq]; exact ⟨e0, q1⟩, fv, _, rfl, h1, q2⟩
end
section
variable {X : Cx} {pos pos' : Pos} {o i value : Expr} {to ti tv : TE}
theorem swaps_no {e t : Expr} {l : Nat} {env : PySem.Env} (h : ∀ x p, t ≠ .Name x p) : swapsWith e (some t) l env = pure false := by
  cases e <;> (try rfl) <;> (cases t <;> first | rfl | exact (h _ _ rfl).elim)
def sPut (to ti tv : TE) : TS := fun D σ H => tv σ H fun v H1 => to σ H1 fun x H2 => ti σ H2 fun y H3 => (∃ a H4, x = .ref a ∧ DPut H3 a y v H4 ∧ D.nx σ H4) ∨ rSetL x y v H3 fun H4 => D.nx σ H4
theorem ps_put (hu : X.A.units + 1 < cLine) (ho : PE X o to) (hi : PE X i ti) (hv : PE X value tv) : PS X (.Assign [.Subscript o i pos'] value pos) (sPut to ti tv) := by
  refine ⟨fun pins s σ H D I h => ?_⟩
  refine wpAny_Assign_Subscript (thn (hv.run pins s σ H _ I h) fun r s1 ⟨v, H1, I1, rv, q1⟩ => thn (ho.run pins s1 σ H1 _ I1 q1) fun u s2 ⟨x, H2, I2, rx, q2⟩ => thn (hi.run pins s2 σ H2 _ I2 q2) fun iv s3 ⟨y, H3, I3, ry, q3⟩ => ?_) (swaps_no fun _ _ z => nomatch z)
  rcases q3 with ⟨a, H4, ex, g, q3⟩ | q3
  · subst ex
    obtain rfl : u = Value.ref a := rx
    exact d_setItem hu I3 g ry rv fun s4 I4 => ⟨σ, H4, I4, q3⟩
  · exact thn (set_list pins s3 σ H3 x y v u iv r _ I3 rx ry rv q3) fun _ s4 ⟨H4, I4, q4⟩ => ⟨σ, H4, I4, q4⟩
end
section
variable {I : Ci} {X : Cx} {n : Nat} {F : Fx} {W : WX} {σ : L2.St} {G G0 : Hp} {ρ ρ0 : List Addr} {H H0 : Hp} {μ : Mu} {δ : EW.Env} {eo ei e : Expr} {co ci c : Ce} {p p' : Pos}
theorem put_ok {x y : Res} {vx vy v : V} {w' : Val} {μ' : Mu} {D : Ends} (w : Wd I X.K G ρ μ H) (ev : EnvR I X.K G ρ δ σ) (rx : ResR I X.K G ρ H x vx) (ry : ResR I X.K G ρ H y vy) (rv : ValR I X.K G ρ w' v) (e : putR x y w' μ = some μ') (P : PoS I X.K W D G ρ H (.nx δ μ')) :
    (∃ a H4, vx = .ref a ∧ DPut H a vy v H4 ∧ D.nx σ H4) ∨ rSetL vx vy v H fun H4 => D.nx σ H4 := by
  unfold putR at e
  split at e
  · rename_i k
    obtain ⟨a, h1, h2⟩ := rx
    split at e
    · rename_i ws n hk
      obtain ⟨j, h3, h4⟩ := Option.map_eq_some_iff.mp e
      subst h4
      obtain ⟨x, h5, _, vs, h6, h7⟩ := w.cel h1 hk (fun _ z => nomatch z)
      subst h6
      refine .inr ⟨a, vs, n, j, h2, ry, h5, by rw [h7.length]; exact h3, ?_⟩
      have A := Aft.write w (h := .lst (vs.set j v)) h1 hk (fun _ z => nomatch z)
      exact P G ρ _ σ A (w.write h1 hk (fun _ z => nomatch z) (fun _ z => nomatch z) ⟨_, rfl, h7.set j rv⟩) ev
    · rename_i ks ws d hk
      split at e
      · rename_i key hkey
        split at e
        · rename_i hl
          cases e
          obtain ⟨x, h5, _, kvs, h6, h7, h8⟩ := w.cel h1 hk (fun _ z => nomatch z)
          subst h6 h7
          obtain ⟨q1, q2⟩ := putK_reps (k := key) h8 rv
          have hvy : vy = kV key := Rep.key ry hkey
          have A := Aft.write w (h := .dK (putK kvs key v)) h1 hk (fun _ z => nomatch z)
          refine .inl ⟨a, _, h2, .inl ⟨kvs, key, h5, hvy, ?_, rfl⟩, P G ρ _ σ A (w.write h1 hk (fun _ z => nomatch z) (fun _ z => nomatch z) ⟨_, rfl, q1, q2⟩) ev⟩
          rw [List.length_map] at hl
          exact Nat.lt_of_lt_of_le hl bigLine
        · cases e
      · cases e
    · cases e
  · cases e
theorem snd_put (Ft : Fit I n F X) (ho : SndE I X F eo co) (hi : SndE I X F ei ci) (he : SndE I X F e c) : SndS I X F (.Assign [.Subscript eo ei p'] e p) (.put co ci c) := by
  intro W G ρ H σ δ μ D tk w ev P
  simp only [evS] at P
  have hu : X.A.units + 1 < cLine := by have := Ft.hr.un; omega
  refine ofS (ps_put hu seE seE seE) (bindV he tk Aft.refl w ev (PoS.run ev P) fun u μ1 P1 v G1 ρ1 H1 a1 w1 r1 => ?_)
  refine bindE ho tk a1 w1 (ev.mono a1) P1 fun x μ2 P2 vx G2 ρ2 H2 a2 w2 r2 n2 => ?_
  refine bindE hi tk (a1.trans a2) w2 (ev.mono (a1.trans a2)) P2 fun y μ3 P3 vy G3 ρ3 H3 a3 w3 r3 n3 => ?_
  have A := (a1.trans a2).trans a3
  obtain ⟨μ', e1, P4⟩ := ((P3.step A).ok w3).nxO
  exact put_ok w3 (ev.mono A) (r2.mono a3) r3 (r1.mono (a2.trans a3)) e1 P4
theorem fldP_ok (L : Lk X.prog X.w X.K X.mg X.base I n F) {x : Res} {vx v : V} {w' : Val} {μ' : Mu} {k : Nat} {D : Ends} (w : Wd I X.K G ρ μ H) (ev : EnvR I X.K G ρ δ σ) (rx : ResR I X.K G ρ H x vx) (rv : ValR I X.K G ρ w' v) (e : fldR F x k w' μ = some μ') (P : PoS I X.K W D G ρ H (.nx δ μ')) :
    ∃ a C dx fs, vx = .ref a ∧ H a = some (.ins C dx fs) ∧ Cls X.K C ∧ NoAttr X.K C (I.an k) ∧ fs.length < 1000 ∧ D.nx σ (upd H a (.ins C dx (putF (I.an k) v fs))) := by
  unfold fldR at e
  split at e
  · rename_i j
    obtain ⟨a, h1, h2⟩ := rx
    split at e
    · rename_i cc ws hk
      split at e
      · rename_i hl
        split at e
        · rename_i i hi
          rw [L.fl] at hi
          obtain ⟨x, h5, _, dx, fs, h6, h7, h8⟩ := w.cel h1 hk (fun _ z => nomatch z)
          subst h6
          obtain ⟨q1, q2⟩ := putF_reps (I := I) (L.inj cc) rv h7 h8 hi
          have ha : k ∈ I.fl cc := List.mem_iff_getElem?.mpr ⟨i, idx_of hi⟩
          have hfl : fs.length = ws.length := by have := h8.length; simpa using this
          refine ⟨a, _, dx, fs, h2, h5, (L.att cc k ha).1, (L.att cc k ha).2, by omega, ?_⟩
          have A := Aft.write w (h := .ins (I.ca cc) dx (putF (I.an k) v fs)) h1 hk (fun _ z => nomatch z)
          split at e
          · rename_i hlt
            cases e
            obtain ⟨b1, b2⟩ := q1 hlt
            exact P G ρ _ σ A (w.write h1 hk (fun _ z => nomatch z) (fun _ z => nomatch z) ⟨dx, _, rfl, by rw [List.length_set]; exact b1, b2⟩) ev
          · split at e
            · rename_i hlt
              cases e
              obtain ⟨b1, b2⟩ := q2 hlt
              exact P G ρ _ σ A (w.write h1 hk (fun _ z => nomatch z) (fun _ z => nomatch z) ⟨dx, _, rfl, by rw [List.length_append]; exact b1, b2⟩) ev
            · cases e
        · cases e
      · cases e
    · cases e
  · cases e
theorem snd_fld (Ft : Fit I n F X) {k : Nat} {x : Str} (hx : I.an k = x) (ho : SndE I X F eo co) (he : SndE I X F e c) : SndS I X F (.Assign [.Attribute eo x p'] e p) (.fld co k c) := by
  intro W G ρ H σ δ μ D tk w ev P
  simp only [evS] at P
  subst hx
  refine ofS (ps_fld seE seE (swaps_no fun _ _ z => nomatch z)) (bindV he tk Aft.refl w ev (PoS.run ev P) fun u μ1 P1 v G1 ρ1 H1 a1 w1 r1 => ?_)
  refine bindE ho tk a1 w1 (ev.mono a1) P1 fun x μ2 P2 vx G2 ρ2 H2 a2 w2 r2 n2 => ?_
  have A := a1.trans a2
  obtain ⟨μ', e1, P4⟩ := ((P2.step A).ok w2).nxO
  exact fldP_ok Ft.L w2 (ev.mono A) r2 (r1.mono a2) e1 P4
end
end EW
set_option maxRecDepth 100000
set_option maxHeartbeats 2000000
namespace EW
open PySem L2 PySem.Spec PyProof.Rows
section
variable {I : Ci} {X : Cx} {n : Nat} {F : Fx} {W : WX} {σ : L2.St} {G G0 : Hp} {ρ ρ0 : List Addr} {H H0 : Hp} {μ : Mu} {δ : EW.Env} {e : Expr} {c : Ce} {p p' : Pos}
def isTup : Expr → Bool
  | .Tuple _ _ _ => true
  | _ => false
theorem stores_no {e : Expr} {ts : List Expr} {k : Nat} {p : Pos} {env : PySem.Env} (h : isTup e = false) : swappedStores [.Tuple ts k p] e env = pure none := by
  cases e <;> first | rfl | cases h
/-- a name of the def: plain, or one that a block inside reads too -/
def lcc (sc : Scope) (x : Str) : Bool := match sc.names.lookup x with | some .local => true | some .cell => true | _ => false
theorem lcc_of {sc : Scope} {x : Str} (h : lcc sc x = true) : Loc sc x := by
  unfold lcc at h
  split at h
  · exact .inl (by assumption)
  · exact .inr (by assumption)
  · cases h
def okNmS (N : List Str) (sc : Scope) : List Nat → List Expr → Bool
  | [], [] => true
  | i :: is, .Name x _ :: es => decide (N[i]? = some x) && lcc sc x && okNmS N sc is es
  | _, _ => false
def okTgS (N : List Str) (sc : Scope) : Tg → Expr → Bool
  | .nm i, .Name x _ => decide (N[i]? = some x) && lcc sc x
  | .tp js, .Tuple es _ _ => okNmS N sc js es
  | _, _ => false
theorem okNmS_pgs {X : Cx} (nd : X.N.Nodup) (fx : ∀ x, X.fn x = true) : ∀ {js : List Nat} {es : List Expr}, okNmS X.N X.env.scope js es = true → PGs X es (gsT js) ∧ (assignEach es X.env).length = js.length ∧ (assignEach es X.env).findIdx? (·.1) = none
  | [], [], _ => ⟨pgs_nil, rfl, rfl⟩
  | j :: js, .Name x p :: es, h => by
    simp only [okNmS, Bool.and_eq_true, decide_eq_true_eq] at h
    obtain ⟨h1, h2, h3⟩ := okNmS_pgs nd fx h.2
    refine ⟨pgs_cons (pg_name nd h.1.1 (lcc_of h.1.2) (.inl (fx x))) h1 rfl, ?_, ?_⟩
    · show (assignEach es X.env).length + 1 = js.length + 1
      rw [h2]
    · show (List.findIdx? (fun x => x.1) ((false, assign (.Name x p) X.env) :: assignEach es X.env)) = none
      rw [List.findIdx?_cons, h3]
      rfl
  | [], _ :: _, h => by simp [okNmS] at h
  | j :: js, [], h => by simp [okNmS] at h
  | j :: js, .BoolOp .. :: _, h | j :: js, .NamedExpr .. :: _, h | j :: js, .BinOp .. :: _, h | j :: js, .UnaryOp .. :: _, h | j :: js, .Lambda .. :: _, h | j :: js, .IfExp .. :: _, h | j :: js, .Dict .. :: _, h | j :: js, .Set .. :: _, h | j :: js, .ListComp .. :: _, h | j :: js, .SetComp .. :: _, h | j :: js, .DictComp .. :: _, h | j :: js, .GeneratorExp .. :: _, h | j :: js, .Await .. :: _, h | j :: js, .Yield .. :: _, h | j :: js, .YieldFrom .. :: _, h | j :: js, .Compare .. :: _, h | j :: js, .Call .. :: _, h | j :: js, .FormattedValue .. :: _, h | j :: js, .JoinedStr .. :: _, h | j :: js, .Constant .. :: _, h | j :: js, .Attribute .. :: _, h | j :: js, .Subscript .. :: _, h | j :: js, .Starred .. :: _, h | j :: js, .List .. :: _, h | j :: js, .Tuple .. :: _, h | j :: js, .Slice .. :: _, h => by simp [okNmS] at h
theorem okTgS_pg {X : Cx} (nd : X.N.Nodup) (fx : ∀ x, X.fn x = true) (hc : X.calm = true) {T : Tg} {tg : Expr} (h : okTgS X.N X.env.scope T tg = true) : PG X tg (gU X.K T) := by
  cases T with
  | nm j =>
    cases tg with
    | Name x p =>
      simp only [okTgS, Bool.and_eq_true, decide_eq_true_eq] at h
      exact pg_name nd h.1 (lcc_of h.2) (.inl (fx x))
    | _ => simp [okTgS] at h
  | tp js =>
    cases tg with
    | Tuple es k p =>
      obtain ⟨h1, h2, h3⟩ := okNmS_pgs nd fx (by simpa [okTgS] using h)
      exact PG.or (pg_tup hc h1 h2 h3) (pg_lst hc h1 h2 h3)
    | _ => simp [okTgS] at h
/-- not plain -/
def nloc (sc : Scope) : Expr → Bool
  | .Name x _ => !loc sc x
  | _ => true
def noSw (sc : Scope) : Expr → Expr → Bool
  | .Tuple ts _ _, .Tuple vs _ _ => !(ts.length == 2 || ts.length == 3) || vs.length != ts.length || ts.any (nloc sc) || vs.all (foldedForSure 8)
  | .Tuple _ _ _, _ => true
  | _, _ => false
theorem fm_short {α β : Type} {f : α → Option β} : ∀ {l : List α}, (∃ a ∈ l, f a = none) → (l.filterMap f).length < l.length
  | [], ⟨_, h, _⟩ => nomatch h
  | a :: l, ⟨b, h, e⟩ => by
    have hl : (l.filterMap f).length ≤ l.length := List.length_filterMap_le f l
    rw [List.filterMap_cons]
    cases q : f a with
    | none => simp only [List.length_cons]; omega
    | some c =>
      rcases List.mem_cons.mp h with rfl | h
      · rw [q] at e; cases e
      · have := fm_short (f := f) ⟨b, h, e⟩
        simp only [List.length_cons]; omega
theorem stores_none {t e : Expr} {env : PySem.Env} (h : noSw env.scope t e = true) : swappedStores [t] e env = pure none := by
  unfold noSw at h
  split at h
  · rename_i ts k p vs k2 p2
    simp only [Bool.or_eq_true] at h
    unfold swappedStores
    dsimp only
    split
    · rfl
    · rename_i c1
      simp only [Bool.or_eq_true, not_or, Bool.not_eq_true, Bool.not_eq_true'] at c1
      split
      · rfl
      · split
        · rfl
        · rename_i c2 c3
          rcases h with ((h | h) | h) | h
          · simp_all
          · simp_all
          · simp only [Bool.or_eq_true, not_or, bne_iff_ne, ne_eq, Classical.not_not] at c3
            obtain ⟨a, ha, hn⟩ := List.any_eq_true.mp h
            refine absurd c3.1 (Nat.ne_of_lt (fm_short ⟨a, ha, ?_⟩))
            cases a <;> first | rfl | skip
            rename_i x px
            simp only [nloc, loc] at hn
            have : (env.kindOf x == some NameKind.local) = false := by
              show (env.scope.names.lookup x == some NameKind.local) = false
              cases q : env.scope.names.lookup x with
              | none => rfl
              | some k => rw [q] at hn; cases k <;> first | rfl | simp at hn
            simp only [this, Bool.false_and]
            rfl
          · rw [if_pos h]
  · unfold swappedStores
    split <;> first | rfl | (rename_i he; simp_all)
  · cases h
theorem snd_unp (Ft : FitS I n F X) {js : List Nat} {tg : Expr} (hT : okTgS X.N X.env.scope (.tp js) tg = true) (he : SndE I X F e c) (ht : noSw X.env.scope tg e = true) : SndS I X F (.Assign [tg] e p) (.unp (.tp js) c) := by
  intro W G ρ H σ δ μ D tk w ev P
  simp only [evS] at P
  obtain ⟨es, k, pp, rfl⟩ : ∃ es k pp, tg = .Tuple es k pp := by cases tg <;> first | exact ⟨_, _, _, rfl⟩ | simp [okTgS] at hT
  refine ofS (ps_asg seE (okTgS_pg Ft.nd Ft.fnx Ft.calm hT) (swaps_no (e := e) (t := .Tuple es k pp) (l := p.line) (env := X.env) fun _ _ z => nomatch z) (stores_none ht) rfl) (bindV he tk Aft.refl w ev (PoS.run ev P) fun u μ1 P1 v G1 ρ1 H1 a1 w1 r1 => ?_)
  have P2 := (P1.step a1).ok w1
  split at P2
  · rename_i δ' hb
    exact bind_run w1 (ev.mono a1) (show ItR I X.K G1 ρ1 H1 (.one u) v from r1) hb fun σ' ev' _ => P2 G1 ρ1 H1 σ' Aft.refl w1 ev'
  · exact P2.elim
theorem kind_of {env : PySem.Env} {x : Str} {k : NameKind} (h : env.scope.names.lookup x = some k) : env.kindOf x = some k := h
theorem swst2 {env : PySem.Env} {x y : Str} {px py pt pt2 : Pos} {a b : Expr} {kt k2 : Nat} (hk : env.scope.kind = .function) (hx : env.scope.names.lookup x = some .local) (hy : env.scope.names.lookup y = some .local) (hl : py.line = px.line) (hne : x ≠ y)
    (hs : isStar a = false) (hs2 : isStar b = false) (hf : [a, b].all (foldedForSure 8) = false) (hc : [a, b].all (constantsAlone 8) = false) : swappedStores [.Tuple [.Name x px, .Name y py] kt pt] (.Tuple [a, b] k2 pt2) env = pure (some [x, y]) := by
  have hb : env.blockKind = .function := by unfold Env.blockKind; rw [hk]; rfl
  unfold swappedStores
  simp only [hb, Expr.pos, hf, hc]
  simp [List.filterMap_cons, kind_of hx, kind_of hy, hl, Expr.pos, List.eraseDups_cons, hne.symm]
  intro h
  rcases h with h | h
  · cases a <;> first | (exfalso; simp [isStar] at hs; done) | cases h
  · cases b <;> first | (exfalso; simp [isStar] at hs2; done) | cases h
theorem swst3 {env : PySem.Env} {x y z : Str} {px py pz pt pt2 : Pos} {a b c : Expr} {kt k2 : Nat} (hk : env.scope.kind = .function) (hx : env.scope.names.lookup x = some .local) (hy : env.scope.names.lookup y = some .local) (hz : env.scope.names.lookup z = some .local) (hl : py.line = px.line) (hl2 : pz.line = px.line) (hne : x ≠ y) (hne2 : x ≠ z) (hne3 : y ≠ z)
    (hs : isStar a = false) (hs2 : isStar b = false) (hs3 : isStar c = false) (hf : [a, b, c].all (foldedForSure 8) = false) (hc : [a, b, c].all (constantsAlone 8) = false) : swappedStores [.Tuple [.Name x px, .Name y py, .Name z pz] kt pt] (.Tuple [a, b, c] k2 pt2) env = pure (some [x, y, z]) := by
  have hb : env.blockKind = .function := by unfold Env.blockKind; rw [hk]; rfl
  unfold swappedStores
  simp only [hb, Expr.pos, hf, hc]
  simp [List.filterMap_cons, kind_of hx, kind_of hy, kind_of hz, hl, hl2, Expr.pos, List.eraseDups_cons, hne.symm, hne2.symm, hne3.symm]
  intro h
  rcases h with h | h | h
  · cases a <;> first | (exfalso; simp [isStar] at hs; done) | cases h
  · cases b <;> first | (exfalso; simp [isStar] at hs2; done) | cases h
  · cases c <;> first | (exfalso; simp [isStar] at hs3; done) | cases h
theorem snd_par2 (Ft : Fit I n F X) {i j : Nat} {x y : Str} {px py pt pt2 : Pos} {a b : Expr} {kt k2 : Nat} {cs : Ces} (h : SndA I X F [a, b] cs) (hi : X.N[i]? = some x) (hj : X.N[j]? = some y) (hx : X.env.scope.names.lookup x = some .local) (hy : X.env.scope.names.lookup y = some .local) (hne : x ≠ y)
    (hw : swappedStores [.Tuple [.Name x px, .Name y py] kt pt] (.Tuple [a, b] k2 pt2) X.env = pure (some [x, y])) : SndS I X F (.Assign [.Tuple [.Name x px, .Name y py] kt pt] (.Tuple [a, b] k2 pt2) p) (.par [i, j] cs) := by
  intro W G ρ H σ δ μ D tk w ev P
  simp only [evS] at P
  have hij : i ≠ j := fun z => by subst z; rw [hi] at hj; exact hne (Option.some.inj hj)
  refine ofS (ps_par Ft.calm Ft.nd hi hj hij hx hy seA hw rfl) (bindA h tk Aft.refl w ev (PoS.run ev P) fun ws μ1 P1 vs G1 ρ1 H1 a1 w1 r1 => ?_)
  have P2 := (P1.step a1).ok w1
  split at P2
  · rename_i hl
    have hv := r1.length
    obtain ⟨v, u, rfl⟩ : ∃ v u, vs = [v, u] := by
      match vs, hv.trans hl with
      | [v, u], _ => exact ⟨v, u, rfl⟩
    exact ⟨v, u, rfl, P2 G1 ρ1 H1 _ Aft.refl w1 (setAll_env (js := [i, j]) r1 (ev.mono a1))⟩
  · exact P2.elim
theorem snd_par3 (Ft : Fit I n F X) {i j l : Nat} {x y z : Str} {px py pz pt pt2 : Pos} {a b c : Expr} {kt k2 : Nat} {cs : Ces} (h : SndA I X F [a, b, c] cs) (hi : X.N[i]? = some x) (hj : X.N[j]? = some y) (hk : X.N[l]? = some z) (hx : X.env.scope.names.lookup x = some .local) (hy : X.env.scope.names.lookup y = some .local) (hz : X.env.scope.names.lookup z = some .local) (hne : x ≠ y) (hne2 : x ≠ z) (hne3 : y ≠ z)
    (hw : swappedStores [.Tuple [.Name x px, .Name y py, .Name z pz] kt pt] (.Tuple [a, b, c] k2 pt2) X.env = pure (some [x, y, z])) : SndS I X F (.Assign [.Tuple [.Name x px, .Name y py, .Name z pz] kt pt] (.Tuple [a, b, c] k2 pt2) p) (.par [i, j, l] cs) := by
  intro W G ρ H σ δ μ D tk w ev P
  simp only [evS] at P
  have hij : i ≠ j := fun q => by subst q; rw [hi] at hj; exact hne (Option.some.inj hj)
  have hil : i ≠ l := fun q => by subst q; rw [hi] at hk; exact hne2 (Option.some.inj hk)
  have hjl : j ≠ l := fun q => by subst q; rw [hj] at hk; exact hne3 (Option.some.inj hk)
  refine ofS (ps_par3 Ft.calm Ft.nd hi hj hk hij hil hjl hx hy hz seA hw rfl) (bindA h tk Aft.refl w ev (PoS.run ev P) fun ws μ1 P1 vs G1 ρ1 H1 a1 w1 r1 => ?_)
  have P2 := (P1.step a1).ok w1
  split at P2
  · rename_i hl
    have hv := r1.length
    obtain ⟨v, u, t, rfl⟩ : ∃ v u t, vs = [v, u, t] := by
      match vs, hv.trans hl with
      | [v, u, t], _ => exact ⟨v, u, t, rfl⟩
    exact ⟨v, u, t, rfl, P2 G1 ρ1 H1 _ Aft.refl w1 (setAll_env (js := [i, j, l]) r1 (ev.mono a1))⟩
  · exact P2.elim
theorem PoS.runA {K : PySem.W.Frag} {D : Ends} {G' H' : Hp} {ρ' : List Addr} {o : Out Fl} (A : Aft G ρ H G' ρ' H') (ev : EnvR I K G' ρ' δ σ) (p : PoS I K W D G ρ H (o.run δ)) : Po I K W σ G' ρ' H' o fun f _ _ _ _ => PoS I K W D G ρ H f := by
  cases o with
  | ok f μ => exact fun _ _ _ _ _ => p
  | ex z μ => exact fun cls d G1 ρ1 H1 a' w x => p cls d G1 ρ1 H1 σ (A.trans a') w (ev.mono a') x
  | no => exact p
theorem loop_rd {T : Tg} {wp : List Nat} {ck : Ck} {body : List Stmt} {cb : Css} {its : List Item} {J : It} {D : Ends} (hb : SndSs I X F body cb) (tk : Takes X W) (w : Wd I X.K G ρ μ H) (ev : EnvR I X.K G ρ δ σ) (io : ItOk I X.K G ρ H J its ck)
    (P : PoS I X.K W D G ρ H (loop T wp ck μ.length (fun δ' μ' => evSs F cb δ' μ') its δ μ)) : ∃ Wv : Nat → Nat → L2.St → Hp → Prop, (∃ m, Wv 0 m σ H) ∧ ∀ i m σ H, Wv i m σ H →
  (J.stop i H ∧ D.nx σ H) ∨ (J.go i H ∧ ∃ N : L2.St → Hp → Prop, (∀ σ' H', N σ' H' → ∃ m', m' < m ∧ Wv (i + 1) m' σ' H') ∧ ∀ x H', J.yld i H x H' → gU X.K T x σ H' fun σ2 H2 => wpSs X body { D with nx := N, ct := N, bk := D.nx } σ2 H2) := by
  have hn : ρ.length = μ.length := w.len
  generalize hN : μ.length = nn at P hn
  let Inv' : List Item → L2.St → Hp → Prop := fun ds σ' H' => ∃ G' ρ' δ' μ', Aft G ρ H G' ρ' H' ∧ Wd I X.K G' ρ' μ' H' ∧ EnvR I X.K G' ρ' δ' σ' ∧ PoS I X.K W D G ρ H (loop T wp ck nn (fun δ' μ' => evSs F cb δ' μ') ds δ' μ')
  refine ⟨fun i m σ' H' => i + m = its.length ∧ Inv' (its.drop i) σ' H', ⟨its.length, by omega, G, ρ, δ, μ, Aft.refl, w, ev, P⟩, ?_⟩
  rintro i m σ' H' ⟨hm, G', ρ', δ', μ', A', w', ev', P'⟩
  cases hd : its.drop i with
  | nil =>
    rw [hd] at P'
    simp only [loop] at P'
    have hl : its.length ≤ i := List.drop_eq_nil_iff.mp hd
    have hi : i = its.length := by omega
    subst hi
    split at P'
    · rename_i hc
      exact .inl ⟨io.stop G' ρ' μ' H' A' w' hc, P' G' ρ' H' σ' A' w' ev'⟩
    · exact P'.elim
  | cons d ds =>
    rw [hd] at P'
    have hi : its[i]? = some d := by
      have := congrArg (·[0]?) hd
      simpa using this
    have hds : its.drop (i + 1) = ds := by
      have := congrArg (List.drop 1) hd
      simpa [List.drop_drop, Nat.add_comm] using this
    have hlt : i < its.length := (List.getElem?_eq_some_iff.mp hi).1
    simp only [loop] at P'
    split at P'
    · rename_i hc
      split at P'
      · exact P'.elim
      · rename_i δ2 hbind
        refine .inr ⟨io.go i G' ρ' μ' H' A' w' hc hlt, fun σ3 H3 => Inv' ds σ3 H3, fun σ3 H3 q => ⟨m - 1, by omega, by omega, by rw [hds]; exact q⟩, fun x H2 y => ?_⟩
        obtain ⟨a2, w2, r2⟩ := io.yld i G' ρ' μ' H' x H2 d A' w' hc hi y
        refine bind_run w2 (ev'.mono a2) r2 hbind fun σ2 ev2 _ => ?_
        have A2 := A'.trans a2
        refine hb W G' ρ' H2 σ2 δ2 μ' _ tk w2 ev2 ?_
        revert P'
        cases evSs F cb δ2 μ' with
        | nx δ3 μ3 =>
          intro P' G3 ρ3 H3 σ3 a3 w3 ev3
          obtain ⟨ρ4, b1, b2, b3⟩ := tidy_ok (wp := wp) (A2.trans a3) hn w3 ev3
          exact ⟨G3, ρ4, _, _, b1, b2, b3, P'⟩
        | ct δ3 μ3 =>
          intro P' G3 ρ3 H3 σ3 a3 w3 ev3
          obtain ⟨ρ4, b1, b2, b3⟩ := tidy_ok (wp := wp) (A2.trans a3) hn w3 ev3
          exact ⟨G3, ρ4, _, _, b1, b2, b3, P'⟩
        | bk δ3 μ3 =>
          intro P' G3 ρ3 H3 σ3 a3 w3 ev3
          obtain ⟨ρ4, b1, b2, b3⟩ := tidy_ok (wp := wp) (A2.trans a3) hn w3 ev3
          exact P' G3 ρ4 H3 σ3 b1 b2 b3
        | rt r μ3 => exact fun P' => PoS.step (f := .rt r μ3) A2 P'
        | ex z δ3 μ3 => exact fun P' => PoS.step (f := .ex z δ3 μ3) A2 P'
        | no => exact fun P' => P'
    · exact P'.elim
theorem snd_for (Ft : FitS I n F X) {T : Tg} {wp : List Nat} {ik : Ik} {tg it : Expr} {body : List Stmt} {cb : Css} (hT : okTgS X.N X.env.scope T tg = true) (hset : isSet it = false) (hit : ∃ e, okIt I X ik c it e tg ∧ SndE I X F e (coreOf ik c) ∧ isStar e = false) (hb : SndSs I X F body cb) : SndS I X F (.For tg it body [] p) (.for_ T wp ik c cb) := by
  intro W G ρ H σ δ μ D tk w ev P
  simp only [evS] at P
  obtain ⟨e, hi, he, hs⟩ := hit
  refine ofS (ps_for Ft.po Ft.calm seI (okTgS_pg Ft.nd Ft.fnx Ft.calm hT) seSs (fold_of hset)) ?_
  refine iter_any (g := fun it μ2 => .ok (if it.1.length ≤ big then loop T wp it.2 μ2.length (fun δ' μ' => evSs F cb δ' μ') it.1 (wipeD δ wp) μ2 else .no) μ2) Ft.toFit he hs hi tk Aft.refl w ev (PoS.run ev P) fun its ck μ2 P2 J G1 ρ1 H1 a1 w1 io => ?_
  have P3 := (P2.step a1).ok w1
  split at P3
  · exact loop_rd hb tk w1 ((ev.mono a1).wipeD wp) io P3
  · exact P3.elim
theorem snd_while (Ft : FitS I n F X) {m : Nat} {wp : List Nat} {body : List Stmt} {cb : Css} (he : SndT I X F e c) (hb : SndSs I X F body cb) : SndS I X F (.While e body [] p) (.whl m wp c cb) := by
  intro W G ρ H σ δ μ D tk w ev P
  simp only [evS] at P
  have hn : ρ.length = μ.length := w.len
  generalize hN : μ.length = nn at P hn
  refine ofS (ps_while Ft.po seT seSs) ?_
  let Inv' : Nat → L2.St → Hp → Prop := fun m σ' H' => ∃ G' ρ' δ' μ', Aft G ρ H G' ρ' H' ∧ Wd I X.K G' ρ' μ' H' ∧ EnvR I X.K G' ρ' δ' σ' ∧ PoS I X.K W D G ρ H (wloop wp nn (fun δ' μ' => evT F c δ' μ') (fun δ' μ' => evSs F cb δ' μ') m δ' μ')
  refine ⟨Inv', ⟨m, G, ρ, _, μ, Aft.refl, w, ev.wipeD wp, P⟩, ?_⟩
  rintro m' σ' H' ⟨G', ρ', δ', μ', A', w', ev', P'⟩
  cases m' with
  | zero => simp only [wloop] at P'; exact P'.elim
  | succ m' =>
    simp only [wloop] at P'
    refine bindT he tk Aft.refl w' ev' (PoS.runA A' ev' P') fun k μ1 P1 G1 ρ1 H1 a1 w1 => ?_
    have A1 := A'.trans a1
    have ev1 := ev'.mono a1
    have P2 := (P1.step a1).ok w1
    cases k with
    | false =>
      rw [if_neg (by decide)] at P2 ⊢
      exact P2 G1 ρ1 H1 σ' A1 w1 ev1
    | true =>
      rw [if_pos rfl] at P2 ⊢
      refine ⟨Inv' m', fun σ3 H3 q => ⟨m', by omega, q⟩, ?_⟩
      refine hb W G1 ρ1 H1 σ' δ' μ1 _ tk w1 ev1 ?_
      revert P2
      cases evSs F cb δ' μ1 with
      | nx δ3 μ3 =>
        intro P' G3 ρ3 H3 σ3 a3 w3 ev3
        obtain ⟨ρ4, b1, b2, b3⟩ := tidy_ok (wp := wp) (A1.trans a3) hn w3 ev3
        exact ⟨G3, ρ4, _, _, b1, b2, b3, P'⟩
      | ct δ3 μ3 =>
        intro P' G3 ρ3 H3 σ3 a3 w3 ev3
        obtain ⟨ρ4, b1, b2, b3⟩ := tidy_ok (wp := wp) (A1.trans a3) hn w3 ev3
        exact ⟨G3, ρ4, _, _, b1, b2, b3, P'⟩
      | bk δ3 μ3 =>
        intro P' G3 ρ3 H3 σ3 a3 w3 ev3
        obtain ⟨ρ4, b1, b2, b3⟩ := tidy_ok (wp := wp) (A1.trans a3) hn w3 ev3
        exact P' G3 ρ4 H3 σ3 b1 b2 b3
      | rt r μ3 => exact fun P' => PoS.step (f := .rt r μ3) A1 P'
      | ex z δ3 μ3 => exact fun P' => PoS.step (f := .ex z δ3 μ3) A1 P'
      | no => exact fun P' => P'
end
end EW
set_option maxRecDepth 100000
set_option maxHeartbeats 4000000
namespace EW
open PySem L2 PySem.Spec PyProof.Rows
section
variable {I : Ci} {X : Cx} {n : Nat} {F : Fx} {W : WX} {σ : L2.St} {G G0 : Hp} {ρ ρ0 : List Addr} {H H0 : Hp} {μ : Mu} {δ : EW.Env} {e : Expr} {c : Ce} {p p' : Pos}
/-- what leaves while a dict is locked -/
abbrev lkW (d : Addr) (od : Obj) (u : HO) (W : WX) : WX := fun cls dd σ H => H d = some (.frz od u) ∧ W cls dd σ (upd H d u)
theorem takes_lock {d : Addr} {od : Obj} {u : HO} (hn : ∀ o' u', X.H_0 d ≠ some (.frz o' u')) (tk : Takes X W) : Takes X (lkW d od u W) := by
  intro v s' ⟨a, B, sI, pins, σ, H, cls, dd, e, J, nb, up, sky, na, os, ag, h1, h2⟩
  refine tk v s' ⟨a, B, sI, pins, σ, upd H d u, cls, dd, e, J.unlock h1 hn, nb, up, sky, ?_, os, ag, h2⟩
  rw [upd_ne (fun z => by rw [z, h1] at na; cases na)]; exact na
abbrev lkD (d : Addr) (od : Obj) (u : HO) (D : Ends) : Ends := ⟨fun σ' H' => H' d = some (.frz od u) ∧ D.nx σ' (upd H' d u), fun v H' => H' d = some (.frz od u) ∧ D.rt v (upd H' d u), fun σ' H' => H' d = some (.frz od u) ∧ D.bk σ' (upd H' d u), fun σ' H' => H' d = some (.frz od u) ∧ D.ct σ' (upd H' d u)⟩
theorem PoS.lock {d : Addr} {od : Obj} {kvs : List (Key × V)} {D : Ends} {f : Fl} (g : G d = some (.dK kvs)) (hH : H d = some (.dK kvs)) (P : PoS I X.K W D G ρ H f) : PoS I X.K (lkW d od (.dK kvs) W) (lkD d od (.dK kvs) D) G ρ (upd H d (.frz od (.dK kvs))) f := by
  have fz : ∀ {G2 ρ2 H2}, Aft G ρ (upd H d (.frz od (.dK kvs))) G2 ρ2 H2 → H2 d = some (.frz od (.dK kvs)) := fun a2 => a2.fr d _ upd_same fun _ => ⟨_, g⟩
  cases f with
  | nx δ μ => exact fun G2 ρ2 H2 σ2 a2 w2 ev2 => ⟨fz a2, P G2 ρ2 _ σ2 (a2.unlock hH) (w2.unlock (a2.ex _ _ g)) ev2⟩
  | bk δ μ => exact fun G2 ρ2 H2 σ2 a2 w2 ev2 => ⟨fz a2, P G2 ρ2 _ σ2 (a2.unlock hH) (w2.unlock (a2.ex _ _ g)) ev2⟩
  | ct δ μ => exact fun G2 ρ2 H2 σ2 a2 w2 ev2 => ⟨fz a2, P G2 ρ2 _ σ2 (a2.unlock hH) (w2.unlock (a2.ex _ _ g)) ev2⟩
  | rt r μ => exact fun G2 ρ2 H2 v a2 w2 rr nn => ⟨fz a2, P G2 ρ2 _ v (a2.unlock hH) (w2.unlock (a2.ex _ _ g)) (rr.unlock (a2.ex _ _ g)) nn.unlock⟩
  | ex z δ μ =>
    refine fun cls dd G2 ρ2 H2 σ2 a2 w2 ev2 ⟨x1, x2⟩ => ⟨fz a2, P cls dd G2 ρ2 _ σ2 (a2.unlock hH) (w2.unlock (a2.ex _ _ g)) ev2 ⟨x1, ?_⟩⟩
    rcases x2 with x2 | ⟨a, fs, y1, y2, y3⟩
    · exact .inl x2
    · refine .inr ⟨a, fs, y1, ?_, y3⟩
      rw [upd_ne (fun z => by rw [z, fz a2] at y2; cases y2)]; exact y2
  | no => exact P
theorem snd_forK (Ft : FitS I n F X) {T : Tg} {wp : List Nat} {tg it : Expr} {body : List Stmt} {cb : Css} (hT : okTgS X.N X.env.scope T tg = true) (hset : isSet it = false) (hp : path c = true) (ok : okE I X.N X.env.scope c it = true) (hb : SndSs I X F body cb) : SndS I X F (.For tg it body [] p) (.for_ T wp .keys c cb) := by
  intro W G ρ H σ δ μ D tk w ev P
  simp only [evS] at P
  have P0 := PoS.run ev P
  obtain ⟨G1, μ1, d, kvs, A1, a1, w1, g1, run, P1⟩ := keys_at (g := fun it μ2 => .ok (if it.1.length ≤ big then loop T wp it.2 μ2.length (fun δ' μ' => evSs F cb δ' μ') it.1 (wipeD δ wp) μ2 else .no) μ2) Ft.toFit hp ok Aft.refl w ev P0
  have P3 := (P1.step a1).ok w1
  split at P3
  · rename_i hlen
    have hps := ps_for (pos := p) Ft.po Ft.calm (seI (X := X) (tg := tg) (iter := it)) (okTgS_pg Ft.nd Ft.fnx Ft.calm hT) (seSs (X := X) (st := body)) (fold_of hset)
    rcases w1.sub d _ g1 with hH | ⟨ob, kvs', z, hH⟩
    · intro pins s J
      have hn := J.nofrz hH trivial
      refine ofS (ps_lock hps) ⟨d, .dK kvs, hH, trivial, fun od => ?_⟩ pins s J
      have sm : Same0 H (upd H d (.frz od (.dK kvs))) := fun b o e n => by
        have hb : b ≠ d := fun z => by subst z; rw [hH] at e; cases e; exact n kvs rfl
        rw [upd_ne hb]; exact e
      refine ofI (pi_keys seE) (run _ sm _ ⟨d, od, rfl, .inl ⟨kvs, upd_same, ?_⟩⟩)
      exact loop_rd hb (takes_lock (od := od) hn tk) (w1.lock (od := od) g1) ((ev.mono a1).wipeD wp) (it_keys g1 upd_same) (PoS.lock (od := od) g1 hH P3)
    · cases z
      refine ofS hps (ofI (pi_keys seE) (run H (fun _ _ e _ => e) _ ⟨d, ob, rfl, .inl ⟨kvs, hH, ?_⟩⟩))
      exact loop_rd hb tk w1 ((ev.mono a1).wipeD wp) (it_keys g1 hH) P3
  · exact P3.elim
/-- name = {..} on one line, the name a local -/
theorem ps_setDc {i : Nat} {y : Str} {py : Pos} {kx vx tg iter : Expr} {ifs : List Expr} {scope : Scope} {own : List (Str × Nat)} {pos spos : Pos} {wi : TI} {g : TG} {tt : TT} {tk tv : TE} (hc : X.calm = true) (hN : X.N.Nodup) (hy : X.N[i]? = some y) (hyl : X.env.scope.names.lookup y = some .local)
    (hsw : swapsWith (.DictComp kx vx [⟨tg, iter, ifs, 0⟩] scope pos) (some (.Name y py)) spos.line X.env = pure true) (hi : PI X tg iter wi) (ok : BlkOk X.N X.env.scope scope own)
    (hg : ∀ (s : Shared) (H : Hp) (C : Addr) (cl : List (Str × Addr)) (fp : List Addr), PG (X.blk s H scope (compEnvC scope cl C X.env) fp) tg g) (ht : ∀ (s : Shared) (H : Hp) (C : Addr) (cl : List (Str × Addr)) (fp : List Addr), PTs (X.blk s H scope (compEnvC scope cl C X.env) fp) ifs tt)
    (hk : ∀ (s : Shared) (H : Hp) (C : Addr) (cl : List (Str × Addr)) (fp : List Addr), PE (X.blk s H scope (compEnvC scope cl C X.env) fp) kx tk)
    (he : ∀ (s : Shared) (H : Hp) (C : Addr) (cl : List (Str × Addr)) (fp : List Addr), PE (X.blk s H scope (compEnvC scope cl C X.env) fp) vx tv) (hs : ∀ x, foldedSetIterable iter X.env x = pure x) :
    PS X (.Assign [.Name y py] (.DictComp kx vx [⟨tg, iter, ifs, 0⟩] scope pos) spos) (tAsg (tDc wi g tt tk tv (own.map (·.2))) (gName i)) := by
  refine ⟨fun pins s σ H D I h => ?_⟩
  rw [exec_Assign_Name_used _ _ _ _ hsw]
  refine wpAny_bind (wpAny_standAt (wpAny_bind ?_))
  show wpAny _ X.A (do let _ ← comprehension (.DictComp kx vx [⟨tg, iter, ifs, 0⟩] scope pos) scope X.env (firstIterPos [⟨tg, iter, ifs, 0⟩] pos) newDict false (eval iter X.env) (some (assign (.Name y py) X.env))) _ _ s
  have h : tDc wi g tt tk tv (own.map (·.2)) σ H (fun x H1 => gName i x σ H1 D.nx) := h
  refine wpAny_bind (thn (dc_core (Qf := fun _ s' => SP X pins D .next s') hc hN I hi ok hg ht hk he hs h fun L C s' m H' I' q hn f => ?_) fun _ s' hq => wpAny_pure (wpAny_pure hq))
  show wpAny _ _ (assign (.Name y py) X.env (.ref L)) _ _ _
  refine wpAny_assign_Name (store_ok2 (v := V.ref L) I' hN hy (.inl hyl) rfl (fun s2 I2 ⟨a, sb, ha⟩ => ?_) (.inr hyl))
  obtain ⟨f0, f1, f2, f3, f4, f5⟩ := f
  have haC : C ≠ a := by
    rcases ha with z | z
    · rw [z]; exact f1
    · exact fun e => f4 y a z e.symm
  refine ⟨m, hn.sameBut sb haC, fun h3 sb3 => ?_⟩
  exact ⟨_, H', I2.turned (t' := s2.toks) (fun b o hb e => (sb3.2 b hb).trans e) f0 f1 f3 f4 f5, q⟩
theorem sw_trueD {kx vx : Expr} {gs : List Comprehension} {scope : Scope} {pos py : Pos} {y : Str} {l : Nat} {env : PySem.Env} (hk : env.scope.kind = .function) (hy : env.scope.names.lookup y = some .local) (hl : (py.line == pos.line) = true)
    (ha : (scope.names.any fun (n, k) => n == y && (k == .local || k == .cell)) = false) : swapsWith (.DictComp kx vx gs scope pos) (some (.Name y py)) l env = pure true := by
  have ky : env.kindOf y = some .local := hy
  have hb : env.blockKind = .function := by unfold Env.blockKind; rw [hk]; rfl
  unfold swapsWith
  simp only [hb, ky, ha, Expr.pos, hl]
  rfl
end
end EW
set_option maxRecDepth 100000
set_option maxHeartbeats 8000000
namespace EW
open PySem L2 PySem.Spec PyProof.Rows
/-- the value of a comprehension goes straight into the name -/
def swL (sc : Scope) (x : Str) (px : Pos) : Expr → Bool
  | .ListComp _ _ s p => decide (sc.kind = .function) && (px.line == p.line) && !(s.names.any fun (n, k) => n == x && (k == .local || k == .cell))
  | .DictComp _ _ _ s p => decide (sc.kind = .function) && (px.line == p.line) && !(s.names.any fun (n, k) => n == x && (k == .local || k == .cell))
  | _ => false
def okPar (N : List Str) (sc : Scope) : List Nat → List Expr → List Expr → Bool
  | [i, j], [.Name x px, .Name y py], [a, b] => decide (sc.kind = .function) && decide (N[i]? = some x) && decide (N[j]? = some y) && loc sc x && loc sc y && decide (x ≠ y) && decide (py.line = px.line) && !([a, b].all (foldedForSure 8)) && !([a, b].all (constantsAlone 8))
  | [i, j, l], [.Name x px, .Name y py, .Name z pz], [a, b, c] => decide (sc.kind = .function) && decide (N[i]? = some x) && decide (N[j]? = some y) && decide (N[l]? = some z) && loc sc x && loc sc y && loc sc z && decide (x ≠ y) && decide (x ≠ z) && decide (y ≠ z) && decide (py.line = px.line) && decide (pz.line = px.line) && !([a, b, c].all (foldedForSure 8)) && !([a, b, c].all (constantsAlone 8))
  | _, _, _ => false
def okItr (I : Ci) (N : List Str) (sc : Scope) (ik : Ik) (a : Ce) (it tg : Expr) : Bool := match ik, it with
  | .seq, it => okE I N sc a it
  | .rng, .Call (.Name x _) [e] [] _ => decide (x = ("range" : Str)) && glb sc x && okE I N sc a e
  | .enum, .Call (.Name x _) [e] [] _ => decide (x = ("enumerate" : Str)) && glb sc x && okE I N sc a e && isTup tg
  | .keys, it => okE I N sc a it && path a
  | .own, it => (match a with | .att b k => I.it k && okE I N sc b it && !isStar it | _ => false)
  | _, _ => false
def okSet (I : Ci) (N : List Str) (sc : Scope) (i : Nat) (c : Ce) (ts : List Expr) (e : Expr) : Bool := match ts with
  | [t] => (match t with | .Name x px => decide (N[i]? = some x) && lcc sc x && okE I N sc c e && (swL sc x px e || !isComp e || !loc sc x) | _ => false)
  | _ => false
def okParS (I : Ci) (N : List Str) (sc : Scope) (is : List Nat) (cs : Ces) (ts : List Expr) (e : Expr) : Bool := match ts with
  | [t] => (match t, e with | .Tuple ts _ _, .Tuple vs _ _ => okPar N sc is ts vs && okEs I N sc cs vs | _, _ => false)
  | _ => false
def okUnp (I : Ci) (N : List Str) (sc : Scope) (T : Tg) (c : Ce) (ts : List Expr) (e : Expr) : Bool := match ts with
  | [t] => isTup t && okTgS N sc T t && okE I N sc c e && noSw sc t e
  | _ => false
def okPut (I : Ci) (N : List Str) (sc : Scope) (co ci c : Ce) (ts : List Expr) (e : Expr) : Bool := match ts with
  | [t] => (match t with | .Subscript o i _ => okE I N sc co o && okE I N sc ci i && okE I N sc c e | _ => false)
  | _ => false
def okFld (I : Ci) (N : List Str) (sc : Scope) (co : Ce) (k : Nat) (c : Ce) (ts : List Expr) (e : Expr) : Bool := match ts with
  | [t] => (match t with | .Attribute o x _ => decide (I.an k = x) && okE I N sc co o && okE I N sc c e | _ => false)
  | _ => false
mutual
def okS (I : Ci) (N : List Str) (sc : Scope) : Cs → Stmt → Bool
  | .set i c, .Assign ts e _ => okSet I N sc i c ts e
  | .par is cs, .Assign ts e _ => okParS I N sc is cs ts e
  | .unp T c, .Assign ts e _ => okUnp I N sc T c ts e
  | .put co ci c, .Assign ts e _ => okPut I N sc co ci c ts e
  | .fld co k c, .Assign ts e _ => okFld I N sc co k c ts e
  | .ex c, .Expr e _ => okE I N sc c e && !isComp e
  | .ret c, .Return r _ => (match r with | some e => okE I N sc c e | none => false)
  | .ret0, .Return r _ => r.isNone
  | .ife c a b, .If e l r _ => okE I N sc c e && okSs I N sc a l && okSs I N sc b r
  | .for_ T _ ik a body, .For tg it l o _ => o.isEmpty && okTgS N sc T tg && okItr I N sc ik a it tg && okSs I N sc body l
  | .whl _ _ c body, .While e l o _ => o.isEmpty && okE I N sc c e && okSs I N sc body l
  | .brk, .Break _ => true
  | .cont, .Continue _ => true
  | .pass, .Pass _ => true
  | .never, _ => true
  | _, _ => false
def okSs (I : Ci) (N : List Str) (sc : Scope) : Css → List Stmt → Bool
  | .nil, [] => true
  | .cons (.ice _ _) r, l => okSs I N sc r l
  | .cons s r, st :: l => okS I N sc s st && okSs I N sc r l
  | _, _ => false
end
section
variable {I : Ci} {X : Cx} {n : Nat} {F : Fx} {W : WX} {σ : L2.St} {G G0 : Hp} {ρ ρ0 : List Addr} {H H0 : Hp} {μ : Mu} {δ : EW.Env} {e : Expr} {c : Ce} {p p' : Pos}
theorem swap_cell {e : Expr} {x : Str} {px : Pos} {l : Nat} {env : PySem.Env} (h : loc env.scope x = false) : swapsWith e (some (.Name x px)) l env = pure false := by
  have : (env.kindOf x == some NameKind.local) = false := by
    show (env.scope.names.lookup x == some NameKind.local) = false
    unfold loc at h
    cases q : env.scope.names.lookup x with
    | none => rfl
    | some k => rw [q] at h; cases k <;> first | rfl | simp at h
  unfold swapsWith
  cases e <;> first | rfl | (simp only [this, Bool.and_false, Bool.false_and])
theorem sndN_plain (Ft : Fit I n F X) (fx : ∀ x, X.fn x = true) {i : Nat} {x : Str} {px : Pos} (hi : X.N[i]? = some x) (hx : lcc X.env.scope x = true) (h : SndE I X F e c) (hs : isComp e = false ∨ loc X.env.scope x = false) : SndN I X F (.Assign [.Name x px] e p) i c := by
  intro W G ρ H σ δ μ D tk w ev P
  exact ofS (ps_set Ft.nd hi (lcc_of hx) seE (hs.elim swap_of swap_cell) (.inl (fx x))) (h W G ρ H σ δ μ _ tk w ev P)
theorem setLc_rd (Ft : Fit I n F X) {T : Tg} {own : List Nat} {tg it elt : Expr} {ifs : List Expr} {scope : Scope} {tt : TT} {te : TE} {D : Ends} {i : Nat} {x : Str} {px sp : Pos} (hi : X.N[i]? = some x) (hx : loc X.env.scope x = true) (sw : swL X.env.scope x px (.ListComp elt [⟨tg, it, ifs, 0⟩] scope p) = true)
    (hbk : blkC X.N X.env.scope scope (ownP X.N own) = true) (hT : okTg X.N (relS scope X.env.scope) T tg = true) (hset : isSet it = false)
    (ht : ∀ (s : Shared) (H : Hp) (C : Addr) (cl : List (Str × Addr)) (fp : List Addr), PTs (blk X scope s H C cl fp) ifs tt) (he : ∀ (s : Shared) (H : Hp) (C : Addr) (cl : List (Str × Addr)) (fp : List Addr), PE (blk X scope s H C cl fp) elt te)
    (h : tLc (wpI X tg it) (gU X.K T) tt te own σ H (fun v H' => D.nx (σ.set i (some v)) H') ∨ tLockE (tLc (wpI X tg it) (gU X.K T) tt te own) σ H fun v H' => D.nx (σ.set i (some v)) H') : wpS X (.Assign [.Name x px] (.ListComp elt [⟨tg, it, ifs, 0⟩] scope p) sp) D σ H := by
  have hpg : ∀ (s : Shared) (H : Hp) (C : Addr) (cl : List (Str × Addr)) (fp : List Addr), PG (blk X scope s H C cl fp) tg (gU X.K T) := fun s H C cl fp => okTg_pg (X := blk X scope s H C cl fp) Ft.nd Ft.calm hT
  have hl := loc_of hx
  simp only [swL, Bool.and_eq_true, decide_eq_true_eq, Bool.not_eq_true'] at sw
  have P0 : PS X (.Assign [.Name x px] (.ListComp elt [⟨tg, it, ifs, 0⟩] scope p) sp) (tAsg (tLc (wpI X tg it) (gU X.K T) tt te own) (gName i)) := by
    have := ps_setLc (pos := p) (spos := sp) (py := px) Ft.calm Ft.nd hi hl (sw_true sw.1.1 hl sw.1.2 sw.2) seI (blkOk_by hbk) hpg ht he (fold_of hset)
    rw [own_map] at this
    exact this
  rcases h with h | h
  · exact ofS P0 h
  · exact ofS (ps_lock P0) h
theorem setDc_rd (Ft : Fit I n F X) {T : Tg} {own : List Nat} {tg it kx vx : Expr} {ifs : List Expr} {scope : Scope} {tt : TT} {tk1 tv : TE} {D : Ends} {i : Nat} {x : Str} {px sp : Pos} (hi : X.N[i]? = some x) (hx : loc X.env.scope x = true) (sw : swL X.env.scope x px (.DictComp kx vx [⟨tg, it, ifs, 0⟩] scope p) = true)
    (hbk : blkC X.N X.env.scope scope (ownP X.N own) = true) (hT : okTg X.N (relS scope X.env.scope) T tg = true) (hset : isSet it = false)
    (ht : ∀ (s : Shared) (H : Hp) (C : Addr) (cl : List (Str × Addr)) (fp : List Addr), PTs (blk X scope s H C cl fp) ifs tt) (hk : ∀ (s : Shared) (H : Hp) (C : Addr) (cl : List (Str × Addr)) (fp : List Addr), PE (blk X scope s H C cl fp) kx tk1) (he : ∀ (s : Shared) (H : Hp) (C : Addr) (cl : List (Str × Addr)) (fp : List Addr), PE (blk X scope s H C cl fp) vx tv)
    (h : tDc (wpI X tg it) (gU X.K T) tt tk1 tv own σ H (fun v H' => D.nx (σ.set i (some v)) H') ∨ tLockE (tDc (wpI X tg it) (gU X.K T) tt tk1 tv own) σ H fun v H' => D.nx (σ.set i (some v)) H') : wpS X (.Assign [.Name x px] (.DictComp kx vx [⟨tg, it, ifs, 0⟩] scope p) sp) D σ H := by
  have hpg : ∀ (s : Shared) (H : Hp) (C : Addr) (cl : List (Str × Addr)) (fp : List Addr), PG (blk X scope s H C cl fp) tg (gU X.K T) := fun s H C cl fp => okTg_pg (X := blk X scope s H C cl fp) Ft.nd Ft.calm hT
  have hl := loc_of hx
  simp only [swL, Bool.and_eq_true, decide_eq_true_eq, Bool.not_eq_true'] at sw
  have P0 : PS X (.Assign [.Name x px] (.DictComp kx vx [⟨tg, it, ifs, 0⟩] scope p) sp) (tAsg (tDc (wpI X tg it) (gU X.K T) tt tk1 tv own) (gName i)) := by
    have := ps_setDc (pos := p) (spos := sp) (py := px) Ft.calm Ft.nd hi hl (sw_trueD sw.1.1 hl sw.1.2 sw.2) seI (blkOk_by hbk) hpg ht hk he (fold_of hset)
    rw [own_map] at this
    exact this
  rcases h with h | h
  · exact ofS P0 h
  · exact ofS (ps_lock P0) h
theorem itr_of (Ft : Fit I n F X) {ik : Ik} {a : Ce} {it tg : Expr} (h : okItr I X.N X.env.scope ik a it tg = true) : ((∃ e, okIt I X ik a it e tg ∧ SndE I X F e (coreOf ik a) ∧ isStar e = false) ∨ (ik = .keys ∧ path a = true ∧ okE I X.N X.env.scope a it = true)) ∧ isSet it = false := by
  unfold okItr at h
  split at h
  · exact ⟨.inl ⟨_, .inl ⟨rfl, rfl⟩, sndE a Ft h, (okE_star h).1⟩, (okE_star h).2.1⟩
  · simp only [Bool.and_eq_true, decide_eq_true_eq] at h
    obtain ⟨⟨q1, q2⟩, q3⟩ := h
    subst q1
    exact ⟨.inl ⟨_, .inr (.inl ⟨rfl, _, _, rfl, glb_of q2⟩), sndE a Ft q3, (okE_star q3).1⟩, rfl⟩
  · simp only [Bool.and_eq_true, decide_eq_true_eq] at h
    obtain ⟨⟨⟨q1, q2⟩, q3⟩, q4⟩ := h
    subst q1
    refine ⟨.inl ⟨_, .inr (.inr (.inl ⟨rfl, ⟨_, _, rfl⟩, glb_of q2, ?_⟩)), sndE a Ft q3, (okE_star q3).1⟩, rfl⟩
    cases tg <;> first | exact ⟨_, _, _, rfl⟩ | cases q4
  · rw [Bool.and_eq_true] at h
    exact ⟨.inr ⟨rfl, h.2, h.1⟩, (okE_star h.1).2.1⟩
  · split at h
    · simp only [Bool.and_eq_true] at h
      exact ⟨.inl ⟨_, .inr (.inr (.inr ⟨rfl, rfl, _, _, rfl, h.1.1⟩)), sndE _ Ft h.1.2, (okE_star h.1.2).1⟩, (okE_star h.1.2).2.1⟩
    · cases h
  · cases h
theorem lcOk (Ft : Fit I n F X) {T : Tg} {own : List Nat} {ik : Ik} {a elt : Ce} {elt' tg it : Expr} {scope : Scope} (ok : okE I X.N X.env.scope (.lc T own ik a elt) (.ListComp elt' [⟨tg, it, [], 0⟩] scope p) = true) :
    blkC X.N X.env.scope scope (ownP X.N own) = true ∧ okTg X.N (relS scope X.env.scope) T tg = true ∧ isSet it = false ∧ (∀ j ∈ T.slots, j ∈ own) ∧
    ((∃ e, okIt I X ik a it e tg ∧ SndE I X F e (coreOf ik a) ∧ isStar e = false) ∨ (ik = .keys ∧ path a = true ∧ okE I X.N X.env.scope a it = true)) ∧ ∀ s H C cl fp, SndE I (blk X scope s H C cl fp) F elt' elt := by
  unfold okE at ok; simp only [Bool.and_eq_true] at ok
  obtain ⟨⟨⟨⟨h1, h2⟩, h3⟩, h4⟩, h5⟩ := ok
  refine ⟨h3, h2, ?_, fun j hj => of_decide_eq_true (List.all_eq_true.mp h4 j hj), ?_, fun s H C cl fp => sndE elt (fitB Ft) h5⟩
  · split at h1
    · exact (okE_star h1).2.1
    · rw [Bool.and_eq_true] at h1; exact (okE_star h1.1).2.1
    · split at h1
      · simp only [Bool.and_eq_true] at h1; exact (okE_star h1.1.2).2.1
      · cases h1
    · rfl
    · rfl
    · cases h1
  · split at h1
    · exact .inl ⟨_, .inl ⟨rfl, rfl⟩, sndE a Ft h1, (okE_star h1).1⟩
    · rw [Bool.and_eq_true] at h1; exact .inr ⟨rfl, h1.2, h1.1⟩
    · split at h1
      · simp only [Bool.and_eq_true] at h1
        exact .inl ⟨_, .inr (.inr (.inr ⟨rfl, rfl, _, _, rfl, h1.1.1⟩)), sndE _ Ft h1.1.2, (okE_star h1.1.2).1⟩
      · cases h1
    · simp only [Bool.and_eq_true, decide_eq_true_eq] at h1
      obtain ⟨⟨q1, q2⟩, q3⟩ := h1
      subst q1
      exact .inl ⟨_, .inr (.inl ⟨rfl, _, _, rfl, glb_of q2⟩), sndE a Ft q3, (okE_star q3).1⟩
    · simp only [Bool.and_eq_true, decide_eq_true_eq] at h1
      obtain ⟨⟨⟨q1, q2⟩, q3⟩, q4⟩ := h1
      subst q1
      refine .inl ⟨_, .inr (.inr (.inl ⟨rfl, ⟨_, _, rfl⟩, glb_of q2, ?_⟩)), sndE a Ft q3, (okE_star q3).1⟩
      cases T with
      | nm j => cases q4
      | tp js => cases tg <;> simp [okTg] at h2 ⊢
    · cases h1
theorem lcIfOk (Ft : Fit I n F X) {T : Tg} {own : List Nat} {ik : Ik} {a cnd elt : Ce} {elt' tg it ec : Expr} {scope : Scope} (ok : okE I X.N X.env.scope (.lcIf T own ik a cnd elt) (.ListComp elt' [⟨tg, it, [ec], 0⟩] scope p) = true) :
    blkC X.N X.env.scope scope (ownP X.N own) = true ∧ okTg X.N (relS scope X.env.scope) T tg = true ∧ isSet it = false ∧ (∀ j ∈ T.slots, j ∈ own) ∧
    ((∃ e, okIt I X ik a it e tg ∧ SndE I X F e (coreOf ik a) ∧ isStar e = false) ∨ (ik = .keys ∧ path a = true ∧ okE I X.N X.env.scope a it = true)) ∧ (∀ s H C cl fp, SndE I (blk X scope s H C cl fp) F elt' elt) ∧ ∀ s H C cl fp, SndT I (blk X scope s H C cl fp) F ec cnd := by
  unfold okE at ok; simp only [Bool.and_eq_true] at ok
  obtain ⟨⟨⟨⟨⟨h1, h2⟩, h3⟩, h4⟩, h5⟩, h6⟩ := ok
  refine ⟨h3, h2, ?_, fun j hj => of_decide_eq_true (List.all_eq_true.mp h4 j hj), ?_, fun s H C cl fp => sndE elt (fitB Ft) h5, fun s H C cl fp => sndT cnd (fitB Ft) h6⟩
  · split at h1
    · exact (okE_star h1).2.1
    · rw [Bool.and_eq_true] at h1; exact (okE_star h1.1).2.1
    · split at h1
      · simp only [Bool.and_eq_true] at h1; exact (okE_star h1.1.2).2.1
      · cases h1
    · rfl
    · rfl
    · cases h1
  · split at h1
    · exact .inl ⟨_, .inl ⟨rfl, rfl⟩, sndE a Ft h1, (okE_star h1).1⟩
    · rw [Bool.and_eq_true] at h1; exact .inr ⟨rfl, h1.2, h1.1⟩
    · split at h1
      · simp only [Bool.and_eq_true] at h1
        exact .inl ⟨_, .inr (.inr (.inr ⟨rfl, rfl, _, _, rfl, h1.1.1⟩)), sndE _ Ft h1.1.2, (okE_star h1.1.2).1⟩
      · cases h1
    · simp only [Bool.and_eq_true, decide_eq_true_eq] at h1
      obtain ⟨⟨q1, q2⟩, q3⟩ := h1
      subst q1
      exact .inl ⟨_, .inr (.inl ⟨rfl, _, _, rfl, glb_of q2⟩), sndE a Ft q3, (okE_star q3).1⟩
    · simp only [Bool.and_eq_true, decide_eq_true_eq] at h1
      obtain ⟨⟨⟨q1, q2⟩, q3⟩, q4⟩ := h1
      subst q1
      refine .inl ⟨_, .inr (.inr (.inl ⟨rfl, ⟨_, _, rfl⟩, glb_of q2, ?_⟩)), sndE a Ft q3, (okE_star q3).1⟩
      cases T with
      | nm j => cases q4
      | tp js => cases tg <;> simp [okTg] at h2 ⊢
    · cases h1
theorem sndN_lc (Ft : Fit I n F X) {T : Tg} {own : List Nat} {ik : Ik} {a elt : Ce} {elt' : Expr} {gs : List Comprehension} {scope : Scope} {i : Nat} {x : Str} {px sp : Pos} (hi : X.N[i]? = some x) (hx : loc X.env.scope x = true) (sw : swL X.env.scope x px (.ListComp elt' gs scope p) = true)
    (ok : okE I X.N X.env.scope (.lc T own ik a elt) (.ListComp elt' gs scope p) = true) : SndN I X F (.Assign [.Name x px] (.ListComp elt' gs scope p) sp) i (.lc T own ik a elt) := by
  obtain ⟨tg, it, rfl⟩ := lc_shape ok
  obtain ⟨hbk, hT, hset, hT', hit, he⟩ := lcOk Ft ok
  intro W G ρ H σ δ μ D tk w ev P
  refine setLc_rd Ft hi hx sw hbk hT hset (fun _ _ _ _ _ => pts_nil) (fun _ _ _ _ _ => seB) ?_
  simp only [evE] at P
  rcases hit with ⟨e, hi, ha, hs⟩ | ⟨rfl, hp, ok⟩
  · left
    refine iter_any Ft ha hs hi tk Aft.refl w ev P fun its c μ2 P2 J G1 ρ1 H1 a1 w1 io => ?_
    dsimp only at P2
    split at P2
    · rename_i hl
      exact lc_loop hT' (body1 he) a1 w1 (ev.mono a1) io hl P2
    · exact P2.elim
  · exact lcK_rd Ft hp ok hT' (body1 he) Aft.refl w ev P
theorem sndN_lcIf (Ft : Fit I n F X) {T : Tg} {own : List Nat} {ik : Ik} {a cnd elt : Ce} {elt' : Expr} {gs : List Comprehension} {scope : Scope} {i : Nat} {x : Str} {px sp : Pos} (hi : X.N[i]? = some x) (hx : loc X.env.scope x = true) (sw : swL X.env.scope x px (.ListComp elt' gs scope p) = true)
    (ok : okE I X.N X.env.scope (.lcIf T own ik a cnd elt) (.ListComp elt' gs scope p) = true) : SndN I X F (.Assign [.Name x px] (.ListComp elt' gs scope p) sp) i (.lcIf T own ik a cnd elt) := by
  obtain ⟨tg, it, ec, rfl⟩ := lcIf_shape ok
  obtain ⟨hbk, hT, hset, hT', hit, he, hcn⟩ := lcIfOk Ft ok
  intro W G ρ H σ δ μ D tk w ev P
  refine setLc_rd Ft hi hx sw hbk hT hset (fun _ _ _ _ _ => seTB) (fun _ _ _ _ _ => seB) ?_
  simp only [evE] at P
  rcases hit with ⟨e, hi, ha, hs⟩ | ⟨rfl, hp, ok⟩
  · left
    refine iter_any Ft ha hs hi tk Aft.refl w ev P fun its c μ2 P2 J G1 ρ1 H1 a1 w1 io => ?_
    dsimp only at P2
    split at P2
    · rename_i hl
      exact lc_loop hT' (body2 he hcn) a1 w1 (ev.mono a1) io hl P2
    · exact P2.elim
  · exact lcK_rd Ft hp ok hT' (body2 he hcn) Aft.refl w ev P
theorem dcOk (Ft : Fit I n F X) {T : Tg} {own : List Nat} {ik : Ik} {a k v : Ce} {k' v' tg it : Expr} {scope : Scope} (ok : okE I X.N X.env.scope (.dc T own ik a k v) (.DictComp k' v' [⟨tg, it, [], 0⟩] scope p) = true) :
    blkC X.N X.env.scope scope (ownP X.N own) = true ∧ okTg X.N (relS scope X.env.scope) T tg = true ∧ isSet it = false ∧ (∀ j ∈ T.slots, j ∈ own) ∧
    ((∃ e, okIt I X ik a it e tg ∧ SndE I X F e (coreOf ik a) ∧ isStar e = false) ∨ (ik = .keys ∧ path a = true ∧ okE I X.N X.env.scope a it = true)) ∧ (∀ s H C cl fp, SndE I (blk X scope s H C cl fp) F k' k) ∧ ∀ s H C cl fp, SndE I (blk X scope s H C cl fp) F v' v := by
  unfold okE at ok; simp only [Bool.and_eq_true] at ok
  obtain ⟨⟨⟨⟨⟨h1, h2⟩, h3⟩, h4⟩, h5⟩, h6⟩ := ok
  refine ⟨h3, h2, ?_, fun j hj => of_decide_eq_true (List.all_eq_true.mp h4 j hj), ?_, fun s H C cl fp => sndE k (fitB Ft) h5, fun s H C cl fp => sndE v (fitB Ft) h6⟩
  · split at h1
    · exact (okE_star h1).2.1
    · rw [Bool.and_eq_true] at h1; exact (okE_star h1.1).2.1
    · split at h1
      · simp only [Bool.and_eq_true] at h1; exact (okE_star h1.1.2).2.1
      · cases h1
    · rfl
    · rfl
    · cases h1
  · split at h1
    · exact .inl ⟨_, .inl ⟨rfl, rfl⟩, sndE a Ft h1, (okE_star h1).1⟩
    · rw [Bool.and_eq_true] at h1; exact .inr ⟨rfl, h1.2, h1.1⟩
    · split at h1
      · simp only [Bool.and_eq_true] at h1
        exact .inl ⟨_, .inr (.inr (.inr ⟨rfl, rfl, _, _, rfl, h1.1.1⟩)), sndE _ Ft h1.1.2, (okE_star h1.1.2).1⟩
      · cases h1
    · simp only [Bool.and_eq_true, decide_eq_true_eq] at h1
      obtain ⟨⟨q1, q2⟩, q3⟩ := h1
      subst q1
      exact .inl ⟨_, .inr (.inl ⟨rfl, _, _, rfl, glb_of q2⟩), sndE a Ft q3, (okE_star q3).1⟩
    · simp only [Bool.and_eq_true, decide_eq_true_eq] at h1
      obtain ⟨⟨⟨q1, q2⟩, q3⟩, q4⟩ := h1
      subst q1
      refine .inl ⟨_, .inr (.inr (.inl ⟨rfl, ⟨_, _, rfl⟩, glb_of q2, ?_⟩)), sndE a Ft q3, (okE_star q3).1⟩
      cases T with
      | nm j => cases q4
      | tp js => cases tg <;> simp [okTg] at h2 ⊢
    · cases h1
theorem dcIfOk (Ft : Fit I n F X) {T : Tg} {own : List Nat} {ik : Ik} {a cnd k v : Ce} {k' v' tg it ec : Expr} {scope : Scope} (ok : okE I X.N X.env.scope (.dcIf T own ik a cnd k v) (.DictComp k' v' [⟨tg, it, [ec], 0⟩] scope p) = true) :
    blkC X.N X.env.scope scope (ownP X.N own) = true ∧ okTg X.N (relS scope X.env.scope) T tg = true ∧ isSet it = false ∧ (∀ j ∈ T.slots, j ∈ own) ∧
    ((∃ e, okIt I X ik a it e tg ∧ SndE I X F e (coreOf ik a) ∧ isStar e = false) ∨ (ik = .keys ∧ path a = true ∧ okE I X.N X.env.scope a it = true)) ∧ (∀ s H C cl fp, SndE I (blk X scope s H C cl fp) F k' k) ∧ (∀ s H C cl fp, SndE I (blk X scope s H C cl fp) F v' v) ∧ ∀ s H C cl fp, SndT I (blk X scope s H C cl fp) F ec cnd := by
  unfold okE at ok; simp only [Bool.and_eq_true] at ok
  obtain ⟨⟨⟨⟨⟨⟨h1, h2⟩, h3⟩, h4⟩, h5⟩, h6⟩, h7⟩ := ok
  refine ⟨h3, h2, ?_, fun j hj => of_decide_eq_true (List.all_eq_true.mp h4 j hj), ?_, fun s H C cl fp => sndE k (fitB Ft) h5, fun s H C cl fp => sndE v (fitB Ft) h6, fun s H C cl fp => sndT cnd (fitB Ft) h7⟩
  · split at h1
    · exact (okE_star h1).2.1
    · rw [Bool.and_eq_true] at h1; exact (okE_star h1.1).2.1
    · split at h1
      · simp only [Bool.and_eq_true] at h1; exact (okE_star h1.1.2).2.1
      · cases h1
    · rfl
    · rfl
    · cases h1
  · split at h1
    · exact .inl ⟨_, .inl ⟨rfl, rfl⟩, sndE a Ft h1, (okE_star h1).1⟩
    · rw [Bool.and_eq_true] at h1; exact .inr ⟨rfl, h1.2, h1.1⟩
    · split at h1
      · simp only [Bool.and_eq_true] at h1
        exact .inl ⟨_, .inr (.inr (.inr ⟨rfl, rfl, _, _, rfl, h1.1.1⟩)), sndE _ Ft h1.1.2, (okE_star h1.1.2).1⟩
      · cases h1
    · simp only [Bool.and_eq_true, decide_eq_true_eq] at h1
      obtain ⟨⟨q1, q2⟩, q3⟩ := h1
      subst q1
      exact .inl ⟨_, .inr (.inl ⟨rfl, _, _, rfl, glb_of q2⟩), sndE a Ft q3, (okE_star q3).1⟩
    · simp only [Bool.and_eq_true, decide_eq_true_eq] at h1
      obtain ⟨⟨⟨q1, q2⟩, q3⟩, q4⟩ := h1
      subst q1
      refine .inl ⟨_, .inr (.inr (.inl ⟨rfl, ⟨_, _, rfl⟩, glb_of q2, ?_⟩)), sndE a Ft q3, (okE_star q3).1⟩
      cases T with
      | nm j => cases q4
      | tp js => cases tg <;> simp [okTg] at h2 ⊢
    · cases h1
theorem sndN_dc (Ft : Fit I n F X) {T : Tg} {own : List Nat} {ik : Ik} {a k v : Ce} {k' v' : Expr} {gs : List Comprehension} {scope : Scope} {i : Nat} {x : Str} {px sp : Pos} (hi : X.N[i]? = some x) (hx : loc X.env.scope x = true) (sw : swL X.env.scope x px (.DictComp k' v' gs scope p) = true)
    (ok : okE I X.N X.env.scope (.dc T own ik a k v) (.DictComp k' v' gs scope p) = true) : SndN I X F (.Assign [.Name x px] (.DictComp k' v' gs scope p) sp) i (.dc T own ik a k v) := by
  obtain ⟨tg, it, rfl⟩ := dc_shape ok
  obtain ⟨hbk, hT, hset, hT', hit, hk, he⟩ := dcOk Ft ok
  intro W G ρ H σ δ μ D tk w ev P
  refine setDc_rd Ft hi hx sw hbk hT hset (fun _ _ _ _ _ => pts_nil) (fun _ _ _ _ _ => seB) (fun _ _ _ _ _ => seB) ?_
  simp only [evE] at P
  rcases hit with ⟨e, hi, ha, hs⟩ | ⟨rfl, hp, ok⟩
  · left
    refine iter_any Ft ha hs hi tk Aft.refl w ev P fun its c μ2 P2 J G1 ρ1 H1 a1 w1 io => ?_
    dsimp only at P2
    split at P2
    · rename_i hl
      exact dc_loop hT' (bodyD1 hk he) a1 w1 (ev.mono a1) io hl P2
    · exact P2.elim
  · exact dcK_rd Ft hp ok hT' (bodyD1 hk he) Aft.refl w ev P
theorem sndN_dcIf (Ft : Fit I n F X) {T : Tg} {own : List Nat} {ik : Ik} {a cnd k v : Ce} {k' v' : Expr} {gs : List Comprehension} {scope : Scope} {i : Nat} {x : Str} {px sp : Pos} (hi : X.N[i]? = some x) (hx : loc X.env.scope x = true) (sw : swL X.env.scope x px (.DictComp k' v' gs scope p) = true)
    (ok : okE I X.N X.env.scope (.dcIf T own ik a cnd k v) (.DictComp k' v' gs scope p) = true) : SndN I X F (.Assign [.Name x px] (.DictComp k' v' gs scope p) sp) i (.dcIf T own ik a cnd k v) := by
  obtain ⟨tg, it, ec, rfl⟩ := dcIf_shape ok
  obtain ⟨hbk, hT, hset, hT', hit, hk, he, hcn⟩ := dcIfOk Ft ok
  intro W G ρ H σ δ μ D tk w ev P
  refine setDc_rd Ft hi hx sw hbk hT hset (fun _ _ _ _ _ => seTB) (fun _ _ _ _ _ => seB) (fun _ _ _ _ _ => seB) ?_
  simp only [evE] at P
  rcases hit with ⟨e, hi, ha, hs⟩ | ⟨rfl, hp, ok⟩
  · left
    refine iter_any Ft ha hs hi tk Aft.refl w ev P fun its c μ2 P2 J G1 ρ1 H1 a1 w1 io => ?_
    dsimp only at P2
    split at P2
    · rename_i hl
      exact dc_loop hT' (bodyD2 hk he hcn) a1 w1 (ev.mono a1) io hl P2
    · exact P2.elim
  · exact dcK_rd Ft hp ok hT' (bodyD2 hk he hcn) Aft.refl w ev P
theorem sndN_comp (Ft : Fit I n F X) {elt' : Expr} {gs : List Comprehension} {scope : Scope} {i : Nat} {x : Str} {px sp : Pos} (hi : X.N[i]? = some x) (hx : loc X.env.scope x = true) (sw : swL X.env.scope x px (.ListComp elt' gs scope p) = true) :
    ∀ c : Ce, okE I X.N X.env.scope c (.ListComp elt' gs scope p) = true → SndN I X F (.Assign [.Name x px] (.ListComp elt' gs scope p) sp) i c
  | .lc T own ik a elt, ok => sndN_lc Ft hi hx sw ok
  | .lcIf T own ik a cnd elt, ok => sndN_lcIf Ft hi hx sw ok
  | .mkc a, ok => sndN_mkc (sndN_comp Ft hi hx sw a (by simpa [okE] using ok))
  | .x _, ok | .k _, ok | .g _, ok | .bin .., ok | .neg _, ok | .inv _, ok | .cmp .., ok | .cmp2 .., ok | .and .., ok | .or .., ok | .not _, ok | .ife .., ok | .tup _, ok | .lst _, ok | .dct0, ok | .dct1 .., ok | .ix .., ok | .sl .., ok | .rev _, ok | .att .., ok | .fn .., ok | .mt .., ok | .mk .., ok | .call .., ok | .fnd .., ok | .mkd .., ok | .bm0 .., ok | .lits .., ok | .blt .., ok | .bmt .., ok | .isi .., ok | .dc .., ok | .dcIf .., ok => by simp [okE] at ok
theorem sndN_compD (Ft : Fit I n F X) {k' v' : Expr} {gs : List Comprehension} {scope : Scope} {i : Nat} {x : Str} {px sp : Pos} (hi : X.N[i]? = some x) (hx : loc X.env.scope x = true) (sw : swL X.env.scope x px (.DictComp k' v' gs scope p) = true) :
    ∀ c : Ce, okE I X.N X.env.scope c (.DictComp k' v' gs scope p) = true → SndN I X F (.Assign [.Name x px] (.DictComp k' v' gs scope p) sp) i c
  | .dc T own ik a k v, ok => sndN_dc Ft hi hx sw ok
  | .dcIf T own ik a cnd k v, ok => sndN_dcIf Ft hi hx sw ok
  | .mkc a, ok => sndN_mkc (sndN_compD Ft hi hx sw a (by simpa [okE] using ok))
  | .x _, ok | .k _, ok | .g _, ok | .bin .., ok | .neg _, ok | .inv _, ok | .cmp .., ok | .cmp2 .., ok | .and .., ok | .or .., ok | .not _, ok | .ife .., ok | .tup _, ok | .lst _, ok | .dct0, ok | .dct1 .., ok | .ix .., ok | .sl .., ok | .rev _, ok | .att .., ok | .fn .., ok | .mt .., ok | .mk .., ok | .call .., ok | .fnd .., ok | .mkd .., ok | .bm0 .., ok | .lits .., ok | .blt .., ok | .bmt .., ok | .isi .., ok | .lc .., ok | .lcIf .., ok => by simp [okE] at ok
end
end EW
set_option maxRecDepth 100000
set_option maxHeartbeats 8000000
namespace EW
open PySem L2 PySem.Spec PyProof.Rows
section
variable {I : Ci} {X : Cx} {n : Nat} {F : Fx} {p : Pos}
theorem okEs_star2 {N : List Str} {sc : Scope} {cs : Ces} {a b : Expr} (ok : okEs I N sc cs [a, b] = true) : isStar a = false ∧ isStar b = false := by
  cases cs with
  | nil => simp [okEs] at ok
  | cons c r =>
    simp only [okEs, Bool.and_eq_true] at ok
    cases r with
    | nil => simp [okEs] at ok
    | cons c2 r =>
      simp only [okEs, Bool.and_eq_true] at ok
      exact ⟨(okE_star ok.1).1, (okE_star ok.2.1).1⟩
theorem okEs_star3 {N : List Str} {sc : Scope} {cs : Ces} {a b c : Expr} (ok : okEs I N sc cs [a, b, c] = true) : isStar a = false ∧ isStar b = false ∧ isStar c = false := by
  cases cs with
  | nil => simp [okEs] at ok
  | cons c r =>
    simp only [okEs, Bool.and_eq_true] at ok
    exact ⟨(okE_star ok.1).1, okEs_star2 ok.2⟩
theorem swL_loc {sc : Scope} {x : Str} {px : Pos} {e : Expr} (hx : lcc sc x = true) (h : ¬ loc sc x = false) : loc sc x = true := by
  cases q : loc sc x with
  | true => rfl
  | false => exact (h q).elim
theorem sndN_of (Ft : FitS I n F X) {i : Nat} {x : Str} {px : Pos} {e : Expr} {c : Ce} (hi : X.N[i]? = some x) (hx : lcc X.env.scope x = true) (ok : okE I X.N X.env.scope c e = true) (h : (swL X.env.scope x px e || !isComp e || !loc X.env.scope x) = true) : SndN I X F (.Assign [.Name x px] e p) i c := by
  by_cases hl : loc X.env.scope x = false
  · exact sndN_plain Ft.toFit Ft.fnx hi hx (sndE c Ft.toFit ok) (.inr hl)
  have hl' := swL_loc (px := px) (e := e) hx hl
  rw [hl', Bool.or_eq_true, Bool.or_eq_true] at h
  rcases h with (h | h) | h
  · cases e with
    | ListComp e2 gs s2 p2 => exact sndN_comp Ft.toFit hi hl' h c ok
    | DictComp k2 v2 gs s2 p2 => exact sndN_compD Ft.toFit hi hl' h c ok
    | _ => simp [swL] at h
  · exact sndN_plain Ft.toFit Ft.fnx hi hx (sndE c Ft.toFit ok) (.inl (by simpa using h))
  · cases h
theorem snd_parOf (Ft : Fit I n F X) {is : List Nat} {ts vs : List Expr} {cs : Ces} {kt k2 : Nat} {pt pt2 : Pos} (h : okPar X.N X.env.scope is ts vs = true) (ok : okEs I X.N X.env.scope cs vs = true) : SndS I X F (.Assign [.Tuple ts kt pt] (.Tuple vs k2 pt2) p) (.par is cs) := by
  unfold okPar at h
  split at h
  · simp only [Bool.and_eq_true, decide_eq_true_eq, Bool.not_eq_true'] at h
    obtain ⟨⟨⟨⟨⟨⟨⟨⟨h0, h1⟩, h2⟩, h3⟩, h4⟩, h5⟩, h6⟩, h7⟩, h8⟩ := h
    obtain ⟨s1, s2⟩ := okEs_star2 ok
    exact snd_par2 Ft (sndEs cs Ft ok) h1 h2 (loc_of h3) (loc_of h4) h5 (swst2 h0 (loc_of h3) (loc_of h4) h6 h5 s1 s2 h7 h8)
  · simp only [Bool.and_eq_true, decide_eq_true_eq, Bool.not_eq_true'] at h
    obtain ⟨⟨⟨⟨⟨⟨⟨⟨⟨⟨⟨⟨⟨h0, h1⟩, h2⟩, h3⟩, h4⟩, h5⟩, h6⟩, h7⟩, h8⟩, h9⟩, h10⟩, h11⟩, h12⟩, h13⟩ := h
    obtain ⟨s1, s2, s3⟩ := okEs_star3 ok
    exact snd_par3 Ft (sndEs cs Ft ok) h1 h2 h3 (loc_of h4) (loc_of h5) (loc_of h6) h7 h8 h9 (swst3 h0 (loc_of h4) (loc_of h5) (loc_of h6) h10 h11 h7 h8 h9 s1 s2 s3 h12 h13)
  · cases h
end
mutual
theorem sndS {I : Ci} {n : Nat} {F : Fx} : ∀ (c : Cs) {st : Stmt} {X : Cx}, FitS I n F X → okS I X.N X.env.scope c st = true → SndS I X F st c
  | .set i c, st, X, Ft, ok => by
    cases st with
    | Assign ts e p =>
      simp only [okS] at ok
      unfold okSet at ok
      split at ok
      · split at ok
        · simp only [Bool.and_eq_true, decide_eq_true_eq] at ok
          exact snd_set (sndN_of Ft ok.1.1.1 ok.1.1.2 ok.1.2 ok.2)
        · cases ok
      · cases ok
    | _ => simp [okS] at ok
  | .par is cs, st, X, Ft, ok => by
    cases st with
    | Assign ts e p =>
      simp only [okS] at ok
      unfold okParS at ok
      split at ok
      · split at ok
        · simp only [Bool.and_eq_true] at ok
          exact snd_parOf Ft.toFit ok.1 ok.2
        · cases ok
      · cases ok
    | _ => simp [okS] at ok
  | .unp T c, st, X, Ft, ok => by
    cases st with
    | Assign ts e p =>
      simp only [okS] at ok
      unfold okUnp at ok
      split at ok
      · simp only [Bool.and_eq_true, Bool.not_eq_true'] at ok
        obtain ⟨⟨⟨h1, h2⟩, h3⟩, h4⟩ := ok
        cases T with
        | nm j => rename_i t; cases t <;> first | (simp [okTgS] at h2; done) | (simp [isTup] at h1; done)
        | tp js => exact snd_unp Ft h2 (sndE c Ft.toFit h3) h4
      · cases ok
    | _ => simp [okS] at ok
  | .put co ci c, st, X, Ft, ok => by
    cases st with
    | Assign ts e p =>
      simp only [okS] at ok
      unfold okPut at ok
      split at ok
      · split at ok
        · simp only [Bool.and_eq_true] at ok
          exact snd_put Ft.toFit (sndE co Ft.toFit ok.1.1) (sndE ci Ft.toFit ok.1.2) (sndE c Ft.toFit ok.2)
        · cases ok
      · cases ok
    | _ => simp [okS] at ok
  | .fld co k c, st, X, Ft, ok => by
    cases st with
    | Assign ts e p =>
      simp only [okS] at ok
      unfold okFld at ok
      split at ok
      · split at ok
        · simp only [Bool.and_eq_true, decide_eq_true_eq] at ok
          exact snd_fld Ft.toFit ok.1.1 (sndE co Ft.toFit ok.1.2) (sndE c Ft.toFit ok.2)
        · cases ok
      · cases ok
    | _ => simp [okS] at ok
  | .ex c, st, X, Ft, ok => by
    cases st with
    | Expr e p =>
      simp only [okS, Bool.and_eq_true, Bool.not_eq_true'] at ok
      exact snd_ex (sndE c Ft.toFit ok.1) (swap_of ok.2)
    | _ => simp [okS] at ok
  | .ret c, st, X, Ft, ok => by
    cases st with
    | Return e p =>
      simp only [okS] at ok
      cases e with
      | none => cases ok
      | some e => exact snd_ret (sndE c Ft.toFit ok)
    | _ => simp [okS] at ok
  | .ret0, st, X, Ft, ok => by
    cases st with
    | Return e p =>
      simp only [okS] at ok
      cases e with
      | none => exact snd_ret0
      | some e => cases ok
    | _ => simp [okS] at ok
  | .ife c a b, st, X, Ft, ok => by
    cases st with
    | If e l r p =>
      simp only [okS, Bool.and_eq_true] at ok
      exact snd_if (sndT c Ft.toFit ok.1.1) (sndSs a Ft ok.1.2) (sndSs b Ft ok.2)
    | _ => simp [okS] at ok
  | .for_ T wp ik a body, st, X, Ft, ok => by
    cases st with
    | For tg it l orelse p =>
      simp only [okS, Bool.and_eq_true] at ok
      obtain ⟨⟨⟨h0, h1⟩, h2⟩, h3⟩ := ok
      cases orelse with
      | cons _ _ => cases h0
      | nil =>
        obtain ⟨q1, q2⟩ := itr_of Ft.toFit h2
        rcases q1 with q1 | ⟨rfl, q3, q4⟩
        · exact snd_for Ft h1 q2 q1 (sndSs body Ft h3)
        · exact snd_forK Ft h1 q2 q3 q4 (sndSs body Ft h3)
    | _ => simp [okS] at ok
  | .whl m wp c body, st, X, Ft, ok => by
    cases st with
    | While e l orelse p =>
      simp only [okS, Bool.and_eq_true] at ok
      obtain ⟨⟨h0, h1⟩, h2⟩ := ok
      cases orelse with
      | cons _ _ => cases h0
      | nil => exact snd_while Ft (sndT c Ft.toFit h1) (sndSs body Ft h2)
    | _ => simp [okS] at ok
  | .brk, st, X, Ft, ok => by
    cases st with
    | Break p => exact snd_brk
    | _ => simp [okS] at ok
  | .cont, st, X, Ft, ok => by
    cases st with
    | Continue p => exact snd_cont
    | _ => simp [okS] at ok
  | .pass, st, X, Ft, ok => by
    cases st with
    | Pass p => exact snd_pass
    | _ => simp [okS] at ok
  | .never, st, X, Ft, ok => snd_never
  | .ice i p, st, X, Ft, ok => by simp [okS] at ok
theorem sndSs {I : Ci} {n : Nat} {F : Fx} : ∀ (c : Css) {st : List Stmt} {X : Cx}, FitS I n F X → okSs I X.N X.env.scope c st = true → SndSs I X F st c
  | .nil, st, X, Ft, ok => by
    cases st with
    | nil => exact sndSs_nil
    | cons _ _ => simp [okSs] at ok
  | .cons s r, st, X, Ft, ok => by
    by_cases hs : ∃ i p, s = .ice i p
    · obtain ⟨i, p, rfl⟩ := hs
      have h := sndSs r (st := st) Ft (by simpa [okSs] using ok)
      intro W G ρ H σ δ μ D tk w ev P
      simp only [evSs, evS] at P
      cases hr : iceR F δ μ i p with
      | none => rw [hr] at P; exact P.elim
      | some μ' =>
        rw [hr] at P
        obtain ⟨G', a', w'⟩ := ice_ok w hr
        exact h W G' ρ H σ δ μ' D tk w' (ev.mono a') (PoS.step a' P)
    · cases st with
      | nil => cases s <;> first | (simp [okSs] at ok; done) | exact (hs ⟨_, _, rfl⟩).elim
      | cons st l =>
        have ok' : okS I X.N X.env.scope s st = true ∧ okSs I X.N X.env.scope r l = true := by
          cases s <;> first | (simpa [okSs] using ok) | exact (hs ⟨_, _, rfl⟩).elim
        exact sndSs_cons (sndS s Ft ok'.1) (sndSs r Ft ok'.2)
end
end EW
set_option maxRecDepth 100000
set_option maxHeartbeats 2000000
namespace EW
open PySem L2 PySem.Spec PyProof.Rows
/-- the end of a def that was given n cells -/
def finC (n : Nat) (k : Nat) (μ : Mu) : Out Res := if k < n then .ok (.cel k) (μ.take n) else match μ[k]? with
  | some (.ice _) => .no
  | some o => if o.below n then .ok (.nw o) (μ.take n) else .ok (.cel k) μ
  | none => .no
def finB (n : Nat) (r : Res) (μ : Mu) : Out Res := if closed n μ then match r with
    | .fz d => .ok (.fz d) (μ.take n)
    | .cel k => finC n k μ
    | .nw o => if o.below n then .ok (.nw o) (μ.take n) else .ok (.nw o) μ
  else .ok r μ
def Res.nmO (μ : Mu) : Res → Res
  | .nw o => .nw (O.nm μ o)
  | r => r.nm μ
def finR (n : Nat) (r : Res) (μ : Mu) : Out Res := finB n (r.nmO μ) (nmM μ)
structure Fd where
  np : Nat
  ns : Nat
  body : Css
def startE (n : Nat) (as : List Val) : Env := as.map some ++ List.replicate (n - as.length) none
def runF (F : Fx) (f : Fd) (as : List Val) (μ : Mu) : Out Res := if as.length = f.np then match evSs F f.body (startE f.ns as) μ with
    | .nx _ μ' => finR μ.length (.fz .non) μ'
    | .rt r μ' => finR μ.length r μ'
    | .ex z _ μ' => .ex z (tidyM μ.length [] (nmM μ'))
    | _ => .no
  else .no
section
variable {I : Ci} {K : PySem.W.Frag} {G G0 : Hp} {ρ ρ0 : List Addr} {H H0 : Hp} {μ : Mu} {r : Res} {v : V} {W : WX} {σ : L2.St} {Q : VK}
theorem ResR.nmO (w : Wd I K G ρ μ H) (h : ResR I K G ρ H r v) : ResR I K G ρ H (r.nmO μ) v := by
  cases r with
  | fz d => exact h
  | cel k => exact ResR.nm (r := .cel k) w h
  | nw o =>
    obtain ⟨a, x, h1, h2, h3, h4, h5, h6⟩ := h
    exact ⟨a, x, h1, h2, h3, h4, h5.nm w, O.nm_ni h6⟩
theorem Res.nmO_new (n : New H0 r v) : New H0 (r.nmO μ) v := by
  cases r with
  | fz d => exact n
  | cel k => exact Res.nm_new (r := .cel k) n
  | nw o => exact fun o' a e1 e2 => n o a rfl e2
theorem finB_ok {n : Nat} (A : Aft G0 ρ0 H0 G ρ H) (hn : ρ0.length = n) (w : Wd I K G ρ μ H) (h : ResR I K G ρ H r v) (nn : New H0 r v) (P : Po I K W σ G0 ρ0 H0 (finB n r μ) (QE I K H0 Q)) : Q v H := by
  unfold finB at P
  split at P
  · rename_i hc
    have A' := A.take hn
    have w' := w.take hc
    split at P
    · exact P G (ρ.take n) H A' w' v h (fun _ _ z => nomatch z)
    · rename_i k
      unfold finC at P
      split at P
      · rename_i hk
        obtain ⟨a, h1, h2⟩ := h
        exact P G (ρ.take n) H A' w' v ⟨a, take_get h1 hk, h2⟩ (fun _ _ z => nomatch z)
      · rename_i hk
        split at P
        · exact P.elim
        · rename_i o ni ho
          split at P
          · rename_i hb
            obtain ⟨a, h1, h2⟩ := h
            have ni' : ∀ d, o ≠ .ice d := fun d z => ni d z
            obtain ⟨x, h3, h4, h5⟩ := w.cel h1 ho ni'
            have na : a ∉ ρ.take n := fun m => by
              obtain ⟨j, hj⟩ := List.mem_iff_getElem?.mp m
              have hjn : j < n := by
                have := (List.getElem?_eq_some_iff.mp hj).1
                rw [List.length_take] at this; omega
              rw [List.getElem?_take_of_lt hjn] at hj
              exact hk ((inj_get w.nd h1 hj) ▸ hjn)
            refine P G (ρ.take n) H A' w' v ⟨a, x, h2, na, h4, h3, h5.take hb, ni'⟩ fun o' b _ e => ?_
            rw [h2] at e; cases e
            obtain ⟨t, e1, e2⟩ := A.pre
            have : a ∈ t := by
              rw [e1] at h1
              rw [List.getElem?_append_right (by omega)] at h1
              exact List.mem_iff_getElem?.mpr ⟨_, h1⟩
            exact (e2 a this).1
          · exact P G ρ H A w v h nn
        · exact P.elim
    · rename_i o
      split at P
      · rename_i hb
        obtain ⟨a, x, h1, h2, h3, h4, h5, h6⟩ := h
        exact P G (ρ.take n) H A' w' v ⟨a, x, h1, fun m => h2 (List.mem_of_mem_take m), h3, h4, h5.take hb, h6⟩ nn
      · exact P G ρ H A w v h nn
  · exact P G ρ H A w v h nn
theorem fin_ok {n : Nat} (A : Aft G0 ρ0 H0 G ρ H) (hn : ρ0.length = n) (w : Wd I K G ρ μ H) (h : ResR I K G ρ H r v) (nn : New H0 r v) (P : Po I K W σ G0 ρ0 H0 (finR n r μ) (QE I K H0 Q)) : Q v H :=
  finB_ok A hn w.nmM (h.nmO w) (Res.nmO_new nn) P
end
theorem start_env {I : Ci} {K : PySem.W.Frag} {G : Hp} {ρ : List Addr} {N : List Str} {as : List Val} {vs : List V} (r : ValsR I K G ρ as vs) (hl : vs.length ≤ N.length) : EnvR I K G ρ (startE N.length as) (L2.start N vs) := by
  have e := r.length
  refine ⟨?_, fun i w h => ?_⟩
  · unfold startE L2.start
    simp only [List.length_append, List.length_map, List.length_replicate]
    omega
  · unfold startE at h
    unfold L2.start
    by_cases hi : i < as.length
    · rw [List.getElem?_append_left (by simpa using hi), List.getElem?_map] at h
      obtain ⟨w', h1, h2⟩ := Option.map_eq_some_iff.mp h
      cases h2
      obtain ⟨v, h3, h4⟩ := r.get h1
      refine ⟨v, ?_, h4⟩
      rw [List.getElem?_append_left (by rw [List.length_map]; omega), List.getElem?_map, h3]; rfl
    · rw [List.getElem?_append_right (by simpa using hi), List.getElem?_replicate] at h
      split at h <;> simp at h
theorem run_ok {I : Ci} {X : Cx} {n : Nat} {F : Fx} {f : Fd} {body : List Stmt} {G : Hp} {ρ : List Addr} {H : Hp} {μ : Mu} {as : List Val} {vs : List V} {Q : VK} {E : XK} (Ft : FitS I n F X) (tk : Takes X (fun cls d _ H' => E cls d H')) (ok : okSs I X.N X.env.scope f.body body = true) (hN : f.ns = X.N.length) (hp : f.np ≤ X.N.length)
    (w : Wd I X.K G ρ μ H) (r : ValsR I X.K G ρ as vs) (P : Po I X.K (fun cls d _ H' => E cls d H') [] G ρ H (runF F f as μ) (QE I X.K H Q)) : wpSs X body { nx := fun _ H' => Q .non H', rt := Q } (L2.start X.N vs) H := by
  unfold runF at P
  split at P
  · rename_i hl
    rw [hN] at P
    refine sndSs f.body Ft ok (fun cls d _ H' => E cls d H') G ρ H _ _ μ _ tk w (start_env r (by rw [r.length, hl]; exact hp)) ?_
    revert P
    cases evSs F f.body (startE X.N.length as) μ with
    | nx δ μ' => exact fun P G' ρ' H' σ' a w' _ => fin_ok (r := .fz .non) a w.len w' rfl (fun _ _ z => nomatch z) P
    | rt r μ' => exact fun P G' ρ' H' v a w' rr nn => fin_ok a w.len w' rr nn P
    | ex z δ μ' =>
      intro P cls d G' ρ' H' σ' a w' ev x
      obtain ⟨ρ'', b1, b2, _⟩ := tidy_ok (wp := []) (δ := []) (σ := []) a w.len w' ⟨rfl, fun i w h => by simp at h⟩
      exact P cls d G' ρ'' H' b1 b2 x
    | bk δ μ' => exact fun P => P.elim
    | ct δ μ' => exact fun P => P.elim
    | no => exact fun P => P.elim
  · exact P.elim
section
variable {P : Program} {w : World} {K : PySem.W.Frag} {mg : Str → Option Value} {base : Heap} {N : List Str} {qual : Str} {scope : Scope} {fa : Addr} {cd : Value} {A : Around} {outer : List PySem.Env} {s : Shared} {H : Hp} {E : XK}
abbrev cxE (P : Program) (w : World) (K : PySem.W.Frag) (mg : Str → Option Value) (base : Heap) (N : List Str) (qual : Str) (scope : Scope) (fa : Addr) (cd : Value) (A : Around) (outer : List PySem.Env) (s : Shared) (H : Hp) (E : XK) : Cx := cxOf (L2.CX P w) P w K mg base N qual scope fa cd A outer s H E
theorem takes_cx : Takes (cxE P w K mg base N qual scope fa cd A outer s H E) (fun cls d _ H' => E cls d H') := takes_of (X := cxE P w K mg base N qual scope fa cd A outer s H E) rfl rfl rfl rfl
theorem owns_cx : PassesOwn (model P w) (cxE P w K mg base N qual scope fa cd A outer s H E).A (cxE P w K mg base N qual scope fa cd A outer s H E).env (cxE P w K mg base N qual scope fa cd A outer s H E).xe := passes_of (X := cxE P w K mg base N qual scope fa cd A outer s H E) rfl
/-- a def of the text does what its core does -/
theorem def_ok {I : Ci} {n : Nat} {F : Fx} {f : Fd} {x qual : Str} {st : Stmt} {fd : FuncData} {ps : List Str} {dfs : List V} (Fu : FunD K x qual (defArgs st) (defBody st) (defScope st) dfs [] fa fd) (S : FnScope N ps (defScope st)) (nd : N.Nodup) (L : Lk P w K mg base I n F) (bn : ∀ x ∈ bltNames, mg x = none) (hN : f.ns = N.length) (hp : f.np = ps.length) (hl : ps.length ≤ N.length)
    (ok : ∀ sc, sc = defScope st → okSs I N sc f.body (defBody st) = true) : FnOk P w K mg base (L2.CX P w) (2 * n + 2) fa fd ps (spF I K (runF F f)) := by
  refine FunD.ok Fu S (fun vs H Q E h => ?_) fun cdv A outer s H vs Q E hr h => ?_
  · obtain ⟨G, ρ, μ, as, w', r, Po'⟩ := h
    unfold runF at Po'
    split at Po'
    · rename_i e; rw [r.length, e, hp]
    · exact Po'.elim
  · obtain ⟨G, ρ, μ, as, w', r, Po'⟩ := h
    refine ⟨_, seSs, ?_⟩
    exact run_ok (X := cxE P w K mg base N qual (defScope st) fa cdv A outer s H E) ⟨⟨L, hr, nd, rfl, bn⟩, owns_cx, fun _ => rfl⟩ takes_cx (ok _ rfl) hN (by rw [hp]; exact hl) w' r Po'
end
end EW
set_option maxRecDepth 100000
set_option maxHeartbeats 2000000
namespace EW
open PySem L2 PySem.Spec PyProof.Rows
structure Tab where
  fn : Nat → Option Fd
  mt : Nat → Nat → Option Fd
  fl : Nat → List Nat
  kc : Nat → Bool
  sub : Nat → Nat → Option Bool
  ni : Nat → Bool
  gd : Nat → Option D
  dd : Nat → List D → Bool
  dk : Nat → List D → Bool
def runO (F : Fx) (d : Option Fd) (as : List Val) (μ : Mu) : Out Res := match d with
  | some d => runF F d as μ
  | none => .no
def fx (T : Tab) : Nat → Fx
  | 0 => ⟨fun _ _ _ => .no, fun _ _ _ _ => .no, fun f => (T.fn f).isSome, fun c m => (T.mt c m).isSome, T.fl, T.kc, T.sub, fun _ => false, T.gd, T.dd, T.dk⟩
  | n + 1 => ⟨fun f as μ => runO (fx T n) (T.fn f) as μ, fun c m as μ => runO (fx T n) (T.mt c m) as μ, fun f => (T.fn f).isSome, fun c m => (T.mt c m).isSome, T.fl, T.kc, T.sub, T.ni, T.gd, T.dd, T.dk⟩
/-- a def of the text and its core -/
def DefAt (K : PySem.W.Frag) (I : Ci) (f : Fd) (fa : Addr) (fd : FuncData) (ps : List Str) : Prop :=
  ∃ x qual st N dfs, FunD K x qual (defArgs st) (defBody st) (defScope st) dfs [] fa fd ∧ FnScope N ps (defScope st) ∧ N.Nodup ∧ f.ns = N.length ∧ f.np = ps.length ∧ ps.length ≤ N.length ∧ okSs I N (defScope st) f.body (defBody st) = true ∧ Binds K fd ps []
/-- an == that declines what is not of its class -/
def DefNI (K : PySem.W.Frag) (I : Ci) (c : Nat) (fa : Addr) (fd : FuncData) (ps : List Str) : Prop :=
  ∃ x qual st N dfs test orelse rest p1 p2 p3, FunD K x qual (defArgs st) (defBody st) (defScope st) dfs [] fa fd ∧ FnScope N ps (defScope st) ∧ N.Nodup ∧ ps.length = 2 ∧ 2 ≤ N.length ∧ defBody st = .If test [.Return (some (.Name "NotImplemented" p1)) p2] orelse p3 :: rest ∧ okE I N (defScope st) (.not (.isi (.x 1) [.cls c])) test = true ∧ glb (defScope st) "NotImplemented" = true ∧ Binds K fd ps []
structure Stat (P : Program) (w : World) (K : PySem.W.Frag) (mg : Str → Option Value) (base : Heap) (I : Ci) (T : Tab) : Prop where
  fl : T.fl = I.fl
  att : ∀ c a, a ∈ I.fl c → Cls K (I.ca c) ∧ NoAttr K (I.ca c) (I.an a)
  inj : ∀ c a b, a ∈ I.fl c → b ∈ I.fl c → I.an a = I.an b → a = b
  fn : ∀ f d, T.fn f = some d → ∃ fa fd ps, DefAt K I d fa fd ps ∧ mg (I.fn f) = some (.ref fa) ∧ PySem.W.keepIn K (.ref fa) = true ∧ ∀ ds, T.dd f ds = true → BindsD K I fd ps ds
  mt : ∀ c m d, T.mt c m = some d → (∃ fa fd ps, DefAt K I d fa fd ps ∧ Meth K (I.ca c) (I.mn m) fa) ∧ ClsOk K (I.ca c) ∧ ∀ a ∈ I.fl c, I.an a ≠ I.mn m
  mkk : ∀ c d, T.mt c 0 = some d → ∃ fa fd ps, DefAt K I d fa fd ps ∧ mg (I.cn c) = some (.ref (I.ca c)) ∧ Mk K (I.ca c) fa ∧ ∀ ds, T.dk c ds = true → BindsD K I fd ps ds
  kc : ∀ c, T.kc c = true → ClsOk K (I.ca c)
  sf : ∀ c m d, T.mt c m = some d → PySem.W.selfFirst K (I.ca c) = true
  opn : (List.range 8).map (fun i => I.mn (i + 4)) = (["__xor__", "__and__", "__or__", "__sub__", "__add__", "__invert__", "__call__", "__iter__"] : List Str)
  itr : ∀ c k, I.it k = true → k ∈ I.fl c → ∃ fi, ItrC K (I.ca c) fi ∧ IterOk P w K mg base (L2.CX P w) 1 fi (I.ca c) (I.an k) (fun _ _ _ => False)
  kcn : ∀ c, T.kc c = true → mg (I.cn c) = some (.ref (I.ca c)) ∧ (I.cn c == ("__debug__" : Str)) = false
  ni : ∀ c, T.ni c = true → T.kc c = true ∧ (∃ fa fd ps, DefNI K I c fa fd ps ∧ Meth K (I.ca c) "__eq__" fa) ∧ Dcl K (I.ca c)
  sub : ∀ c' c b, T.sub c' c = some b → b = false ∧ T.kc c' = true ∧ SubOk K (I.ca c') (I.ca c)
  gd : ∀ k d, T.gd k = some d → ∃ u v, mg (I.gn k) = some u ∧ RelV v u ∧ ∀ G, Rep I K G d v
  n0 : I.mn 0 = "__init__"
  n1 : I.mn 1 = "__eq__"
  n2 : I.mn 2 = "__contains__"
  n3 : I.mn 3 = "__len__"
  bn : ∀ x ∈ bltNames, mg x = none
  nin : mg "NotImplemented" = none
section
variable {P : Program} {w : World} {K : PySem.W.Frag} {mg : Str → Option Value} {base : Heap} {I : Ci} {T : Tab}
theorem fn_no {k : Nat} {fa : Addr} {fd : FuncData} {ps : List Str} : FnOk P w K mg base (L2.CX P w) k fa fd ps (spF I K fun _ _ => .no) :=
  ⟨fun vs H Q E ⟨_, _, _, _, _, _, h⟩ => h.elim, fun A outer s H args us vs Q E _ _ _ _ ⟨_, _, _, _, _, _, h⟩ => h.elim⟩
theorem DefAt.fnIn {f : Fd} {fa : Addr} {fd : FuncData} {ps : List Str} (D : DefAt K I f fa fd ps) : PySem.W.fnIn K fa = true := by
  obtain ⟨x, qual, st, N, dfs, h1, _⟩ := D
  obtain ⟨oc, od, dV, kV, doc, pm, an, cdv, ct, osl, e, lk, _⟩ := h1.ex
  unfold PySem.W.fnIn
  rw [lk]
theorem DefAt.ok {n : Nat} {F : Fx} {f : Fd} {fa : Addr} {fd : FuncData} {ps : List Str} (D : DefAt K I f fa fd ps) (L : Lk P w K mg base I n F) (bn : ∀ x ∈ bltNames, mg x = none) : FnOk P w K mg base (L2.CX P w) (2 * (n + 1)) fa fd ps (spF I K (runF F f)) := by
  obtain ⟨x, qual, st, N, dfs, h1, h2, h3, h4, h5, h6, h7, h8⟩ := D
  exact def_ok h1 h2 h3 L bn h4 h5 h6 (fun sc e => by subst e; exact h7)
theorem DefAt.binds {f : Fd} {fa : Addr} {fd : FuncData} {ps : List Str} (D : DefAt K I f fa fd ps) : Binds K fd ps [] := by
  obtain ⟨x, qual, st, N, dfs, h1, h2, h3, h4, h5, h6, h7, h8⟩ := D
  exact h8
theorem NI.ok {n : Nat} {F : Fx} {c : Nat} {fa : Addr} {fd : FuncData} {ps : List Str} (D : DefNI K I c fa fd ps) (L : Lk P w K mg base I n F) (bn : ∀ x ∈ bltNames, mg x = none) (hm : mg "NotImplemented" = none) (kc : F.kc c = true) : FnNI P w K mg base (2 * (n + 1)) fa fd ps (spNI I K F.sub c) := by
  obtain ⟨x, qual, st, N, dfs, test, orelse, rest, p1, p2, p3, Fu, S, nd, h2, hN, hb, ok, hg, _⟩ := D
  obtain ⟨oc, od, dV, kV, doc, pm, an, cdv, ct, osl, rfl, lk, hcd, _, _⟩ := Fu.ex
  refine ⟨fun vs H Q E h => ?_, fun A outer s H args us vs Q E hr e0 hbd r hsp => ?_⟩
  · obtain ⟨G, ρ, μ, ds, o, w', rr, _⟩ := h
    rw [rr.length, h2]; rfl
  obtain ⟨G, ρ, μ, ds, o, wd, rr, odd, p⟩ := hsp
  have hl : vs.length = ps.length := by rw [rr.length, h2]; rfl
  have KX : K.In s.heap := e0.mod.kin.keeps fun b o e => (e0.bs b o e).1
  have lim : s.heap.NoLimit := e0.mod.nolimit.keeps fun b o e => (e0.bs b o e).1
  have hkind : ∀ y ∈ ps.zip us, (defScope st).names.lookup y.1 = some .local ∨ ((defScope st).names.lookup y.1 = some .cell ∧ ((cellsFrom (s.heap.objs.size + 1) (defScope st).names []).lookup y.1).isSome = true) := fun ⟨n, v⟩ hy => by
    rcases S.par n (List.of_mem_zip hy).1 with q | q
    · exact .inl q
    · exact .inr ⟨q, PySem.W.cellsFrom_some _ _ _ (.inl q)⟩
  refine codeAny_call_function hr.depth (KX _ _ lk) rfl S.co S.gen rfl (PySem.W.codeRec_of KX hcd) (hbd _ _ _ _ ?_)
  refine wpAny_newFunctionEnv_cells S.kind hkind fun env he s1 xx => ?_
  subst he
  refine ⟨lim.keeps xx.toInCall.keep, codeAny_func ?_⟩
  let X := (cxOf (L2.CX P w) P w K mg base N qual (defScope st) fa cdv A outer s H E).nox
  have I0 : Inv (cxOf (L2.CX P w) P w K mg base N qual (defScope st) fa cdv A outer s H E) [] (L2.start N vs) H s1 := inv_start S hr.hd e0 hl r xx
  have I' : Inv X [] (L2.start N vs) H s1 := I0.wish _
  have Ft : Fit I n F X := ⟨L, (show Room (2 * n + 1) _ from Room.deeper (k := 2 * n + 1) hr _), nd, rfl, bn⟩
  have hq : wpT X test (L2.start N vs) H (fun b H' => b = true ∧ Q .non H') := by
    refine sndT (.not (.isi (.x 1) [.cls c])) Ft ok (fun _ _ _ _ => False) G ρ H _ (startE N.length [.fz (.ins c ds), .fz o]) μ _ takes0 wd (start_env rr (by rw [hl, h2]; exact hN)) ?_
    have e1 : (startE N.length [.fz (.ins c ds), .fz o])[1]? = some (some (.fz o)) := rfl
    have e2 : isi1 F (.fz o) μ (.cls c) = some false := by
      unfold isi1
      simp only [kc, if_true]
      rcases odd with odd | ⟨c', es, rfl, hs⟩
      · cases o <;> simp [D.odd] at odd <;> rfl
      · have hne : c' ≠ c := fun z => by
          subst z
          exact (L.sub _ _ _ hs).2.2.ne rfl
        have hi : (Res.fz (.ins c' es)).insC μ = some c' := rfl
        rw [hi]
        dsimp only
        rw [if_neg hne]
        exact hs
    simp only [evT, evE, e1, Out.bind, isiR, Val.nm, Val.res, e2, truth]
    exact fun G' ρ' H' a' w' => ⟨rfl, by have e : ρ' = ρ := grown_none a' (w'.len.trans wd.len.symm); subst e; exact p G' H' a' w'⟩
  show wpAny _ _ (execs (defBody st) _) _ _ _
  rw [hb]
  refine wpAny_execs_cons (wpAny_If (wpAny_mono (hq [] s1 I') (fun d s2 ⟨H2, I2, hd, q2⟩ => ?_) fun _ _ z => z.elim))
  subst hd
  refine wpAny_execs_cons (wpAny_Return_some (ld_blt (u := .notImplemented) I2 (glb_of (X := X) hg) hm (by decide +kernel) ?_))
  exact ⟨rfl, .non, H2, I2.os, I2.bare, I2.base, I2.hok, rfl, q2⟩
theorem Stat.lk (S : Stat P w K mg base I T) : ∀ n, Lk P w K mg base I n (fx T n)
  | 0 => by
    refine ⟨S.fl, S.att, S.inj, fun c m h => ?_, fun f h => ?_, fun c h => ?_, S.kc, S.kcn, fun _ z => (nomatch z), S.sub, S.gd, fun f ds h hd => ?_, fun c ds h hd => ?_, fun c m h => ?_, S.opn, S.itr, S.n0, S.n1, S.n2, S.n3⟩
    · obtain ⟨d, hd⟩ := Option.isSome_iff_exists.mp h
      obtain ⟨⟨fa, fd, ps, D, hm⟩, h2, h3⟩ := S.mt c m d hd
      exact ⟨⟨fa, fd, ps, fn_no, hm, D.binds⟩, h2, h3⟩
    · obtain ⟨d, hd⟩ := Option.isSome_iff_exists.mp h
      obtain ⟨fa, fd, ps, D, h1, h2, _⟩ := S.fn f d hd
      exact ⟨fa, fd, ps, fn_no, h1, h2, D.binds⟩
    · obtain ⟨d, hd⟩ := Option.isSome_iff_exists.mp h
      obtain ⟨fa, fd, ps, D, h1, h2, _⟩ := S.mkk c d hd
      exact ⟨fa, fd, ps, fn_no, h1, h2, D.binds⟩
    · obtain ⟨d, hd'⟩ := Option.isSome_iff_exists.mp h
      obtain ⟨fa, fd, ps, D, h1, h2, h3⟩ := S.fn f d hd'
      exact ⟨fa, fd, ps, fn_no, h1, h2, h3 ds hd⟩
    · obtain ⟨d, hd'⟩ := Option.isSome_iff_exists.mp h
      obtain ⟨fa, fd, ps, D, h1, h2, h3⟩ := S.mkk c d hd'
      exact ⟨fa, fd, ps, fn_no, h1, h2, h3 ds hd⟩
    · obtain ⟨d, hd⟩ := Option.isSome_iff_exists.mp h
      obtain ⟨⟨fa, fd, ps, D, hm⟩, h2, h3⟩ := S.mt c m d hd
      exact ⟨⟨fa, fd, ps, fn_no, hm, D.binds, D.fnIn⟩, S.sf c m d hd⟩
  | n + 1 => by
    have L := S.lk n
    refine ⟨S.fl, S.att, S.inj, fun c m h => ?_, fun f h => ?_, fun c h => ?_, S.kc, S.kcn, fun c h => ?_, S.sub, S.gd, fun f ds h hds => ?_, fun c ds h hds => ?_, fun c m h => ?_, S.opn, S.itr, S.n0, S.n1, S.n2, S.n3⟩
    · obtain ⟨d, hd⟩ := Option.isSome_iff_exists.mp h
      obtain ⟨⟨fa, fd, ps, D, hm⟩, h2, h3⟩ := S.mt c m d hd
      refine ⟨⟨fa, fd, ps, ?_, hm, D.binds⟩, h2, h3⟩
      show FnOk _ _ _ _ _ _ _ _ _ _ (spF I K fun as μ => runO (fx T n) (T.mt c m) as μ)
      rw [hd]
      exact D.ok L S.bn
    · obtain ⟨d, hd⟩ := Option.isSome_iff_exists.mp h
      obtain ⟨fa, fd, ps, D, h1, h2, _⟩ := S.fn f d hd
      refine ⟨fa, fd, ps, ?_, h1, h2, D.binds⟩
      show FnOk _ _ _ _ _ _ _ _ _ _ (spF I K fun as μ => runO (fx T n) (T.fn f) as μ)
      rw [hd]
      exact D.ok L S.bn
    · obtain ⟨d, hd⟩ := Option.isSome_iff_exists.mp h
      obtain ⟨fa, fd, ps, D, h1, h2, _⟩ := S.mkk c d hd
      refine ⟨fa, fd, ps, ?_, h1, h2, D.binds⟩
      show FnOk _ _ _ _ _ _ _ _ _ _ (spF I K fun as μ => runO (fx T n) (T.mt c 0) as μ)
      rw [hd]
      exact D.ok L S.bn
    · have h' : T.ni c = true := h
      obtain ⟨h1, ⟨fa, fd, ps, D, hm⟩, h2⟩ := S.ni c h'
      have hb : Binds K fd ps [] := by
        obtain ⟨_, _, _, _, _, _, _, _, _, _, _, _, _, _, _, _, _, _, _, q⟩ := D
        exact q
      have kc : (fx T n).kc c = true := by cases n <;> exact h1
      have hs : (fx T n).sub = T.sub := by cases n <;> rfl
      have q := NI.ok D L S.bn S.nin kc
      rw [hs] at q
      exact ⟨⟨fa, fd, ps, q, hm, hb⟩, h2⟩
    · obtain ⟨d, hd⟩ := Option.isSome_iff_exists.mp h
      obtain ⟨fa, fd, ps, D, h1, h2, h3⟩ := S.fn f d hd
      refine ⟨fa, fd, ps, ?_, h1, h2, h3 ds hds⟩
      show FnOk _ _ _ _ _ _ _ _ _ _ (spF I K fun as μ => runO (fx T n) (T.fn f) as μ)
      rw [hd]
      exact D.ok L S.bn
    · obtain ⟨d, hd⟩ := Option.isSome_iff_exists.mp h
      obtain ⟨fa, fd, ps, D, h1, h2, h3⟩ := S.mkk c d hd
      refine ⟨fa, fd, ps, ?_, h1, h2, h3 ds hds⟩
      show FnOk _ _ _ _ _ _ _ _ _ _ (spF I K fun as μ => runO (fx T n) (T.mt c 0) as μ)
      rw [hd]
      exact D.ok L S.bn
    · obtain ⟨d, hd⟩ := Option.isSome_iff_exists.mp h
      obtain ⟨⟨fa, fd, ps, D, hm⟩, h2, h3⟩ := S.mt c m d hd
      refine ⟨⟨fa, fd, ps, ?_, hm, D.binds, D.fnIn⟩, S.sf c m d hd⟩
      show FnOk _ _ _ _ _ _ _ _ _ _ (spF I K fun as μ => runO (fx T n) (T.mt c m) as μ)
      rw [hd]
      exact D.ok L S.bn
end
end EW
set_option maxRecDepth 100000
set_option maxHeartbeats 2000000
namespace EW
open PySem L2 PySem.Spec PyProof.Rows
inductive AllIn {α : Type} (Q : α → Prop) : List α → Prop where
  | nil : AllIn Q []
  | cons {a : α} {l : List α} : Q a → AllIn Q l → AllIn Q (a :: l)
theorem AllIn.mem {α : Type} {Q : α → Prop} {l : List α} (h : AllIn Q l) : ∀ a ∈ l, Q a := by
  induction h with
  | nil => exact fun _ z => nomatch z
  | cons q _ ih =>
    intro a m
    rcases List.mem_cons.mp m with rfl | m
    · exact q
    · exact ih a m
structure TabL where
  fn : List (Nat × Fd)
  mt : List (Nat × Nat × Fd)
  fl : List (Nat × List Nat)
  kc : List Nat
  ni : List Nat
  gd : List (Nat × D)
  dd : List (Nat × List D)
  dk : List (Nat × List D)
  it : List Nat
def look {β : Type} (l : List (Nat × β)) (k : Nat) : Option β := (l.find? fun p => p.1 == k).map (·.2)
def look2 {β : Type} (l : List (Nat × Nat × β)) (c k : Nat) : Option β := (l.find? fun p => p.1 == c && p.2.1 == k).map (·.2.2)
theorem look_mem {β : Type} {l : List (Nat × β)} {k : Nat} {b : β} (h : look l k = some b) : (k, b) ∈ l := by
  unfold look at h
  obtain ⟨⟨k', b'⟩, h1, h2⟩ := Option.map_eq_some_iff.mp h
  have := List.find?_some h1
  have e : k' = k := by simpa using this
  subst e
  cases h2
  exact List.mem_of_find?_eq_some h1
theorem look2_mem {β : Type} {l : List (Nat × Nat × β)} {c k : Nat} {b : β} (h : look2 l c k = some b) : (c, k, b) ∈ l := by
  unfold look2 at h
  obtain ⟨⟨c', k', b'⟩, h1, h2⟩ := Option.map_eq_some_iff.mp h
  have := List.find?_some h1
  have e : c' = c ∧ k' = k := by simpa using this
  obtain ⟨e1, e2⟩ := e
  subst e1 e2
  cases h2
  exact List.mem_of_find?_eq_some h1
def flOf (l : List (Nat × List Nat)) (c : Nat) : List Nat := (look l c).getD []
theorem flOf_mem {l : List (Nat × List Nat)} {c a : Nat} (h : a ∈ flOf l c) : ∃ xs, (c, xs) ∈ l ∧ a ∈ xs ∧ flOf l c = xs := by
  unfold flOf at h ⊢
  cases e : look l c with
  | none => rw [e] at h; cases h
  | some xs => rw [e] at h; exact ⟨xs, look_mem e, h, rfl⟩
def TabL.tab (t : TabL) : Tab := ⟨look t.fn, look2 t.mt, flOf t.fl, fun c => t.kc.contains c, fun c' c => if t.kc.contains c' && (t.kc.contains c && !(c' == c)) then some false else none, fun c => t.ni.contains c, look t.gd, fun f ds => t.dd.any fun p => p.1 == f && decide (p.2 = ds), fun c ds => t.dk.any fun p => p.1 == c && decide (p.2 = ds)⟩
def strAt (l : List Str) (i : Nat) : Str := l.getD i ""
def addrAt (l : List Addr) (i : Nat) : Addr := l.getD i 0
section
variable {P : Program} {w : World} {K : PySem.W.Frag} {mg : Str → Option Value} {base : Heap} {I : Ci} {t : TabL}
theorem stat_of (fl : flOf t.fl = I.fl)
    (att : AllIn (fun p : Nat × List Nat => Cls K (I.ca p.1) ∧ AllIn (fun a => NoAttr K (I.ca p.1) (I.an a)) p.2 ∧ ∀ a ∈ p.2, ∀ b ∈ p.2, I.an a = I.an b → a = b) t.fl)
    (fn : AllIn (fun p : Nat × Fd => ∃ fa fd ps, DefAt K I p.2 fa fd ps ∧ mg (I.fn p.1) = some (.ref fa) ∧ PySem.W.keepIn K (.ref fa) = true ∧ ∀ q ∈ t.dd, q.1 = p.1 → BindsD K I fd ps q.2) t.fn)
    (mt : AllIn (fun p : Nat × Nat × Fd => (∃ fa fd ps, DefAt K I p.2.2 fa fd ps ∧ Meth K (I.ca p.1) (I.mn p.2.1) fa) ∧ (∀ a ∈ flOf t.fl p.1, I.an a ≠ I.mn p.2.1)) t.mt)
    (mtc : ∀ p ∈ t.mt, p.1 ∈ t.kc)
    (mkk : AllIn (fun p : Nat × Nat × Fd => p.2.1 = 0 → ∃ fa fd ps, DefAt K I p.2.2 fa fd ps ∧ mg (I.cn p.1) = some (.ref (I.ca p.1)) ∧ Mk K (I.ca p.1) fa ∧ ∀ q ∈ t.dk, q.1 = p.1 → BindsD K I fd ps q.2) t.mt)
    (sf : ∀ c ∈ t.kc, PySem.W.selfFirst K (I.ca c) = true)
    (opn : (List.range 8).map (fun i => I.mn (i + 4)) = (["__xor__", "__and__", "__or__", "__sub__", "__add__", "__invert__", "__call__", "__iter__"] : List Str))
    (itr : ∀ c k, I.it k = true → k ∈ flOf t.fl c → ∃ fi, ItrC K (I.ca c) fi ∧ IterOk P w K mg base (L2.CX P w) 1 fi (I.ca c) (I.an k) (fun _ _ _ => False))
    (kc : AllIn (fun c => ClsOk K (I.ca c) ∧ mg (I.cn c) = some (.ref (I.ca c)) ∧ (I.cn c == ("__debug__" : Str)) = false) t.kc)
    (ni : AllIn (fun c => c ∈ t.kc ∧ (∃ fa fd ps, DefNI K I c fa fd ps ∧ Meth K (I.ca c) "__eq__" fa) ∧ Dcl K (I.ca c)) t.ni)
    (sub : ∀ c' ∈ t.kc, ∀ c ∈ t.kc, c' ≠ c → SubOk K (I.ca c') (I.ca c))
    (gd : AllIn (fun p : Nat × D => ∃ u v, mg (I.gn p.1) = some u ∧ RelV v u ∧ ∀ G, Rep I K G p.2 v) t.gd)
    (n0 : I.mn 0 = "__init__") (n1 : I.mn 1 = "__eq__") (n2 : I.mn 2 = "__contains__") (n3 : I.mn 3 = "__len__")
    (bn : ∀ x ∈ bltNames, mg x = none) (nin : mg "NotImplemented" = none) : Stat P w K mg base I t.tab := by
  have kcm : ∀ c, t.kc.contains c = true → c ∈ t.kc := fun c h => by simpa using h
  refine ⟨fl, fun c a h => ?_, fun c a b ha hb => ?_, fun f d h => ?_, fun c m d h => ?_, fun c d h => ?_, fun c h => (kc.mem _ (kcm c h)).1, fun c m d h => sf c (mtc _ (look2_mem h)), opn, fun c k h1 h2 => itr c k h1 (fl ▸ h2), fun c h => (kc.mem _ (kcm c h)).2, fun c h => ?_, fun c' c b h => ?_, fun k d h => gd.mem _ (look_mem h), n0, n1, n2, n3, bn, nin⟩
  · rw [← fl] at h
    obtain ⟨xs, h1, h2, _⟩ := flOf_mem h
    obtain ⟨q1, q2, _⟩ := att.mem _ h1
    exact ⟨q1, q2.mem a h2⟩
  · rw [← fl] at ha hb
    obtain ⟨xs, h1, h2, h3⟩ := flOf_mem ha
    rw [h3] at hb
    exact (att.mem _ h1).2.2 a h2 b hb
  · obtain ⟨fa, fd, ps, q1, q2, q3, q4⟩ := fn.mem _ (look_mem h)
    refine ⟨fa, fd, ps, q1, q2, q3, fun ds hd => ?_⟩
    obtain ⟨q, m1, m2⟩ := List.any_eq_true.mp hd
    rw [Bool.and_eq_true, beq_iff_eq, decide_eq_true_eq] at m2
    rw [← m2.2]
    exact q4 q m1 m2.1
  · obtain ⟨q1, q2⟩ := mt.mem _ (look2_mem h)
    refine ⟨q1, (kc.mem _ (mtc _ (look2_mem h))).1, ?_⟩
    rw [← fl]; exact q2
  · obtain ⟨fa, fd, ps, q1, q2, q3, q4⟩ := mkk.mem _ (look2_mem h) rfl
    refine ⟨fa, fd, ps, q1, q2, q3, fun ds hd => ?_⟩
    obtain ⟨q, m1, m2⟩ := List.any_eq_true.mp hd
    rw [Bool.and_eq_true, beq_iff_eq, decide_eq_true_eq] at m2
    rw [← m2.2]
    exact q4 q m1 m2.1
  · obtain ⟨q1, q2, q3⟩ := ni.mem _ (by simpa [TabL.tab] using h)
    exact ⟨by show t.kc.contains c = true; simpa using q1, q2, q3⟩
  · have h' : (if t.kc.contains c' && (t.kc.contains c && !(c' == c)) then some false else none) = some b := h
    split at h'
    · rename_i hc
      cases h'
      simp only [Bool.and_eq_true, Bool.not_eq_true', beq_eq_false_iff_ne] at hc
      exact ⟨rfl, hc.1, sub c' (kcm _ hc.1) c (kcm _ hc.2.1) hc.2.2⟩
    · cases h'
end
theorem reps_strs {I : Ci} {K : PySem.W.Frag} {G : Hp} : ∀ ns : List Str, Reps I K G (ns.map D.str) (ns.map V.str)
  | [] => rfl
  | n :: ns => ⟨_, _, rfl, rfl, reps_strs ns⟩
theorem rot_of {I : Ci} {K : PySem.W.Frag} {G : Hp} {a : Addr} {c : Value} {d : Option Addr} {its : Array Value} {n : Nat} {sl : Array (Option Value)} {xs : List Str} (h : K.lookup a = some ⟨c, d, .seq its n, sl⟩) (hc : c = .type "tuple") (hn : its.size ≤ sizeLine) (hv : Vals (xs.map V.str) its.toList) : Rep I K G (.rot (xs.map D.str)) (.ref a) :=
  ⟨a, _, rfl, .inr ⟨_, its, n, h, hc, rfl, hn, hv⟩, reps_strs xs⟩
theorem fx_fn {T : Tab} {n f : Nat} {d : Fd} {as : List Val} {μ : Mu} (h : T.fn f = some d) : (fx T (n + 1)).fn f as μ = runF (fx T n) d as μ := by
  show runO (fx T n) (T.fn f) as μ = _
  rw [h]; rfl
theorem fx_mt {T : Tab} {n c m : Nat} {d : Fd} {as : List Val} {μ : Mu} (h : T.mt c m = some d) : (fx T (n + 1)).mt c m as μ = runF (fx T n) d as μ := by
  show runO (fx T n) (T.mt c m) as μ = _
  rw [h]; rfl
theorem fx_df {T : Tab} {n f : Nat} : (fx T n).df f = (T.fn f).isSome := by cases n <;> rfl
theorem fx_dm {T : Tab} {n c m : Nat} : (fx T n).dm c m = (T.mt c m).isSome := by cases n <;> rfl
theorem fx_fl {T : Tab} {n : Nat} : (fx T n).fl = T.fl := by cases n <;> rfl
theorem fx_kc {T : Tab} {n : Nat} : (fx T n).kc = T.kc := by cases n <;> rfl
theorem fx_gd {T : Tab} {n : Nat} : (fx T n).gd = T.gd := by cases n <;> rfl
theorem fx_ni {T : Tab} {n c : Nat} : (fx T (n + 1)).ni c = T.ni c := rfl
theorem kit_self {K : PySem.W.Frag} {C : Addr} : PySem.W.kitOne K (.ref C) (.ref C) = some true := by
  unfold PySem.W.kitOne
  rw [if_pos (by simp)]
theorem kit_other {K : PySem.W.Frag} {C : Addr} {cd : ClassData} (h1 : PySem.W.clsIn K C = some cd) (h2 : PySem.W.typeIn K (.ref C) = some (.type "type")) : ∀ n ∈ ["NoneType", "bool", "int", "str", "tuple", "list", "dict"], PySem.W.kitOne K (.type n) (.ref C) = some false := by
  have key : ∀ n, PySem.W.subIn K (.type n) (.ref C) = some false → PySem.W.kitOne K (.type n) (.ref C) = some false := fun n h => by
    unfold PySem.W.kitOne
    rw [if_neg (by intro z; cases z)]
    unfold PySem.W.kitCls
    dsimp only
    rw [h1, h2, if_pos (by rfl), h]
  refine AllIn.mem (.cons (key _ ?_) (.cons (key _ ?_) (.cons (key _ ?_) (.cons (key _ ?_) (.cons (key _ ?_) (.cons (key _ ?_) (.cons (key _ ?_) .nil)))))))
  all_goals kernel_rfl
/-- what the law promises -/
def spLaw (K : PySem.W.Frag) : Sp := fun vs H Q _ => ∃ (a : Addr) (ns : List Int), vs = [.ref a] ∧ SqL K H a (ns.map V.int) ∧ ns.length ≤ 63 ∧ ∀ H', Q (.bl true) H'
/-- the law holds of the core -/
def LawOk (F : Fx) (f : Nat) : Prop := ∀ ns : List Int, ns.length ≤ 63 → ∃ μ, F.fn f [.fz (.rol (ns.map .int))] [] = .ok (.fz (.bl true)) μ
theorem reps_ints {I : Ci} {K : PySem.W.Frag} {G : Hp} : ∀ ns : List Int, Reps I K G (ns.map D.int) (ns.map V.int)
  | [] => rfl
  | n :: ns => ⟨_, _, rfl, rfl, reps_ints ns⟩
theorem law_of {P : Program} {w : World} {K : PySem.W.Frag} {mg : Str → Option Value} {base : Heap} {I : Ci} {T : Tab} {n f : Nat} {fa : Addr} {fd : FuncData} {ps : List Str} {d : Fd} (S : Stat P w K mg base I T) (hd : T.fn f = some d) (D : DefAt K I d fa fd ps) (L : LawOk (fx T (n + 1)) f) : FnOk P w K mg base (L2.CX P w) (2 * (n + 1)) fa fd ps (spLaw K) := by
  refine (D.ok (S.lk n) S.bn).imp fun vs H Q E ⟨a, ns, e, hs, hl, q⟩ => ?_
  subst e
  obtain ⟨μ, e⟩ := L ns hl
  have e' : runF (fx T n) d [.fz (.rol (ns.map .int))] [] = .ok (.fz (.bl true)) μ := by
    have : (fx T (n + 1)).fn f [.fz (.rol (ns.map .int))] [] = runO (fx T n) (T.fn f) [.fz (.rol (ns.map .int))] [] := rfl
    rw [hd] at this
    exact this.symm.trans e
  have hG : ∀ p, (fun p => if p = a then H a else none : Hp) p = if p = a then H a else none := fun _ => rfl
  refine ⟨fun p => if p = a then H a else none, [], [], [.fz (.rol (ns.map .int))], ⟨fun p o h => ?_, rfl, List.nodup_nil, fun k p o h => by simp at h⟩, ⟨_, _, rfl, ⟨a, _, rfl, ?_, reps_ints ns⟩, rfl⟩, ?_⟩
  · by_cases hp : p = a
    · subst hp; rw [if_pos rfl] at h; exact .inl h
    · rw [if_neg hp] at h; cases h
  · rcases hs with (h | ⟨o, h⟩) | h
    · exact .inl (.inl (by show (if a = a then H a else none) = _; rw [if_pos rfl]; exact h))
    · exact .inl (.inr ⟨o, by show (if a = a then H a else none) = _; rw [if_pos rfl]; exact h⟩)
    · exact .inr h
  · rw [e']
    exact fun G' ρ' H' _ _ v hv _ => by rw [show v = _ from hv]; exact q H'
theorem no_exc {P : Program} {w : World} {H : Hp} {s : Shared} {e : Value} {s' : Shared} (h : L2.CX P w [] H s (fun _ _ _ => False) e s') : False := by
  obtain ⟨_, _, _, _, _, _, _, _, _, _, _, _, h⟩ := h
  exact h
end EW
set_option maxRecDepth 100000
set_option maxHeartbeats 2000000
namespace CT
open PySem L2 EW
def tan : List Str := (["index", "box", "kept", "folders", "into", "tree", "default", "turns", "done", "known", "soft", "hard", "rule", "one", "other", "number", "cost", "word", "wide", "narrow", "ways", "present", "past", "later"] : List String).map Str.ofString
def tmn : List Str := (["__init__", "__eq__", "__contains__", "__len__", "__xor__", "__and__", "__or__", "__sub__", "__add__", "__invert__", "__call__", "__iter__", "rows", "names", "row_of", "check", "folder", "kind", "price", "inside", "way", "below", "steps", "is_locked", "more", "less", "moved", "opened", "states", "value", "pairs", "deeds", "maps", "entries", "least", "undo", "least_at", "least_with", "first_maps", "held", "total", "on", "off", "shows", "asks", "meaning", "change", "add", "drop", "move", "do", "turn", "again", "trial"] : List String).map Str.ofString
def tfn : List Str := (["is_name", "is_price", "is_among", "is_row", "_law_stream", "_law_draw", "_law_pick", "_law_name", "_law_kinds", "_law_prices", "_law_rows", "_law_way", "_law_below", "_law_shows", "law", "_law_is_name", "_law_fits", "_law_due", "_law_refused", "_law_spoilt", "_law_doors", "_law_narrow_doors", "_law_beneath", "_law_moved_rows", "_law_is", "_law_moves_right", "_law_opened_right", "same_tree", "check_alike", "of_values", "_law_values", "_law_some", "_law_open", "_law_mix", "_law_newcomers_right", "_law_unlike", "parting", "middle", "_law_meaning", "_law_two", "_law_near", "_law_newcomers", "_law_box_by_box", "_law_turns_right", "_law_sum", "_law_all", "is_deed", "check_open", "behind", "value_by", "map_by", "entries_of", "_law_free_rows", "_law_deeds", "_law_done", "_law_map", "_law_entries", "row_of_maps", "clash", "fewest_deeds", "told_by", "join", "_law_is_deed", "_law_apart", "_law_led", "_law_longer", "_law_least_right", "idle", "_law_choices", "_law_shorter", "_law_least_entries", "_law_chain", "_law_great_right", "_law_told", "_law_joined", "check_rule", "needs_turn", "moved", "_law_tried", "_law_is_right", "back", "after_move", "unlike_moves", "_law_refusals_right", "_law_written", "_law_trees", "_law_meanings", "_law_by_names", "_law_made", "_law_fields", "check_wish", "check_default", "pinned", "checked_pins", "pins_of", "boxes_in", "least_below", "least_of", "with_pin", "cost_with", "barred_pair", "limited", "matched", "offers_of", "ways_of", "cheapest", "how_many", "told_pins", "is_within", "sure_value", "sure", "is_range", "added", "shown_by", "has_some", "written_ways", "write", "read", "listed_places", "listed", "_law_changed", "_law_papers", "_law_other_papers", "_law_loaded_right", "_law_with", "_law_wish", "_law_pins", "_law_way_steps", "_law_is_barred", "_law_barred_right", "_law_is_integer", "_law_asked", "_law_default", "_law_states", "is_end", "is_triple", "is_ways", "_law_is_triple", "_law_are_ways", "_law_is_shown", "_law_chain_rows", "_law_chains_right", "_law_pairs_right", "_law_long_right", "_law_example_right", "_law_chain_right", "_law_is_cut", "_law_seen", "_law_star", "_law_star_seen", "_law_star_right", "_law_other_way", "why_sure", "_law_is_why", "cheap_states", "choices", "settles", "fewest_looks", "_law_all_asked", "_law_settles", "_law_range", "_law_shown", "_law_total", "_law_within", "_law_held", "_law_counted", "_law_numbers", "_law_all_numbers", "_law_side_shows", "_law_hangs", "_law_box_right", "check_click", "check_items", "changed", "whole_click", "click", "unseen", "_law_clicked", "_law_spare", "_law_is_range", "_law_asks", "_law_may_show", "_law_table", "_law_worded", "_law_locked", "_law_click_due", "_law_plain", "_law_bad_table", "_law_three", "_law_lines", "_law_read", "_law_line", "_law_places", "_law_turns", "_law_deed_told", "_law_move_due", "_law_do_due", "_law_change", "_law_add_due", "_law_due_change", "_law_call", "_law_stands", "_law_step", "_law_begun", "_law_counts_right", "_law_end", "_law_ends", "_law_copied", "_law_work", "_law_cheap_named", "_law_shown_named", "_law_live_named"] : List String).map Str.ofString
def tcn : List Str := (["Tree", "Meaning", "Row", "Leading", "Cheapest", "Counts", "Live"] : List String).map Str.ofString
def tgn : List Str := (["TOP", "KINDS", "LETTERS", "WORDS", "TURNED", "RULES", "SHOWN", "DEEDS"] : List String).map Str.ofString
def txn : List Str := (["BoxError", "BadRow", "NoBox", "NotShut", "BadMove", "BadDefault", "Locked", "UnlikeTrees", "LockedTree", "BadDeed", "Clash", "BadRule", "BadWish", "Barred", "BadNumber", "TooDear", "BadRange", "BadTable", "NotSure", "BadLine"] : List String).map Str.ofString
abbrev nis_name : Nat := 0
abbrev nis_price : Nat := 1
abbrev nis_among : Nat := 2
abbrev nis_row : Nat := 3
abbrev n_law_stream : Nat := 4
abbrev n_law_draw : Nat := 5
abbrev n_law_pick : Nat := 6
abbrev n_law_name : Nat := 7
abbrev n_law_kinds : Nat := 8
abbrev n_law_prices : Nat := 9
abbrev n_law_rows : Nat := 10
abbrev n_law_way : Nat := 11
abbrev n_law_below : Nat := 12
abbrev n_law_shows : Nat := 13
abbrev nlaw : Nat := 14
abbrev n_law_is_name : Nat := 15
abbrev n_law_fits : Nat := 16
abbrev n_law_due : Nat := 17
abbrev n_law_refused : Nat := 18
abbrev n_law_spoilt : Nat := 19
abbrev n_law_doors : Nat := 20
abbrev n_law_narrow_doors : Nat := 21
abbrev n_law_beneath : Nat := 22
abbrev n_law_moved_rows : Nat := 23
abbrev n_law_is : Nat := 24
abbrev n_law_moves_right : Nat := 25
abbrev n_law_opened_right : Nat := 26
abbrev nsame_tree : Nat := 27
abbrev ncheck_alike : Nat := 28
abbrev nof_values : Nat := 29
abbrev n_law_values : Nat := 30
abbrev n_law_some : Nat := 31
abbrev n_law_open : Nat := 32
abbrev n_law_mix : Nat := 33
abbrev n_law_newcomers_right : Nat := 34
abbrev n_law_unlike : Nat := 35
abbrev nparting : Nat := 36
abbrev nmiddle : Nat := 37
abbrev n_law_meaning : Nat := 38
abbrev n_law_two : Nat := 39
abbrev n_law_near : Nat := 40
abbrev n_law_newcomers : Nat := 41
abbrev n_law_box_by_box : Nat := 42
abbrev n_law_turns_right : Nat := 43
abbrev n_law_sum : Nat := 44
abbrev n_law_all : Nat := 45
abbrev nis_deed : Nat := 46
abbrev ncheck_open : Nat := 47
abbrev nbehind : Nat := 48
abbrev nvalue_by : Nat := 49
abbrev nmap_by : Nat := 50
abbrev nentries_of : Nat := 51
abbrev n_law_free_rows : Nat := 52
abbrev n_law_deeds : Nat := 53
abbrev n_law_done : Nat := 54
abbrev n_law_map : Nat := 55
abbrev n_law_entries : Nat := 56
abbrev nrow_of_maps : Nat := 57
abbrev nclash : Nat := 58
abbrev nfewest_deeds : Nat := 59
abbrev ntold_by : Nat := 60
abbrev njoin : Nat := 61
abbrev n_law_is_deed : Nat := 62
abbrev n_law_apart : Nat := 63
abbrev n_law_led : Nat := 64
abbrev n_law_longer : Nat := 65
abbrev n_law_least_right : Nat := 66
abbrev nidle : Nat := 67
abbrev n_law_choices : Nat := 68
abbrev n_law_shorter : Nat := 69
abbrev n_law_least_entries : Nat := 70
abbrev n_law_chain : Nat := 71
abbrev n_law_great_right : Nat := 72
abbrev n_law_told : Nat := 73
abbrev n_law_joined : Nat := 74
abbrev ncheck_rule : Nat := 75
abbrev nneeds_turn : Nat := 76
abbrev nmoved : Nat := 77
abbrev n_law_tried : Nat := 78
abbrev n_law_is_right : Nat := 79
abbrev nback : Nat := 80
abbrev nafter_move : Nat := 81
abbrev nunlike_moves : Nat := 82
abbrev n_law_refusals_right : Nat := 83
abbrev n_law_written : Nat := 84
abbrev n_law_trees : Nat := 85
abbrev n_law_meanings : Nat := 86
abbrev n_law_by_names : Nat := 87
abbrev n_law_made : Nat := 88
abbrev n_law_fields : Nat := 89
abbrev ncheck_wish : Nat := 90
abbrev ncheck_default : Nat := 91
abbrev npinned : Nat := 92
abbrev nchecked_pins : Nat := 93
abbrev npins_of : Nat := 94
abbrev nboxes_in : Nat := 95
abbrev nleast_below : Nat := 96
abbrev nleast_of : Nat := 97
abbrev nwith_pin : Nat := 98
abbrev ncost_with : Nat := 99
abbrev nbarred_pair : Nat := 100
abbrev nlimited : Nat := 101
abbrev nmatched : Nat := 102
abbrev noffers_of : Nat := 103
abbrev nways_of : Nat := 104
abbrev ncheapest : Nat := 105
abbrev nhow_many : Nat := 106
abbrev ntold_pins : Nat := 107
abbrev nis_within : Nat := 108
abbrev nsure_value : Nat := 109
abbrev nsure : Nat := 110
abbrev nis_range : Nat := 111
abbrev nadded : Nat := 112
abbrev nshown_by : Nat := 113
abbrev nhas_some : Nat := 114
abbrev nwritten_ways : Nat := 115
abbrev nwrite : Nat := 116
abbrev nread : Nat := 117
abbrev nlisted_places : Nat := 118
abbrev nlisted : Nat := 119
abbrev n_law_changed : Nat := 120
abbrev n_law_papers : Nat := 121
abbrev n_law_other_papers : Nat := 122
abbrev n_law_loaded_right : Nat := 123
abbrev n_law_with : Nat := 124
abbrev n_law_wish : Nat := 125
abbrev n_law_pins : Nat := 126
abbrev n_law_way_steps : Nat := 127
abbrev n_law_is_barred : Nat := 128
abbrev n_law_barred_right : Nat := 129
abbrev n_law_is_integer : Nat := 130
abbrev n_law_asked : Nat := 131
abbrev n_law_default : Nat := 132
abbrev n_law_states : Nat := 133
abbrev nis_end : Nat := 134
abbrev nis_triple : Nat := 135
abbrev nis_ways : Nat := 136
abbrev n_law_is_triple : Nat := 137
abbrev n_law_are_ways : Nat := 138
abbrev n_law_is_shown : Nat := 139
abbrev n_law_chain_rows : Nat := 140
abbrev n_law_chains_right : Nat := 141
abbrev n_law_pairs_right : Nat := 142
abbrev n_law_long_right : Nat := 143
abbrev n_law_example_right : Nat := 144
abbrev n_law_chain_right : Nat := 145
abbrev n_law_is_cut : Nat := 146
abbrev n_law_seen : Nat := 147
abbrev n_law_star : Nat := 148
abbrev n_law_star_seen : Nat := 149
abbrev n_law_star_right : Nat := 150
abbrev n_law_other_way : Nat := 151
abbrev nwhy_sure : Nat := 152
abbrev n_law_is_why : Nat := 153
abbrev ncheap_states : Nat := 154
abbrev nchoices : Nat := 155
abbrev nsettles : Nat := 156
abbrev nfewest_looks : Nat := 157
abbrev n_law_all_asked : Nat := 158
abbrev n_law_settles : Nat := 159
abbrev n_law_range : Nat := 160
abbrev n_law_shown : Nat := 161
abbrev n_law_total : Nat := 162
abbrev n_law_within : Nat := 163
abbrev n_law_held : Nat := 164
abbrev n_law_counted : Nat := 165
abbrev n_law_numbers : Nat := 166
abbrev n_law_all_numbers : Nat := 167
abbrev n_law_side_shows : Nat := 168
abbrev n_law_hangs : Nat := 169
abbrev n_law_box_right : Nat := 170
abbrev ncheck_click : Nat := 171
abbrev ncheck_items : Nat := 172
abbrev nchanged : Nat := 173
abbrev nwhole_click : Nat := 174
abbrev nclick : Nat := 175
abbrev nunseen : Nat := 176
abbrev n_law_clicked : Nat := 177
abbrev n_law_spare : Nat := 178
abbrev n_law_is_range : Nat := 179
abbrev n_law_asks : Nat := 180
abbrev n_law_may_show : Nat := 181
abbrev n_law_table : Nat := 182
abbrev n_law_worded : Nat := 183
abbrev n_law_locked : Nat := 184
abbrev n_law_click_due : Nat := 185
abbrev n_law_plain : Nat := 186
abbrev n_law_bad_table : Nat := 187
abbrev n_law_three : Nat := 188
abbrev n_law_lines : Nat := 189
abbrev n_law_read : Nat := 190
abbrev n_law_line : Nat := 191
abbrev n_law_places : Nat := 192
abbrev n_law_turns : Nat := 193
abbrev n_law_deed_told : Nat := 194
abbrev n_law_move_due : Nat := 195
abbrev n_law_do_due : Nat := 196
abbrev n_law_change : Nat := 197
abbrev n_law_add_due : Nat := 198
abbrev n_law_due_change : Nat := 199
abbrev n_law_call : Nat := 200
abbrev n_law_stands : Nat := 201
abbrev n_law_step : Nat := 202
abbrev n_law_begun : Nat := 203
abbrev n_law_counts_right : Nat := 204
abbrev n_law_end : Nat := 205
abbrev n_law_ends : Nat := 206
abbrev n_law_copied : Nat := 207
abbrev n_law_work : Nat := 208
abbrev n_law_cheap_named : Nat := 209
abbrev n_law_shown_named : Nat := 210
abbrev n_law_live_named : Nat := 211
abbrev k_init_ : Nat := 0
abbrev k_eq_ : Nat := 1
abbrev k_contains_ : Nat := 2
abbrev k_len_ : Nat := 3
abbrev k_xor_ : Nat := 4
abbrev k_and_ : Nat := 5
abbrev k_or_ : Nat := 6
abbrev k_sub_ : Nat := 7
abbrev k_add_ : Nat := 8
abbrev k_invert_ : Nat := 9
abbrev k_call_ : Nat := 10
abbrev k_iter_ : Nat := 11
abbrev krows : Nat := 12
abbrev knames : Nat := 13
abbrev krow_of : Nat := 14
abbrev kcheck : Nat := 15
abbrev kfolder : Nat := 16
abbrev kkind : Nat := 17
abbrev kprice : Nat := 18
abbrev kinside : Nat := 19
abbrev kway : Nat := 20
abbrev kbelow : Nat := 21
abbrev ksteps : Nat := 22
abbrev kis_locked : Nat := 23
abbrev kmore : Nat := 24
abbrev kless : Nat := 25
abbrev kmoved : Nat := 26
abbrev kopened : Nat := 27
abbrev kstates : Nat := 28
abbrev kvalue : Nat := 29
abbrev kpairs : Nat := 30
abbrev kdeeds : Nat := 31
abbrev kmaps : Nat := 32
abbrev kentries : Nat := 33
abbrev kleast : Nat := 34
abbrev kundo : Nat := 35
abbrev kleast_at : Nat := 36
abbrev kleast_with : Nat := 37
abbrev kfirst_maps : Nat := 38
abbrev kheld : Nat := 39
abbrev ktotal : Nat := 40
abbrev kon : Nat := 41
abbrev koff : Nat := 42
abbrev kshows : Nat := 43
abbrev kasks : Nat := 44
abbrev kmeaning : Nat := 45
abbrev kchange : Nat := 46
abbrev kadd : Nat := 47
abbrev kdrop : Nat := 48
abbrev kmove : Nat := 49
abbrev kdo : Nat := 50
abbrev kturn : Nat := 51
abbrev kagain : Nat := 52
abbrev ktrial : Nat := 53
abbrev cTree : Nat := 0
abbrev cMeaning : Nat := 1
abbrev cRow : Nat := 2
abbrev cLeading : Nat := 3
abbrev cCheapest : Nat := 4
abbrev cCounts : Nat := 5
abbrev cLive : Nat := 6
def fis_name : Fd := ⟨1, 2,
 (.cons (.ife (.or (.not (.isi (.x 0) [.ty "str"])) (.or (.not (.cmp2 .LtE .LtE (.k (.int 1)) (.blt .len (.cons (.x 0) .nil)) (.k (.int 8)))) (.cmp .Eq (.x 0) (.g 0))))
 (.cons (.ret (.k (.bl false)))
  .nil)
 .nil)
  (.cons (.ret (.blt .all (.cons (.lc (.nm 1) [1] .seq (.x 0) (.cmp .In (.x 1) (.g 2))) .nil)))
  .nil))⟩
def fis_price : Fd := ⟨1, 1,
 (.cons (.ret (.or (.cmp .Is (.x 0) (.k .non)) (.and (.isi (.x 0) [.ty "int"]) (.and (.not (.isi (.x 0) [.ty "bool"])) (.cmp .GtE (.x 0) (.k (.int 1)))))))
  .nil)⟩
def fis_among : Fd := ⟨2, 2,
 (.cons (.ret (.and (.isi (.x 0) [.ty "str"]) (.cmp .In (.x 0) (.x 1))))
  .nil)⟩
def fis_row : Fd := ⟨3, 7,
 (.cons (.ife (.or (.not (.isi (.x 0) [.ty "list", .ty "tuple"])) (.cmp .NotEq (.blt .len (.cons (.x 0) .nil)) (.k (.int 4))))
 (.cons (.ret (.k (.bl false)))
  .nil)
 .nil)
  (.cons (.unp (.tp [3, 4, 5, 6]) (.x 0))
  (.cons (.ife (.or (.not (.fn 0 (.cons (.x 3) .nil))) (.or (.cmp .In (.x 3) (.x 2)) (.not (.fn 2 (.cons (.x 4) (.cons (.x 1) .nil))))))
 (.cons (.ret (.k (.bl false)))
  .nil)
 .nil)
  (.cons (.ret (.and (.fn 2 (.cons (.x 5) (.cons (.g 1) .nil))) (.fn 1 (.cons (.x 6) .nil))))
  .nil))))⟩
def f_law_stream : Fd := ⟨2, 3,
 (.cons (.set 2 (.ife (.cmp .Lt (.x 1) (.blt .len (.cons (.x 0) .nil))) (.blt .abs (.cons (.ix (.x 0) (.x 1)) .nil)) (.k (.int 0))))
  (.cons (.ret (.lst (.cons (.ife (.cmp .GtE (.x 2) (.bin .Pow (.k (.int 10)) (.k (.int 18)))) (.x 2) (.k (.int 0))) (.cons (.bin .Add (.bin .Mod (.blt .int (.cons (.x 2) .nil)) (.k (.int 2147483647))) (.bin .Mult (.k (.int 31)) (.x 1))) (.cons (.k (.int 0)) .nil)))))
  .nil))⟩
def f_law_draw : Fd := ⟨2, 4,
 (.cons (.ife (.cmp .Gt (.ix (.x 0) (.k (.int 0))) (.k (.int 0)))
 (.cons (.set 2 (.bin .Mod (.blt .int (.cons (.ix (.x 0) (.k (.int 0))) .nil)) (.x 1)))
  (.cons (.put (.x 0) (.k (.int 0)) (.bin .FloorDiv (.ix (.x 0) (.k (.int 0))) (.x 1)))
  (.cons (.ret (.x 2))
  .nil)))
 .nil)
  (.cons (.put (.x 0) (.k (.int 2)) (.bin .Add (.ix (.x 0) (.k (.int 2))) (.k (.int 1))))
  (.cons (.set 3 (.bin .Mod (.bin .Pow (.blt .int (.cons (.bin .Add (.bin .Add (.ix (.x 0) (.k (.int 1))) (.bin .Mult (.k (.int 7919)) (.ix (.x 0) (.k (.int 2))))) (.k (.int 104729))) .nil)) (.k (.int 5))) (.k (.int 2147483647))))
  (.cons (.ret (.bin .Mod (.bin .FloorDiv (.bin .Mod (.blt .int (.cons (.bin .Mult (.bin .Add (.x 3) (.ix (.x 0) (.k (.int 2)))) (.k (.int 40692))) .nil)) (.k (.int 2147483629))) (.k (.int 7))) (.x 1)))
  .nil))))⟩
def f_law_pick : Fd := ⟨2, 2,
 (.cons (.ret (.ix (.x 1) (.fn 5 (.cons (.x 0) (.cons (.blt .len (.cons (.x 1) .nil)) .nil)))))
  .nil)⟩
def f_law_name : Fd := ⟨1, 3,
 (.cons (.set 1 (.ix (.lst (.cons (.k (.int 1)) (.cons (.k (.int 1)) (.cons (.k (.int 2)) (.cons (.k (.int 3)) (.cons (.k (.int 8)) .nil)))))) (.fn 5 (.cons (.x 0) (.cons (.k (.int 5)) .nil)))))
  (.cons (.ret (.bmt .join (.k (.str "")) (.cons (.lc (.nm 2) [2] .rng (.x 1) (.fn 6 (.cons (.x 0) (.cons (.k (.str "abcdefghijklmnopqrstuvwxyz")) .nil)))) .nil)))
  .nil))⟩
def f_law_kinds : Fd := ⟨0, 0,
 (.cons (.ret (.lst (.cons (.k (.str "folder")) (.cons (.k (.str "folder")) (.cons (.k (.str "item")) (.cons (.k (.str "item")) (.cons (.k (.str "item")) (.cons (.k (.str "shut")) .nil))))))))
  .nil)⟩
def f_law_prices : Fd := ⟨0, 0,
 (.cons (.ret (.lst (.cons (.k (.int 1)) (.cons (.k (.int 1)) (.cons (.k (.int 1)) (.cons (.k (.int 2)) (.cons (.k (.int 3)) (.cons (.k (.int 7)) (.cons (.k .non) .nil)))))))))
  .nil)⟩
def f_law_rows : Fd := ⟨4, 11,
 (.cons (.par [4, 5, 6] (.cons (.mkc (.lst .nil)) (.cons (.mkc (.lst (.cons (.k (.str "top")) .nil))) (.cons (.mkc (.lst (.cons (.k (.str "top")) .nil))) .nil))))
  (.cons (.for_ (.nm 7) [7, 8, 9, 10] .rng (.x 1)
 (.cons (.set 8 (.fn 7 (.cons (.x 0) .nil)))
  (.cons (.ife (.cmp .In (.x 8) (.x 6))
 (.cons (.set 8 (.bin .Add (.bin .Add (.k (.str "q")) (.ix (.k (.str "abcdefghij")) (.bin .Mod (.x 7) (.k (.int 10))))) (.ix (.k (.str "klmnop")) (.bin .Mod (.bin .FloorDiv (.x 7) (.k (.int 10))) (.k (.int 6))))))
  .nil)
 .nil)
  (.cons (.par [9, 10] (.cons (.fn 6 (.cons (.x 0) (.cons (.x 2) .nil))) (.cons (.fn 6 (.cons (.x 0) (.cons (.bin .Add (.sl (.x 5) (.neg (.k (.int 4))) (.k .non)) (.lst (.cons (.k (.str "top")) .nil))) .nil))) .nil)))
  (.cons (.ife (.cmp .NotIn (.x 8) (.x 6))
 (.cons (.ex (.bmt .append (.x 6) (.cons (.x 8) .nil)))
  (.cons (.ex (.bmt .append (.x 4) (.cons (.tup (.cons (.x 8) (.cons (.x 10) (.cons (.x 9) (.cons (.fn 6 (.cons (.x 0) (.cons (.x 3) .nil))) .nil))))) .nil)))
  (.cons (.ex (.bmt .extend (.x 5) (.cons (.ife (.cmp .Eq (.x 9) (.k (.str "folder"))) (.lst (.cons (.x 8) .nil)) (.lst .nil)) .nil)))
  .nil)))
 .nil)
  .nil)))))
  (.cons (.ret (.x 4))
  .nil)))⟩
def f_law_way : Fd := ⟨2, 5,
 (.cons (.par [2, 3] (.cons (.blt .dict (.cons (.lc (.nm 4) [4] .seq (.x 0) (.tup (.cons (.ix (.x 4) (.k (.int 0))) (.cons (.ix (.x 4) (.k (.int 1))) .nil)))) .nil)) (.cons (.mkc (.lst .nil)) .nil)))
  (.cons (.whl 100 [] (.cmp .NotEq (.x 1) (.k (.str "top")))
 (.cons (.ex (.bmt .insert (.x 3) (.cons (.k (.int 0)) (.cons (.x 1) .nil))))
  (.cons (.set 1 (.ix (.x 2) (.x 1)))
  .nil)))
  (.cons (.ret (.x 3))
  .nil)))⟩
def f_law_below : Fd := ⟨2, 5,
 (.cons (.set 2 (.lcIf (.nm 3) [3] .seq (.x 0) (.cmp .NotEq (.ix (.x 3) (.k (.int 0))) (.x 1)) (.ix (.x 3) (.k (.int 0)))))
  (.cons (.ret (.lcIf (.nm 4) [4] .seq (.x 2) (.or (.cmp .Eq (.x 1) (.k (.str "top"))) (.cmp .In (.x 1) (.fn 11 (.cons (.x 0) (.cons (.x 4) .nil))))) (.x 4)))
  .nil))⟩
def f_law_shows : Fd := ⟨2, 9,
 (.cons (.ife (.or (.cmp .NotEq (.blt .len (.cons (.x 0) .nil)) (.blt .len (.cons (.x 1) .nil))) (.cmp .NotEq (.mt 12 (.x 0) .nil) (.x 1)))
 (.cons (.ret (.k (.bl false)))
  .nil)
 .nil)
  (.cons (.ife (.not (.blt .all (.cons (.lc (.nm 2) [2] .seq (.mt 12 (.x 0) .nil) (.isi (.x 2) [.ty "tuple"])) .nil)))
 (.cons (.ret (.k (.bl false)))
  .nil)
 .nil)
  (.cons (.for_ (.tp [3, 4, 5, 6]) [3, 4, 5, 6, 7] .seq (.x 1)
 (.cons (.set 7 (.tup (.cons (.mt 16 (.x 0) (.cons (.x 3) .nil)) (.cons (.mt 17 (.x 0) (.cons (.x 3) .nil)) (.cons (.mt 18 (.x 0) (.cons (.x 3) .nil)) .nil)))))
  (.cons (.ife (.or (.cmp .NotIn (.x 3) (.x 0)) (.cmp .NotEq (.x 7) (.tup (.cons (.x 4) (.cons (.x 5) (.cons (.x 6) .nil))))))
 (.cons (.ret (.k (.bl false)))
  .nil)
 .nil)
  .nil)))
  (.cons (.for_ (.nm 8) [8] .seq (.bin .Add (.lst (.cons (.k (.str "top")) .nil)) (.lc (.nm 2) [2] .seq (.x 1) (.ix (.x 2) (.k (.int 0)))))
 (.cons (.ife (.cmp .NotEq (.mt 19 (.x 0) (.cons (.x 8) .nil)) (.lcIf (.nm 2) [2] .seq (.x 1) (.cmp .Eq (.ix (.x 2) (.k (.int 1))) (.x 8)) (.ix (.x 2) (.k (.int 0)))))
 (.cons (.ret (.k (.bl false)))
  .nil)
 .nil)
  (.cons (.ife (.cmp .NotEq (.mt 21 (.x 0) (.cons (.x 8) .nil)) (.fn 12 (.cons (.x 1) (.cons (.x 8) .nil))))
 (.cons (.ret (.k (.bl false)))
  .nil)
 .nil)
  .nil)))
  (.cons (.ret (.k (.bl true)))
  .nil)))))⟩
def flaw : Fd := ⟨1, 10,
 (.cons (.for_ (.nm 1) [1, 2, 3, 4, 5, 6, 7, 8, 9] .rng (.k (.int 4))
 (.cons (.set 2 (.mkc (.fn 4 (.cons (.x 0) (.cons (.x 1) .nil)))))
  (.cons (.set 3 (.fn 10 (.cons (.x 2) (.cons (.fn 5 (.cons (.x 2) (.cons (.k (.int 13)) .nil))) (.cons (.fn 8 .nil) (.cons (.fn 9 .nil) .nil))))))
  (.cons (.set 4 (.lc (.nm 5) [5] .seq (.x 3) (.ife (.cmp .Eq (.fn 5 (.cons (.x 2) (.cons (.k (.int 2)) .nil))) (.k (.int 0))) (.mkc (.blt .list (.cons (.x 5) .nil))) (.x 5))))
  (.cons (.set 6 (.mk 0 (.cons (.ife (.cmp .Eq (.fn 5 (.cons (.x 2) (.cons (.k (.int 2)) .nil))) (.k (.int 0))) (.blt .tuple (.cons (.x 4) .nil)) (.x 4)) .nil)))
  (.cons (.ife (.not (.fn 13 (.cons (.x 6) (.cons (.x 3) .nil))))
 (.cons (.ret (.k (.bl false)))
  .nil)
 .nil)
  (.cons (.for_ (.nm 5) [5] .seq (.x 4)
 (.cons (.ife (.isi (.x 5) [.ty "list"])
 (.cons (.put (.x 5) (.k (.int 0)) (.k (.str "spoilt")))
  .nil)
 .nil)
  .nil))
  (.cons (.ex (.bmt .append (.mt 12 (.x 6) .nil) (.cons (.k .non) .nil)))
  (.cons (.ex (.bmt .append (.mt 19 (.x 6) (.cons (.k (.str "top")) .nil)) (.cons (.k (.str "z")) .nil)))
  (.cons (.ex (.bmt .append (.mt 21 (.x 6) (.cons (.k (.str "top")) .nil)) (.cons (.k (.str "z")) .nil)))
  (.cons (.ife (.not (.fn 13 (.cons (.x 6) (.cons (.x 3) .nil))))
 (.cons (.ret (.k (.bl false)))
  .nil)
 .nil)
  (.cons (.for_ (.nm 7) [7] .seq (.lst (.cons (.k (.str "top")) (.cons (.k .non) (.cons (.k (.int 5)) (.cons (.k (.str "")) (.cons (.k (.str "Z")) (.cons (.lst (.cons (.k (.str "a")) .nil)) (.cons (.tup (.cons (.k (.str "a")) .nil)) (.cons .dct0 (.cons (.k (.bl true)) .nil))))))))))
 (.cons (.ife (.cmp .In (.x 7) (.x 6))
 (.cons (.ret (.k (.bl false)))
  .nil)
 .nil)
  .nil))
  (.cons (.set 8 (.lst (.cons (.tup (.cons (.k (.str "z")) (.cons (.k (.str "top")) (.cons (.k (.str "item")) (.cons (.k (.int 1)) .nil))))) .nil)))
  (.cons (.ife (.cmp .NotEq (.x 3) (.lst .nil))
 (.cons (.set 8 (.bin .Add (.sl (.x 3) (.k .non) (.neg (.k (.int 1)))) (.lst (.cons (.bin .Add (.sl (.ix (.x 3) (.neg (.k (.int 1)))) (.k .non) (.k (.int 3))) (.tup (.cons (.ife (.cmp .Eq (.ix (.ix (.x 3) (.neg (.k (.int 1)))) (.k (.int 3))) (.k (.int 4))) (.k (.int 5)) (.k (.int 4))) .nil))) .nil))))
  .nil)
 .nil)
  (.cons (.ife (.or (.cmp .NotEq (.x 6) (.mk 0 (.cons (.x 3) .nil))) (.or (.not (.cmp .Eq (.x 6) (.mk 0 (.cons (.x 3) .nil)))) (.or (.cmp .Eq (.x 6) (.mk 0 (.cons (.x 8) .nil))) (.not (.cmp .NotEq (.x 6) (.mk 0 (.cons (.x 8) .nil)))))))
 (.cons (.ret (.k (.bl false)))
  .nil)
 .nil)
  (.cons (.ife (.or (.cmp .Eq (.x 6) (.x 3)) (.or (.cmp .Eq (.x 6) (.k .non)) (.cmp .Eq (.x 6) (.k (.str "tree")))))
 (.cons (.ret (.k (.bl false)))
  .nil)
 .nil)
  (.cons (.ife (.and (.cmp .Gt (.blt .len (.cons (.x 3) .nil)) (.k (.int 1))) (.cmp .NotEq (.ix (.ix (.x 3) (.neg (.k (.int 1)))) (.k (.int 1))) (.ix (.ix (.x 3) (.neg (.k (.int 2)))) (.k (.int 0)))))
 (.cons (.set 9 (.mk 0 (.cons (.bin .Add (.sl (.x 3) (.k .non) (.neg (.k (.int 2)))) (.lst (.cons (.ix (.x 3) (.neg (.k (.int 1)))) (.cons (.ix (.x 3) (.neg (.k (.int 2)))) .nil)))) .nil)))
  (.cons (.ife (.or (.cmp .Eq (.x 6) (.x 9)) (.not (.cmp .NotEq (.x 6) (.x 9))))
 (.cons (.ret (.k (.bl false)))
  .nil)
 .nil)
  .nil))
 .nil)
  .nil)))))))))))))))))
  (.cons (.ret (.cmp .Eq (.blt .len (.cons (.mk 0 (.cons (.lst .nil) .nil)) .nil)) (.k (.int 0))))
  .nil))⟩
def flaw_v1 : Fd := ⟨1, 10,
 (.cons (.for_ (.nm 1) [1, 2, 3, 4, 5, 7, 8, 9] .rng (.k (.int 3))
 (.cons (.set 2 (.mkc (.fn 4 (.cons (.x 0) (.cons (.x 1) .nil)))))
  (.cons (.set 3 (.fn 10 (.cons (.x 2) (.cons (.bin .Add (.k (.int 1)) (.fn 5 (.cons (.x 2) (.cons (.k (.int 8)) .nil)))) (.cons (.fn 8 .nil) (.cons (.fn 9 .nil) .nil))))))
  (.cons (.par [4, 5] (.cons (.mk 0 (.cons (.x 3) .nil)) (.cons (.bin .Add (.lst (.cons (.k (.str "top")) .nil)) (.lcIf (.nm 6) [6] .seq (.x 3) (.cmp .Eq (.ix (.x 6) (.k (.int 2))) (.k (.str "folder"))) (.ix (.x 6) (.k (.int 0))))) .nil)))
  (.cons (.par [7, 8] (.cons (.fn 6 (.cons (.x 2) (.cons (.fn 8 .nil) .nil))) (.cons (.fn 6 (.cons (.x 2) (.cons (.fn 9 .nil) .nil))) .nil)))
  (.cons (.set 9 (.tup (.cons (.k (.str "newz")) (.cons (.fn 6 (.cons (.x 2) (.cons (.x 5) .nil))) (.cons (.x 7) (.cons (.x 8) .nil))))))
  (.cons (.ife (.or (.not (.fn 24 (.cons (.mt 24 (.x 4) (.cons (.x 9) .nil)) (.cons (.bin .Add (.x 3) (.lst (.cons (.x 9) .nil))) .nil)))) (.not (.fn 24 (.cons (.mt 24 (.x 4) (.cons (.blt .list (.cons (.x 9) .nil)) .nil)) (.cons (.bin .Add (.x 3) (.lst (.cons (.x 9) .nil))) .nil)))))
 (.cons (.ret (.k (.bl false)))
  .nil)
 .nil)
  (.cons (.ife (.or (.not (.fn 25 (.cons (.x 4) (.cons (.x 3) .nil)))) (.not (.fn 26 (.cons (.x 2) (.cons (.x 4) (.cons (.x 3) .nil))))))
 (.cons (.ret (.k (.bl false)))
  .nil)
 .nil)
  (.cons (.ife (.not (.fn 24 (.cons (.x 4) (.cons (.x 3) .nil))))
 (.cons (.ret (.k (.bl false)))
  .nil)
 .nil)
  .nil)))))))))
  (.cons (.ret (.k (.bl true)))
  .nil))⟩
def flaw_v2 : Fd := ⟨1, 15,
 (.cons (.for_ (.nm 1) [1, 2, 3, 4, 5, 6, 7, 8, 9, 10, 11, 12, 13] .rng (.k (.int 5))
 (.cons (.set 2 (.mkc (.fn 4 (.cons (.x 0) (.cons (.x 1) .nil)))))
  (.cons (.set 3 (.fn 10 (.cons (.x 2) (.cons (.fn 5 (.cons (.x 2) (.cons (.k (.int 11)) .nil))) (.cons (.fn 8 .nil) (.cons (.fn 9 .nil) .nil))))))
  (.cons (.par [4, 5] (.cons (.mk 0 (.cons (.x 3) .nil)) (.cons (.cmp .Eq (.fn 5 (.cons (.x 2) (.cons (.k (.int 2)) .nil))) (.k (.int 0))) .nil)))
  (.cons (.set 6 (.fn 31 (.cons (.x 2) (.cons (.fn 32 (.cons (.x 3) .nil)) .nil))))
  (.cons (.unp (.tp [7, 8]) (.fn 40 (.cons (.x 2) (.cons (.x 3) (.cons (.x 5) (.cons (.x 6) .nil))))))
  (.cons (.par [9, 10] (.cons (.mk 1 (.cons (.x 4) (.cons (.x 5) (.cons (.x 6) .nil)))) (.cons (.mk 1 (.cons (.mk 0 (.cons (.x 3) .nil)) (.cons (.x 7) (.cons (.x 8) .nil)))) .nil)))
  (.cons (.unp (.tp [11, 12]) (.tup (.cons (.fn 30 (.cons (.x 3) (.cons (.x 5) (.cons (.x 6) .nil)))) (.cons (.fn 30 (.cons (.x 3) (.cons (.x 7) (.cons (.x 8) .nil)))) .nil))))
  (.cons (.set 13 (.lcIf (.nm 14) [14] .keys (.x 11) (.cmp .NotEq (.ix (.x 11) (.x 14)) (.ix (.x 12) (.x 14))) (.x 14)))
  (.cons (.ife (.or (.cmp .NotEq (.fn 36 (.cons (.x 9) (.cons (.x 10) .nil))) (.ife (.cmp .NotEq (.x 13) (.lst .nil)) (.ix (.x 13) (.k (.int 0))) (.k .non))) (.cmp .NotEq (.cmp .Eq (.x 9) (.x 10)) (.cmp .Eq (.x 13) (.lst .nil))))
 (.cons (.ret (.k (.bl false)))
  .nil)
 .nil)
  (.cons (.ife (.cmp .NotEq (.cmp .Eq (.fn 41 (.cons (.x 3) (.cons (.x 5) (.cons (.x 6) .nil)))) (.fn 41 (.cons (.x 3) (.cons (.x 7) (.cons (.x 8) .nil))))) (.cmp .Eq (.x 9) (.x 10)))
 (.cons (.ret (.k (.bl false)))
  .nil)
 .nil)
  (.cons (.ife (.cmp .NotEq (.and (.cmp .Eq (.x 5) (.x 7)) (.cmp .Eq (.blt .sorted (.cons (.x 6) .nil)) (.blt .sorted (.cons (.x 8) .nil)))) (.cmp .Eq (.x 9) (.x 10)))
 (.cons (.ret (.k (.bl false)))
  .nil)
 .nil)
  .nil))))))))))))
  (.cons (.ret (.k (.bl true)))
  .nil))⟩
def flaw_v3 : Fd := ⟨1, 11,
 (.cons (.for_ (.nm 1) [1, 2, 3, 4, 5, 6, 7, 9, 10] .rng (.k (.int 5))
 (.cons (.set 2 (.mkc (.fn 4 (.cons (.x 0) (.cons (.x 1) .nil)))))
  (.cons (.set 3 (.fn 10 (.cons (.x 2) (.cons (.fn 5 (.cons (.x 2) (.cons (.k (.int 13)) .nil))) (.cons (.fn 8 .nil) (.cons (.fn 9 .nil) .nil))))))
  (.cons (.set 4 (.mk 0 (.cons (.x 3) .nil)))
  (.cons (.unp (.tp [5, 6, 7]) (.lc (.nm 8) [8] .rng (.k (.int 3)) (.fn 38 (.cons (.x 2) (.cons (.x 3) (.cons (.x 4) .nil))))))
  (.cons (.par [9, 10] (.cons (.mkd 1 (.cons (.x 4) (.cons (.k (.bl false)) .nil)) [.rot []]) (.cons (.mkd 1 (.cons (.x 4) (.cons (.k (.bl true)) .nil)) [.rot []]) .nil)))
  (.cons (.ife (.or (.not (.fn 42 (.cons (.x 5) (.cons (.x 6) .nil)))) (.not (.fn 43 (.cons (.x 3) (.cons (.x 5) (.cons (.x 6) .nil))))))
 (.cons (.ret (.k (.bl false)))
  .nil)
 .nil)
  (.cons (.ife (.or (.cmp .NotEq (.bin .BitXor (.x 5) (.x 5)) (.x 9)) (.or (.cmp .NotEq (.bin .BitAnd (.x 5) (.inv (.x 5))) (.x 9)) (.or (.cmp .NotEq (.bin .BitOr (.x 5) (.inv (.x 5))) (.x 10)) (.cmp .NotEq (.bin .Sub (.x 5) (.x 5)) (.x 9)))))
 (.cons (.ret (.k (.bl false)))
  .nil)
 .nil)
  (.cons (.ife (.or (.cmp .NotEq (.inv (.inv (.x 5))) (.x 5)) (.or (.cmp .NotEq (.bin .BitXor (.x 5) (.bin .BitXor (.x 6) (.x 7))) (.bin .BitXor (.bin .BitXor (.x 5) (.x 6)) (.x 7))) (.cmp .NotEq (.bin .BitAnd (.x 5) (.bin .BitOr (.x 6) (.x 7))) (.bin .BitOr (.bin .BitAnd (.x 5) (.x 6)) (.bin .BitAnd (.x 5) (.x 7))))))
 (.cons (.ret (.k (.bl false)))
  .nil)
 .nil)
  (.cons (.ife (.or (.cmp .NotEq (.bin .Sub (.x 5) (.x 6)) (.bin .BitAnd (.x 5) (.inv (.x 6)))) (.or (.cmp .NotEq (.inv (.bin .BitAnd (.x 5) (.x 6))) (.bin .BitOr (.inv (.x 5)) (.inv (.x 6)))) (.cmp .NotEq (.bin .BitXor (.x 5) (.x 6)) (.bin .Sub (.bin .BitOr (.x 5) (.x 6)) (.bin .BitAnd (.x 5) (.x 6))))))
 (.cons (.ret (.k (.bl false)))
  .nil)
 .nil)
  (.cons (.ife (.or (.cmp .NotEq (.bin .BitXor (.x 5) (.x 9)) (.x 5)) (.cmp .NotEq (.bin .BitXor (.x 5) (.x 10)) (.inv (.x 5))))
 (.cons (.ret (.k (.bl false)))
  .nil)
 .nil)
  .nil)))))))))))
  (.cons (.ret (.k (.bl true)))
  .nil))⟩
def flaw_v4 : Fd := ⟨1, 16,
 (.cons (.for_ (.nm 1) [1, 2, 3, 4, 5, 6, 7, 8, 9, 10, 11, 12, 13] .rng (.k (.int 4))
 (.cons (.set 2 (.mkc (.fn 4 (.cons (.x 0) (.cons (.x 1) .nil)))))
  (.cons (.set 3 (.fn 10 (.cons (.x 2) (.cons (.fn 5 (.cons (.x 2) (.cons (.k (.int 12)) .nil))) (.cons (.fn 8 .nil) (.cons (.fn 9 .nil) .nil))))))
  (.cons (.par [4, 5] (.cons (.mk 0 (.cons (.x 3) .nil)) (.cons (.cmp .Eq (.fn 5 (.cons (.x 2) (.cons (.k (.int 2)) .nil))) (.k (.int 0))) .nil)))
  (.cons (.set 6 (.fn 31 (.cons (.x 2) (.cons (.fn 32 (.cons (.x 3) .nil)) .nil))))
  (.cons (.set 7 (.mkc (.bin .Add (.fn 33 (.cons (.x 2) (.cons (.x 6) .nil))) (.sl (.x 6) (.k .non) (.fn 5 (.cons (.x 2) (.cons (.k (.int 2)) .nil)))))))
  (.cons (.set 8 (.mk 1 (.cons (.x 4) (.cons (.x 5) (.cons (.x 7) .nil)))))
  (.cons (.ex (.bmt .append (.x 7) (.cons (.k (.str "spoilt")) .nil)))
  (.cons (.set 9 (.fn 30 (.cons (.x 3) (.cons (.x 5) (.cons (.x 6) .nil)))))
  (.cons (.for_ (.nm 10) [10, 11] .rng (.k (.int 2))
 (.cons (.set 11 (.mkc (.mt 28 (.x 8) .nil)))
  (.cons (.ife (.or (.cmp .NotEq (.lits (.x 11)) (.lits (.x 9))) (.cmp .NotEq (.att (.x 8) 7) (.blt .tuple (.cons (.x 6) .nil))))
 (.cons (.ret (.k (.bl false)))
  .nil)
 .nil)
  (.cons (.ex (.bm0 .clear (.x 11)))
  .nil))))
  (.cons (.ife (.or (.cmp .NotEq (.att (.x 8) 6) (.x 5)) (.cmp .NotEq (.att (.x 8) 5) (.x 4)))
 (.cons (.ret (.k (.bl false)))
  .nil)
 .nil)
  (.cons (.ife (.cmp .NotEq (.lc (.nm 12) [12] .own (.att (.x 8) 7) (.x 12)) (.x 6))
 (.cons (.ret (.k (.bl false)))
  .nil)
 .nil)
  (.cons (.set 13 (.blt .sum (.cons (.lcIf (.nm 14) [14] .seq (.x 3) (.cmp .In (.ix (.x 14) (.k (.int 0))) (.x 6)) (.ix (.x 14) (.k (.int 3)))) .nil)))
  (.cons (.ife (.or (.cmp .NotEq (.blt .len (.cons (.x 8) .nil)) (.blt .len (.cons (.x 6) .nil))) (.cmp .NotEq (.mt 18 (.x 8) .nil) (.x 13)))
 (.cons (.ret (.k (.bl false)))
  .nil)
 .nil)
  (.cons (.for_ (.nm 12) [12] .keys (.x 9)
 (.cons (.ife (.or (.cmp .NotEq (.mt 29 (.x 8) (.cons (.x 12) .nil)) (.ix (.x 9) (.x 12))) (.cmp .NotEq (.cmp .In (.x 12) (.x 8)) (.ix (.x 9) (.x 12))))
 (.cons (.ret (.k (.bl false)))
  .nil)
 .nil)
  .nil))
  (.cons (.ife (.blt .any (.cons (.lc (.nm 15) [15] .seq (.lst (.cons (.k .non) (.cons (.k (.int 5)) (.cons (.k (.str "nobody")) (.cons (.lst (.cons (.k (.str "top")) .nil)) (.cons .dct0 (.cons (.k (.bl true)) .nil))))))) (.cmp .In (.x 15) (.x 8))) .nil))
 (.cons (.ret (.k (.bl false)))
  .nil)
 .nil)
  (.cons (.ife (.cmp .NotEq (.x 8) (.mk 1 (.cons (.x 4) (.cons (.x 5) (.cons (.blt .tuple (.cons (.x 6) .nil)) .nil)))))
 (.cons (.ret (.k (.bl false)))
  .nil)
 .nil)
  (.cons (.ife (.not (.fn 35 (.cons (.x 8) (.cons (.x 4) (.cons (.x 3) (.cons (.x 5) (.cons (.x 6) .nil)))))))
 (.cons (.ret (.k (.bl false)))
  .nil)
 .nil)
  (.cons (.ife (.not (.fn 34 (.cons (.x 4) (.cons (.x 3) (.cons (.x 5) (.cons (.x 6) (.cons (.x 9) .nil)))))))
 (.cons (.ret (.k (.bl false)))
  .nil)
 .nil)
  .nil)))))))))))))))))))
  (.cons (.ret (.cmp .Eq (.mt 28 (.mkd 1 (.cons (.mk 0 (.cons (.lst .nil) .nil)) (.cons (.k (.bl true)) .nil)) [.rot []]) .nil) (.dct1 (.k (.str "top")) (.k (.bl true)))))
  .nil))⟩
def mTree_init_ : Fd := ⟨2, 4,
 (.cons (.ife (.not (.isi (.x 1) [.ty "list", .ty "tuple"]))
 (.cons .never
  .nil)
 .nil)
  (.cons (.fld (.x 0) 2 (.mkc .dct0))
  (.cons (.fld (.x 0) 3 (.mkc (.lst (.cons (.g 0) .nil))))
  (.cons (.for_ (.tp [2, 3]) [2, 3] .enum (.x 1)
 (.cons (.ife (.not (.fn 3 (.cons (.x 3) (.cons (.att (.x 0) 3) (.cons (.att (.x 0) 2) .nil)))))
 (.cons .never
  .nil)
 .nil)
  (.cons (.put (.att (.x 0) 2) (.ix (.x 3) (.k (.int 0))) (.blt .tuple (.cons (.x 3) .nil)))
  (.cons (.ife (.cmp .Eq (.ix (.x 3) (.k (.int 2))) (.k (.str "folder")))
 (.cons (.ex (.bmt .append (.att (.x 0) 3) (.cons (.ix (.x 3) (.k (.int 0))) .nil)))
  .nil)
 .nil)
  .nil))))
  (.cons (.ice 0 [2]) (.cons (.ice 0 [3]) .nil))))))⟩
def mTree_len_ : Fd := ⟨1, 1,
 (.cons (.ret (.blt .len (.cons (.att (.x 0) 2) .nil)))
  .nil)⟩
def mTree_contains_ : Fd := ⟨2, 2,
 (.cons (.ret (.and (.isi (.x 1) [.ty "str"]) (.cmp .In (.x 1) (.att (.x 0) 2))))
  .nil)⟩
def mTree_eq_ : Fd := ⟨2, 2,
 (.cons (.ife (.not (.isi (.x 1) [.cls 0]))
 (.cons .never
  .nil)
 .nil)
  (.cons (.ret (.and (.cmp .Eq (.blt .list (.cons (.att (.x 0) 2) .nil)) (.blt .list (.cons (.att (.x 1) 2) .nil))) (.cmp .Eq (.att (.x 0) 2) (.att (.x 1) 2))))
  .nil))⟩
def mTreerows : Fd := ⟨1, 2,
 (.cons (.ret (.lc (.nm 1) [1] .keys (.att (.x 0) 2) (.ix (.att (.x 0) 2) (.x 1))))
  .nil)⟩
def mTreenames : Fd := ⟨1, 1,
 (.cons (.ret (.blt .list (.cons (.att (.x 0) 2) .nil)))
  .nil)⟩
def mTreerow_of : Fd := ⟨2, 2,
 (.cons (.ife (.cmp .NotIn (.x 1) (.x 0))
 (.cons .never
  .nil)
 .nil)
  (.cons (.ret (.ix (.att (.x 0) 2) (.x 1)))
  .nil))⟩
def mTreecheck : Fd := ⟨2, 2,
 (.cons (.ife (.and (.cmp .NotIn (.x 1) (.x 0)) (.not (.fn 2 (.cons (.x 1) (.cons (.tup (.cons (.g 0) .nil)) .nil)))))
 (.cons .never
  .nil)
 .nil)
  .nil)⟩
def mTreefolder : Fd := ⟨2, 2,
 (.cons (.ret (.ix (.mt 14 (.x 0) (.cons (.x 1) .nil)) (.k (.int 1))))
  .nil)⟩
def mTreekind : Fd := ⟨2, 2,
 (.cons (.ret (.ix (.mt 14 (.x 0) (.cons (.x 1) .nil)) (.k (.int 2))))
  .nil)⟩
def mTreeprice : Fd := ⟨2, 2,
 (.cons (.ret (.ix (.mt 14 (.x 0) (.cons (.x 1) .nil)) (.k (.int 3))))
  .nil)⟩
def mTreeinside : Fd := ⟨2, 6,
 (.cons (.ex (.mt 15 (.x 0) (.cons (.x 1) .nil)))
  (.cons (.ret (.lcIf (.tp [2, 3, 4, 5]) [2, 3, 4, 5] .seq (.mt 12 (.x 0) .nil) (.cmp .Eq (.x 3) (.x 1)) (.x 2)))
  .nil))⟩
def mTreebelow : Fd := ⟨2, 7,
 (.cons (.ex (.mt 15 (.x 0) (.cons (.x 1) .nil)))
  (.cons (.set 2 (.mkc (.dct1 (.x 1) (.k (.bl true)))))
  (.cons (.for_ (.tp [3, 4, 5, 6]) [3, 4, 5, 6] .seq (.mt 12 (.x 0) .nil)
 (.cons (.ife (.cmp .In (.x 4) (.x 2))
 (.cons (.put (.x 2) (.x 3) (.k (.bl true)))
  .nil)
 .nil)
  .nil))
  (.cons (.ret (.lcIf (.nm 3) [3] .keys (.att (.x 0) 2) (.and (.cmp .In (.x 3) (.x 2)) (.cmp .NotEq (.x 3) (.x 1))) (.x 3)))
  .nil))))⟩
def f_law_beneath : Fd := ⟨2, 3,
 (.cons (.ret (.lcIf (.nm 2) [2] .seq (.x 0) (.cmp .In (.x 1) (.fn 11 (.cons (.x 0) (.cons (.ix (.x 2) (.k (.int 0))) .nil)))) (.ix (.x 2) (.k (.int 0)))))
  .nil)⟩
def f_law_moved_rows : Fd := ⟨3, 6,
 (.cons (.set 3 (.fn 22 (.cons (.x 0) (.cons (.x 1) .nil))))
  (.cons (.set 4 (.lcIf (.nm 5) [5] .seq (.x 0) (.cmp .In (.ix (.x 5) (.k (.int 0))) (.x 3)) (.ife (.cmp .Eq (.ix (.x 5) (.k (.int 0))) (.x 1)) (.bin .Add (.tup (.cons (.x 1) (.cons (.x 2) .nil))) (.sl (.x 5) (.k (.int 2)) (.k .non))) (.x 5))))
  (.cons (.ret (.bin .Add (.lcIf (.nm 5) [5] .seq (.x 0) (.cmp .NotIn (.ix (.x 5) (.k (.int 0))) (.x 3)) (.x 5)) (.x 4)))
  .nil)))⟩
def f_law_is : Fd := ⟨2, 12,
 (.cons (.ife (.or (.cmp .NotEq (.mt 12 (.x 0) .nil) (.x 1)) (.or (.cmp .NotEq (.x 0) (.mk 0 (.cons (.x 1) .nil))) (.cmp .NotEq (.blt .len (.cons (.x 0) .nil)) (.blt .len (.cons (.x 1) .nil)))))
 (.cons (.ret (.k (.bl false)))
  .nil)
 .nil)
  (.cons (.for_ (.tp [2, 3, 4, 5]) [2, 3, 4, 5, 6] .seq (.x 1)
 (.cons (.set 6 (.tup (.cons (.mt 16 (.x 0) (.cons (.x 2) .nil)) (.cons (.mt 17 (.x 0) (.cons (.x 2) .nil)) (.cons (.mt 18 (.x 0) (.cons (.x 2) .nil)) .nil)))))
  (.cons (.ife (.or (.cmp .NotEq (.mt 20 (.x 0) (.cons (.x 2) .nil)) (.fn 11 (.cons (.x 1) (.cons (.x 2) .nil)))) (.cmp .NotEq (.x 6) (.tup (.cons (.x 3) (.cons (.x 4) (.cons (.x 5) .nil))))))
 (.cons (.ret (.k (.bl false)))
  .nil)
 .nil)
  .nil)))
  (.cons (.for_ (.nm 7) [7, 9, 10, 11] .seq (.bin .Add (.lst (.cons (.k (.str "top")) .nil)) (.lc (.nm 8) [8] .seq (.x 1) (.ix (.x 8) (.k (.int 0)))))
 (.cons (.par [9, 10] (.cons (.lcIf (.nm 8) [8] .seq (.x 1) (.cmp .Eq (.ix (.x 8) (.k (.int 1))) (.x 7)) (.ix (.x 8) (.k (.int 0)))) (.cons (.lc (.nm 8) [8] .seq (.x 1) (.ix (.x 8) (.k (.int 0)))) .nil)))
  (.cons (.set 11 (.lcIf (.nm 2) [2] .seq (.x 10) (.and (.cmp .NotEq (.x 2) (.x 7)) (.or (.cmp .Eq (.x 7) (.k (.str "top"))) (.cmp .In (.x 7) (.fn 11 (.cons (.x 1) (.cons (.x 2) .nil)))))) (.x 2)))
  (.cons (.ife (.or (.cmp .NotEq (.mt 19 (.x 0) (.cons (.x 7) .nil)) (.x 9)) (.cmp .NotEq (.mt 21 (.x 0) (.cons (.x 7) .nil)) (.x 11)))
 (.cons (.ret (.k (.bl false)))
  .nil)
 .nil)
  .nil))))
  (.cons (.ret (.k (.bl true)))
  .nil))))⟩
def f_law_moves_right : Fd := ⟨2, 6,
 (.cons (.for_ (.nm 2) [2, 3, 4] .seq (.x 1)
 (.cons (.set 3 (.fn 22 (.cons (.x 1) (.cons (.ix (.x 2) (.k (.int 0))) .nil))))
  (.cons (.for_ (.nm 4) [4] .seq (.bin .Add (.lst (.cons (.k (.str "top")) .nil)) (.lcIf (.nm 5) [5] .seq (.x 1) (.and (.cmp .Eq (.ix (.x 5) (.k (.int 2))) (.k (.str "folder"))) (.cmp .NotIn (.ix (.x 5) (.k (.int 0))) (.x 3))) (.ix (.x 5) (.k (.int 0)))))
 (.cons (.ife (.not (.fn 24 (.cons (.mt 26 (.x 0) (.cons (.ix (.x 2) (.k (.int 0))) (.cons (.x 4) .nil))) (.cons (.fn 23 (.cons (.x 1) (.cons (.ix (.x 2) (.k (.int 0))) (.cons (.x 4) .nil)))) .nil))))
 (.cons (.ret (.k (.bl false)))
  .nil)
 .nil)
  .nil))
  (.cons (.ife (.not (.fn 24 (.cons (.mt 25 (.x 0) (.cons (.ix (.x 2) (.k (.int 0))) .nil)) (.cons (.lcIf (.nm 5) [5] .seq (.x 1) (.cmp .NotIn (.ix (.x 5) (.k (.int 0))) (.x 3)) (.x 5)) .nil))))
 (.cons (.ret (.k (.bl false)))
  .nil)
 .nil)
  .nil))))
  (.cons (.ret (.k (.bl true)))
  .nil))⟩
def f_law_opened_right : Fd := ⟨3, 12,
 (.cons (.for_ (.nm 3) [3, 4, 5, 6, 7, 8, 9, 11] .seq (.x 2)
 (.cons (.ife (.cmp .Eq (.ix (.x 3) (.k (.int 2))) (.k (.str "shut")))
 (.cons (.par [4, 5] (.cons (.mkc (.lst (.cons (.ix (.x 3) (.k (.int 0))) .nil))) (.cons (.mkc (.lst .nil)) .nil)))
  (.cons (.for_ (.nm 6) [6, 7, 8] .rng (.fn 5 (.cons (.x 0) (.cons (.k (.int 5)) .nil)))
 (.cons (.set 7 (.fn 6 (.cons (.x 0) (.cons (.fn 8 .nil) .nil))))
  (.cons (.set 8 (.fn 6 (.cons (.x 0) (.cons (.fn 9 .nil) .nil))))
  (.cons (.ex (.bmt .append (.x 5) (.cons (.tup (.cons (.bin .Add (.k (.str "new")) (.ix (.k (.str "abcd")) (.x 6))) (.cons (.fn 6 (.cons (.x 0) (.cons (.x 4) .nil))) (.cons (.x 7) (.cons (.x 8) .nil))))) .nil)))
  (.cons (.ex (.bmt .extend (.x 4) (.cons (.ife (.cmp .Eq (.x 7) (.k (.str "folder"))) (.lst (.cons (.ix (.ix (.x 5) (.neg (.k (.int 1)))) (.k (.int 0))) .nil)) (.lst .nil)) .nil)))
  .nil)))))
  (.cons (.set 9 (.bin .Add (.lc (.nm 10) [10] .seq (.x 2) (.ife (.cmp .Eq (.x 10) (.x 3)) (.bin .Add (.bin .Add (.sl (.x 10) (.k .non) (.k (.int 2))) (.tup (.cons (.k (.str "folder")) .nil))) (.sl (.x 10) (.k (.int 3)) (.k .non))) (.x 10))) (.x 5)))
  (.cons (.set 11 (.ife (.cmp .Eq (.fn 5 (.cons (.x 0) (.cons (.k (.int 2)) .nil))) (.k (.int 0))) (.blt .tuple (.cons (.lc (.nm 10) [10] .seq (.x 5) (.blt .list (.cons (.x 10) .nil))) .nil)) (.x 5)))
  (.cons (.ife (.not (.fn 24 (.cons (.mt 27 (.x 1) (.cons (.ix (.x 3) (.k (.int 0))) (.cons (.x 11) .nil))) (.cons (.x 9) .nil))))
 (.cons (.ret (.k (.bl false)))
  .nil)
 .nil)
  .nil)))))
 .nil)
  .nil))
  (.cons (.ret (.k (.bl true)))
  .nil))⟩
def mTreeway : Fd := ⟨2, 3,
 (.cons (.ex (.mt 15 (.x 0) (.cons (.x 1) .nil)))
  (.cons (.set 2 (.mkc (.lst .nil)))
  (.cons (.whl 100 [] (.cmp .NotEq (.x 1) (.g 0))
 (.cons (.ex (.bmt .append (.x 2) (.cons (.x 1) .nil)))
  (.cons (.set 1 (.ix (.ix (.att (.x 0) 2) (.x 1)) (.k (.int 1))))
  .nil)))
  (.cons (.ret (.rev (.x 2)))
  .nil))))⟩
def mTreemore : Fd := ⟨2, 2,
 (.cons (.ret (.mk 0 (.cons (.bin .Add (.mt 12 (.x 0) .nil) (.lst (.cons (.x 1) .nil))) .nil)))
  .nil)⟩
def mTreeless : Fd := ⟨2, 4,
 (.cons (.ex (.mt 14 (.x 0) (.cons (.x 1) .nil)))
  (.cons (.set 2 (.bin .Add (.mt 21 (.x 0) (.cons (.x 1) .nil)) (.lst (.cons (.x 1) .nil))))
  (.cons (.ret (.mk 0 (.cons (.lcIf (.nm 3) [3] .seq (.mt 12 (.x 0) .nil) (.cmp .NotIn (.ix (.x 3) (.k (.int 0))) (.x 2)) (.x 3)) .nil)))
  .nil)))⟩
def mTreemoved : Fd := ⟨3, 7,
 (.cons (.ex (.mt 14 (.x 0) (.cons (.x 1) .nil)))
  (.cons (.ex (.mt 15 (.x 0) (.cons (.x 2) .nil)))
  (.cons (.set 3 (.bin .Add (.lst (.cons (.x 1) .nil)) (.mt 21 (.x 0) (.cons (.x 1) .nil))))
  (.cons (.ife (.or (.cmp .In (.x 2) (.x 3)) (.cmp .NotIn (.x 2) (.att (.x 0) 3)))
 (.cons .never
  .nil)
 .nil)
  (.cons (.set 4 (.lcIf (.nm 5) [5] .seq (.mt 12 (.x 0) .nil) (.cmp .NotIn (.ix (.x 5) (.k (.int 0))) (.x 3)) (.x 5)))
  (.cons (.set 6 (.lcIf (.nm 5) [5] .seq (.mt 12 (.x 0) .nil) (.cmp .In (.ix (.x 5) (.k (.int 0))) (.x 3)) (.x 5)))
  (.cons (.ret (.mk 0 (.cons (.bin .Add (.x 4) (.lc (.nm 5) [5] .seq (.x 6) (.ife (.cmp .Eq (.ix (.x 5) (.k (.int 0))) (.x 1)) (.bin .Add (.tup (.cons (.x 1) (.cons (.x 2) .nil))) (.sl (.x 5) (.k (.int 2)) (.k .non))) (.x 5)))) .nil)))
  .nil)))))))⟩
def mTreeopened : Fd := ⟨3, 9,
 (.cons (.ife (.cmp .NotEq (.mt 17 (.x 0) (.cons (.x 1) .nil)) (.k (.str "shut")))
 (.cons .never
  .nil)
 .nil)
  (.cons (.ife (.not (.isi (.x 2) [.ty "list", .ty "tuple"]))
 (.cons .never
  .nil)
 .nil)
  (.cons (.set 3 (.lc (.nm 4) [4] .seq (.mt 12 (.x 0) .nil) (.ife (.cmp .Eq (.ix (.x 4) (.k (.int 0))) (.x 1)) (.bin .Add (.bin .Add (.sl (.x 4) (.k .non) (.k (.int 2))) (.tup (.cons (.k (.str "folder")) .nil))) (.sl (.x 4) (.k (.int 3)) (.k .non))) (.x 4))))
  (.cons (.par [5, 6] (.cons (.mkc (.mt 13 (.x 0) .nil)) (.cons (.mkc (.lst (.cons (.x 1) .nil))) .nil)))
  (.cons (.for_ (.tp [7, 8]) [7, 8] .enum (.x 2)
 (.cons (.ife (.not (.fn 3 (.cons (.x 8) (.cons (.x 6) (.cons (.x 5) .nil)))))
 (.cons .never
  .nil)
 .nil)
  (.cons (.ex (.bmt .append (.x 5) (.cons (.ix (.x 8) (.k (.int 0))) .nil)))
  (.cons (.ex (.bmt .extend (.x 6) (.cons (.ife (.cmp .Eq (.ix (.x 8) (.k (.int 2))) (.k (.str "folder"))) (.lst (.cons (.ix (.x 8) (.k (.int 0))) .nil)) (.lst .nil)) .nil)))
  .nil))))
  (.cons (.ret (.mk 0 (.cons (.bin .Add (.x 3) (.blt .list (.cons (.x 2) .nil))) .nil)))
  .nil))))))⟩
def fsame_tree : Fd := ⟨2, 2,
 (.cons (.ret (.cmp .Eq (.att (.x 0) 5) (.att (.x 1) 5)))
  .nil)⟩
def fcheck_alike : Fd := ⟨2, 2,
 (.cons (.ife (.not (.fn 27 (.cons (.x 0) (.cons (.x 1) .nil))))
 (.cons .never
  .nil)
 .nil)
  .nil)⟩
def fof_values : Fd := ⟨2, 7,
 (.cons (.set 2 (.lcIf (.tp [3, 4, 5, 6]) [3, 4, 5, 6] .seq (.mt 12 (.x 0) .nil) (.cmp .NotEq (.ix (.x 1) (.x 3)) (.ix (.x 1) (.x 4))) (.x 3)))
  (.cons (.ret (.mk 1 (.cons (.x 0) (.cons (.ix (.x 1) (.g 0)) (.cons (.x 2) .nil)))))
  .nil))⟩
def fparting : Fd := ⟨2, 6,
 (.cons (.ex (.fn 28 (.cons (.x 0) (.cons (.x 1) .nil))))
  (.cons (.unp (.tp [2, 3]) (.tup (.cons (.mt 28 (.x 0) .nil) (.cons (.mt 28 (.x 1) .nil) .nil))))
  (.cons (.set 4 (.lcIf (.nm 5) [5] .keys (.x 2) (.cmp .NotEq (.ix (.x 2) (.x 5)) (.ix (.x 3) (.x 5))) (.x 5)))
  (.cons (.ret (.ife (.x 4) (.ix (.x 4) (.k (.int 0))) (.k .non)))
  .nil))))⟩
def f_law_values : Fd := ⟨3, 7,
 (.cons (.set 3 (.mkc (.dct1 (.k (.str "top")) (.x 1))))
  (.cons (.for_ (.nm 4) [4, 5] .seq (.x 0)
 (.cons (.set 5 (.blt .len (.cons (.lcIf (.nm 6) [6] .seq (.fn 11 (.cons (.x 0) (.cons (.ix (.x 4) (.k (.int 0))) .nil))) (.cmp .In (.x 6) (.x 2)) (.x 6)) .nil)))
  (.cons (.put (.x 3) (.ix (.x 4) (.k (.int 0))) (.cmp .NotEq (.x 1) (.cmp .Eq (.bin .Mod (.x 5) (.k (.int 2))) (.k (.int 1)))))
  .nil)))
  (.cons (.ret (.x 3))
  .nil)))⟩
def f_law_some : Fd := ⟨2, 3,
 (.cons (.ret (.lcIf (.nm 2) [2] .seq (.x 1) (.cmp .Eq (.fn 5 (.cons (.x 0) (.cons (.k (.int 2)) .nil))) (.k (.int 0))) (.x 2)))
  .nil)⟩
def f_law_open : Fd := ⟨1, 2,
 (.cons (.ret (.lcIf (.nm 1) [1] .seq (.x 0) (.cmp .IsNot (.ix (.x 1) (.k (.int 3))) (.k .non)) (.ix (.x 1) (.k (.int 0)))))
  .nil)⟩
def f_law_near : Fd := ⟨4, 7,
 (.cons (.set 4 (.fn 5 (.cons (.x 0) (.cons (.k (.int 4)) .nil))))
  (.cons (.ife (.cmp .Eq (.x 4) (.k (.int 0)))
 (.cons (.ret (.tup (.cons (.x 2) (.cons (.x 3) .nil))))
  .nil)
 .nil)
  (.cons (.ife (.cmp .Eq (.x 4) (.k (.int 1)))
 (.cons (.ret (.tup (.cons (.not (.x 2)) (.cons (.x 3) .nil))))
  .nil)
 .nil)
  (.cons (.ife (.and (.cmp .Eq (.x 4) (.k (.int 2))) (.cmp .NotEq (.fn 32 (.cons (.x 1) .nil)) (.lst .nil)))
 (.cons (.set 5 (.fn 6 (.cons (.x 0) (.cons (.fn 32 (.cons (.x 1) .nil)) .nil))))
  (.cons (.ret (.tup (.cons (.x 2) (.cons (.bin .Add (.lcIf (.nm 6) [6] .seq (.x 3) (.cmp .NotEq (.x 6) (.x 5)) (.x 6)) (.bin .Mult (.lst (.cons (.x 5) .nil)) (.blt .int (.cons (.cmp .NotIn (.x 5) (.x 3)) .nil)))) .nil))))
  .nil))
 .nil)
  (.cons (.ret (.tup (.cons (.cmp .Eq (.fn 5 (.cons (.x 0) (.cons (.k (.int 2)) .nil))) (.k (.int 0))) (.cons (.fn 31 (.cons (.x 0) (.cons (.fn 32 (.cons (.x 1) .nil)) .nil))) .nil))))
  .nil)))))⟩
def f_law_newcomers : Fd := ⟨3, 9,
 (.cons (.set 3 (.bin .Add (.lst (.cons (.k (.str "top")) .nil)) (.lcIf (.nm 4) [4] .seq (.x 0) (.cmp .Eq (.ix (.x 4) (.k (.int 2))) (.k (.str "folder"))) (.ix (.x 4) (.k (.int 0))))))
  (.cons (.set 5 (.mkc (.lst .nil)))
  (.cons (.for_ (.nm 6) [6, 7, 8] .seq (.x 3)
 (.cons (.set 7 (.mk 0 (.cons (.bin .Add (.x 0) (.lst (.cons (.tup (.cons (.k (.str "newx")) (.cons (.x 6) (.cons (.k (.str "folder")) (.cons (.k (.int 1)) .nil))))) (.cons (.tup (.cons (.k (.str "newy")) (.cons (.k (.str "newx")) (.cons (.k (.str "item")) (.cons (.k (.int 1)) .nil))))) .nil)))) .nil)))
  (.cons (.set 8 (.mk 1 (.cons (.x 7) (.cons (.x 1) (.cons (.x 2) .nil)))))
  (.cons (.ex (.bmt .extend (.x 5) (.cons (.lst (.cons (.mt 29 (.x 8) (.cons (.k (.str "newx")) .nil)) (.cons (.mt 29 (.x 8) (.cons (.k (.str "newy")) .nil)) .nil))) .nil)))
  .nil))))
  (.cons (.ret (.bin .Add (.x 5) (.lc (.nm 4) [4] .seq (.x 0) (.mt 29 (.mk 1 (.cons (.mk 0 (.cons (.x 0) .nil)) (.cons (.x 1) (.cons (.x 2) .nil)))) (.cons (.ix (.x 4) (.k (.int 0))) .nil)))))
  .nil))))⟩
def mMeaning_init_ : Fd := ⟨4, 6,
 (.cons (.ife (.not (.isi (.x 2) [.ty "bool"]))
 (.cons .never
  .nil)
 .nil)
  (.cons (.for_ (.nm 4) [4] .seq (.x 3)
 (.cons (.ife (.cmp .NotIn (.x 4) (.x 1))
 (.cons .never
  .nil)
 .nil)
  .nil))
  (.cons (.for_ (.nm 4) [4] .seq (.x 3)
 (.cons (.ife (.cmp .Is (.mt 18 (.x 1) (.cons (.x 4) .nil)) (.k .non))
 (.cons .never
  .nil)
 .nil)
  .nil))
  (.cons (.fld (.x 0) 5 (.x 1))
  (.cons (.fld (.x 0) 6 (.x 2))
  (.cons (.fld (.x 0) 7 (.blt .tuple (.cons (.lcIf (.nm 5) [5] .seq (.mt 13 (.x 1) .nil) (.cmp .In (.x 5) (.x 3)) (.x 5)) .nil)))
  .nil))))))⟩
def mMeaning_eq_ : Fd := ⟨2, 2,
 (.cons (.ife (.not (.isi (.x 1) [.cls 1]))
 (.cons .never
  .nil)
 .nil)
  (.cons (.ret (.and (.fn 27 (.cons (.x 0) (.cons (.x 1) .nil))) (.and (.cmp .Eq (.att (.x 0) 6) (.att (.x 1) 6)) (.cmp .Eq (.att (.x 0) 7) (.att (.x 1) 7)))))
  .nil))⟩
def mMeaning_len_ : Fd := ⟨1, 1,
 (.cons (.ret (.blt .len (.cons (.att (.x 0) 7) .nil)))
  .nil)⟩
def mMeaning_contains_ : Fd := ⟨2, 2,
 (.cons (.ret (.and (.or (.cmp .In (.x 1) (.att (.x 0) 5)) (.and (.isi (.x 1) [.ty "str"]) (.cmp .Eq (.x 1) (.g 0)))) (.mt 29 (.x 0) (.cons (.x 1) .nil))))
  .nil)⟩
def mMeaningstates : Fd := ⟨1, 6,
 (.cons (.set 1 (.mkc (.dct1 (.g 0) (.att (.x 0) 6))))
  (.cons (.for_ (.tp [2, 3, 4, 5]) [2, 3, 4, 5] .seq (.mt 12 (.att (.x 0) 5) .nil)
 (.cons (.put (.x 1) (.x 2) (.cmp .NotEq (.ix (.x 1) (.x 3)) (.cmp .In (.x 2) (.att (.x 0) 7))))
  .nil))
  (.cons (.ret (.x 1))
  .nil)))⟩
def mMeaningvalue : Fd := ⟨2, 2,
 (.cons (.ex (.mt 15 (.att (.x 0) 5) (.cons (.x 1) .nil)))
  (.cons (.ret (.ix (.mt 28 (.x 0) .nil) (.x 1)))
  .nil))⟩
def mMeaningprice : Fd := ⟨1, 2,
 (.cons (.ret (.blt .sum (.cons (.lc (.nm 1) [1] .seq (.att (.x 0) 7) (.mt 18 (.att (.x 0) 5) (.cons (.x 1) .nil))) .nil)))
  .nil)⟩
def mMeaningpairs : Fd := ⟨2, 5,
 (.cons (.ex (.fn 28 (.cons (.x 0) (.cons (.x 1) .nil))))
  (.cons (.unp (.tp [2, 3]) (.tup (.cons (.mt 28 (.x 0) .nil) (.cons (.mt 28 (.x 1) .nil) .nil))))
  (.cons (.ret (.lc (.nm 4) [4] .keys (.x 2) (.tup (.cons (.x 4) (.cons (.ix (.x 2) (.x 4)) (.cons (.ix (.x 3) (.x 4)) .nil))))))
  .nil)))⟩
def mMeaning_xor_ : Fd := ⟨2, 5,
 (.cons (.ret (.fn 29 (.cons (.att (.x 0) 5) (.cons (.dc (.tp [2, 3, 4]) [2, 3, 4] .seq (.mt 30 (.x 0) (.cons (.x 1) .nil)) (.x 2) (.cmp .NotEq (.x 3) (.x 4))) .nil))))
  .nil)⟩
def mMeaning_and_ : Fd := ⟨2, 5,
 (.cons (.ret (.fn 29 (.cons (.att (.x 0) 5) (.cons (.dc (.tp [2, 3, 4]) [2, 3, 4] .seq (.mt 30 (.x 0) (.cons (.x 1) .nil)) (.x 2) (.and (.x 3) (.x 4))) .nil))))
  .nil)⟩
def mMeaning_or_ : Fd := ⟨2, 5,
 (.cons (.ret (.fn 29 (.cons (.att (.x 0) 5) (.cons (.dc (.tp [2, 3, 4]) [2, 3, 4] .seq (.mt 30 (.x 0) (.cons (.x 1) .nil)) (.x 2) (.or (.x 3) (.x 4))) .nil))))
  .nil)⟩
def mMeaning_sub_ : Fd := ⟨2, 5,
 (.cons (.ret (.fn 29 (.cons (.att (.x 0) 5) (.cons (.dc (.tp [2, 3, 4]) [2, 3, 4] .seq (.mt 30 (.x 0) (.cons (.x 1) .nil)) (.x 2) (.and (.x 3) (.not (.x 4)))) .nil))))
  .nil)⟩
def mMeaning_invert_ : Fd := ⟨1, 1,
 (.cons (.ret (.mk 1 (.cons (.att (.x 0) 5) (.cons (.not (.att (.x 0) 6)) (.cons (.att (.x 0) 7) .nil)))))
  .nil)⟩
def f_law_meaning : Fd := ⟨3, 3,
 (.cons (.ret (.mk 1 (.cons (.x 2) (.cons (.cmp .Eq (.fn 5 (.cons (.x 0) (.cons (.k (.int 2)) .nil))) (.k (.int 0))) (.cons (.fn 31 (.cons (.x 0) (.cons (.fn 32 (.cons (.x 1) .nil)) .nil))) .nil)))))
  .nil)⟩
def f_law_box_by_box : Fd := ⟨2, 13,
 (.cons (.par [2, 3] (.cons (.mt 28 (.x 0) .nil) (.cons (.mt 28 (.x 1) .nil) .nil)))
  (.cons (.par [4, 5] (.cons (.mt 28 (.bin .BitAnd (.x 0) (.x 1)) .nil) (.cons (.mt 28 (.bin .BitOr (.x 0) (.x 1)) .nil) .nil)))
  (.cons (.par [6, 7] (.cons (.mt 28 (.bin .BitXor (.x 0) (.x 1)) .nil) (.cons (.mt 28 (.bin .Sub (.x 0) (.x 1)) .nil) .nil)))
  (.cons (.set 8 (.mt 28 (.inv (.x 0)) .nil))
  (.cons (.for_ (.nm 9) [9, 10, 11, 12] .keys (.x 2)
 (.cons (.par [10, 11] (.cons (.ix (.x 2) (.x 9)) (.cons (.ix (.x 3) (.x 9)) .nil)))
  (.cons (.set 12 (.lst (.cons (.ix (.x 4) (.x 9)) (.cons (.ix (.x 5) (.x 9)) (.cons (.ix (.x 6) (.x 9)) (.cons (.ix (.x 7) (.x 9)) (.cons (.ix (.x 8) (.x 9)) .nil)))))))
  (.cons (.ife (.cmp .NotEq (.x 12) (.lst (.cons (.and (.x 10) (.x 11)) (.cons (.or (.x 10) (.x 11)) (.cons (.cmp .NotEq (.x 10) (.x 11)) (.cons (.and (.x 10) (.not (.x 11))) (.cons (.not (.x 10)) .nil)))))))
 (.cons (.ret (.k (.bl false)))
  .nil)
 .nil)
  .nil))))
  (.cons (.ret (.and (.cmp .Eq (.mt 28 (.x 0) .nil) (.x 2)) (.cmp .Eq (.mt 28 (.x 1) .nil) (.x 3))))
  .nil))))))⟩
def f_law_turns_right : Fd := ⟨3, 8,
 (.cons (.set 3 (.lc (.nm 4) [4] .seq (.x 0) (.ix (.x 4) (.k (.int 0)))))
  (.cons (.set 5 (.blt .tuple (.cons (.lcIf (.nm 6) [6] .seq (.x 3) (.cmp .NotEq (.cmp .In (.x 6) (.att (.x 1) 7)) (.cmp .In (.x 6) (.att (.x 2) 7))) (.x 6)) .nil)))
  (.cons (.ife (.or (.cmp .NotEq (.att (.bin .BitXor (.x 1) (.x 2)) 7) (.x 5)) (.cmp .NotEq (.att (.bin .BitXor (.x 1) (.x 2)) 6) (.cmp .NotEq (.att (.x 1) 6) (.att (.x 2) 6))))
 (.cons (.ret (.k (.bl false)))
  .nil)
 .nil)
  (.cons (.for_ (.nm 7) [7] .seq (.tup (.cons (.bin .BitAnd (.x 1) (.x 2)) (.cons (.bin .BitOr (.x 1) (.x 2)) (.cons (.bin .Sub (.x 1) (.x 2)) .nil))))
 (.cons (.ife (.cmp .NotEq (.lcIf (.nm 6) [6] .own (.att (.x 7) 7) (.and (.cmp .NotIn (.x 6) (.att (.x 1) 7)) (.cmp .NotIn (.x 6) (.att (.x 2) 7))) (.x 6)) (.lst .nil))
 (.cons (.ret (.k (.bl false)))
  .nil)
 .nil)
  .nil))
  (.cons (.ret (.and (.cmp .Eq (.att (.inv (.x 1)) 7) (.att (.x 1) 7)) (.cmp .NotEq (.att (.inv (.x 1)) 6) (.att (.x 1) 6))))
  .nil)))))⟩
def f_law_mix : Fd := ⟨2, 4,
 (.cons (.set 2 (.mkc (.blt .list (.cons (.x 1) .nil))))
  (.cons (.ret (.lc (.nm 3) [3] .rng (.blt .len (.cons (.x 1) .nil)) (.bmt .pop (.x 2) (.cons (.fn 5 (.cons (.x 0) (.cons (.blt .len (.cons (.x 2) .nil)) .nil))) .nil))))
  .nil))⟩
def f_law_newcomers_right : Fd := ⟨5, 8,
 (.cons (.for_ (.nm 5) [5, 7] .seq (.bin .Add (.lst (.cons (.k (.str "top")) .nil)) (.lcIf (.nm 6) [6] .seq (.x 1) (.cmp .Eq (.ix (.x 6) (.k (.int 2))) (.k (.str "folder"))) (.ix (.x 6) (.k (.int 0)))))
 (.cons (.set 7 (.mt 24 (.x 0) (.cons (.tup (.cons (.k (.str "newz")) (.cons (.x 5) (.cons (.k (.str "item")) (.cons (.k (.int 1)) .nil))))) .nil)))
  (.cons (.ife (.cmp .NotEq (.mt 29 (.mk 1 (.cons (.x 7) (.cons (.x 2) (.cons (.x 3) .nil)))) (.cons (.k (.str "newz")) .nil)) (.ix (.x 4) (.x 5)))
 (.cons (.ret (.k (.bl false)))
  .nil)
 .nil)
  .nil)))
  (.cons (.ret (.k (.bl true)))
  .nil))⟩
def f_law_unlike : Fd := ⟨5, 11,
 (.cons (.set 5 (.mk 0 (.cons (.bin .Add (.x 2) (.lst (.cons (.tup (.cons (.k (.str "newz")) (.cons (.k (.str "top")) (.cons (.k (.str "item")) (.cons (.k (.int 1)) .nil))))) .nil))) .nil)))
  (.cons (.set 6 (.mkc (.lst (.cons (.mk 1 (.cons (.x 1) (.cons (.not (.x 3)) (.cons (.x 4) .nil)))) (.cons (.mk 1 (.cons (.x 5) (.cons (.x 3) (.cons (.x 4) .nil)))) .nil)))))
  (.cons (.for_ (.nm 7) [7, 8] .seq (.sl (.fn 32 (.cons (.x 2) .nil)) (.k .non) (.k (.int 2)))
 (.cons (.set 8 (.lcIf (.nm 9) [9] .seq (.x 4) (.cmp .NotEq (.x 9) (.x 7)) (.x 9)))
  (.cons (.ex (.bmt .append (.x 6) (.cons (.mk 1 (.cons (.x 1) (.cons (.x 3) (.cons (.bin .Add (.x 8) (.bin .Mult (.lst (.cons (.x 7) .nil)) (.blt .int (.cons (.cmp .NotIn (.x 7) (.x 4)) .nil)))) .nil)))) .nil)))
  .nil)))
  (.cons (.ex (.bmt .extend (.x 6) (.cons (.lst (.cons (.k .non) (.cons (.x 1) (.cons (.mt 28 (.x 0) .nil) (.cons (.blt .tuple (.cons (.x 4) .nil)) .nil))))) .nil)))
  (.cons (.ret (.and (.not (.blt .any (.cons (.lc (.nm 10) [10] .seq (.x 6) (.cmp .Eq (.x 0) (.x 10))) .nil))) (.blt .all (.cons (.lc (.nm 10) [10] .seq (.x 6) (.cmp .NotEq (.x 0) (.x 10))) .nil))))
  .nil)))))⟩
end CT
set_option maxRecDepth 100000
set_option maxHeartbeats 4000000
namespace K06
open PySem L2 EW CT
def tfl : List (Nat × List Nat) := [(0, [2, 3]), (1, [5, 6, 7])]
def tFn : List (Nat × Fd) := [(0, fis_name), (1, fis_price), (2, fis_among), (3, fis_row), (27, fsame_tree), (28, fcheck_alike), (29, fof_values), (4, f_law_stream), (5, f_law_draw), (6, f_law_pick), (7, f_law_name), (8, f_law_kinds), (9, f_law_prices), (10, f_law_rows), (11, f_law_way), (30, f_law_values), (31, f_law_some), (32, f_law_open), (33, f_law_mix), (34, f_law_newcomers_right), (35, f_law_unlike), (14, flaw_v4)]
def tMt : List (Nat × Nat × Fd) := [(0, 0, mTree_init_), (0, 1, mTree_eq_), (0, 2, mTree_contains_), (0, 3, mTree_len_), (0, 12, mTreerows), (0, 13, mTreenames), (0, 14, mTreerow_of), (0, 15, mTreecheck), (0, 16, mTreefolder), (0, 17, mTreekind), (0, 18, mTreeprice), (0, 21, mTreebelow), (0, 24, mTreemore), (1, 0, mMeaning_init_), (1, 1, mMeaning_eq_), (1, 2, mMeaning_contains_), (1, 3, mMeaning_len_), (1, 4, mMeaning_xor_), (1, 5, mMeaning_and_), (1, 6, mMeaning_or_), (1, 7, mMeaning_sub_), (1, 9, mMeaning_invert_), (1, 18, mMeaningprice), (1, 28, mMeaningstates), (1, 29, mMeaningvalue), (1, 30, mMeaningpairs)]
def tKc : List Nat := [0, 1]
def tNi : List Nat := [0, 1]
def tGd : List (Nat × D) := [(0, .str "top"), (1, .rot [.str "folder", .str "item", .str "shut"]), (2, .str "abcdefghijklmnopqrstuvwxyz")]
def tDd : List (Nat × List D) := []
def tDk : List (Nat × List D) := [(1, [.rot []])]
def tIt : List Nat := [7]
def TL : TabL := ⟨tFn, tMt, tfl, tKc, tNi, tGd, tDd, tDk, tIt⟩
abbrev T : Tab := TL.tab
end K06
set_option maxRecDepth 100000
set_option maxHeartbeats 2000000
namespace EW
open PySem L2 PySem.Spec PyProof.Rows He
def obB (a b : Option Bool) : Bool := decide (a = b)
/-- a class as the layer wants it -/
def dclB (K : PySem.W.Frag) (x : Str) : Bool := obB (PySem.W.mroIn K (ga K x) (.type "tuple")) (some false) && obB (PySem.W.mroIn K (ga K x) (.type "dict")) (some false)
/-- two classes, neither below the other -/
def subB (K : PySem.W.Frag) (x y : Str) : Bool := !decide (ga K y = ga K x) && (obB (PySem.W.kitOne K (.ref (ga K x)) (.ref (ga K y))) (some false) && obB (PySem.W.subIn K (.ref (ga K x)) (.ref (ga K y))) (some false))
theorem subB_ok {K : PySem.W.Frag} {x y : Str} (h : subB K x y = true) : SubOk K (ga K x) (ga K y) := by
  obtain ⟨h1, h⟩ := ba h
  obtain ⟨h2, h3⟩ := ba h
  exact ⟨by simpa using h1, of_decide_eq_true h2, of_decide_eq_true h3⟩
def clsB (K : PySem.W.Frag) (x : Str) : Bool := (Fa.cls x).ok K && (eqO (PySem.W.findIn K (.ref (ga K x)) "__class__") (some (some (.builtin "object.__class__"))) && (eqO (PySem.W.specialIn K (.builtin "object.__class__") "__get__") (some (some (.builtin "getset_descriptor.__get__"))) &&
  (obB (PySem.W.takesIn K (.builtin "object.__class__")) (some true) && (obB (PySem.W.mroIn K (ga K x) (.type "object")) (some true) && (obB (PySem.W.mroIn K (ga K x) (.type "list")) (some false) && (eqO (PySem.W.findIn K (.ref (ga K x)) "__ne__") (some (some (.builtin "object.__ne__"))) &&
  ((["NoneType", "bool", "int", "str", "tuple", "list", "dict"].all fun n => obB (PySem.W.kitOne K (.type n) (.ref (ga K x))) (some false)) && (PySem.W.selfFirst K (ga K x) && ((Fa.glo x).ok K && !(x == ("__debug__" : Str)))))))))))
theorem clsB_ok {K : PySem.W.Frag} {x : Str} (h : clsB K x = true) : ClsOk K (ga K x) ∧ PySem.W.selfFirst K (ga K x) = true ∧ (Fa.glo x).ok K = true ∧ (x == ("__debug__" : Str)) = false := by
  obtain ⟨h1, h⟩ := ba h
  obtain ⟨h2, h⟩ := ba h
  obtain ⟨h3, h⟩ := ba h
  obtain ⟨h4, h⟩ := ba h
  obtain ⟨h5, h⟩ := ba h
  obtain ⟨h6, h⟩ := ba h
  obtain ⟨h7, h⟩ := ba h
  obtain ⟨h8, h⟩ := ba h
  obtain ⟨h9, h⟩ := ba h
  obtain ⟨h10, h11⟩ := ba h
  have c := cls_ok h1
  exact ⟨⟨c, ⟨c, eqO_ok h2, eqO_ok h3, of_decide_eq_true h4, of_decide_eq_true h5, of_decide_eq_true h6, eqO_ok h7, kit_self, fun n hn => of_decide_eq_true (List.all_eq_true.mp h8 n hn)⟩⟩, h9, h10, by simpa using h11⟩
/-- the classes by their names -/
def ciOf (K : PySem.W.Frag) (fl : List (Nat × List Nat)) (an mn fn cn gn : List Str) (it : List Nat) : Ci := ⟨fun c => ga K (strAt cn c), flOf fl, strAt an, strAt mn, strAt fn, strAt cn, strAt gn, fun k => it.contains k⟩
/-- the looks -/
structure Nms where
  an : List Str
  mn : List Str
  fn : List Str
  cn : List Str
  gn : List Str
/-- constants: a text, a number, a tuple of texts -/
def strsD : List D → Option (List Str)
  | [] => some []
  | .str x :: r => (strsD r).map (x :: ·)
  | _ => none
def conB' (K : PySem.W.Frag) (x : Str) : D → Bool
  | .str z => (Fa.str x z).ok K
  | .int i => (Fa.int x i).ok K
  | .rot ds => match strsD ds with
    | some xs => (Fa.glo x).ok K && tupB K x (xs.map Dv.str)
    | none => false
  | _ => false
def statB (N : Nms) (t : TabL) (K : PySem.W.Frag) : Bool :=
  (t.kc.all fun c => clsB K (strAt N.cn c)) && ((t.fl.all fun p => p.2.all fun a => (Fa.noat (strAt N.cn p.1) (strAt N.an a)).ok K) && ((t.mt.all fun p => (Fa.meth (strAt N.cn p.1) (strAt N.mn p.2.1)).ok K && (decide (p.2.1 ≠ 0) || (Fa.mkr (strAt N.cn p.1)).ok K)) &&
  ((t.fn.all fun p => (Fa.glo (strAt N.fn p.1)).ok K && (Fa.keep (strAt N.fn p.1)).ok K) && ((bltNames.all fun x => (Fa.free x).ok K) && ((Fa.free "NotImplemented").ok K && ((t.gd.all fun p => conB' K (strAt N.gn p.1) p.2) && ((t.kc.all fun c => dclB K (strAt N.cn c)) && t.kc.all fun c' => t.kc.all fun c => c' == c || subB K (strAt N.cn c') (strAt N.cn c))))))))
theorem strsD_eq : ∀ {ds : List D} {xs : List Str}, strsD ds = some xs → ds = xs.map D.str
  | [], xs, h => by cases h; rfl
  | .str x :: r, xs, h => by
    simp only [strsD, Option.map_eq_some_iff] at h
    obtain ⟨ys, h1, h2⟩ := h
    subst h2
    rw [strsD_eq h1]; rfl
  | .non :: _, _, h | .bl _ :: _, _, h | .int _ :: _, _, h | .cls _ :: _, _, h | .ty _ :: _, _, h | .tup _ :: _, _, h | .lst _ :: _, _, h | .rol _ :: _, _, h | .rot _ :: _, _, h | .dct _ _ :: _, _, h | .ins _ _ :: _, _, h => by cases h
section
variable {P : Program} {w : World} {K : PySem.W.Frag} {mg : Str → Option Value} {base : Heap} {N : Nms} {t : TabL} {h : Heap}
theorem con_ok {I : Ci} (X : K.In h) (G : h.Ns mainGlobals mg) {x : Str} : ∀ {d : D}, conB' K x d = true → ∃ u v, mg x = some u ∧ L2.RelV v u ∧ ∀ G, Rep I K G d v
  | .str z, c => by
    obtain ⟨tk, e⟩ := He.str_ok X G (x := x) (z := z) c
    exact ⟨_, .str z, e, ⟨tk, rfl⟩, fun _ => rfl⟩
  | .int i, c => by
    obtain ⟨tk, e⟩ := He.int_ok X G (x := x) (i := i) c
    exact ⟨_, .int i, e, ⟨tk, rfl⟩, fun _ => rfl⟩
  | .rot ds, c => by
    cases hx : strsD ds with
    | none => simp only [conB', hx] at c; cases c
    | some xs =>
      simp only [conB', hx] at c
      obtain ⟨c1, c2⟩ := ba c
      refine ⟨_, .ref (ga K x), glo_ok X G c1, rfl, fun G2 => ?_⟩
      rw [strsD_eq hx]
      have := tupB_ok c2 G2
      rw [List.map_map] at this
      exact ⟨_, _, rfl, this, reps_strs xs⟩
  | .non, c | .bl _, c | .cls _, c | .ty _, c | .tup _, c | .lst _, c | .rol _, c | .dct _ _, c | .ins _ _, c => by simp [conB'] at c
abbrev Nms.ci (N : Nms) (t : TabL) (K : PySem.W.Frag) : Ci := ciOf K t.fl N.an N.mn N.fn N.cn N.gn t.it
/-- a def that is looked for -/
def atFn (x : Str) : Str × Option Str := (x, none)
def atMt (c m : Str) : Str × Option Str := (c, some m)
theorem stat_by (X : K.In h) (G : h.Ns mainGlobals mg) (c : statB N t K = true)
    (inj : ∀ p ∈ t.fl, ∀ a ∈ p.2, ∀ b ∈ p.2, strAt N.an a = strAt N.an b → a = b)
    (fn : AllIn (fun p : Nat × Fd => ∃ fd ps, DefAt K (N.ci t K) p.2 (fAd K (atFn (strAt N.fn p.1))) fd ps ∧ ∀ q ∈ t.dd, q.1 = p.1 → BindsD K (N.ci t K) fd ps q.2) t.fn)
    (mt : AllIn (fun p : Nat × Nat × Fd => ∃ fd ps, DefAt K (N.ci t K) p.2.2 (fAd K (atMt (strAt N.cn p.1) (strAt N.mn p.2.1))) fd ps ∧ (p.2.1 = 0 → ∀ q ∈ t.dk, q.1 = p.1 → BindsD K (N.ci t K) fd ps q.2)) t.mt)
    (ne : ∀ p ∈ t.mt, ∀ a ∈ flOf t.fl p.1, strAt N.an a ≠ strAt N.mn p.2.1)
    (mtc : ∀ p ∈ t.mt, p.1 ∈ t.kc) (flc : ∀ p ∈ t.fl, p.1 ∈ t.kc)
    (ni : AllIn (fun c => c ∈ t.kc ∧ (∃ fd ps, DefNI K (N.ci t K) c (fAd K (atMt (strAt N.cn c) "__eq__")) fd ps) ∧ (Fa.meth (strAt N.cn c) "__eq__").ok K = true) t.ni)
    (opn : (List.range 8).map (fun i => strAt N.mn (i + 4)) = (["__xor__", "__and__", "__or__", "__sub__", "__add__", "__invert__", "__call__", "__iter__"] : List Str))
    (n0 : strAt N.mn 0 = "__init__") (n1 : strAt N.mn 1 = "__eq__") (n2 : strAt N.mn 2 = "__contains__") (n3 : strAt N.mn 3 = "__len__")
    (itr : AllIn (fun k => AllIn (fun p : Nat × List Nat => k ∈ p.2 → ∃ fi, ItrC K (ga K (strAt N.cn p.1)) fi ∧ IterOk P w K mg base (L2.CX P w) 1 fi (ga K (strAt N.cn p.1)) (strAt N.an k) (fun _ _ _ => False)) t.fl) t.it) : Stat P w K mg base (N.ci t K) t.tab := by
  obtain ⟨c1, c⟩ := ba c
  obtain ⟨c2, c⟩ := ba c
  obtain ⟨c3, c⟩ := ba c
  obtain ⟨c4, c⟩ := ba c
  obtain ⟨c5, c⟩ := ba c
  obtain ⟨c6, c⟩ := ba c
  obtain ⟨c7, c⟩ := ba c
  obtain ⟨c8, c9⟩ := ba c
  have kc : ∀ x ∈ t.kc, ClsOk K (ga K (strAt N.cn x)) ∧ PySem.W.selfFirst K (ga K (strAt N.cn x)) = true ∧ (Fa.glo (strAt N.cn x)).ok K = true ∧ (strAt N.cn x == ("__debug__" : Str)) = false := fun x hx => clsB_ok (List.all_eq_true.mp c1 x hx)
  have me : ∀ p ∈ t.mt, Meth K (ga K (strAt N.cn p.1)) (strAt N.mn p.2.1) (fAd K (atMt (strAt N.cn p.1) (strAt N.mn p.2.1))) ∧ (p.2.1 = 0 → Mk K (ga K (strAt N.cn p.1)) (fAd K (atMt (strAt N.cn p.1) (strAt N.mn p.2.1)))) := fun p hp => by
    obtain ⟨d1, d2⟩ := ba (List.all_eq_true.mp c3 p hp)
    refine ⟨meth_ok d1, fun e => ?_⟩
    rw [Bool.or_eq_true] at d2
    rcases d2 with d2 | d2
    · exact absurd e (of_decide_eq_true d2)
    · rw [e, n0]; exact mkr_ok d2
  have all : ∀ {α : Type} {Q : α → Prop} {l : List α}, (∀ a ∈ l, Q a) → AllIn Q l := fun {α Q l} => by
    induction l with
    | nil => exact fun _ => .nil
    | cons a l ih => exact fun q => .cons (q a List.mem_cons_self) (ih fun b hb => q b (List.mem_cons_of_mem _ hb))
  refine stat_of rfl (all fun p hp => ⟨(kc _ (flc p hp)).1.cls, all fun a ha => noat_ok (List.all_eq_true.mp (List.all_eq_true.mp c2 p hp) a ha), inj p hp⟩) (all fun p hp => ?_) (all fun p hp => ?_) mtc (all fun p hp e => ?_)
    (fun x hx => (kc x hx).2.1) opn (fun c k h1 h2 => ?_) (all fun x hx => ⟨(kc x hx).1, glo_ok X G (kc x hx).2.2.1, (kc x hx).2.2.2⟩) (all fun x hx => ?_) (fun c' h1 c h2 hne => by
      have z := List.all_eq_true.mp (List.all_eq_true.mp c9 c' h1) c h2
      rw [Bool.or_eq_true, beq_iff_eq] at z
      exact subB_ok (z.resolve_left hne)) (all fun p hp => con_ok X G (List.all_eq_true.mp c7 p hp)) n0 n1 n2 n3 (fun x hx => free_ok X G (List.all_eq_true.mp c5 x hx)) (free_ok X G c6)
  · obtain ⟨fd, ps, D, hd⟩ := fn.mem p hp
    obtain ⟨d1, d2⟩ := ba (List.all_eq_true.mp c4 p hp)
    exact ⟨_, fd, ps, D, glo_ok X G d1, keep_ok d2, hd⟩
  · obtain ⟨fd, ps, D, hd⟩ := mt.mem p hp
    exact ⟨⟨_, fd, ps, D, (me p hp).1⟩, ne p hp⟩
  · obtain ⟨fd, ps, D, hd⟩ := mt.mem p hp
    exact ⟨_, fd, ps, D, glo_ok X G (kc _ (mtc p hp)).2.2.1, (me p hp).2 e, hd e⟩
  · have hk : k ∈ t.it := by simpa [ciOf] using h1
    obtain ⟨xs, m1, m2, _⟩ := flOf_mem h2
    exact (itr.mem _ hk).mem _ m1 m2
  · obtain ⟨q1, ⟨fd, ps, q2⟩, q3⟩ := ni.mem x hx
    obtain ⟨d1, d2⟩ := ba (List.all_eq_true.mp c8 x q1)
    have z := (kc x q1).1.isi
    exact ⟨q1, ⟨_, fd, ps, q2, meth_ok q3⟩, z.lst, of_decide_eq_true d1, of_decide_eq_true d2, z.ne, z.obj⟩
/-- a law, its promise over every world -/
theorem walk_ofW {l : PySem.W.OpenLaw} {n k : Nat} {q : Program} {loose : List Str} {XP : (Str → Option Value) → Heap → Prop} {YP : World → Heap → Prop} {d : DefRec} {CX : World → CXT} {x : Str}
    (hn : l.most = some n) (hn2 : n ≤ sizeLine) (hdf : d.params.defaults = []) (hr : Room k callerA)
    (F : ∀ (w : World) (mg : Str → Option Value) (fa : Addr) (h : Heap), YP w h → h.Ns mainGlobals mg → mg d.name = some (.ref fa) →
      ∃ (K : PySem.W.Frag) (fd : FuncData) (sp : Sp), K.In h ∧ (∀ (s : Shared) (u : Value), BindsTo s fd ⟨[u], []⟩ [(x, u)]) ∧
        (∀ (H : Hp) (a : Addr) (ns : List Int), ns.length ≤ n → Only H → SqL K H a (ns.map V.int) → sp [.ref a] H (fun v _ => v = .bl true) fun _ _ _ => False) ∧
        ∀ base : Heap, K.In base → base.Ns mainGlobals mg → FnOk l.prog w K mg base (CX w) k fa fd [x] sp)
    (hCX : ∀ (w : World) (H : Hp) (s : Shared) (e : Value) (s' : Shared), CX w [] H s (fun _ _ _ => False) e s' → False) :
    PySem.W.WalkO q loose XP YP l.row.toRowW d [] (fun f vs => PySem.call f vs) := by
  refine Att.attach_call hn hdf fun w s₀ s₁ mg mb fa o pm cd doc a vs ns G Y ho hd hcd hmg hobj hints hlen hg => ?_
  obtain ⟨K, fd, sp, KX, hb, hsp, hF⟩ := F w mg fa _ Y G.T.g hmg
  exact law_call KX G.T.g G.T.b G.T.builtins G.T.nolimit hg hobj hints (Nat.le_trans hlen hn2) hr hF hb (fun H hO hS => hsp H a ns hlen hO hS) fun H e s' => hCX w H s₁ e s'
end
end EW
namespace EW
open PySem L2 PySem.Spec PyProof.Rows He
def obsB (b : PySem.W.Frag → Bool) (fn : List DefD) (K : PySem.W.Frag) : AlD := (b K && fn.all fun d => d.ok K, fn.map fun d => fnW K d.at_)
def SaysB (b : PySem.W.Frag → Bool) (fn : List DefD) (K : PySem.W.Frag) : Prop := obsB b fn K = valD fn
def obsBG (n : Nat) (b : PySem.W.Frag → Bool) (fn : List DefD) (g : Addr → Option Obj) : AlD := obsB b fn (frG g (asD g n))
def hookB (n : Nat) (b : PySem.W.Frag → Bool) (fn : List DefD) : PySem.W.Hook where
  α := AlD
  obs := fun s => obsBG n b fn s.heap.get?
  val := fun _ => valD fn
  says := fun _ h => ∃ K : PySem.W.Frag, K.In h ∧ SaysB b fn K
  of := fun _ _ e => ⟨_, frG_in, e⟩
  keeps := fun _ _ _ ⟨K, hK, c⟩ k => ⟨K, PySem.W.Frag.In.keeps hK k, c⟩
def obB' (n : Nat) (b : PySem.W.Frag → Bool) (fn : List DefD) (s : PySem.W.SharedT) : AlD := obsBG n b fn (HandSHeadRun.getT s)
theorem obB_eq (n : Nat) (b : PySem.W.Frag → Bool) (fn : List DefD) (s : PySem.W.SharedT) : obB' n b fn s = (hookB n b fn).obs s.abs := by
  have e : HandSHeadRun.getT s = s.abs.heap.get? := funext (HandSHeadRun.getT_eq s)
  unfold obB'
  rw [e] <;> rfl
section
variable {b : PySem.W.Frag → Bool} {fn : List DefD} {K : PySem.W.Frag}
theorem SaysB.look (c : SaysB b fn K) : b K = true := (ba (show (b K && fn.all fun d => d.ok K) = true from congrArg (fun z : AlD => z.1) c)).1
theorem SaysB.def_ (c : SaysB b fn K) (i : Nat) {d : DefD} (h : fn[i]? = some d := by rfl) : ∃ fd, FunD K d.name d.qual d.params d.body d.scope (d.dvs K) (d.kws K) (fAd K d.at_) fd := by
  have c2 := (ba (show (b K && fn.all fun d => d.ok K) = true from congrArg (fun z : AlD => z.1) c)).2
  have e : fn.map (fun d => fnW K d.at_) = fn.map DefD.val := congrArg (fun z : AlD => z.2) c
  have e2 : (fn.map fun d => fnW K d.at_)[i]? = (fn.map DefD.val)[i]? := by rw [e]
  rw [List.getElem?_map, List.getElem?_map, h] at e2
  exact DefD.funD (Option.some.inj e2) (List.all_eq_true.mp c2 d (List.mem_of_getElem? h))
end
/-- a call in which nothing is filled up -/
theorem binds_full {K : PySem.W.Frag} {fd : FuncData} {ps : List Str} {dvs : List V} {j : Nat} (h : ∃ ds, Vals (dvs.drop j) ds ∧ Binds K fd ps ds) (hj : dvs.drop j = []) : Binds K fd ps [] := by
  obtain ⟨ds, v, b⟩ := h
  rw [hj] at v
  cases v
  exact b
theorem eqMeth {N : Nms} {t : TabL} {K : PySem.W.Frag} (c : statB N t K = true) {a b : Nat} {d : Fd} (h : (a, b, d) ∈ t.mt) : (Fa.meth (strAt N.cn a) (strAt N.mn b)).ok K = true :=
  (ba (List.all_eq_true.mp (ba (ba (ba c).2).2).1 _ h)).1
theorem glFn {N : Nms} {t : TabL} {K : PySem.W.Frag} (c : statB N t K = true) {a : Nat} {d : Fd} (h : (a, d) ∈ t.fn) : (Fa.glo (strAt N.fn a)).ok K = true :=
  (ba (List.all_eq_true.mp (ba (ba (ba (ba c).2).2).2).1 _ h)).1
end EW
set_option maxRecDepth 100000
set_option maxHeartbeats 2000000
namespace EW
open PySem L2 PySem.Spec PyProof.Rows He
/-- an empty tuple -/
def tup0B (K : PySem.W.Frag) (a : Addr) : Bool := match K.lookup a with
  | some ⟨.type c, _, .seq its _, _⟩ => decide (c = "tuple") && decide (its.size = 0)
  | _ => false
theorem tup0_ok {K : PySem.W.Frag} {a : Addr} (h : tup0B K a = true) (H : Hp) : SqT K H a [] := by
  unfold tup0B at h
  cases q : K.lookup a with
  | none => rw [q] at h; cases h
  | some o =>
    obtain ⟨oc, od, dt, osl⟩ := o
    rw [q] at h
    cases oc with
    | type c =>
      cases dt with
      | seq its n =>
        obtain ⟨h1, h2⟩ := ba (show (decide (c = "tuple") && decide (its.size = 0)) = true from h)
        have h3 : its.size = 0 := of_decide_eq_true h2
        refine .inr ⟨_, its, n, q, congrArg Value.type (of_decide_eq_true h1), rfl, by rw [h3]; decide, ?_⟩
        have h4 : its.toList = [] := List.length_eq_zero_iff.mp (by rw [Array.length_toList]; exact h3)
        rw [h4]
        exact .nil
      | _ => cases h
    | _ => cases dt <;> cases h
theorem rot0 {I : Ci} {K : PySem.W.Frag} {G : Hp} {a : Addr} (h : tup0B K a = true) : Rep I K G (.rot []) (.ref a) := ⟨_, _, rfl, tup0_ok h G, rfl⟩
theorem binds_left {K : PySem.W.Frag} {I : Ci} {fd : FuncData} {ps : List Str} {dvs : List V} {j : Nat} {ds : List D} (h : ∃ us, Vals (dvs.drop j) us ∧ Binds K fd ps us) (hr : ∀ G, Reps I K G ds (dvs.drop j)) : BindsD K I fd ps ds := by
  obtain ⟨us, v, b⟩ := h
  exact ⟨us, _, b, v, hr⟩
theorem clsOf {N : Nms} {t : TabL} {K : PySem.W.Frag} (c : statB N t K = true) {x : Nat} (h : x ∈ t.kc) : Cls K (ga K (strAt N.cn x)) := (clsB_ok (List.all_eq_true.mp (ba c).1 x h)).1.cls
theorem noOf {N : Nms} {t : TabL} {K : PySem.W.Frag} (c : statB N t K = true) {x : Nat} {xs : List Nat} (h : (x, xs) ∈ t.fl) {a : Nat} (ha : a ∈ xs) : NoAttr K (ga K (strAt N.cn x)) (strAt N.an a) := noat_ok (List.all_eq_true.mp (List.all_eq_true.mp (ba (ba c).2).1 _ h) a ha)
theorem itr_by {CI : CXT} {P : Program} {w : World} {K : PySem.W.Frag} {mg : Str → Option Value} {base : Heap} {k : Nat} {fi C : Addr} {fd : FuncData} {qual self fl : Str} {st : Stmt} {N : List Str} {p1 p2 p3 p4 p5 : Pos} {EI : XK}
    (F : FunD K "__iter__" qual (defArgs st) (defBody st) (defScope st) [] [] fi fd) (S : FnScope N [self] (defScope st)) (b : Binds K fd [self] [])
    (e : defBody st = [.Return (some (.Call (.Name "iter" p1) [.Attribute (.Name self p2) fl p3] [] p4)) p5]) (hc : Cls K C) (hn : NoAttr K C fl) (hg : (defScope st).names.lookup ("iter" : Str) = some NameKind.globalImplicit) (hm : mg ("iter" : Str) = none)
    (hs : (self == ("__debug__" : Str)) = false) (hs2 : (self == ("__classdict__" : Str)) = false) : IterOk P w K mg base CI (k + 1) fi C fl EI := by
  obtain ⟨oc, od, dV, kV, doc, pm, an, cdv, ct, osl, rfl, lk, hcd, _, _⟩ := F.ex
  rw [e] at lk b
  exact itr_ok lk hcd S b hc hn hg hm hs hs2
theorem itr_c {K : PySem.W.Frag} {C m : Addr} (h : Meth K C "__iter__" m) : ItrC K C m := ⟨h.at_, h.fn⟩
end EW
set_option maxRecDepth 100000
set_option maxHeartbeats 4000000
namespace K06
open PySem L2 PySem.Spec PyProof.Rows EW CT He
def top (i : Nat) : Stmt := PySem.Challenge.pw_turnsets_k06_whole_values.main.body.getD i (.Pass ⟨0, 0, 0, 0⟩)
def Nm : Nms := ⟨tan, tmn, tfn, tcn, tgn⟩
abbrev cI (K : PySem.W.Frag) : Ci := Nm.ci TL K
def lookB (K : PySem.W.Frag) : Bool := statB Nm TL K && ((Fa.free "iter").ok K && ((Fa.meth "Meaning" "__iter__").ok K && (tup0B K (He.dflAt ("Meaning", some "__init__") 0 K))))
theorem lookB_ok {K : PySem.W.Frag} (c : lookB K = true) : statB Nm TL K = true ∧ (Fa.free "iter").ok K = true ∧ (Fa.meth "Meaning" "__iter__").ok K = true ∧ tup0B K (He.dflAt ("Meaning", some "__init__") 0 K) = true ∧ True := by
  have c0 := c
  obtain ⟨h0, c1⟩ := ba c0
  obtain ⟨h1, c2⟩ := ba c1
  obtain ⟨h2, c3⟩ := ba c2
  exact ⟨h0, h1, h2, c3, trivial⟩
abbrev sfis_name : Stmt := top 12
theorem scfis_name : FnScope ["thing", "sign"] ["thing"] (defScope sfis_name) := ⟨rfl, rfl, rfl, by decide +kernel, rfl, by decide +kernel, by decide +kernel⟩
theorem okfis_name (K : PySem.W.Frag) : okSs (cI K) ["thing", "sign"] (defScope sfis_name) fis_name.body (defBody sfis_name) = true := by kernel_rfl
def ddfis_name : He.DefD := ⟨("is_name", none), "is_name", "is_name", defArgs sfis_name, defBody sfis_name, defScope sfis_name, [], []⟩
theorem dafis_name {K : PySem.W.Frag} {f : Addr} {fd : FuncData} (F : FunD K "is_name" "is_name" (defArgs sfis_name) (defBody sfis_name) (defScope sfis_name) [] [] f fd) : DefAt K (cI K) fis_name f fd ["thing"] :=
  ⟨_, _, _, _, _, F, scfis_name, scfis_name.nd, rfl, rfl, by decide, okfis_name K, F.bindsN fun _ _ _ _ _ _ us hl => match us, hl with | [_], _ => rfl⟩
abbrev sfis_price : Stmt := top 13
theorem scfis_price : FnScope ["thing"] ["thing"] (defScope sfis_price) := ⟨rfl, rfl, rfl, by decide +kernel, rfl, by decide +kernel, by decide +kernel⟩
theorem okfis_price (K : PySem.W.Frag) : okSs (cI K) ["thing"] (defScope sfis_price) fis_price.body (defBody sfis_price) = true := by kernel_rfl
def ddfis_price : He.DefD := ⟨("is_price", none), "is_price", "is_price", defArgs sfis_price, defBody sfis_price, defScope sfis_price, [], []⟩
theorem dafis_price {K : PySem.W.Frag} {f : Addr} {fd : FuncData} (F : FunD K "is_price" "is_price" (defArgs sfis_price) (defBody sfis_price) (defScope sfis_price) [] [] f fd) : DefAt K (cI K) fis_price f fd ["thing"] :=
  ⟨_, _, _, _, _, F, scfis_price, scfis_price.nd, rfl, rfl, by decide, okfis_price K, F.bindsN fun _ _ _ _ _ _ us hl => match us, hl with | [_], _ => rfl⟩
abbrev sfis_among : Stmt := top 14
theorem scfis_among : FnScope ["thing", "words"] ["thing", "words"] (defScope sfis_among) := ⟨rfl, rfl, rfl, by decide +kernel, rfl, by decide +kernel, by decide +kernel⟩
theorem okfis_among (K : PySem.W.Frag) : okSs (cI K) ["thing", "words"] (defScope sfis_among) fis_among.body (defBody sfis_among) = true := by kernel_rfl
def ddfis_among : He.DefD := ⟨("is_among", none), "is_among", "is_among", defArgs sfis_among, defBody sfis_among, defScope sfis_among, [], []⟩
theorem dafis_among {K : PySem.W.Frag} {f : Addr} {fd : FuncData} (F : FunD K "is_among" "is_among" (defArgs sfis_among) (defBody sfis_among) (defScope sfis_among) [] [] f fd) : DefAt K (cI K) fis_among f fd ["thing", "words"] :=
  ⟨_, _, _, _, _, F, scfis_among, scfis_among.nd, rfl, rfl, by decide, okfis_among K, F.bindsN fun _ _ _ _ _ _ us hl => match us, hl with | [_, _], _ => rfl⟩
abbrev sfis_row : Stmt := top 15
theorem scfis_row : FnScope ["thing", "folders", "names", "name", "folder", "kind", "price"] ["thing", "folders", "names"] (defScope sfis_row) := ⟨rfl, rfl, rfl, by decide +kernel, rfl, by decide +kernel, by decide +kernel⟩
theorem okfis_row (K : PySem.W.Frag) : okSs (cI K) ["thing", "folders", "names", "name", "folder", "kind", "price"] (defScope sfis_row) fis_row.body (defBody sfis_row) = true := by kernel_rfl
def ddfis_row : He.DefD := ⟨("is_row", none), "is_row", "is_row", defArgs sfis_row, defBody sfis_row, defScope sfis_row, [], []⟩
theorem dafis_row {K : PySem.W.Frag} {f : Addr} {fd : FuncData} (F : FunD K "is_row" "is_row" (defArgs sfis_row) (defBody sfis_row) (defScope sfis_row) [] [] f fd) : DefAt K (cI K) fis_row f fd ["thing", "folders", "names"] :=
  ⟨_, _, _, _, _, F, scfis_row, scfis_row.nd, rfl, rfl, by decide, okfis_row K, F.bindsN fun _ _ _ _ _ _ us hl => match us, hl with | [_, _, _], _ => rfl⟩
abbrev sfsame_tree : Stmt := top 17
theorem scfsame_tree : FnScope ["one", "other"] ["one", "other"] (defScope sfsame_tree) := ⟨rfl, rfl, rfl, by decide +kernel, rfl, by decide +kernel, by decide +kernel⟩
theorem okfsame_tree (K : PySem.W.Frag) : okSs (cI K) ["one", "other"] (defScope sfsame_tree) fsame_tree.body (defBody sfsame_tree) = true := by kernel_rfl
def ddfsame_tree : He.DefD := ⟨("same_tree", none), "same_tree", "same_tree", defArgs sfsame_tree, defBody sfsame_tree, defScope sfsame_tree, [], []⟩
theorem dafsame_tree {K : PySem.W.Frag} {f : Addr} {fd : FuncData} (F : FunD K "same_tree" "same_tree" (defArgs sfsame_tree) (defBody sfsame_tree) (defScope sfsame_tree) [] [] f fd) : DefAt K (cI K) fsame_tree f fd ["one", "other"] :=
  ⟨_, _, _, _, _, F, scfsame_tree, scfsame_tree.nd, rfl, rfl, by decide, okfsame_tree K, F.bindsN fun _ _ _ _ _ _ us hl => match us, hl with | [_, _], _ => rfl⟩
abbrev sfcheck_alike : Stmt := top 20
theorem scfcheck_alike : FnScope ["one", "other"] ["one", "other"] (defScope sfcheck_alike) := ⟨rfl, rfl, rfl, by decide +kernel, rfl, by decide +kernel, by decide +kernel⟩
theorem okfcheck_alike (K : PySem.W.Frag) : okSs (cI K) ["one", "other"] (defScope sfcheck_alike) fcheck_alike.body (defBody sfcheck_alike) = true := by kernel_rfl
def ddfcheck_alike : He.DefD := ⟨("check_alike", none), "check_alike", "check_alike", defArgs sfcheck_alike, defBody sfcheck_alike, defScope sfcheck_alike, [], []⟩
theorem dafcheck_alike {K : PySem.W.Frag} {f : Addr} {fd : FuncData} (F : FunD K "check_alike" "check_alike" (defArgs sfcheck_alike) (defBody sfcheck_alike) (defScope sfcheck_alike) [] [] f fd) : DefAt K (cI K) fcheck_alike f fd ["one", "other"] :=
  ⟨_, _, _, _, _, F, scfcheck_alike, scfcheck_alike.nd, rfl, rfl, by decide, okfcheck_alike K, F.bindsN fun _ _ _ _ _ _ us hl => match us, hl with | [_, _], _ => rfl⟩
abbrev sfof_values : Stmt := top 21
theorem scfof_values : FnScope ["tree", "values", "turns", "name", "folder", "kind", "price"] ["tree", "values"] (defScope sfof_values) := ⟨rfl, rfl, rfl, by decide +kernel, rfl, by decide +kernel, by decide +kernel⟩
theorem okfof_values (K : PySem.W.Frag) : okSs (cI K) ["tree", "values", "turns", "name", "folder", "kind", "price"] (defScope sfof_values) fof_values.body (defBody sfof_values) = true := by kernel_rfl
def ddfof_values : He.DefD := ⟨("of_values", none), "of_values", "of_values", defArgs sfof_values, defBody sfof_values, defScope sfof_values, [], []⟩
theorem dafof_values {K : PySem.W.Frag} {f : Addr} {fd : FuncData} (F : FunD K "of_values" "of_values" (defArgs sfof_values) (defBody sfof_values) (defScope sfof_values) [] [] f fd) : DefAt K (cI K) fof_values f fd ["tree", "values"] :=
  ⟨_, _, _, _, _, F, scfof_values, scfof_values.nd, rfl, rfl, by decide, okfof_values K, F.bindsN fun _ _ _ _ _ _ us hl => match us, hl with | [_, _], _ => rfl⟩
abbrev sf_law_stream : Stmt := top 23
theorem scf_law_stream : FnScope ["_law_script", "_law_k", "_law_cell"] ["_law_script", "_law_k"] (defScope sf_law_stream) := ⟨rfl, rfl, rfl, by decide +kernel, rfl, by decide +kernel, by decide +kernel⟩
theorem okf_law_stream (K : PySem.W.Frag) : okSs (cI K) ["_law_script", "_law_k", "_law_cell"] (defScope sf_law_stream) f_law_stream.body (defBody sf_law_stream) = true := by kernel_rfl
def ddf_law_stream : He.DefD := ⟨("_law_stream", none), "_law_stream", "_law_stream", defArgs sf_law_stream, defBody sf_law_stream, defScope sf_law_stream, [], []⟩
theorem daf_law_stream {K : PySem.W.Frag} {f : Addr} {fd : FuncData} (F : FunD K "_law_stream" "_law_stream" (defArgs sf_law_stream) (defBody sf_law_stream) (defScope sf_law_stream) [] [] f fd) : DefAt K (cI K) f_law_stream f fd ["_law_script", "_law_k"] :=
  ⟨_, _, _, _, _, F, scf_law_stream, scf_law_stream.nd, rfl, rfl, by decide, okf_law_stream K, F.bindsN fun _ _ _ _ _ _ us hl => match us, hl with | [_, _], _ => rfl⟩
abbrev sf_law_draw : Stmt := top 24
theorem scf_law_draw : FnScope ["_law_stream_here", "_law_many", "_law_digit", "_law_spread"] ["_law_stream_here", "_law_many"] (defScope sf_law_draw) := ⟨rfl, rfl, rfl, by decide +kernel, rfl, by decide +kernel, by decide +kernel⟩
theorem okf_law_draw (K : PySem.W.Frag) : okSs (cI K) ["_law_stream_here", "_law_many", "_law_digit", "_law_spread"] (defScope sf_law_draw) f_law_draw.body (defBody sf_law_draw) = true := by kernel_rfl
def ddf_law_draw : He.DefD := ⟨("_law_draw", none), "_law_draw", "_law_draw", defArgs sf_law_draw, defBody sf_law_draw, defScope sf_law_draw, [], []⟩
theorem daf_law_draw {K : PySem.W.Frag} {f : Addr} {fd : FuncData} (F : FunD K "_law_draw" "_law_draw" (defArgs sf_law_draw) (defBody sf_law_draw) (defScope sf_law_draw) [] [] f fd) : DefAt K (cI K) f_law_draw f fd ["_law_stream_here", "_law_many"] :=
  ⟨_, _, _, _, _, F, scf_law_draw, scf_law_draw.nd, rfl, rfl, by decide, okf_law_draw K, F.bindsN fun _ _ _ _ _ _ us hl => match us, hl with | [_, _], _ => rfl⟩
abbrev sf_law_pick : Stmt := top 25
theorem scf_law_pick : FnScope ["_law_stream_here", "_law_things"] ["_law_stream_here", "_law_things"] (defScope sf_law_pick) := ⟨rfl, rfl, rfl, by decide +kernel, rfl, by decide +kernel, by decide +kernel⟩
theorem okf_law_pick (K : PySem.W.Frag) : okSs (cI K) ["_law_stream_here", "_law_things"] (defScope sf_law_pick) f_law_pick.body (defBody sf_law_pick) = true := by kernel_rfl
def ddf_law_pick : He.DefD := ⟨("_law_pick", none), "_law_pick", "_law_pick", defArgs sf_law_pick, defBody sf_law_pick, defScope sf_law_pick, [], []⟩
theorem daf_law_pick {K : PySem.W.Frag} {f : Addr} {fd : FuncData} (F : FunD K "_law_pick" "_law_pick" (defArgs sf_law_pick) (defBody sf_law_pick) (defScope sf_law_pick) [] [] f fd) : DefAt K (cI K) f_law_pick f fd ["_law_stream_here", "_law_things"] :=
  ⟨_, _, _, _, _, F, scf_law_pick, scf_law_pick.nd, rfl, rfl, by decide, okf_law_pick K, F.bindsN fun _ _ _ _ _ _ us hl => match us, hl with | [_, _], _ => rfl⟩
abbrev sf_law_name : Stmt := top 26
theorem scf_law_name : FnScope ["_law_stream_here", "_law_size", "_law_k"] ["_law_stream_here"] (defScope sf_law_name) := ⟨rfl, rfl, rfl, by decide +kernel, rfl, by decide +kernel, by decide +kernel⟩
theorem okf_law_name (K : PySem.W.Frag) : okSs (cI K) ["_law_stream_here", "_law_size", "_law_k"] (defScope sf_law_name) f_law_name.body (defBody sf_law_name) = true := by kernel_rfl
def ddf_law_name : He.DefD := ⟨("_law_name", none), "_law_name", "_law_name", defArgs sf_law_name, defBody sf_law_name, defScope sf_law_name, [], []⟩
theorem daf_law_name {K : PySem.W.Frag} {f : Addr} {fd : FuncData} (F : FunD K "_law_name" "_law_name" (defArgs sf_law_name) (defBody sf_law_name) (defScope sf_law_name) [] [] f fd) : DefAt K (cI K) f_law_name f fd ["_law_stream_here"] :=
  ⟨_, _, _, _, _, F, scf_law_name, scf_law_name.nd, rfl, rfl, by decide, okf_law_name K, F.bindsN fun _ _ _ _ _ _ us hl => match us, hl with | [_], _ => rfl⟩
abbrev sf_law_kinds : Stmt := top 27
theorem scf_law_kinds : FnScope [] [] (defScope sf_law_kinds) := ⟨rfl, rfl, rfl, by decide +kernel, rfl, by decide +kernel, by decide +kernel⟩
theorem okf_law_kinds (K : PySem.W.Frag) : okSs (cI K) [] (defScope sf_law_kinds) f_law_kinds.body (defBody sf_law_kinds) = true := by kernel_rfl
def ddf_law_kinds : He.DefD := ⟨("_law_kinds", none), "_law_kinds", "_law_kinds", defArgs sf_law_kinds, defBody sf_law_kinds, defScope sf_law_kinds, [], []⟩
theorem daf_law_kinds {K : PySem.W.Frag} {f : Addr} {fd : FuncData} (F : FunD K "_law_kinds" "_law_kinds" (defArgs sf_law_kinds) (defBody sf_law_kinds) (defScope sf_law_kinds) [] [] f fd) : DefAt K (cI K) f_law_kinds f fd [] :=
  ⟨_, _, _, _, _, F, scf_law_kinds, scf_law_kinds.nd, rfl, rfl, by decide, okf_law_kinds K, F.bindsN fun _ _ _ _ _ _ us hl => match us, hl with | [], _ => rfl⟩
abbrev sf_law_prices : Stmt := top 28
theorem scf_law_prices : FnScope [] [] (defScope sf_law_prices) := ⟨rfl, rfl, rfl, by decide +kernel, rfl, by decide +kernel, by decide +kernel⟩
theorem okf_law_prices (K : PySem.W.Frag) : okSs (cI K) [] (defScope sf_law_prices) f_law_prices.body (defBody sf_law_prices) = true := by kernel_rfl
def ddf_law_prices : He.DefD := ⟨("_law_prices", none), "_law_prices", "_law_prices", defArgs sf_law_prices, defBody sf_law_prices, defScope sf_law_prices, [], []⟩
theorem daf_law_prices {K : PySem.W.Frag} {f : Addr} {fd : FuncData} (F : FunD K "_law_prices" "_law_prices" (defArgs sf_law_prices) (defBody sf_law_prices) (defScope sf_law_prices) [] [] f fd) : DefAt K (cI K) f_law_prices f fd [] :=
  ⟨_, _, _, _, _, F, scf_law_prices, scf_law_prices.nd, rfl, rfl, by decide, okf_law_prices K, F.bindsN fun _ _ _ _ _ _ us hl => match us, hl with | [], _ => rfl⟩
abbrev sf_law_rows : Stmt := top 29
theorem scf_law_rows : FnScope ["_law_stream_here", "_law_many", "_law_kinds_here", "_law_prices_here", "_law_rows_here", "_law_folders", "_law_names", "_law_k", "_law_name_here", "_law_kind", "_law_folder"] ["_law_stream_here", "_law_many", "_law_kinds_here", "_law_prices_here"] (defScope sf_law_rows) := ⟨rfl, rfl, rfl, by decide +kernel, rfl, by decide +kernel, by decide +kernel⟩
theorem okf_law_rows (K : PySem.W.Frag) : okSs (cI K) ["_law_stream_here", "_law_many", "_law_kinds_here", "_law_prices_here", "_law_rows_here", "_law_folders", "_law_names", "_law_k", "_law_name_here", "_law_kind", "_law_folder"] (defScope sf_law_rows) f_law_rows.body (defBody sf_law_rows) = true := by kernel_rfl
def ddf_law_rows : He.DefD := ⟨("_law_rows", none), "_law_rows", "_law_rows", defArgs sf_law_rows, defBody sf_law_rows, defScope sf_law_rows, [], []⟩
theorem daf_law_rows {K : PySem.W.Frag} {f : Addr} {fd : FuncData} (F : FunD K "_law_rows" "_law_rows" (defArgs sf_law_rows) (defBody sf_law_rows) (defScope sf_law_rows) [] [] f fd) : DefAt K (cI K) f_law_rows f fd ["_law_stream_here", "_law_many", "_law_kinds_here", "_law_prices_here"] :=
  ⟨_, _, _, _, _, F, scf_law_rows, scf_law_rows.nd, rfl, rfl, by decide, okf_law_rows K, F.bindsN fun _ _ _ _ _ _ us hl => match us, hl with | [_, _, _, _], _ => rfl⟩
abbrev sf_law_way : Stmt := top 30
theorem scf_law_way : FnScope ["_law_rows_here", "_law_box", "_law_folders", "_law_found", "_law_row"] ["_law_rows_here", "_law_box"] (defScope sf_law_way) := ⟨rfl, rfl, rfl, by decide +kernel, rfl, by decide +kernel, by decide +kernel⟩
theorem okf_law_way (K : PySem.W.Frag) : okSs (cI K) ["_law_rows_here", "_law_box", "_law_folders", "_law_found", "_law_row"] (defScope sf_law_way) f_law_way.body (defBody sf_law_way) = true := by kernel_rfl
def ddf_law_way : He.DefD := ⟨("_law_way", none), "_law_way", "_law_way", defArgs sf_law_way, defBody sf_law_way, defScope sf_law_way, [], []⟩
theorem daf_law_way {K : PySem.W.Frag} {f : Addr} {fd : FuncData} (F : FunD K "_law_way" "_law_way" (defArgs sf_law_way) (defBody sf_law_way) (defScope sf_law_way) [] [] f fd) : DefAt K (cI K) f_law_way f fd ["_law_rows_here", "_law_box"] :=
  ⟨_, _, _, _, _, F, scf_law_way, scf_law_way.nd, rfl, rfl, by decide, okf_law_way K, F.bindsN fun _ _ _ _ _ _ us hl => match us, hl with | [_, _], _ => rfl⟩
abbrev sf_law_values : Stmt := top 31
theorem scf_law_values : FnScope ["_law_rows_here", "_law_default", "_law_turns", "_law_found", "_law_row", "_law_many", "_law_box"] ["_law_rows_here", "_law_default", "_law_turns"] (defScope sf_law_values) := ⟨rfl, rfl, rfl, by decide +kernel, rfl, by decide +kernel, by decide +kernel⟩
theorem okf_law_values (K : PySem.W.Frag) : okSs (cI K) ["_law_rows_here", "_law_default", "_law_turns", "_law_found", "_law_row", "_law_many", "_law_box"] (defScope sf_law_values) f_law_values.body (defBody sf_law_values) = true := by kernel_rfl
def ddf_law_values : He.DefD := ⟨("_law_values", none), "_law_values", "_law_values", defArgs sf_law_values, defBody sf_law_values, defScope sf_law_values, [], []⟩
theorem daf_law_values {K : PySem.W.Frag} {f : Addr} {fd : FuncData} (F : FunD K "_law_values" "_law_values" (defArgs sf_law_values) (defBody sf_law_values) (defScope sf_law_values) [] [] f fd) : DefAt K (cI K) f_law_values f fd ["_law_rows_here", "_law_default", "_law_turns"] :=
  ⟨_, _, _, _, _, F, scf_law_values, scf_law_values.nd, rfl, rfl, by decide, okf_law_values K, F.bindsN fun _ _ _ _ _ _ us hl => match us, hl with | [_, _, _], _ => rfl⟩
abbrev sf_law_some : Stmt := top 32
theorem scf_law_some : FnScope ["_law_stream_here", "_law_things", "_law_thing"] ["_law_stream_here", "_law_things"] (defScope sf_law_some) := ⟨rfl, rfl, rfl, by decide +kernel, rfl, by decide +kernel, by decide +kernel⟩
theorem okf_law_some (K : PySem.W.Frag) : okSs (cI K) ["_law_stream_here", "_law_things", "_law_thing"] (defScope sf_law_some) f_law_some.body (defBody sf_law_some) = true := by kernel_rfl
def ddf_law_some : He.DefD := ⟨("_law_some", none), "_law_some", "_law_some", defArgs sf_law_some, defBody sf_law_some, defScope sf_law_some, [], []⟩
theorem daf_law_some {K : PySem.W.Frag} {f : Addr} {fd : FuncData} (F : FunD K "_law_some" "_law_some" (defArgs sf_law_some) (defBody sf_law_some) (defScope sf_law_some) [] [] f fd) : DefAt K (cI K) f_law_some f fd ["_law_stream_here", "_law_things"] :=
  ⟨_, _, _, _, _, F, scf_law_some, scf_law_some.nd, rfl, rfl, by decide, okf_law_some K, F.bindsN fun _ _ _ _ _ _ us hl => match us, hl with | [_, _], _ => rfl⟩
abbrev sf_law_open : Stmt := top 33
theorem scf_law_open : FnScope ["_law_rows_here", "_law_row"] ["_law_rows_here"] (defScope sf_law_open) := ⟨rfl, rfl, rfl, by decide +kernel, rfl, by decide +kernel, by decide +kernel⟩
theorem okf_law_open (K : PySem.W.Frag) : okSs (cI K) ["_law_rows_here", "_law_row"] (defScope sf_law_open) f_law_open.body (defBody sf_law_open) = true := by kernel_rfl
def ddf_law_open : He.DefD := ⟨("_law_open", none), "_law_open", "_law_open", defArgs sf_law_open, defBody sf_law_open, defScope sf_law_open, [], []⟩
theorem daf_law_open {K : PySem.W.Frag} {f : Addr} {fd : FuncData} (F : FunD K "_law_open" "_law_open" (defArgs sf_law_open) (defBody sf_law_open) (defScope sf_law_open) [] [] f fd) : DefAt K (cI K) f_law_open f fd ["_law_rows_here"] :=
  ⟨_, _, _, _, _, F, scf_law_open, scf_law_open.nd, rfl, rfl, by decide, okf_law_open K, F.bindsN fun _ _ _ _ _ _ us hl => match us, hl with | [_], _ => rfl⟩
abbrev sf_law_mix : Stmt := top 34
theorem scf_law_mix : FnScope ["_law_stream_here", "_law_things", "_law_left", "_law_k"] ["_law_stream_here", "_law_things"] (defScope sf_law_mix) := ⟨rfl, rfl, rfl, by decide +kernel, rfl, by decide +kernel, by decide +kernel⟩
theorem okf_law_mix (K : PySem.W.Frag) : okSs (cI K) ["_law_stream_here", "_law_things", "_law_left", "_law_k"] (defScope sf_law_mix) f_law_mix.body (defBody sf_law_mix) = true := by kernel_rfl
def ddf_law_mix : He.DefD := ⟨("_law_mix", none), "_law_mix", "_law_mix", defArgs sf_law_mix, defBody sf_law_mix, defScope sf_law_mix, [], []⟩
theorem daf_law_mix {K : PySem.W.Frag} {f : Addr} {fd : FuncData} (F : FunD K "_law_mix" "_law_mix" (defArgs sf_law_mix) (defBody sf_law_mix) (defScope sf_law_mix) [] [] f fd) : DefAt K (cI K) f_law_mix f fd ["_law_stream_here", "_law_things"] :=
  ⟨_, _, _, _, _, F, scf_law_mix, scf_law_mix.nd, rfl, rfl, by decide, okf_law_mix K, F.bindsN fun _ _ _ _ _ _ us hl => match us, hl with | [_, _], _ => rfl⟩
abbrev sf_law_newcomers_right : Stmt := top 35
theorem scf_law_newcomers_right : FnScope ["_law_tree", "_law_rows_here", "_law_default", "_law_turns", "_law_values_here", "_law_folder", "_law_row", "_law_wide"] ["_law_tree", "_law_rows_here", "_law_default", "_law_turns", "_law_values_here"] (defScope sf_law_newcomers_right) := ⟨rfl, rfl, rfl, by decide +kernel, rfl, by decide +kernel, by decide +kernel⟩
theorem okf_law_newcomers_right (K : PySem.W.Frag) : okSs (cI K) ["_law_tree", "_law_rows_here", "_law_default", "_law_turns", "_law_values_here", "_law_folder", "_law_row", "_law_wide"] (defScope sf_law_newcomers_right) f_law_newcomers_right.body (defBody sf_law_newcomers_right) = true := by kernel_rfl
def ddf_law_newcomers_right : He.DefD := ⟨("_law_newcomers_right", none), "_law_newcomers_right", "_law_newcomers_right", defArgs sf_law_newcomers_right, defBody sf_law_newcomers_right, defScope sf_law_newcomers_right, [], []⟩
theorem daf_law_newcomers_right {K : PySem.W.Frag} {f : Addr} {fd : FuncData} (F : FunD K "_law_newcomers_right" "_law_newcomers_right" (defArgs sf_law_newcomers_right) (defBody sf_law_newcomers_right) (defScope sf_law_newcomers_right) [] [] f fd) : DefAt K (cI K) f_law_newcomers_right f fd ["_law_tree", "_law_rows_here", "_law_default", "_law_turns", "_law_values_here"] :=
  ⟨_, _, _, _, _, F, scf_law_newcomers_right, scf_law_newcomers_right.nd, rfl, rfl, by decide, okf_law_newcomers_right K, F.bindsN fun _ _ _ _ _ _ us hl => match us, hl with | [_, _, _, _, _], _ => rfl⟩
abbrev sf_law_unlike : Stmt := top 36
theorem scf_law_unlike : FnScope ["_law_meaning", "_law_tree", "_law_rows_here", "_law_default", "_law_turns", "_law_wide", "_law_others", "_law_box", "_law_less", "_law_one", "_law_other"] ["_law_meaning", "_law_tree", "_law_rows_here", "_law_default", "_law_turns"] (defScope sf_law_unlike) := ⟨rfl, rfl, rfl, by decide +kernel, rfl, by decide +kernel, by decide +kernel⟩
theorem okf_law_unlike (K : PySem.W.Frag) : okSs (cI K) ["_law_meaning", "_law_tree", "_law_rows_here", "_law_default", "_law_turns", "_law_wide", "_law_others", "_law_box", "_law_less", "_law_one", "_law_other"] (defScope sf_law_unlike) f_law_unlike.body (defBody sf_law_unlike) = true := by kernel_rfl
def ddf_law_unlike : He.DefD := ⟨("_law_unlike", none), "_law_unlike", "_law_unlike", defArgs sf_law_unlike, defBody sf_law_unlike, defScope sf_law_unlike, [], []⟩
theorem daf_law_unlike {K : PySem.W.Frag} {f : Addr} {fd : FuncData} (F : FunD K "_law_unlike" "_law_unlike" (defArgs sf_law_unlike) (defBody sf_law_unlike) (defScope sf_law_unlike) [] [] f fd) : DefAt K (cI K) f_law_unlike f fd ["_law_meaning", "_law_tree", "_law_rows_here", "_law_default", "_law_turns"] :=
  ⟨_, _, _, _, _, F, scf_law_unlike, scf_law_unlike.nd, rfl, rfl, by decide, okf_law_unlike K, F.bindsN fun _ _ _ _ _ _ us hl => match us, hl with | [_, _, _, _, _], _ => rfl⟩
abbrev sflaw_v4 : Stmt := top 37
theorem scflaw_v4 : FnScope ["_law_script", "_law_turn", "_law_stream_here", "_law_rows_here", "_law_tree", "_law_default", "_law_turns", "_law_handed", "_law_meaning", "_law_values_here", "_law_again", "_law_told", "_law_box", "_law_cost", "_law_row", "_law_odd"] ["_law_script"] (defScope sflaw_v4) := ⟨rfl, rfl, rfl, by decide +kernel, rfl, by decide +kernel, by decide +kernel⟩
theorem okflaw_v4 (K : PySem.W.Frag) : okSs (cI K) ["_law_script", "_law_turn", "_law_stream_here", "_law_rows_here", "_law_tree", "_law_default", "_law_turns", "_law_handed", "_law_meaning", "_law_values_here", "_law_again", "_law_told", "_law_box", "_law_cost", "_law_row", "_law_odd"] (defScope sflaw_v4) flaw_v4.body (defBody sflaw_v4) = true := by kernel_rfl
def ddflaw_v4 : He.DefD := ⟨("law", none), "law", "law", defArgs sflaw_v4, defBody sflaw_v4, defScope sflaw_v4, [], []⟩
theorem daflaw_v4 {K : PySem.W.Frag} {f : Addr} {fd : FuncData} (F : FunD K "law" "law" (defArgs sflaw_v4) (defBody sflaw_v4) (defScope sflaw_v4) [] [] f fd) : DefAt K (cI K) flaw_v4 f fd ["_law_script"] :=
  ⟨_, _, _, _, _, F, scflaw_v4, scflaw_v4.nd, rfl, rfl, by decide, okflaw_v4 K, F.bindsN fun _ _ _ _ _ _ us hl => match us, hl with | [_], _ => rfl⟩
abbrev smTree_init_ : Stmt := inClass (top 16) 0
theorem scmTree_init_ : FnScope ["self", "rows", "index", "thing"] ["self", "rows"] (defScope smTree_init_) := ⟨rfl, rfl, rfl, by decide +kernel, rfl, by decide +kernel, by decide +kernel⟩
theorem okmTree_init_ (K : PySem.W.Frag) : okSs (cI K) ["self", "rows", "index", "thing"] (defScope smTree_init_) mTree_init_.body (defBody smTree_init_) = true := by kernel_rfl
def ddmTree_init_ : He.DefD := ⟨("Tree", some "__init__"), "__init__", "Tree.__init__", defArgs smTree_init_, defBody smTree_init_, defScope smTree_init_, [], []⟩
theorem damTree_init_ {K : PySem.W.Frag} {f : Addr} {fd : FuncData} (F : FunD K "__init__" "Tree.__init__" (defArgs smTree_init_) (defBody smTree_init_) (defScope smTree_init_) [] [] f fd) : DefAt K (cI K) mTree_init_ f fd ["self", "rows"] :=
  ⟨_, _, _, _, _, F, scmTree_init_, scmTree_init_.nd, rfl, rfl, by decide, okmTree_init_ K, F.bindsN fun _ _ _ _ _ _ us hl => match us, hl with | [_, _], _ => rfl⟩
abbrev smTree_len_ : Stmt := inClass (top 16) 1
theorem scmTree_len_ : FnScope ["self"] ["self"] (defScope smTree_len_) := ⟨rfl, rfl, rfl, by decide +kernel, rfl, by decide +kernel, by decide +kernel⟩
theorem okmTree_len_ (K : PySem.W.Frag) : okSs (cI K) ["self"] (defScope smTree_len_) mTree_len_.body (defBody smTree_len_) = true := by kernel_rfl
def ddmTree_len_ : He.DefD := ⟨("Tree", some "__len__"), "__len__", "Tree.__len__", defArgs smTree_len_, defBody smTree_len_, defScope smTree_len_, [], []⟩
theorem damTree_len_ {K : PySem.W.Frag} {f : Addr} {fd : FuncData} (F : FunD K "__len__" "Tree.__len__" (defArgs smTree_len_) (defBody smTree_len_) (defScope smTree_len_) [] [] f fd) : DefAt K (cI K) mTree_len_ f fd ["self"] :=
  ⟨_, _, _, _, _, F, scmTree_len_, scmTree_len_.nd, rfl, rfl, by decide, okmTree_len_ K, F.bindsN fun _ _ _ _ _ _ us hl => match us, hl with | [_], _ => rfl⟩
abbrev smTree_contains_ : Stmt := inClass (top 16) 2
theorem scmTree_contains_ : FnScope ["self", "name"] ["self", "name"] (defScope smTree_contains_) := ⟨rfl, rfl, rfl, by decide +kernel, rfl, by decide +kernel, by decide +kernel⟩
theorem okmTree_contains_ (K : PySem.W.Frag) : okSs (cI K) ["self", "name"] (defScope smTree_contains_) mTree_contains_.body (defBody smTree_contains_) = true := by kernel_rfl
def ddmTree_contains_ : He.DefD := ⟨("Tree", some "__contains__"), "__contains__", "Tree.__contains__", defArgs smTree_contains_, defBody smTree_contains_, defScope smTree_contains_, [], []⟩
theorem damTree_contains_ {K : PySem.W.Frag} {f : Addr} {fd : FuncData} (F : FunD K "__contains__" "Tree.__contains__" (defArgs smTree_contains_) (defBody smTree_contains_) (defScope smTree_contains_) [] [] f fd) : DefAt K (cI K) mTree_contains_ f fd ["self", "name"] :=
  ⟨_, _, _, _, _, F, scmTree_contains_, scmTree_contains_.nd, rfl, rfl, by decide, okmTree_contains_ K, F.bindsN fun _ _ _ _ _ _ us hl => match us, hl with | [_, _], _ => rfl⟩
abbrev smTree_eq_ : Stmt := inClass (top 16) 3
theorem scmTree_eq_ : FnScope ["self", "other"] ["self", "other"] (defScope smTree_eq_) := ⟨rfl, rfl, rfl, by decide +kernel, rfl, by decide +kernel, by decide +kernel⟩
theorem okmTree_eq_ (K : PySem.W.Frag) : okSs (cI K) ["self", "other"] (defScope smTree_eq_) mTree_eq_.body (defBody smTree_eq_) = true := by kernel_rfl
def ddmTree_eq_ : He.DefD := ⟨("Tree", some "__eq__"), "__eq__", "Tree.__eq__", defArgs smTree_eq_, defBody smTree_eq_, defScope smTree_eq_, [], []⟩
theorem damTree_eq_ {K : PySem.W.Frag} {f : Addr} {fd : FuncData} (F : FunD K "__eq__" "Tree.__eq__" (defArgs smTree_eq_) (defBody smTree_eq_) (defScope smTree_eq_) [] [] f fd) : DefAt K (cI K) mTree_eq_ f fd ["self", "other"] :=
  ⟨_, _, _, _, _, F, scmTree_eq_, scmTree_eq_.nd, rfl, rfl, by decide, okmTree_eq_ K, F.bindsN fun _ _ _ _ _ _ us hl => match us, hl with | [_, _], _ => rfl⟩
abbrev smTreerows : Stmt := inClass (top 16) 4
theorem scmTreerows : FnScope ["self", "name"] ["self"] (defScope smTreerows) := ⟨rfl, rfl, rfl, by decide +kernel, rfl, by decide +kernel, by decide +kernel⟩
theorem okmTreerows (K : PySem.W.Frag) : okSs (cI K) ["self", "name"] (defScope smTreerows) mTreerows.body (defBody smTreerows) = true := by kernel_rfl
def ddmTreerows : He.DefD := ⟨("Tree", some "rows"), "rows", "Tree.rows", defArgs smTreerows, defBody smTreerows, defScope smTreerows, [], []⟩
theorem damTreerows {K : PySem.W.Frag} {f : Addr} {fd : FuncData} (F : FunD K "rows" "Tree.rows" (defArgs smTreerows) (defBody smTreerows) (defScope smTreerows) [] [] f fd) : DefAt K (cI K) mTreerows f fd ["self"] :=
  ⟨_, _, _, _, _, F, scmTreerows, scmTreerows.nd, rfl, rfl, by decide, okmTreerows K, F.bindsN fun _ _ _ _ _ _ us hl => match us, hl with | [_], _ => rfl⟩
abbrev smTreenames : Stmt := inClass (top 16) 5
theorem scmTreenames : FnScope ["self"] ["self"] (defScope smTreenames) := ⟨rfl, rfl, rfl, by decide +kernel, rfl, by decide +kernel, by decide +kernel⟩
theorem okmTreenames (K : PySem.W.Frag) : okSs (cI K) ["self"] (defScope smTreenames) mTreenames.body (defBody smTreenames) = true := by kernel_rfl
def ddmTreenames : He.DefD := ⟨("Tree", some "names"), "names", "Tree.names", defArgs smTreenames, defBody smTreenames, defScope smTreenames, [], []⟩
theorem damTreenames {K : PySem.W.Frag} {f : Addr} {fd : FuncData} (F : FunD K "names" "Tree.names" (defArgs smTreenames) (defBody smTreenames) (defScope smTreenames) [] [] f fd) : DefAt K (cI K) mTreenames f fd ["self"] :=
  ⟨_, _, _, _, _, F, scmTreenames, scmTreenames.nd, rfl, rfl, by decide, okmTreenames K, F.bindsN fun _ _ _ _ _ _ us hl => match us, hl with | [_], _ => rfl⟩
abbrev smTreerow_of : Stmt := inClass (top 16) 6
theorem scmTreerow_of : FnScope ["self", "box"] ["self", "box"] (defScope smTreerow_of) := ⟨rfl, rfl, rfl, by decide +kernel, rfl, by decide +kernel, by decide +kernel⟩
theorem okmTreerow_of (K : PySem.W.Frag) : okSs (cI K) ["self", "box"] (defScope smTreerow_of) mTreerow_of.body (defBody smTreerow_of) = true := by kernel_rfl
def ddmTreerow_of : He.DefD := ⟨("Tree", some "row_of"), "row_of", "Tree.row_of", defArgs smTreerow_of, defBody smTreerow_of, defScope smTreerow_of, [], []⟩
theorem damTreerow_of {K : PySem.W.Frag} {f : Addr} {fd : FuncData} (F : FunD K "row_of" "Tree.row_of" (defArgs smTreerow_of) (defBody smTreerow_of) (defScope smTreerow_of) [] [] f fd) : DefAt K (cI K) mTreerow_of f fd ["self", "box"] :=
  ⟨_, _, _, _, _, F, scmTreerow_of, scmTreerow_of.nd, rfl, rfl, by decide, okmTreerow_of K, F.bindsN fun _ _ _ _ _ _ us hl => match us, hl with | [_, _], _ => rfl⟩
abbrev smTreecheck : Stmt := inClass (top 16) 7
theorem scmTreecheck : FnScope ["self", "box"] ["self", "box"] (defScope smTreecheck) := ⟨rfl, rfl, rfl, by decide +kernel, rfl, by decide +kernel, by decide +kernel⟩
theorem okmTreecheck (K : PySem.W.Frag) : okSs (cI K) ["self", "box"] (defScope smTreecheck) mTreecheck.body (defBody smTreecheck) = true := by kernel_rfl
def ddmTreecheck : He.DefD := ⟨("Tree", some "check"), "check", "Tree.check", defArgs smTreecheck, defBody smTreecheck, defScope smTreecheck, [], []⟩
theorem damTreecheck {K : PySem.W.Frag} {f : Addr} {fd : FuncData} (F : FunD K "check" "Tree.check" (defArgs smTreecheck) (defBody smTreecheck) (defScope smTreecheck) [] [] f fd) : DefAt K (cI K) mTreecheck f fd ["self", "box"] :=
  ⟨_, _, _, _, _, F, scmTreecheck, scmTreecheck.nd, rfl, rfl, by decide, okmTreecheck K, F.bindsN fun _ _ _ _ _ _ us hl => match us, hl with | [_, _], _ => rfl⟩
abbrev smTreefolder : Stmt := inClass (top 16) 8
theorem scmTreefolder : FnScope ["self", "box"] ["self", "box"] (defScope smTreefolder) := ⟨rfl, rfl, rfl, by decide +kernel, rfl, by decide +kernel, by decide +kernel⟩
theorem okmTreefolder (K : PySem.W.Frag) : okSs (cI K) ["self", "box"] (defScope smTreefolder) mTreefolder.body (defBody smTreefolder) = true := by kernel_rfl
def ddmTreefolder : He.DefD := ⟨("Tree", some "folder"), "folder", "Tree.folder", defArgs smTreefolder, defBody smTreefolder, defScope smTreefolder, [], []⟩
theorem damTreefolder {K : PySem.W.Frag} {f : Addr} {fd : FuncData} (F : FunD K "folder" "Tree.folder" (defArgs smTreefolder) (defBody smTreefolder) (defScope smTreefolder) [] [] f fd) : DefAt K (cI K) mTreefolder f fd ["self", "box"] :=
  ⟨_, _, _, _, _, F, scmTreefolder, scmTreefolder.nd, rfl, rfl, by decide, okmTreefolder K, F.bindsN fun _ _ _ _ _ _ us hl => match us, hl with | [_, _], _ => rfl⟩
abbrev smTreekind : Stmt := inClass (top 16) 9
theorem scmTreekind : FnScope ["self", "box"] ["self", "box"] (defScope smTreekind) := ⟨rfl, rfl, rfl, by decide +kernel, rfl, by decide +kernel, by decide +kernel⟩
theorem okmTreekind (K : PySem.W.Frag) : okSs (cI K) ["self", "box"] (defScope smTreekind) mTreekind.body (defBody smTreekind) = true := by kernel_rfl
def ddmTreekind : He.DefD := ⟨("Tree", some "kind"), "kind", "Tree.kind", defArgs smTreekind, defBody smTreekind, defScope smTreekind, [], []⟩
theorem damTreekind {K : PySem.W.Frag} {f : Addr} {fd : FuncData} (F : FunD K "kind" "Tree.kind" (defArgs smTreekind) (defBody smTreekind) (defScope smTreekind) [] [] f fd) : DefAt K (cI K) mTreekind f fd ["self", "box"] :=
  ⟨_, _, _, _, _, F, scmTreekind, scmTreekind.nd, rfl, rfl, by decide, okmTreekind K, F.bindsN fun _ _ _ _ _ _ us hl => match us, hl with | [_, _], _ => rfl⟩
abbrev smTreeprice : Stmt := inClass (top 16) 10
theorem scmTreeprice : FnScope ["self", "box"] ["self", "box"] (defScope smTreeprice) := ⟨rfl, rfl, rfl, by decide +kernel, rfl, by decide +kernel, by decide +kernel⟩
theorem okmTreeprice (K : PySem.W.Frag) : okSs (cI K) ["self", "box"] (defScope smTreeprice) mTreeprice.body (defBody smTreeprice) = true := by kernel_rfl
def ddmTreeprice : He.DefD := ⟨("Tree", some "price"), "price", "Tree.price", defArgs smTreeprice, defBody smTreeprice, defScope smTreeprice, [], []⟩
theorem damTreeprice {K : PySem.W.Frag} {f : Addr} {fd : FuncData} (F : FunD K "price" "Tree.price" (defArgs smTreeprice) (defBody smTreeprice) (defScope smTreeprice) [] [] f fd) : DefAt K (cI K) mTreeprice f fd ["self", "box"] :=
  ⟨_, _, _, _, _, F, scmTreeprice, scmTreeprice.nd, rfl, rfl, by decide, okmTreeprice K, F.bindsN fun _ _ _ _ _ _ us hl => match us, hl with | [_, _], _ => rfl⟩
abbrev smTreebelow : Stmt := inClass (top 16) 13
theorem scmTreebelow : FnScope ["self", "box", "found", "name", "folder", "kind", "price"] ["self", "box"] (defScope smTreebelow) := ⟨rfl, rfl, rfl, by decide +kernel, rfl, by decide +kernel, by decide +kernel⟩
theorem okmTreebelow (K : PySem.W.Frag) : okSs (cI K) ["self", "box", "found", "name", "folder", "kind", "price"] (defScope smTreebelow) mTreebelow.body (defBody smTreebelow) = true := by kernel_rfl
def ddmTreebelow : He.DefD := ⟨("Tree", some "below"), "below", "Tree.below", defArgs smTreebelow, defBody smTreebelow, defScope smTreebelow, [], []⟩
theorem damTreebelow {K : PySem.W.Frag} {f : Addr} {fd : FuncData} (F : FunD K "below" "Tree.below" (defArgs smTreebelow) (defBody smTreebelow) (defScope smTreebelow) [] [] f fd) : DefAt K (cI K) mTreebelow f fd ["self", "box"] :=
  ⟨_, _, _, _, _, F, scmTreebelow, scmTreebelow.nd, rfl, rfl, by decide, okmTreebelow K, F.bindsN fun _ _ _ _ _ _ us hl => match us, hl with | [_, _], _ => rfl⟩
abbrev smTreemore : Stmt := inClass (top 16) 16
theorem scmTreemore : FnScope ["self", "row"] ["self", "row"] (defScope smTreemore) := ⟨rfl, rfl, rfl, by decide +kernel, rfl, by decide +kernel, by decide +kernel⟩
theorem okmTreemore (K : PySem.W.Frag) : okSs (cI K) ["self", "row"] (defScope smTreemore) mTreemore.body (defBody smTreemore) = true := by kernel_rfl
def ddmTreemore : He.DefD := ⟨("Tree", some "more"), "more", "Tree.more", defArgs smTreemore, defBody smTreemore, defScope smTreemore, [], []⟩
theorem damTreemore {K : PySem.W.Frag} {f : Addr} {fd : FuncData} (F : FunD K "more" "Tree.more" (defArgs smTreemore) (defBody smTreemore) (defScope smTreemore) [] [] f fd) : DefAt K (cI K) mTreemore f fd ["self", "row"] :=
  ⟨_, _, _, _, _, F, scmTreemore, scmTreemore.nd, rfl, rfl, by decide, okmTreemore K, F.bindsN fun _ _ _ _ _ _ us hl => match us, hl with | [_, _], _ => rfl⟩
abbrev smMeaning_init_ : Stmt := inClass (top 19) 0
theorem scmMeaning_init_ : FnScope ["self", "tree", "default", "turns", "box", "name"] ["self", "tree", "default", "turns"] (defScope smMeaning_init_) := ⟨rfl, rfl, rfl, by decide +kernel, rfl, by decide +kernel, by decide +kernel⟩
theorem okmMeaning_init_ (K : PySem.W.Frag) : okSs (cI K) ["self", "tree", "default", "turns", "box", "name"] (defScope smMeaning_init_) mMeaning_init_.body (defBody smMeaning_init_) = true := by kernel_rfl
def ddmMeaning_init_ : He.DefD := ⟨("Meaning", some "__init__"), "__init__", "Meaning.__init__", defArgs smMeaning_init_, defBody smMeaning_init_, defScope smMeaning_init_, [.adr (He.dflAt ("Meaning", some "__init__") 0)], []⟩
theorem damMeaning_init_ {K : PySem.W.Frag} {f : Addr} {fd : FuncData} (F : FunD K "__init__" "Meaning.__init__" (defArgs smMeaning_init_) (defBody smMeaning_init_) (defScope smMeaning_init_) (ddmMeaning_init_.dvs K) [] f fd) : DefAt K (cI K) mMeaning_init_ f fd ["self", "tree", "default", "turns"] :=
  ⟨_, _, _, _, _, F, scmMeaning_init_, scmMeaning_init_.nd, rfl, rfl, by decide, okmMeaning_init_ K, binds_full (F.binds1 (ps := ["self", "tree", "default", "turns"]) 4 1 (List.cons_ne_nil _ _) rfl fun T kV doc pm an cdv ct us its h1 h2 => match us, its, h1, h2 with | [_, _, _, _], [_], _, _ => ⟨_, rfl, rfl⟩) rfl⟩
abbrev smMeaning_eq_ : Stmt := inClass (top 19) 1
theorem scmMeaning_eq_ : FnScope ["self", "other"] ["self", "other"] (defScope smMeaning_eq_) := ⟨rfl, rfl, rfl, by decide +kernel, rfl, by decide +kernel, by decide +kernel⟩
theorem okmMeaning_eq_ (K : PySem.W.Frag) : okSs (cI K) ["self", "other"] (defScope smMeaning_eq_) mMeaning_eq_.body (defBody smMeaning_eq_) = true := by kernel_rfl
def ddmMeaning_eq_ : He.DefD := ⟨("Meaning", some "__eq__"), "__eq__", "Meaning.__eq__", defArgs smMeaning_eq_, defBody smMeaning_eq_, defScope smMeaning_eq_, [], []⟩
theorem damMeaning_eq_ {K : PySem.W.Frag} {f : Addr} {fd : FuncData} (F : FunD K "__eq__" "Meaning.__eq__" (defArgs smMeaning_eq_) (defBody smMeaning_eq_) (defScope smMeaning_eq_) [] [] f fd) : DefAt K (cI K) mMeaning_eq_ f fd ["self", "other"] :=
  ⟨_, _, _, _, _, F, scmMeaning_eq_, scmMeaning_eq_.nd, rfl, rfl, by decide, okmMeaning_eq_ K, F.bindsN fun _ _ _ _ _ _ us hl => match us, hl with | [_, _], _ => rfl⟩
abbrev smMeaning_len_ : Stmt := inClass (top 19) 2
theorem scmMeaning_len_ : FnScope ["self"] ["self"] (defScope smMeaning_len_) := ⟨rfl, rfl, rfl, by decide +kernel, rfl, by decide +kernel, by decide +kernel⟩
theorem okmMeaning_len_ (K : PySem.W.Frag) : okSs (cI K) ["self"] (defScope smMeaning_len_) mMeaning_len_.body (defBody smMeaning_len_) = true := by kernel_rfl
def ddmMeaning_len_ : He.DefD := ⟨("Meaning", some "__len__"), "__len__", "Meaning.__len__", defArgs smMeaning_len_, defBody smMeaning_len_, defScope smMeaning_len_, [], []⟩
theorem damMeaning_len_ {K : PySem.W.Frag} {f : Addr} {fd : FuncData} (F : FunD K "__len__" "Meaning.__len__" (defArgs smMeaning_len_) (defBody smMeaning_len_) (defScope smMeaning_len_) [] [] f fd) : DefAt K (cI K) mMeaning_len_ f fd ["self"] :=
  ⟨_, _, _, _, _, F, scmMeaning_len_, scmMeaning_len_.nd, rfl, rfl, by decide, okmMeaning_len_ K, F.bindsN fun _ _ _ _ _ _ us hl => match us, hl with | [_], _ => rfl⟩
abbrev smMeaning_contains_ : Stmt := inClass (top 19) 4
theorem scmMeaning_contains_ : FnScope ["self", "box"] ["self", "box"] (defScope smMeaning_contains_) := ⟨rfl, rfl, rfl, by decide +kernel, rfl, by decide +kernel, by decide +kernel⟩
theorem okmMeaning_contains_ (K : PySem.W.Frag) : okSs (cI K) ["self", "box"] (defScope smMeaning_contains_) mMeaning_contains_.body (defBody smMeaning_contains_) = true := by kernel_rfl
def ddmMeaning_contains_ : He.DefD := ⟨("Meaning", some "__contains__"), "__contains__", "Meaning.__contains__", defArgs smMeaning_contains_, defBody smMeaning_contains_, defScope smMeaning_contains_, [], []⟩
theorem damMeaning_contains_ {K : PySem.W.Frag} {f : Addr} {fd : FuncData} (F : FunD K "__contains__" "Meaning.__contains__" (defArgs smMeaning_contains_) (defBody smMeaning_contains_) (defScope smMeaning_contains_) [] [] f fd) : DefAt K (cI K) mMeaning_contains_ f fd ["self", "box"] :=
  ⟨_, _, _, _, _, F, scmMeaning_contains_, scmMeaning_contains_.nd, rfl, rfl, by decide, okmMeaning_contains_ K, F.bindsN fun _ _ _ _ _ _ us hl => match us, hl with | [_, _], _ => rfl⟩
abbrev smMeaningstates : Stmt := inClass (top 19) 5
theorem scmMeaningstates : FnScope ["self", "found", "name", "folder", "kind", "price"] ["self"] (defScope smMeaningstates) := ⟨rfl, rfl, rfl, by decide +kernel, rfl, by decide +kernel, by decide +kernel⟩
theorem okmMeaningstates (K : PySem.W.Frag) : okSs (cI K) ["self", "found", "name", "folder", "kind", "price"] (defScope smMeaningstates) mMeaningstates.body (defBody smMeaningstates) = true := by kernel_rfl
def ddmMeaningstates : He.DefD := ⟨("Meaning", some "states"), "states", "Meaning.states", defArgs smMeaningstates, defBody smMeaningstates, defScope smMeaningstates, [], []⟩
theorem damMeaningstates {K : PySem.W.Frag} {f : Addr} {fd : FuncData} (F : FunD K "states" "Meaning.states" (defArgs smMeaningstates) (defBody smMeaningstates) (defScope smMeaningstates) [] [] f fd) : DefAt K (cI K) mMeaningstates f fd ["self"] :=
  ⟨_, _, _, _, _, F, scmMeaningstates, scmMeaningstates.nd, rfl, rfl, by decide, okmMeaningstates K, F.bindsN fun _ _ _ _ _ _ us hl => match us, hl with | [_], _ => rfl⟩
abbrev smMeaningvalue : Stmt := inClass (top 19) 6
theorem scmMeaningvalue : FnScope ["self", "box"] ["self", "box"] (defScope smMeaningvalue) := ⟨rfl, rfl, rfl, by decide +kernel, rfl, by decide +kernel, by decide +kernel⟩
theorem okmMeaningvalue (K : PySem.W.Frag) : okSs (cI K) ["self", "box"] (defScope smMeaningvalue) mMeaningvalue.body (defBody smMeaningvalue) = true := by kernel_rfl
def ddmMeaningvalue : He.DefD := ⟨("Meaning", some "value"), "value", "Meaning.value", defArgs smMeaningvalue, defBody smMeaningvalue, defScope smMeaningvalue, [], []⟩
theorem damMeaningvalue {K : PySem.W.Frag} {f : Addr} {fd : FuncData} (F : FunD K "value" "Meaning.value" (defArgs smMeaningvalue) (defBody smMeaningvalue) (defScope smMeaningvalue) [] [] f fd) : DefAt K (cI K) mMeaningvalue f fd ["self", "box"] :=
  ⟨_, _, _, _, _, F, scmMeaningvalue, scmMeaningvalue.nd, rfl, rfl, by decide, okmMeaningvalue K, F.bindsN fun _ _ _ _ _ _ us hl => match us, hl with | [_, _], _ => rfl⟩
abbrev smMeaningprice : Stmt := inClass (top 19) 7
theorem scmMeaningprice : FnScope ["self", "box"] ["self"] (defScope smMeaningprice) := ⟨rfl, rfl, rfl, by decide +kernel, rfl, by decide +kernel, by decide +kernel⟩
theorem okmMeaningprice (K : PySem.W.Frag) : okSs (cI K) ["self", "box"] (defScope smMeaningprice) mMeaningprice.body (defBody smMeaningprice) = true := by kernel_rfl
def ddmMeaningprice : He.DefD := ⟨("Meaning", some "price"), "price", "Meaning.price", defArgs smMeaningprice, defBody smMeaningprice, defScope smMeaningprice, [], []⟩
theorem damMeaningprice {K : PySem.W.Frag} {f : Addr} {fd : FuncData} (F : FunD K "price" "Meaning.price" (defArgs smMeaningprice) (defBody smMeaningprice) (defScope smMeaningprice) [] [] f fd) : DefAt K (cI K) mMeaningprice f fd ["self"] :=
  ⟨_, _, _, _, _, F, scmMeaningprice, scmMeaningprice.nd, rfl, rfl, by decide, okmMeaningprice K, F.bindsN fun _ _ _ _ _ _ us hl => match us, hl with | [_], _ => rfl⟩
abbrev smMeaningpairs : Stmt := inClass (top 19) 8
theorem scmMeaningpairs : FnScope ["self", "other", "mine", "theirs", "box"] ["self", "other"] (defScope smMeaningpairs) := ⟨rfl, rfl, rfl, by decide +kernel, rfl, by decide +kernel, by decide +kernel⟩
theorem okmMeaningpairs (K : PySem.W.Frag) : okSs (cI K) ["self", "other", "mine", "theirs", "box"] (defScope smMeaningpairs) mMeaningpairs.body (defBody smMeaningpairs) = true := by kernel_rfl
def ddmMeaningpairs : He.DefD := ⟨("Meaning", some "pairs"), "pairs", "Meaning.pairs", defArgs smMeaningpairs, defBody smMeaningpairs, defScope smMeaningpairs, [], []⟩
theorem damMeaningpairs {K : PySem.W.Frag} {f : Addr} {fd : FuncData} (F : FunD K "pairs" "Meaning.pairs" (defArgs smMeaningpairs) (defBody smMeaningpairs) (defScope smMeaningpairs) [] [] f fd) : DefAt K (cI K) mMeaningpairs f fd ["self", "other"] :=
  ⟨_, _, _, _, _, F, scmMeaningpairs, scmMeaningpairs.nd, rfl, rfl, by decide, okmMeaningpairs K, F.bindsN fun _ _ _ _ _ _ us hl => match us, hl with | [_, _], _ => rfl⟩
abbrev smMeaning_xor_ : Stmt := inClass (top 19) 9
theorem scmMeaning_xor_ : FnScope ["self", "other", "box", "one", "two"] ["self", "other"] (defScope smMeaning_xor_) := ⟨rfl, rfl, rfl, by decide +kernel, rfl, by decide +kernel, by decide +kernel⟩
theorem okmMeaning_xor_ (K : PySem.W.Frag) : okSs (cI K) ["self", "other", "box", "one", "two"] (defScope smMeaning_xor_) mMeaning_xor_.body (defBody smMeaning_xor_) = true := by kernel_rfl
def ddmMeaning_xor_ : He.DefD := ⟨("Meaning", some "__xor__"), "__xor__", "Meaning.__xor__", defArgs smMeaning_xor_, defBody smMeaning_xor_, defScope smMeaning_xor_, [], []⟩
theorem damMeaning_xor_ {K : PySem.W.Frag} {f : Addr} {fd : FuncData} (F : FunD K "__xor__" "Meaning.__xor__" (defArgs smMeaning_xor_) (defBody smMeaning_xor_) (defScope smMeaning_xor_) [] [] f fd) : DefAt K (cI K) mMeaning_xor_ f fd ["self", "other"] :=
  ⟨_, _, _, _, _, F, scmMeaning_xor_, scmMeaning_xor_.nd, rfl, rfl, by decide, okmMeaning_xor_ K, F.bindsN fun _ _ _ _ _ _ us hl => match us, hl with | [_, _], _ => rfl⟩
abbrev smMeaning_and_ : Stmt := inClass (top 19) 10
theorem scmMeaning_and_ : FnScope ["self", "other", "box", "one", "two"] ["self", "other"] (defScope smMeaning_and_) := ⟨rfl, rfl, rfl, by decide +kernel, rfl, by decide +kernel, by decide +kernel⟩
theorem okmMeaning_and_ (K : PySem.W.Frag) : okSs (cI K) ["self", "other", "box", "one", "two"] (defScope smMeaning_and_) mMeaning_and_.body (defBody smMeaning_and_) = true := by kernel_rfl
def ddmMeaning_and_ : He.DefD := ⟨("Meaning", some "__and__"), "__and__", "Meaning.__and__", defArgs smMeaning_and_, defBody smMeaning_and_, defScope smMeaning_and_, [], []⟩
theorem damMeaning_and_ {K : PySem.W.Frag} {f : Addr} {fd : FuncData} (F : FunD K "__and__" "Meaning.__and__" (defArgs smMeaning_and_) (defBody smMeaning_and_) (defScope smMeaning_and_) [] [] f fd) : DefAt K (cI K) mMeaning_and_ f fd ["self", "other"] :=
  ⟨_, _, _, _, _, F, scmMeaning_and_, scmMeaning_and_.nd, rfl, rfl, by decide, okmMeaning_and_ K, F.bindsN fun _ _ _ _ _ _ us hl => match us, hl with | [_, _], _ => rfl⟩
abbrev smMeaning_or_ : Stmt := inClass (top 19) 11
theorem scmMeaning_or_ : FnScope ["self", "other", "box", "one", "two"] ["self", "other"] (defScope smMeaning_or_) := ⟨rfl, rfl, rfl, by decide +kernel, rfl, by decide +kernel, by decide +kernel⟩
theorem okmMeaning_or_ (K : PySem.W.Frag) : okSs (cI K) ["self", "other", "box", "one", "two"] (defScope smMeaning_or_) mMeaning_or_.body (defBody smMeaning_or_) = true := by kernel_rfl
def ddmMeaning_or_ : He.DefD := ⟨("Meaning", some "__or__"), "__or__", "Meaning.__or__", defArgs smMeaning_or_, defBody smMeaning_or_, defScope smMeaning_or_, [], []⟩
theorem damMeaning_or_ {K : PySem.W.Frag} {f : Addr} {fd : FuncData} (F : FunD K "__or__" "Meaning.__or__" (defArgs smMeaning_or_) (defBody smMeaning_or_) (defScope smMeaning_or_) [] [] f fd) : DefAt K (cI K) mMeaning_or_ f fd ["self", "other"] :=
  ⟨_, _, _, _, _, F, scmMeaning_or_, scmMeaning_or_.nd, rfl, rfl, by decide, okmMeaning_or_ K, F.bindsN fun _ _ _ _ _ _ us hl => match us, hl with | [_, _], _ => rfl⟩
abbrev smMeaning_sub_ : Stmt := inClass (top 19) 12
theorem scmMeaning_sub_ : FnScope ["self", "other", "box", "one", "two"] ["self", "other"] (defScope smMeaning_sub_) := ⟨rfl, rfl, rfl, by decide +kernel, rfl, by decide +kernel, by decide +kernel⟩
theorem okmMeaning_sub_ (K : PySem.W.Frag) : okSs (cI K) ["self", "other", "box", "one", "two"] (defScope smMeaning_sub_) mMeaning_sub_.body (defBody smMeaning_sub_) = true := by kernel_rfl
def ddmMeaning_sub_ : He.DefD := ⟨("Meaning", some "__sub__"), "__sub__", "Meaning.__sub__", defArgs smMeaning_sub_, defBody smMeaning_sub_, defScope smMeaning_sub_, [], []⟩
theorem damMeaning_sub_ {K : PySem.W.Frag} {f : Addr} {fd : FuncData} (F : FunD K "__sub__" "Meaning.__sub__" (defArgs smMeaning_sub_) (defBody smMeaning_sub_) (defScope smMeaning_sub_) [] [] f fd) : DefAt K (cI K) mMeaning_sub_ f fd ["self", "other"] :=
  ⟨_, _, _, _, _, F, scmMeaning_sub_, scmMeaning_sub_.nd, rfl, rfl, by decide, okmMeaning_sub_ K, F.bindsN fun _ _ _ _ _ _ us hl => match us, hl with | [_, _], _ => rfl⟩
abbrev smMeaning_invert_ : Stmt := inClass (top 19) 13
theorem scmMeaning_invert_ : FnScope ["self"] ["self"] (defScope smMeaning_invert_) := ⟨rfl, rfl, rfl, by decide +kernel, rfl, by decide +kernel, by decide +kernel⟩
theorem okmMeaning_invert_ (K : PySem.W.Frag) : okSs (cI K) ["self"] (defScope smMeaning_invert_) mMeaning_invert_.body (defBody smMeaning_invert_) = true := by kernel_rfl
def ddmMeaning_invert_ : He.DefD := ⟨("Meaning", some "__invert__"), "__invert__", "Meaning.__invert__", defArgs smMeaning_invert_, defBody smMeaning_invert_, defScope smMeaning_invert_, [], []⟩
theorem damMeaning_invert_ {K : PySem.W.Frag} {f : Addr} {fd : FuncData} (F : FunD K "__invert__" "Meaning.__invert__" (defArgs smMeaning_invert_) (defBody smMeaning_invert_) (defScope smMeaning_invert_) [] [] f fd) : DefAt K (cI K) mMeaning_invert_ f fd ["self"] :=
  ⟨_, _, _, _, _, F, scmMeaning_invert_, scmMeaning_invert_.nd, rfl, rfl, by decide, okmMeaning_invert_ K, F.bindsN fun _ _ _ _ _ _ us hl => match us, hl with | [_], _ => rfl⟩
abbrev smMeaning_iter_ : Stmt := inClass (top 19) 3
theorem scmMeaning_iter_ : FnScope ["self"] ["self"] (defScope smMeaning_iter_) := ⟨rfl, rfl, rfl, by decide +kernel, rfl, by decide +kernel, by decide +kernel⟩
def ddmMeaning_iter_ : He.DefD := ⟨("Meaning", some "__iter__"), "__iter__", "Meaning.__iter__", defArgs smMeaning_iter_, defBody smMeaning_iter_, defScope smMeaning_iter_, [], []⟩
theorem itmMeaning_iter_ {P : Program} {w : World} {K : PySem.W.Frag} {mg : Str → Option Value} {base h : Heap} (X : K.In h) (G : h.Ns mainGlobals mg) (c : lookB K = true) {fd : FuncData} (F : FunD K "__iter__" "Meaning.__iter__" (defArgs smMeaning_iter_) (defBody smMeaning_iter_) (defScope smMeaning_iter_) [] [] (fAd K ("Meaning", some "__iter__")) fd) : ∃ fi, ItrC K (ga K (strAt Nm.cn 1)) fi ∧ IterOk P w K mg base (L2.CX P w) 1 fi (ga K (strAt Nm.cn 1)) (strAt Nm.an 7) (fun _ _ _ => False) :=
  have c := lookB_ok c
  ⟨_, itr_c (meth_ok c.2.2.1), itr_by F scmMeaning_iter_ (F.bindsN fun _ _ _ _ _ _ us hl => match us, hl with | [_], _ => rfl) (by rfl) (clsOf c.1 (by decide)) (noOf c.1 (List.mem_of_getElem? (i := 1) rfl) (by decide)) (by kernel_rfl) (free_ok X G c.2.1) (by decide +kernel) (by decide +kernel)⟩
theorem bdmMeaning_init__1 {K : PySem.W.Frag} (c : lookB K = true) {f : Addr} {fd : FuncData} (F : FunD K "__init__" "Meaning.__init__" (defArgs smMeaning_init_) (defBody smMeaning_init_) (defScope smMeaning_init_) (ddmMeaning_init_.dvs K) [] f fd) : BindsD K (cI K) fd ["self", "tree", "default", "turns"] [.rot []] :=
  have c := lookB_ok c
  binds_left (F.binds1 (ps := ["self", "tree", "default", "turns"]) 3 0 (List.cons_ne_nil _ _) rfl fun T kV doc pm an cdv ct us its h1 h2 => match us, its, h1, h2 with | [_, _, _], [_], _, _ => ⟨_, rfl, rfl⟩) (fun G => ⟨_, _, rfl, rot0 c.2.2.2.1, rfl⟩)
def dds : List He.DefD := [ddfis_name, ddfis_price, ddfis_among, ddfis_row, ddfsame_tree, ddfcheck_alike, ddfof_values, ddf_law_stream, ddf_law_draw, ddf_law_pick, ddf_law_name, ddf_law_kinds, ddf_law_prices, ddf_law_rows, ddf_law_way, ddf_law_values, ddf_law_some, ddf_law_open, ddf_law_mix, ddf_law_newcomers_right, ddf_law_unlike, ddflaw_v4, ddmTree_init_, ddmTree_len_, ddmTree_contains_, ddmTree_eq_, ddmTreerows, ddmTreenames, ddmTreerow_of, ddmTreecheck, ddmTreefolder, ddmTreekind, ddmTreeprice, ddmTreebelow, ddmTreemore, ddmMeaning_init_, ddmMeaning_eq_, ddmMeaning_len_, ddmMeaning_contains_, ddmMeaningstates, ddmMeaningvalue, ddmMeaningprice, ddmMeaningpairs, ddmMeaning_xor_, ddmMeaning_and_, ddmMeaning_or_, ddmMeaning_sub_, ddmMeaning_invert_, ddmMeaning_iter_]
theorem nimTree_eq_ {K : PySem.W.Frag} {f : Addr} {fd : FuncData} (F : FunD K "__eq__" "Tree.__eq__" (defArgs smTree_eq_) (defBody smTree_eq_) (defScope smTree_eq_) [] [] f fd) : DefNI K (cI K) 0 f fd ["self", "other"] :=
  ⟨_, _, _, _, _, _, _, _, _, _, _, F, scmTree_eq_, scmTree_eq_.nd, rfl, by decide, rfl, by kernel_rfl, by decide +kernel, F.bindsN fun _ _ _ _ _ _ us hl => match us, hl with | [_, _], _ => rfl⟩
theorem nimMeaning_eq_ {K : PySem.W.Frag} {f : Addr} {fd : FuncData} (F : FunD K "__eq__" "Meaning.__eq__" (defArgs smMeaning_eq_) (defBody smMeaning_eq_) (defScope smMeaning_eq_) [] [] f fd) : DefNI K (cI K) 1 f fd ["self", "other"] :=
  ⟨_, _, _, _, _, _, _, _, _, _, _, F, scmMeaning_eq_, scmMeaning_eq_.nd, rfl, by decide, rfl, by kernel_rfl, by decide +kernel, F.bindsN fun _ _ _ _ _ _ us hl => match us, hl with | [_, _], _ => rfl⟩
abbrev depth : Nat := 16
theorem stat {P : Program} {w : World} {K : PySem.W.Frag} {mg : Str → Option Value} {base h : Heap} (X : K.In h) (G : h.Ns mainGlobals mg) (c : SaysB lookB dds K) : Stat P w K mg base (cI K) TL.tab := by
  have cl := (lookB_ok c.look).1
  obtain ⟨fd0, F0⟩ := c.def_ 0 (d := ddfis_name) rfl
  obtain ⟨fd1, F1⟩ := c.def_ 1 (d := ddfis_price) rfl
  obtain ⟨fd2, F2⟩ := c.def_ 2 (d := ddfis_among) rfl
  obtain ⟨fd3, F3⟩ := c.def_ 3 (d := ddfis_row) rfl
  obtain ⟨fd4, F4⟩ := c.def_ 4 (d := ddfsame_tree) rfl
  obtain ⟨fd5, F5⟩ := c.def_ 5 (d := ddfcheck_alike) rfl
  obtain ⟨fd6, F6⟩ := c.def_ 6 (d := ddfof_values) rfl
  obtain ⟨fd7, F7⟩ := c.def_ 7 (d := ddf_law_stream) rfl
  obtain ⟨fd8, F8⟩ := c.def_ 8 (d := ddf_law_draw) rfl
  obtain ⟨fd9, F9⟩ := c.def_ 9 (d := ddf_law_pick) rfl
  obtain ⟨fd10, F10⟩ := c.def_ 10 (d := ddf_law_name) rfl
  obtain ⟨fd11, F11⟩ := c.def_ 11 (d := ddf_law_kinds) rfl
  obtain ⟨fd12, F12⟩ := c.def_ 12 (d := ddf_law_prices) rfl
  obtain ⟨fd13, F13⟩ := c.def_ 13 (d := ddf_law_rows) rfl
  obtain ⟨fd14, F14⟩ := c.def_ 14 (d := ddf_law_way) rfl
  obtain ⟨fd15, F15⟩ := c.def_ 15 (d := ddf_law_values) rfl
  obtain ⟨fd16, F16⟩ := c.def_ 16 (d := ddf_law_some) rfl
  obtain ⟨fd17, F17⟩ := c.def_ 17 (d := ddf_law_open) rfl
  obtain ⟨fd18, F18⟩ := c.def_ 18 (d := ddf_law_mix) rfl
  obtain ⟨fd19, F19⟩ := c.def_ 19 (d := ddf_law_newcomers_right) rfl
  obtain ⟨fd20, F20⟩ := c.def_ 20 (d := ddf_law_unlike) rfl
  obtain ⟨fd21, F21⟩ := c.def_ 21 (d := ddflaw_v4) rfl
  obtain ⟨fd22, F22⟩ := c.def_ 22 (d := ddmTree_init_) rfl
  obtain ⟨fd23, F23⟩ := c.def_ 23 (d := ddmTree_len_) rfl
  obtain ⟨fd24, F24⟩ := c.def_ 24 (d := ddmTree_contains_) rfl
  obtain ⟨fd25, F25⟩ := c.def_ 25 (d := ddmTree_eq_) rfl
  obtain ⟨fd26, F26⟩ := c.def_ 26 (d := ddmTreerows) rfl
  obtain ⟨fd27, F27⟩ := c.def_ 27 (d := ddmTreenames) rfl
  obtain ⟨fd28, F28⟩ := c.def_ 28 (d := ddmTreerow_of) rfl
  obtain ⟨fd29, F29⟩ := c.def_ 29 (d := ddmTreecheck) rfl
  obtain ⟨fd30, F30⟩ := c.def_ 30 (d := ddmTreefolder) rfl
  obtain ⟨fd31, F31⟩ := c.def_ 31 (d := ddmTreekind) rfl
  obtain ⟨fd32, F32⟩ := c.def_ 32 (d := ddmTreeprice) rfl
  obtain ⟨fd33, F33⟩ := c.def_ 33 (d := ddmTreebelow) rfl
  obtain ⟨fd34, F34⟩ := c.def_ 34 (d := ddmTreemore) rfl
  obtain ⟨fd35, F35⟩ := c.def_ 35 (d := ddmMeaning_init_) rfl
  obtain ⟨fd36, F36⟩ := c.def_ 36 (d := ddmMeaning_eq_) rfl
  obtain ⟨fd37, F37⟩ := c.def_ 37 (d := ddmMeaning_len_) rfl
  obtain ⟨fd38, F38⟩ := c.def_ 38 (d := ddmMeaning_contains_) rfl
  obtain ⟨fd39, F39⟩ := c.def_ 39 (d := ddmMeaningstates) rfl
  obtain ⟨fd40, F40⟩ := c.def_ 40 (d := ddmMeaningvalue) rfl
  obtain ⟨fd41, F41⟩ := c.def_ 41 (d := ddmMeaningprice) rfl
  obtain ⟨fd42, F42⟩ := c.def_ 42 (d := ddmMeaningpairs) rfl
  obtain ⟨fd43, F43⟩ := c.def_ 43 (d := ddmMeaning_xor_) rfl
  obtain ⟨fd44, F44⟩ := c.def_ 44 (d := ddmMeaning_and_) rfl
  obtain ⟨fd45, F45⟩ := c.def_ 45 (d := ddmMeaning_or_) rfl
  obtain ⟨fd46, F46⟩ := c.def_ 46 (d := ddmMeaning_sub_) rfl
  obtain ⟨fd47, F47⟩ := c.def_ 47 (d := ddmMeaning_invert_) rfl
  obtain ⟨fd48, F48⟩ := c.def_ 48 (d := ddmMeaning_iter_) rfl
  exact stat_by X G cl (by decide +kernel)
    (.cons (⟨_, _, dafis_name F0, show ∀ q ∈ ([] : List (Nat × List D)), _ from fun _ z => nomatch z⟩)
      (.cons (⟨_, _, dafis_price F1, show ∀ q ∈ ([] : List (Nat × List D)), _ from fun _ z => nomatch z⟩)
      (.cons (⟨_, _, dafis_among F2, show ∀ q ∈ ([] : List (Nat × List D)), _ from fun _ z => nomatch z⟩)
      (.cons (⟨_, _, dafis_row F3, show ∀ q ∈ ([] : List (Nat × List D)), _ from fun _ z => nomatch z⟩)
      (.cons (⟨_, _, dafsame_tree F4, show ∀ q ∈ ([] : List (Nat × List D)), _ from fun _ z => nomatch z⟩)
      (.cons (⟨_, _, dafcheck_alike F5, show ∀ q ∈ ([] : List (Nat × List D)), _ from fun _ z => nomatch z⟩)
      (.cons (⟨_, _, dafof_values F6, show ∀ q ∈ ([] : List (Nat × List D)), _ from fun _ z => nomatch z⟩)
      (.cons (⟨_, _, daf_law_stream F7, show ∀ q ∈ ([] : List (Nat × List D)), _ from fun _ z => nomatch z⟩)
      (.cons (⟨_, _, daf_law_draw F8, show ∀ q ∈ ([] : List (Nat × List D)), _ from fun _ z => nomatch z⟩)
      (.cons (⟨_, _, daf_law_pick F9, show ∀ q ∈ ([] : List (Nat × List D)), _ from fun _ z => nomatch z⟩)
      (.cons (⟨_, _, daf_law_name F10, show ∀ q ∈ ([] : List (Nat × List D)), _ from fun _ z => nomatch z⟩)
      (.cons (⟨_, _, daf_law_kinds F11, show ∀ q ∈ ([] : List (Nat × List D)), _ from fun _ z => nomatch z⟩)
      (.cons (⟨_, _, daf_law_prices F12, show ∀ q ∈ ([] : List (Nat × List D)), _ from fun _ z => nomatch z⟩)
      (.cons (⟨_, _, daf_law_rows F13, show ∀ q ∈ ([] : List (Nat × List D)), _ from fun _ z => nomatch z⟩)
      (.cons (⟨_, _, daf_law_way F14, show ∀ q ∈ ([] : List (Nat × List D)), _ from fun _ z => nomatch z⟩)
      (.cons (⟨_, _, daf_law_values F15, show ∀ q ∈ ([] : List (Nat × List D)), _ from fun _ z => nomatch z⟩)
      (.cons (⟨_, _, daf_law_some F16, show ∀ q ∈ ([] : List (Nat × List D)), _ from fun _ z => nomatch z⟩)
      (.cons (⟨_, _, daf_law_open F17, show ∀ q ∈ ([] : List (Nat × List D)), _ from fun _ z => nomatch z⟩)
      (.cons (⟨_, _, daf_law_mix F18, show ∀ q ∈ ([] : List (Nat × List D)), _ from fun _ z => nomatch z⟩)
      (.cons (⟨_, _, daf_law_newcomers_right F19, show ∀ q ∈ ([] : List (Nat × List D)), _ from fun _ z => nomatch z⟩)
      (.cons (⟨_, _, daf_law_unlike F20, show ∀ q ∈ ([] : List (Nat × List D)), _ from fun _ z => nomatch z⟩)
      (.cons (⟨_, _, daflaw_v4 F21, show ∀ q ∈ ([] : List (Nat × List D)), _ from fun _ z => nomatch z⟩)
      (.nil)))))))))))))))))))))))
    (.cons (⟨_, _, damTree_init_ F22, fun _ => (show AllIn (fun q : Nat × List D => q.1 = 0 → BindsD K (cI K) _ _ q.2) tDk from .cons (fun e => absurd e (by decide)) (.nil)).mem⟩)
      (.cons (⟨_, _, damTree_eq_ F25, fun z => absurd z (by decide)⟩)
      (.cons (⟨_, _, damTree_contains_ F24, fun z => absurd z (by decide)⟩)
      (.cons (⟨_, _, damTree_len_ F23, fun z => absurd z (by decide)⟩)
      (.cons (⟨_, _, damTreerows F26, fun z => absurd z (by decide)⟩)
      (.cons (⟨_, _, damTreenames F27, fun z => absurd z (by decide)⟩)
      (.cons (⟨_, _, damTreerow_of F28, fun z => absurd z (by decide)⟩)
      (.cons (⟨_, _, damTreecheck F29, fun z => absurd z (by decide)⟩)
      (.cons (⟨_, _, damTreefolder F30, fun z => absurd z (by decide)⟩)
      (.cons (⟨_, _, damTreekind F31, fun z => absurd z (by decide)⟩)
      (.cons (⟨_, _, damTreeprice F32, fun z => absurd z (by decide)⟩)
      (.cons (⟨_, _, damTreebelow F33, fun z => absurd z (by decide)⟩)
      (.cons (⟨_, _, damTreemore F34, fun z => absurd z (by decide)⟩)
      (.cons (⟨_, _, damMeaning_init_ F35, fun _ => (show AllIn (fun q : Nat × List D => q.1 = 1 → BindsD K (cI K) _ _ q.2) tDk from .cons (fun _ => bdmMeaning_init__1 c.look F35) (.nil)).mem⟩)
      (.cons (⟨_, _, damMeaning_eq_ F36, fun z => absurd z (by decide)⟩)
      (.cons (⟨_, _, damMeaning_contains_ F38, fun z => absurd z (by decide)⟩)
      (.cons (⟨_, _, damMeaning_len_ F37, fun z => absurd z (by decide)⟩)
      (.cons (⟨_, _, damMeaning_xor_ F43, fun z => absurd z (by decide)⟩)
      (.cons (⟨_, _, damMeaning_and_ F44, fun z => absurd z (by decide)⟩)
      (.cons (⟨_, _, damMeaning_or_ F45, fun z => absurd z (by decide)⟩)
      (.cons (⟨_, _, damMeaning_sub_ F46, fun z => absurd z (by decide)⟩)
      (.cons (⟨_, _, damMeaning_invert_ F47, fun z => absurd z (by decide)⟩)
      (.cons (⟨_, _, damMeaningprice F41, fun z => absurd z (by decide)⟩)
      (.cons (⟨_, _, damMeaningstates F39, fun z => absurd z (by decide)⟩)
      (.cons (⟨_, _, damMeaningvalue F40, fun z => absurd z (by decide)⟩)
      (.cons (⟨_, _, damMeaningpairs F42, fun z => absurd z (by decide)⟩)
      (.nil)))))))))))))))))))))))))))
    (by decide +kernel) (by decide) (by decide)
    (.cons (⟨by decide, ⟨_, _, nimTree_eq_ F25⟩, eqMeth cl (show (0, 1, mTree_eq_) ∈ TL.mt from List.mem_of_getElem? (i := 1) rfl)⟩)
      (.cons (⟨by decide, ⟨_, _, nimMeaning_eq_ F36⟩, eqMeth cl (show (1, 1, mMeaning_eq_) ∈ TL.mt from List.mem_of_getElem? (i := 14) rfl)⟩)
      (.nil)))
    rfl rfl rfl rfl rfl (.cons (.cons (fun z => absurd z (by decide)) (.cons (fun _ => itmMeaning_iter_ X G c.look F48) (.nil))) (.nil))
end K06
set_option maxRecDepth 100000
set_option maxHeartbeats 2000000
namespace EW
open PySem L2
class Kt (α β : Type) where
  f : α → Mu → Out β
def Out.bnd {α β : Type} (o : Out α) [k : Kt α β] : Out β := o.bind k.f
class Kf where
  f : Env → Mu → Fl
def Fl.thk (o : Fl) [k : Kf] : Fl := o.thn k.f
section
variable {α β : Type} {a : α} {μ : Mu} {z : Exc} {δ : Env}
theorem bind_eq {o : Out α} {f : α → Mu → Out β} : o.bind f = @Out.bnd α β o ⟨f⟩ := rfl
theorem bnd_ok {f : α → Mu → Out β} : @Out.bnd α β (.ok a μ) ⟨f⟩ = f a μ := rfl
theorem bnd_ex {f : α → Mu → Out β} : @Out.bnd α β (.ex z μ) ⟨f⟩ = .ex z μ := rfl
theorem bnd_no {f : α → Mu → Out β} : @Out.bnd α β .no ⟨f⟩ = .no := rfl
theorem Out.run_ok {f : Fl} : (Out.ok f μ).run δ = f := rfl
theorem Out.run_ex : (Out.ex z μ : Out Fl).run δ = .ex z δ μ := rfl
theorem Out.run_no : (Out.no : Out Fl).run δ = .no := rfl
theorem thn_eq {o : Fl} {f : Env → Mu → Fl} : o.thn f = @Fl.thk o ⟨f⟩ := rfl
theorem thk_nx {k : Env → Mu → Fl} : @Fl.thk (.nx δ μ) ⟨k⟩ = k δ μ := rfl
theorem thk_rt {k : Env → Mu → Fl} {r : Res} : @Fl.thk (.rt r μ) ⟨k⟩ = .rt r μ := rfl
theorem thk_bk {k : Env → Mu → Fl} : @Fl.thk (.bk δ μ) ⟨k⟩ = .bk δ μ := rfl
theorem thk_ct {k : Env → Mu → Fl} : @Fl.thk (.ct δ μ) ⟨k⟩ = .ct δ μ := rfl
theorem thk_ex {k : Env → Mu → Fl} : @Fl.thk (.ex z δ μ) ⟨k⟩ = .ex z δ μ := rfl
theorem thk_no {k : Env → Mu → Fl} : @Fl.thk .no ⟨k⟩ = .no := rfl
theorem arg_fz {d : D} : (Res.fz d).arg μ = (.fz d, μ) := rfl
theorem arg_cel {k : Nat} : (Res.cel k).arg μ = ((Val.cel k).nm μ, μ) := rfl
theorem arg_nw {o : O} : (Res.nw o).arg μ = match o.frozen with | some d => (.fz d, μ) | none => (.cel μ.length, μ ++ [o]) := rfl
theorem argO_ok {r : Res} : argO (.ok r μ) = .ok (r.arg μ).1 (r.arg μ).2 := rfl
theorem argO_ex : argO (.ex z μ) = .ex z μ := rfl
theorem argO_no : argO .no = .no := rfl
theorem nm_fz {d : D} : (Val.fz d).nm μ = .fz d := rfl
theorem nm_cel {k : Nat} : (Val.cel k).nm μ = match iceOf μ k with | some d => .fz d | none => .cel k := rfl
theorem rnm_fz {d : D} : (Res.fz d).nm μ = .fz d := rfl
theorem rnm_nw {o : O} : (Res.nw o).nm μ = .nw o := rfl
theorem rnm_cel {k : Nat} : (Res.cel k).nm μ = match iceOf μ k with | some d => .fz d | none => .cel k := rfl
theorem res_fz {d : D} : (Val.fz d).res = .fz d := rfl
theorem res_cel {k : Nat} : (Val.cel k).res = .cel k := rfl
theorem fr_fz {d : D} : (Res.fz d).fr = .fz d := rfl
theorem fr_cel {k : Nat} : (Res.cel k).fr = .cel k := rfl
theorem fr_nw {o : O} : (Res.nw o).fr = match o.frozen with | some d => .fz d | none => .nw o := rfl
theorem mkc_nw {o : O} : (Res.nw o).mkc μ = (.cel μ.length, μ ++ [o]) := rfl
theorem mkc_fz {d : D} : (Res.fz d).mkc μ = (.fz d, μ) := rfl
theorem mkc_cel {k : Nat} : (Res.cel k).mkc μ = (.cel k, μ) := rfl
theorem outO_some : outO (some a) μ = .ok a μ := rfl
theorem outO_none : outO (none : Option α) μ = .no := rfl
theorem ofO_some : Fl.ofO δ (some μ) = .nx δ μ := rfl
theorem ofO_none : Fl.ofO δ none = .no := rfl
def endF (n : Nat) : Fl → Out Res
  | .nx _ μ' => finR n (.fz .non) μ'
  | .rt r μ' => finR n r μ'
  | .ex z _ μ' => .ex z (tidyM n [] (nmM μ'))
  | _ => .no
theorem run_eq {F : Fx} {f : Fd} {as : List Val} : runF F f as μ = if as.length = f.np then endF μ.length (evSs F f.body (startE f.ns as) μ) else .no := by
  unfold runF endF
  split
  · cases evSs F f.body (startE f.ns as) μ <;> rfl
  · rfl
theorem endF_nx {n : Nat} : endF n (.nx δ μ) = finR n (.fz .non) μ := rfl
theorem endF_rt {n : Nat} {r : Res} : endF n (.rt r μ) = finR n r μ := rfl
theorem endF_ex {n : Nat} : endF n (.ex z δ μ) = .ex z (tidyM n [] (nmM μ)) := rfl
theorem endF_no {n : Nat} : endF n .no = .no := rfl
theorem pow_10_18 : intOp .Pow 10 18 = some 1000000000000000000 := by decide
theorem fzAll_mapf {f : α → D} : ∀ {xs : List α}, fzAll (xs.map fun x => Val.fz (f x)) = some (xs.map f)
  | [] => rfl
  | x :: xs => by rw [List.map_cons, fzAll, fzAll_mapf]; rfl
theorem fzAll_fz {ds : List D} : fzAll (ds.map Val.fz) = some ds := fzAll_map ds
theorem fzAll_append : ∀ {xs ys : List Val}, fzAll (xs ++ ys) = (fzAll xs).bind fun a => (fzAll ys).bind fun b => some (a ++ b)
  | [], ys => by cases h : fzAll ys <;> simp [fzAll, h]
  | .fz d :: xs, ys => by
    rw [List.cons_append, fzAll, fzAll, fzAll_append]
    cases fzAll xs <;> cases fzAll ys <;> rfl
  | .cel k :: xs, ys => rfl
theorem cellsOf_mapf {f : α → D} : ∀ {xs : List α}, cellsOf (xs.map fun x => Val.fz (f x)) = []
  | [] => rfl
  | x :: xs => by rw [List.map_cons, cellsOf, cellsOf_mapf]
theorem cellsOf_fz : ∀ {ds : List D}, cellsOf (ds.map Val.fz) = []
  | [] => rfl
  | x :: xs => by rw [List.map_cons, cellsOf, cellsOf_fz]
theorem cellsOf_append : ∀ {xs ys : List Val}, cellsOf (xs ++ ys) = cellsOf xs ++ cellsOf ys
  | [], ys => rfl
  | .fz d :: xs, ys => by rw [List.cons_append, cellsOf, cellsOf, cellsOf_append]
  | .cel k :: xs, ys => by rw [List.cons_append, cellsOf, cellsOf, cellsOf_append, List.cons_append]
theorem nm_mapf {f : α → D} {xs : List α} : (xs.map fun x => Val.fz (f x)).map (Val.nm μ) = xs.map fun x => Val.fz (f x) := by
  rw [List.map_map]; rfl
theorem cast_lit {n : Nat} : ((no_index (OfNat.ofNat n) : Nat) : Int) = OfNat.ofNat n := rfl
theorem ixN_nat {n j : Nat} (h : j < n) : ixN n (j : Int) = some j := by
  unfold ixN
  rw [if_pos (by omega), if_pos (by omega), Int.toNat_natCast]
theorem atI_nat {xs : List α} {j : Nat} (h : j < xs.length) : atI xs (j : Int) = xs[j]? := by
  unfold atI
  rw [ixN_nat h]; rfl
theorem atI_mem {xs : List α} {i : Int} (h0 : 0 ≤ i) (h1 : i < xs.length) : ∃ x ∈ xs, atI xs i = some x := by
  obtain ⟨j, rfl⟩ := Int.eq_ofNat_of_zero_le h0
  have hj : j < xs.length := by omega
  exact ⟨xs[j], List.getElem_mem hj, by rw [atI_nat hj, List.getElem?_eq_getElem hj]⟩
theorem cut_map {f : α → β} {xs : List α} {lo hi : Option Int} : cutD (xs.map f) lo hi = (cutD xs lo hi).map f := by
  unfold cutD
  rw [List.length_map, List.map_take, List.map_drop]
theorem atI_0 {x : α} {xs : List α} : atI (x :: xs) 0 = some x := atI_nat (j := 0) (by simp)
theorem atI_1 {x y : α} {xs : List α} : atI (x :: y :: xs) 1 = some y := atI_nat (j := 1) (by simp)
theorem atI_2 {x y z : α} {xs : List α} : atI (x :: y :: z :: xs) 2 = some z := atI_nat (j := 2) (by simp)
theorem atI_3 {x y z u : α} {xs : List α} : atI (x :: y :: z :: u :: xs) 3 = some u := atI_nat (j := 3) (by simp)
theorem ixN_0 {k : Nat} : ixN (k + 1) 0 = some 0 := ixN_nat (j := 0) (by omega)
theorem ixN_1 {k : Nat} : ixN (k + 2) 1 = some 1 := ixN_nat (j := 1) (by omega)
theorem ixN_2 {k : Nat} : ixN (k + 3) 2 = some 2 := ixN_nat (j := 2) (by omega)
theorem ixN_3 {k : Nat} : ixN (k + 4) 3 = some 3 := ixN_nat (j := 3) (by omega)
theorem mulB_l {i j : Int} (h1 : -(2 ^ 64 : Int) < i) (h2 : i < 2 ^ 64) : mulB i j = true := by simp only [mulB, h1, h2, decide_true, Bool.and_self, Bool.true_or]
theorem mulB_r {i j : Int} (h1 : -(2 ^ 64 : Int) < j) (h2 : j < 2 ^ 64) : mulB i j = true := by simp only [mulB, h1, h2, decide_true, Bool.and_self, Bool.or_true]
theorem op_add_ {i j : Int} : intOp .Add i j = some (i + j) := rfl
theorem op_sub_ {i j : Int} : intOp .Sub i j = some (i - j) := rfl
theorem op_mul_ {i j : Int} (h : mulB i j = true) : intOp .Mult i j = some (i * j) := by simp only [intOp, h, if_true]
theorem op_mod_ {i j : Int} (h : 0 < j) : intOp .Mod i j = some (i % j) := by simp only [intOp, h, if_true]
theorem op_div_ {i j : Int} (h : 0 < j) (h2 : j < 1073741824) : intOp .FloorDiv i j = some (i / j) := by simp only [intOp, h, h2, and_self, if_true]
theorem op_pow_ {i j : Int} (h : 0 ≤ j) (h2 : j ≤ 1000000) (h3 : i.natAbs < 2 ^ 64) : intOp .Pow i j = some (i ^ j.toNat) := by simp only [intOp, h, h2, h3, and_self, if_true]
end
end EW
set_option maxRecDepth 100000
set_option maxHeartbeats 2000000
namespace EW
open PySem L2
class Kc where
  g : Env → Mu → Out (Option Val)
class Kd where
  g : Env → Mu → Out (Option (Key × Val))
class Ks where
  g : Env → Mu → Fl
class Kt2 where
  g : Env → Mu → Out Bool
/-- loops whose bodies are not looked into -/
def lcK (T : Tg) (δw : Env) (c : Ck) [k : Kc] (its : List Item) (acc : List Val) (μ : Mu) : Out Res := lcLoop T δw c k.g its acc μ
def loopK (T : Tg) (wp : List Nat) (c : Ck) (n : Nat) [k : Ks] (its : List Item) (δ : Env) (μ : Mu) : Fl := loop T wp c n k.g its δ μ
def wloopK (wp : List Nat) (n : Nat) [t : Kt2] [k : Ks] (m : Nat) (δ : Env) (μ : Mu) : Fl := wloop wp n t.g k.g m δ μ
theorem lc_eq {T : Tg} {δw : Env} {c : Ck} {g : Env → Mu → Out (Option Val)} {its : List Item} {acc : List Val} {μ : Mu} : lcLoop T δw c g its acc μ = @lcK T δw c ⟨g⟩ its acc μ := rfl
def dcK (T : Tg) (δw : Env) (c : Ck) [k : Kd] (its : List Item) (ks : List Key) (ws : List Val) (μ : Mu) : Out Res := dcLoop T δw c k.g its ks ws μ
theorem dc_eq {T : Tg} {δw : Env} {c : Ck} {g : Env → Mu → Out (Option (Key × Val))} {its : List Item} {ks : List Key} {ws : List Val} {μ : Mu} : dcLoop T δw c g its ks ws μ = @dcK T δw c ⟨g⟩ its ks ws μ := rfl
theorem loop_eq {T : Tg} {wp : List Nat} {c : Ck} {n : Nat} {g : Env → Mu → Fl} {its : List Item} {δ : Env} {μ : Mu} : loop T wp c n g its δ μ = @loopK T wp c n ⟨g⟩ its δ μ := rfl
theorem wloop_eq {wp : List Nat} {n : Nat} {t : Env → Mu → Out Bool} {g : Env → Mu → Fl} {m : Nat} {δ : Env} {μ : Mu} : wloop wp n t g m δ μ = @wloopK wp n ⟨t⟩ ⟨g⟩ m δ μ := rfl
/-- it ends well, and then so -/
class Kp (α : Type) where
  P : α → Mu → Prop
def Got {α : Type} (o : Out α) [k : Kp α] : Prop := ∃ a μ, o = .ok a μ ∧ k.P a μ
def Nxt (f : Fl) [k : Kp Env] : Prop := ∃ δ μ, f = .nx δ μ ∧ k.P δ μ
theorem Got.mk {α : Type} {a : α} {μ : Mu} {P : α → Mu → Prop} (h : P a μ) : @Got α (.ok a μ) ⟨P⟩ := ⟨a, μ, rfl, h⟩
theorem Nxt.mk {δ : Env} {μ : Mu} {P : Env → Mu → Prop} (h : P δ μ) : @Nxt (.nx δ μ) ⟨P⟩ := ⟨δ, μ, rfl, h⟩
section
variable {T : Tg} {δw : Env} {c : Ck} {g : Env → Mu → Out (Option Val)} {μ : Mu} {acc : List Val}
def addO (acc : List Val) : Option Val → List Val
  | some w => acc ++ [w]
  | none => acc
theorem lc_from (J : Nat → List Val → Mu → Prop) (its : List Item) (hc : ∀ i acc μ, J i acc μ → chk c μ = true)
    (hs : ∀ i d acc μ, its[i]? = some d → J i acc μ → ∃ δ' w μ', bindI μ T d δw = some δ' ∧ g δ' μ = .ok w μ' ∧ J (i + 1) (addO acc w) μ') :
    ∀ (rest : List Item) (j : Nat) (acc : List Val) (μ : Mu), its.drop j = rest → j ≤ its.length → J j acc μ → ∃ acc' μ', lcLoop T δw c g rest acc μ = .ok (.nw (.lst acc')) μ' ∧ J its.length acc' μ'
  | [], j, acc, μ, e, hj, h => by
    have : j = its.length := by have := List.drop_eq_nil_iff.mp e; omega
    subst this
    refine ⟨acc, μ, ?_, h⟩
    rw [lcLoop, if_pos (hc _ _ _ h)]
  | d :: r, j, acc, μ, e, hj, h => by
    have hd : its[j]? = some d := by have := congrArg (·[0]?) e; simpa using this
    have hr : its.drop (j + 1) = r := by have := congrArg (List.drop 1) e; simpa [List.drop_drop, Nat.add_comm] using this
    have hlt : j < its.length := (List.getElem?_eq_some_iff.mp hd).1
    obtain ⟨δ', w, μ', h1, h2, h3⟩ := hs j d acc μ hd h
    obtain ⟨acc', μ'', h4, h5⟩ := lc_from J its hc hs r (j + 1) _ μ' hr hlt h3
    refine ⟨acc', μ'', ?_, h5⟩
    rw [lcLoop, if_pos (hc _ _ _ h), h1]
    dsimp only
    rw [h2]
    cases w with
    | none => exact h4
    | some w => exact h4
theorem lc_inv (J : Nat → List Val → Mu → Prop) (its : List Item) (h0 : J 0 acc μ) (hc : ∀ i acc μ, J i acc μ → chk c μ = true)
    (hs : ∀ i d acc μ, its[i]? = some d → J i acc μ → ∃ δ' w μ', bindI μ T d δw = some δ' ∧ g δ' μ = .ok w μ' ∧ J (i + 1) (addO acc w) μ') :
    ∃ acc' μ', lcLoop T δw c g its acc μ = .ok (.nw (.lst acc')) μ' ∧ J its.length acc' μ' := lc_from J its hc hs its 0 acc μ rfl (Nat.zero_le _) h0
theorem lc_inv' {o : Out Res} {its : List Item} (hE : @lcK T δw c ⟨g⟩ its acc μ = o) (J : Nat → List Val → Mu → Prop) (h0 : J 0 acc μ) (hc : ∀ i acc μ, J i acc μ → chk c μ = true)
    (hs : ∀ i d acc μ, its[i]? = some d → J i acc μ → ∃ δ', bindI μ T d δw = some δ' ∧ @Got _ (g δ' μ) ⟨fun w μ' => J (i + 1) (addO acc w) μ'⟩) :
    ∃ acc' μ', o = .ok (.nw (.lst acc')) μ' ∧ J its.length acc' μ' := by
  rw [← hE]
  exact lc_inv (g := g) J its h0 hc fun i d acc μ h1 h2 => let ⟨δ', a, w, μ', b, e⟩ := hs i d acc μ h1 h2; ⟨δ', w, μ', a, b, e⟩
theorem lc_map {α : Type} {xs : List α} {e : α → Item} {f : α → Val} (hc : chk c μ = true) : ∀ {acc : List Val}, (∀ x ∈ xs, ∃ δ', bindI μ T (e x) δw = some δ' ∧ g δ' μ = .ok (some (f x)) μ) → @lcK T δw c ⟨g⟩ (xs.map e) acc μ = .ok (.nw (.lst (acc ++ xs.map f))) μ := by
  unfold lcK
  dsimp only
  induction xs with
  | nil => intro acc _; rw [List.map_nil, lcLoop, if_pos hc, List.map_nil, List.append_nil]
  | cons x xs ih =>
    intro acc h
    obtain ⟨δ', h1, h2⟩ := h x List.mem_cons_self
    rw [List.map_cons, lcLoop, if_pos hc, h1]
    dsimp only
    rw [h2]
    dsimp only
    rw [ih fun y hy => h y (List.mem_cons_of_mem _ hy), List.map_cons, List.append_assoc]
    rfl
theorem lc_filter {α : Type} {xs : List α} {e : α → Item} {p : α → Bool} {f : α → Val} (hc : chk c μ = true) : ∀ {acc : List Val}, (∀ x ∈ xs, ∃ δ', bindI μ T (e x) δw = some δ' ∧ g δ' μ = .ok (if p x then some (f x) else none) μ) → @lcK T δw c ⟨g⟩ (xs.map e) acc μ = .ok (.nw (.lst (acc ++ (xs.filter p).map f))) μ := by
  unfold lcK
  dsimp only
  induction xs with
  | nil => intro acc _; rw [List.map_nil, lcLoop, if_pos hc, List.filter_nil, List.map_nil, List.append_nil]
  | cons x xs ih =>
    intro acc h
    obtain ⟨δ', h1, h2⟩ := h x List.mem_cons_self
    rw [List.map_cons, lcLoop, if_pos hc, h1]
    dsimp only
    rw [h2]
    cases hp : p x with
    | true =>
      simp only [if_true]
      rw [ih fun y hy => h y (List.mem_cons_of_mem _ hy), List.filter_cons_of_pos hp, List.map_cons, List.append_assoc]
      rfl
    | false =>
      simp only [if_false, Bool.false_eq_true]
      rw [ih fun y hy => h y (List.mem_cons_of_mem _ hy), List.filter_cons_of_neg (by simp [hp])]
end
theorem dc_map0 {α : Type} {T : Tg} {δw : Env} {c : Ck} {g : Env → Mu → Out (Option (Key × Val))} {μ : Mu} {e : α → Item} {kf : α → Key} {f : α → Val} (hc : chk c μ = true) : ∀ {xs : List α} {ks : List Key} {ws : List Val}, (xs.map kf).Nodup → (∀ x ∈ xs, kf x ∉ ks) → (∀ x ∈ xs, ∃ δ', bindI μ T (e x) δw = some δ' ∧ g δ' μ = .ok (some (kf x, f x)) μ) → dcLoop T δw c g (xs.map e) ks ws μ = .ok (.nw (.dct (ks ++ xs.map kf) (ws ++ xs.map f))) μ
  | [], ks, ws, _, _, _ => by rw [List.map_nil, dcLoop, if_pos hc, List.map_nil, List.append_nil, List.map_nil, List.append_nil]
  | x :: xs, ks, ws, nd, hk, h => by
    obtain ⟨δ', h1, h2⟩ := h x List.mem_cons_self
    rw [List.map_cons] at nd
    obtain ⟨n1, n2⟩ := List.nodup_cons.mp nd
    have e1 : hasK ks (kf x) = false := by
      unfold hasK
      rw [List.any_eq_false]
      intro k' hk' z
      rw [decide_eq_true_eq] at z
      exact hk x List.mem_cons_self (z ▸ hk')
    rw [List.map_cons, dcLoop, if_pos hc, h1]
    dsimp only
    rw [h2]
    dsimp only
    have e2 : putKs ks (kf x) = ks ++ [kf x] := by unfold putKs; rw [e1]; rfl
    have e3 : putWs ks ws (kf x) (f x) = ws ++ [f x] := by unfold putWs; rw [e1]; rfl
    rw [e2, e3, dc_map0 hc n2 (fun y hy z => ?_) fun y hy => h y (List.mem_cons_of_mem _ hy), List.map_cons, List.map_cons, List.append_assoc, List.append_assoc]
    · rfl
    · rcases List.mem_append.mp z with z | z
      · exact hk y (List.mem_cons_of_mem _ hy) z
      · exact n1 (List.mem_singleton.mp z ▸ List.mem_map.mpr ⟨y, hy, rfl⟩)
theorem dc_map {α : Type} {T : Tg} {δw : Env} {c : Ck} {g : Env → Mu → Out (Option (Key × Val))} {μ : Mu} {e : α → Item} {kf : α → Key} {f : α → Val} {xs : List α} (hc : chk c μ = true) (nd : (xs.map kf).Nodup) (h : ∀ x ∈ xs, ∃ δ', bindI μ T (e x) δw = some δ' ∧ g δ' μ = .ok (some (kf x, f x)) μ) : @dcK T δw c ⟨g⟩ (xs.map e) [] [] μ = .ok (.nw (.dct (xs.map kf) (xs.map f))) μ := by
  have := dc_map0 (T := T) (δw := δw) (c := c) (g := g) (ks := []) (ws := []) hc nd (fun _ _ z => nomatch z) h
  rw [List.nil_append, List.nil_append] at this
  exact this
section
variable {T : Tg} {wp : List Nat} {c : Ck} {n : Nat} {g : Env → Mu → Fl} {δ : Env} {μ : Mu}
theorem loop_from (J : Nat → Env → Mu → Prop) (R : Fl → Prop) (its : List Item) (hc : ∀ i δ μ, J i δ μ → chk c μ = true)
    (hs : ∀ i d δ μ, its[i]? = some d → J i δ μ → ∃ δ', bindI μ T d δ = some δ' ∧ ((∃ δ2 μ2, (g δ' μ = .nx δ2 μ2 ∨ g δ' μ = .ct δ2 μ2) ∧ J (i + 1) (tidyE wp δ2 μ2) (tidyM n (tidyE wp δ2 μ2) (nmM μ2))) ∨ (∃ r μ2, g δ' μ = .rt r μ2 ∧ R (.rt r μ2)) ∨ ∃ z δ2 μ2, g δ' μ = .ex z δ2 μ2 ∧ R (.ex z δ2 μ2))) :
    ∀ (rest : List Item) (j : Nat) (δ : Env) (μ : Mu), its.drop j = rest → j ≤ its.length → J j δ μ → (∃ δ' μ', loop T wp c n g rest δ μ = .nx δ' μ' ∧ J its.length δ' μ') ∨ R (loop T wp c n g rest δ μ)
  | [], j, δ, μ, e, hj, h => by
    have : j = its.length := by have := List.drop_eq_nil_iff.mp e; omega
    subst this
    refine .inl ⟨δ, μ, ?_, h⟩
    rw [loop, if_pos (hc _ _ _ h)]
  | d :: r, j, δ, μ, e, hj, h => by
    have hd : its[j]? = some d := by have := congrArg (·[0]?) e; simpa using this
    have hr : its.drop (j + 1) = r := by have := congrArg (List.drop 1) e; simpa [List.drop_drop, Nat.add_comm] using this
    have hlt : j < its.length := (List.getElem?_eq_some_iff.mp hd).1
    obtain ⟨δ', h1, h2⟩ := hs j d δ μ hd h
    rw [loop, if_pos (hc _ _ _ h), h1]
    dsimp only
    rcases h2 with ⟨δ2, μ2, h2 | h2, h3⟩ | ⟨r', μ2, h2, h3⟩ | ⟨z, δ2, μ2, h2, h3⟩
    · rw [h2]; exact loop_from J R its hc hs r (j + 1) _ _ hr hlt h3
    · rw [h2]; exact loop_from J R its hc hs r (j + 1) _ _ hr hlt h3
    · rw [h2]; exact .inr h3
    · rw [h2]; exact .inr h3
/-- a loop that ends -/
theorem loop_inv (J : Nat → Env → Mu → Prop) (its : List Item) (h0 : J 0 δ μ) (hc : ∀ i δ μ, J i δ μ → chk c μ = true)
    (hs : ∀ i d δ μ, its[i]? = some d → J i δ μ → ∃ δ' δ2 μ2, bindI μ T d δ = some δ' ∧ g δ' μ = .nx δ2 μ2 ∧ J (i + 1) (tidyE wp δ2 μ2) (tidyM n (tidyE wp δ2 μ2) (nmM μ2))) :
    ∃ δ' μ', loop T wp c n g its δ μ = .nx δ' μ' ∧ J its.length δ' μ' := by
  rcases loop_from (wp := wp) (n := n) J (fun _ => False) its hc (fun i d δ μ h1 h2 => let ⟨δ', δ2, μ2, a, b, e⟩ := hs i d δ μ h1 h2; ⟨δ', a, .inl ⟨δ2, μ2, .inl b, e⟩⟩) its 0 δ μ rfl (Nat.zero_le _) h0 with h | h
  · exact h
  · exact h.elim
theorem loop_inv' {o : Fl} {its : List Item} (hE : @loopK T wp c n ⟨g⟩ its δ μ = o) (J : Nat → Env → Mu → Prop) (h0 : J 0 δ μ) (hc : ∀ i δ μ, J i δ μ → chk c μ = true)
    (hs : ∀ i d δ μ, its[i]? = some d → J i δ μ → ∃ δ', bindI μ T d δ = some δ' ∧ @Nxt (g δ' μ) ⟨fun δ2 μ2 => J (i + 1) (tidyE wp δ2 μ2) (tidyM n (tidyE wp δ2 μ2) (nmM μ2))⟩) :
    ∃ δ' μ', o = .nx δ' μ' ∧ J its.length δ' μ' := by
  rw [← hE]
  exact loop_inv (g := g) J its h0 hc fun i d δ μ h1 h2 => let ⟨δ', a, δ2, μ2, b, e⟩ := hs i d δ μ h1 h2; ⟨δ', δ2, μ2, a, b, e⟩
theorem wloop_from {t : Env → Mu → Out Bool} (J : Nat → Env → Mu → Prop) (P : Env → Mu → Prop)
    (hs : ∀ j δ μ, J j δ μ → ∃ k μ1, t δ μ = .ok k μ1 ∧ (k = false → P δ μ1) ∧ (k = true → ∃ j', j = j' + 1 ∧ ∃ δ2 μ2, g δ μ1 = .nx δ2 μ2 ∧ J j' (tidyE wp δ2 μ2) (tidyM n (tidyE wp δ2 μ2) (nmM μ2)))) :
    ∀ (m j : Nat) (δ : Env) (μ : Mu), j < m → J j δ μ → ∃ δ' μ', wloop wp n t g m δ μ = .nx δ' μ' ∧ P δ' μ'
  | 0, j, δ, μ, hj, _ => by omega
  | m + 1, j, δ, μ, hj, h => by
    obtain ⟨k, μ1, e1, h1, h2⟩ := hs j δ μ h
    rw [wloop, e1]
    cases k with
    | false => exact ⟨δ, μ1, rfl, h1 rfl⟩
    | true =>
      obtain ⟨j', rfl, δ2, μ2, e2, h3⟩ := h2 rfl
      obtain ⟨δ', μ', e3, h4⟩ := wloop_from J P hs m j' _ _ (by omega) h3
      refine ⟨δ', μ', ?_, h4⟩
      simp only [Out.bind, Out.run, if_true, e2]
      exact e3
theorem wloop_inv' {t : Env → Mu → Out Bool} {m : Nat} {o : Fl} (hE : @wloopK wp n ⟨t⟩ ⟨g⟩ m δ μ = o) (J : Nat → Env → Mu → Prop) (P : Env → Mu → Prop) (j : Nat) (hj : j < m) (h0 : J j δ μ)
    (hs : ∀ j δ μ, J j δ μ → ∃ k μ1, t δ μ = .ok k μ1 ∧ (k = false → P δ μ1) ∧ (k = true → ∃ j', j = j' + 1 ∧ @Nxt (g δ μ1) ⟨fun δ2 μ2 => J j' (tidyE wp δ2 μ2) (tidyM n (tidyE wp δ2 μ2) (nmM μ2))⟩)) :
    ∃ δ' μ', o = .nx δ' μ' ∧ P δ' μ' := by
  rw [← hE]
  exact wloop_from J P (fun j δ μ h => let ⟨k, μ1, e, a, b⟩ := hs j δ μ h; ⟨k, μ1, e, a, fun q => let ⟨j', e2, δ2, μ2, c, d⟩ := b q; ⟨j', e2, δ2, μ2, c, d⟩⟩) m j δ μ hj h0
theorem rng_get {n i : Nat} {d : Item} (hd : (rngI 0 n)[i]? = some d) : d = .one (.fz (.int (i : Int))) ∧ i < n := by
  unfold rngI at hd
  rw [List.getElem?_map] at hd
  cases e : (List.range n)[i]? with
  | none => rw [e] at hd; cases hd
  | some j =>
    rw [e] at hd
    obtain ⟨h3, h4⟩ := List.getElem?_eq_some_iff.mp e
    rw [List.getElem_range] at h4
    subst h4
    rw [List.length_range] at h3
    exact ⟨by simpa using hd.symm, h3⟩
theorem rng_len {n : Nat} {lo : Int} : (rngI lo n).length = n := by simp [rngI]
theorem one_get {ws : List Val} {i : Nat} {d : Item} (hd : (ws.map Item.one)[i]? = some d) : ∃ w, ws[i]? = some w ∧ d = .one w := by
  rw [List.getElem?_map] at hd
  cases e : ws[i]? with
  | none => rw [e] at hd; cases hd
  | some w => rw [e] at hd; exact ⟨w, rfl, (Option.some.inj hd).symm⟩
theorem map_get {α β : Type} {f : α → β} {xs : List α} {i : Nat} {y : β} (h : (xs.map f)[i]? = some y) : ∃ x, xs[i]? = some x ∧ y = f x := by
  rw [List.getElem?_map] at h
  cases e : xs[i]? with
  | none => rw [e] at h; cases h
  | some w => rw [e] at h; exact ⟨w, rfl, (Option.some.inj h).symm⟩
end
end EW
set_option maxRecDepth 100000
set_option maxHeartbeats 2000000
namespace EW
open PySem L2
structure CmpN (n : Nat) (d : D) : Prop where
  dat : d.dat = true
  can : d.pd.canLay0 = true
  dep : d.pd.depth ≤ n
theorem CmpN.cmp {n : Nat} {d : D} (h : CmpN n d) (hn : n ≤ 64 := by decide) : cmpB d = true := by
  unfold cmpB SeqAt.shaped
  rw [h.dat, h.can, decide_eq_true (Nat.le_trans h.dep hn)]; rfl
theorem cmpN_str {x : Str} (h : PyData.strOk x = true) : CmpN 1 (.str x) := ⟨rfl, by simpa [D.pd, PyData.canLay0] using h, by simp [D.pd, PyData.depth]⟩
theorem cmpN_int (i : Int) : CmpN 1 (.int i) := ⟨rfl, by simp [D.pd, PyData.canLay0], by simp [D.pd, PyData.depth]⟩
theorem cmpN_non : CmpN 1 .non := ⟨rfl, by simp [D.pd, PyData.canLay0], by simp [D.pd, PyData.depth]⟩
theorem cmpN_bl (b : Bool) : CmpN 1 (.bl b) := ⟨rfl, by simp [D.pd, PyData.canLay0], by simp [D.pd, PyData.depth]⟩
theorem CmpN.mono {m n : Nat} {d : D} (h : CmpN m d) (hm : m ≤ n) : CmpN n d := ⟨h.dat, h.can, Nat.le_trans h.dep hm⟩
theorem cmpN_all {n : Nat} : ∀ {ds : List D}, (∀ d ∈ ds, CmpN n d) → D.dats ds = true ∧ PyData.canLayAll0 (D.pds ds) = true ∧ PyData.depthAll (D.pds ds) ≤ n
  | [], _ => ⟨rfl, by simp [D.pds, PyData.canLayAll0], by simp [D.pds, PyData.depthAll]⟩
  | d :: ds, h => by
    obtain ⟨h1, h2, h3⟩ := cmpN_all (ds := ds) fun e he => h e (List.mem_cons_of_mem _ he)
    have hd := h d List.mem_cons_self
    exact ⟨by show (d.dat && D.dats ds) = true; rw [hd.dat, h1]; rfl, by simp [D.pds, PyData.canLayAll0, hd.can, h2], by simp only [D.pds, PyData.depthAll]; have := hd.dep; omega⟩
theorem cmpN_lst {n : Nat} {ds : List D} (h : ∀ d ∈ ds, CmpN n d) : CmpN (n + 1) (.lst ds) := by
  obtain ⟨h1, h2, h3⟩ := cmpN_all h
  exact ⟨h1, by simpa [D.pd, PyData.canLay0] using h2, by simp only [D.pd, PyData.depth]; omega⟩
theorem cmpN_tup {n : Nat} {ds : List D} (h : ∀ d ∈ ds, CmpN n d) : CmpN (n + 1) (.tup ds) := by
  obtain ⟨h1, h2, h3⟩ := cmpN_all h
  exact ⟨h1, by simpa [D.pd, PyData.canLay0] using h2, by simp only [D.pd, PyData.depth]; omega⟩
theorem eqD_refl {d : D} (h : cmpB d = true) : eqD d d = true := by
  unfold cmpB at h
  rw [Bool.and_eq_true] at h
  exact PySem.SeqAt.eqv_refl _ (SeqAt.canLay_of_shaped h.2)
theorem eqD_str {x y : Str} : eqD (.str x) (.str y) = decide (x = y) := by
  simp only [eqD, D.pd, PyData.eqv]
  rw [Bool.eq_iff_iff]; simp
theorem eqD_int {x y : Int} : eqD (.int x) (.int y) = decide (x = y) := by
  simp only [eqD, D.pd, PyData.eqv]
  rw [Bool.eq_iff_iff]; simp
theorem eqD_strsAll : ∀ {xs ys : List Str}, PyData.eqvAll (D.pds (xs.map D.str)) (D.pds (ys.map D.str)) = decide (xs = ys)
  | [], [] => by simp [D.pds, PyData.eqvAll]
  | [], y :: ys => by simp [D.pds, PyData.eqvAll]
  | x :: xs, [] => by simp [D.pds, PyData.eqvAll]
  | x :: xs, y :: ys => by
    simp only [List.map_cons, D.pds, D.pd, PyData.eqvAll, PyData.eqv, eqD_strsAll]
    rw [Bool.eq_iff_iff]; simp
theorem eqD_strs {xs ys : List Str} : eqD (.lst (xs.map D.str)) (.lst (ys.map D.str)) = decide (xs = ys) := by
  simp only [eqD, D.pd, PyData.eqv, eqD_strsAll]
theorem eqD_strsf {α β : Type} {f : α → Str} {g : β → Str} {xs : List α} {ys : List β} : eqD (.lst (xs.map fun x => .str (f x))) (.lst (ys.map fun y => .str (g y))) = decide (xs.map f = ys.map g) := by
  have := eqD_strs (xs := xs.map f) (ys := ys.map g)
  rw [List.map_map, List.map_map] at this
  exact this
theorem cmpB_int {i : Int} : cmpB (.int i) = true := (cmpN_int i).cmp
theorem cmpB_non : cmpB .non = true := cmpN_non.cmp
theorem cmpB_bl {b : Bool} : cmpB (.bl b) = true := (cmpN_bl b).cmp
theorem cmpB_str {x : Str} (h : PyData.strOk x = true) : cmpB (.str x) = true := (cmpN_str h).cmp
theorem inV_str {α : Type} {f : α → Str} {x : Str} : ∀ {xs : List α}, inV (.str x) (xs.map fun y => V.str (f y)) = decide (x ∈ xs.map f)
  | [] => by simp [inV]
  | y :: xs => by
    have ih := inV_str (f := f) (x := x) (xs := xs)
    unfold inV at ih ⊢
    rw [List.map_cons, List.any_cons, ih, List.map_cons]
    rw [Bool.eq_iff_iff]
    simp only [eqV, Bool.or_eq_true, beq_iff_eq, decide_eq_true_eq, List.mem_cons]
    exact ⟨fun h => h.imp Eq.symm id, fun h => h.imp Eq.symm id⟩
theorem inV_strs {x : Str} {xs : List Str} : inV (.str x) (xs.map V.str) = decide (x ∈ xs) := by
  have := inV_str (f := fun y => y) (x := x) (xs := xs)
  simpa using this
theorem fls_str {α : Type} {f : α → Str} : ∀ {xs : List α}, fls (xs.map fun y => Val.fz (.str (f y))) = some (xs.map fun y => V.str (f y))
  | [] => rfl
  | y :: xs => by rw [List.map_cons, fls, fls_str]; rfl
theorem ok_str {x : Str} (h : ∀ c ∈ x.cps.toList, c < 0x110000) : PyData.strOk x = true := by
  unfold PyData.strOk
  rw [Array.all_eq_true']
  intro c hc
  exact decide_eq_true (h c (Array.mem_toList_iff.mpr hc))
theorem blOf_mapf {α : Type} {f : α → Bool} : ∀ {xs : List α}, blOf (xs.map fun y => Val.fz (.bl (f y))) = some (xs.map f)
  | [] => rfl
  | y :: xs => by rw [List.map_cons, blOf, blOf_mapf]; rfl
theorem blOf_D {α : Type} {f : α → Bool} {xs : List α} : blOf ((xs.map fun y => D.bl (f y)).map Val.fz) = some (xs.map f) := by rw [List.map_map]; exact blOf_mapf
theorem intsOf_mapf {α : Type} {f : α → Int} : ∀ {xs : List α}, intsOf (xs.map fun y => Val.fz (.int (f y))) = some (xs.map f)
  | [] => rfl
  | y :: xs => by rw [List.map_cons, intsOf, intsOf_mapf]; rfl
theorem arr1 {c : Nat} : (#[c] : Array Nat).toList = [c] := rfl
theorem isi1_ty {F : Fx} {d : D} {μ : Mu} {c n : String} (h : d.tyn = some n) (hc : tyOk c = true) : isi1 F (.fz d) μ (.ty c) = some (tyIs n c) := by
  simp only [isi1, Res.tyn, h, hc, if_true]
theorem hasK_str {α : Type} {f : α → Str} {x : Str} : ∀ {xs : List α}, hasK (xs.map fun y => (Sum.inr (f y) : Key)) (.inr x) = decide (x ∈ xs.map f)
  | [] => by simp [hasK]
  | y :: xs => by
    have ih := hasK_str (f := f) (x := x) (xs := xs)
    unfold hasK at ih ⊢
    rw [List.map_cons, List.any_cons, ih, List.map_cons, Bool.eq_iff_iff]
    simp only [Bool.or_eq_true, decide_eq_true_eq, List.mem_cons]
    exact ⟨fun h => h.imp (fun e => (Sum.inr.inj e).symm) id, fun h => h.imp (fun e => by rw [e]) id⟩
theorem hasK_strs {x : Str} {xs : List Str} : hasK (xs.map (Sum.inr : Str → Key)) (.inr x) = decide (x ∈ xs) := by
  have := hasK_str (f := fun y => y) (x := x) (xs := xs)
  simpa using this
theorem dget_str {α β : Type} {f : α → Str} {g : α → β} {x : α} : ∀ {xs : List α}, (xs.map f).Nodup → x ∈ xs → dget (xs.map fun y => (Sum.inr (f y) : Key)) (xs.map g) (.inr (f x)) = some (g x)
  | [], _, h => nomatch h
  | y :: xs, nd, h => by
    have nd' := List.nodup_cons.mp nd
    simp only [List.map_cons, dget]
    rcases List.mem_cons.mp h with e | h
    · subst e; rw [if_pos rfl]
    · have : ¬ (Sum.inr (f y) : Key) = Sum.inr (f x) := fun z => nd'.1 (by rw [Sum.inr.inj z]; exact List.mem_map.mpr ⟨x, h, rfl⟩)
      rw [if_neg this]
      exact dget_str nd'.2 h
theorem keysPs_mapf {α : Type} {f : α → Str} {g : α → D} : ∀ {xs : List α}, keysPs (xs.map fun r => Val.fz (.tup [.str (f r), g r])) = some (xs.map fun r => (Sum.inr (f r), g r))
  | [] => rfl
  | x :: xs => by rw [List.map_cons, keysPs, keysPs_mapf]; rfl
theorem nd_inr {α : Type} {f : α → Str} {xs : List α} (h : (xs.map f).Nodup) : (xs.map fun x => (Sum.inr (f x) : Key)).Nodup := by
  have := List.Pairwise.map (S := fun a b : Key => a ≠ b) (fun x : Str => (Sum.inr x : Key)) (fun a b n e => n (Sum.inr.inj e)) h
  rw [List.map_map] at this
  exact this
theorem lenR_ins {F : Fx} {c : Nat} {ds : List D} {μ : Mu} {n : Int} (h1 : F.dm c 3 = true) (h2 : lend (F.mt c 3) [.fz (.ins c ds)] μ = .ok (.fz (.int n)) μ) (h0 : 0 ≤ n) (hn : n < 2 ^ 63) : lenR F (.fz (.ins c ds)) μ = .ok (.fz (.int n)) μ := by
  unfold lenR
  dsimp only
  rw [if_pos h1, h2]
  show (if 0 ≤ n ∧ n < 2 ^ 63 then Out.ok (Res.fz (D.int n)) μ else .no) = _
  rw [if_pos ⟨h0, hn⟩]
theorem len_str {F : Fx} {z : Str} {μ : Mu} : lenR F (.fz (.str z)) μ = if z.length ≤ big then .ok (.fz (.int z.length)) μ else .no := rfl
theorem len_lst {F : Fx} {ds : List D} {μ : Mu} : lenR F (.fz (.lst ds)) μ = .ok (.fz (.int ds.length)) μ := by show Out.ok (Res.fz (D.int (ds.map Val.fz).length)) μ = _; rw [List.length_map]
theorem len_tup {F : Fx} {ds : List D} {μ : Mu} : lenR F (.fz (.tup ds)) μ = .ok (.fz (.int ds.length)) μ := by show Out.ok (Res.fz (D.int (ds.map Val.fz).length)) μ = _; rw [List.length_map]
theorem len_rol {F : Fx} {ds : List D} {μ : Mu} : lenR F (.fz (.rol ds)) μ = .ok (.fz (.int ds.length)) μ := by show Out.ok (Res.fz (D.int (ds.map Val.fz).length)) μ = _; rw [List.length_map]
theorem len_rot {F : Fx} {ds : List D} {μ : Mu} : lenR F (.fz (.rot ds)) μ = .ok (.fz (.int ds.length)) μ := by show Out.ok (Res.fz (D.int (ds.map Val.fz).length)) μ = _; rw [List.length_map]
theorem len_dct {F : Fx} {ks : List Key} {ds : List D} {μ : Mu} : lenR F (.fz (.dct ks ds)) μ = .ok (.fz (.int ks.length)) μ := rfl
theorem len_cel {F : Fx} {k : Nat} {μ : Mu} : lenR F (.cel k) μ = match dctV μ (.cel k) with
    | some (ks, _) => .ok (.fz (.int ks.length)) μ
    | none => match seqV μ (.cel k) with | some ds => .ok (.fz (.int ds.length)) μ | none => .no := rfl
theorem ng_f {b : Bool} : ng false b = b := rfl
theorem ng_t {b : Bool} : ng true b = !b := rfl
end EW
set_option maxRecDepth 100000
set_option maxHeartbeats 2000000
namespace EW
open PySem L2
section
variable {α : Type} {μ l : Mu} {o a b c d : O} {i k n : Nat}
theorem app_at : (μ ++ l)[μ.length + i]? = l[i]? := by rw [List.getElem?_append_right (by omega)]; congr 1; omega
theorem app_at0 : (μ ++ l)[μ.length]? = l[0]? := app_at (i := 0)
theorem app_set : (μ ++ l).set (μ.length + i) o = μ ++ l.set i o := by rw [List.set_append_right _ _ (by omega)]; congr 2; omega
theorem app_set0 : (μ ++ l).set μ.length o = μ ++ l.set 0 o := app_set (i := 0)
theorem app_take : (μ ++ l).take (μ.length + i) = μ ++ l.take i := List.take_length_add_append i
theorem app_take0 : (μ ++ l).take μ.length = μ := by rw [List.take_left']; rfl
theorem app_lt (h : μ[k]? = some o) : ∀ l, (μ ++ l)[k]? = some o := fun l => by
  rw [List.getElem?_append_left (List.getElem?_eq_some_iff.mp h).1]; exact h
theorem app_same (h : μ[k]? = some o) : ∀ l, (μ ++ l).set k o = μ ++ l := fun l => by
  obtain ⟨hk, e⟩ := List.getElem?_eq_some_iff.mp h
  rw [List.set_append_left _ _ hk]
  congr 1
  rw [← e, List.set_getElem_self]
theorem tidyM_len {δ : Env} (h : μ.length = n) : tidyM n δ μ = μ := by
  unfold tidyM
  split
  · rw [← h, List.take_length]
  · rfl
structure Plain (μ : Mu) : Prop where
  nm : ∀ l, μ.map (O.nm (μ ++ l)) = μ
  cl : ∀ k, μ.all (O.below (μ.length + k)) = true
theorem plain_nil : Plain [] := ⟨fun _ => rfl, fun _ => rfl⟩
theorem nm_app {m : Mu} : (μ ++ l).map (O.nm m) = μ.map (O.nm m) ++ l.map (O.nm m) := List.map_append
theorem one_ne_zero_ : ((1 : Nat) = 0) = False := by simp
theorem enum_get : ∀ {ws : List Val} {s : Int} {i : Nat} {d : Item}, (enumI s ws)[i]? = some d → ∃ w, ws[i]? = some w ∧ d = .pr (s + i) w
  | [], s, i, d, h => by simp [enumI] at h
  | w :: ws, s, 0, d, h => by simp [enumI] at h; exact ⟨w, rfl, by rw [← h]; simp⟩
  | w :: ws, s, i + 1, d, h => by
    obtain ⟨v, h1, h2⟩ := enum_get (ws := ws) (s := s + 1) (i := i) (d := d) (by simpa [enumI] using h)
    exact ⟨v, by simpa using h1, by rw [h2]; congr 1; omega⟩
theorem enum_len : ∀ {ws : List Val} {s : Int}, (enumI s ws).length = ws.length
  | [], s => rfl
  | w :: ws, s => by simp [enumI, enum_len]
end
end EW
set_option maxRecDepth 100000
set_option maxHeartbeats 2000000
namespace CS
open PySem L2 EW CT
structure HasS (T : Tab) : Prop where
  stream : T.fn n_law_stream = some f_law_stream
  draw : T.fn n_law_draw = some f_law_draw
structure Sm.ok (a b c : Int) (k : Nat) : Prop where
  a0 : 0 ≤ a
  b0 : 0 ≤ b
  b1 : b < 8589934592
  c0 : 0 ≤ c
  c1 : c ≤ k
theorem Sm.ok.mono {a b c : Int} {j k : Nat} (h : Sm.ok a b c j) (hk : j ≤ k) : Sm.ok a b c k := ⟨h.a0, h.b0, h.b1, h.c0, by have := h.c1; omega⟩
/-- the cell of a stream -/
abbrev stm (a b c : Int) : O := .lst [.fz (.int a), .fz (.int b), .fz (.int c)]
variable {T : Tab}
theorem draw_ok (h : HasS T) (n : Nat) {a b c : Int} {k : Nat} (hs : Sm.ok a b c k) (hk : k < 1000000000) {m : Int} (hm : 0 < m) (hm2 : m < 1073741824) : ∃ v a' c', (fx T (n+1)).fn n_law_draw [.cel 0, .fz (.int m)] [stm a b c] = .ok (.fz (.int v)) [stm a' b c'] ∧ 0 ≤ v ∧ v < m ∧ Sm.ok a' b c' (k + 1) := by
  rw [fx_fn h.draw]
  obtain ⟨h1, h2, h3, h4, h5⟩ := hs
  by_cases ha : 0 < a
  · refine ⟨a % m, a / m, c, ?_, Int.emod_nonneg _ (by omega), Int.emod_lt_of_pos _ hm, ⟨Int.ediv_nonneg h1 (by omega), h2, h3, h4, by omega⟩⟩
    simp only [f_law_draw, run_eq, endF_nx, endF_rt, endF_ex, endF_no, evSs, evS, evE, evT, evEs, ↓bind_eq, bnd_ok, bnd_ex, bnd_no, Out.run_ok, Out.run_ex, Out.run_no, ↓thn_eq, thk_nx, thk_rt, thk_bk, thk_ct, thk_ex, thk_no, arg_fz, arg_cel, arg_nw, argO_ok, argO_ex, argO_no, nm_fz, nm_cel, rnm_fz, rnm_nw, rnm_cel, res_fz, res_cel, fr_fz, fr_cel, fr_nw, mkc_nw, mkc_fz, mkc_cel, outO_some, outO_none, ofO_some, ofO_none, iceOf, startE, List.map_cons, List.map_nil, List.length_cons, List.length_nil, List.getElem?_cons_zero, List.getElem?_cons_succ, List.set_cons_zero, List.set_cons_succ, List.cons_append, List.nil_append, List.replicate, ↓reduceIte, reduceCtorEq, Nat.reduceAdd, Nat.reduceSub, Nat.reduceEqDiff, Option.map_some, Option.map_none, cast_lit, Int.reduceEq, eq_self, binO, insF, ixR, dctV, seqV, lsqV, lstV, tupV, insV, atI_0, atI_1, atI_2, atI_3, ixN_0, ixN_1, ixN_2, ixN_3, binR, op_add_, op_sub_, op_mul_, op_mod_, op_div_, pow_10_18, op_pow_, mulB_l, mulB_r, cmpR, intCmp, truth, bltR, len_str, len_lst, len_tup, len_rol, len_rot, len_dct, len_cel, putR, decide_true, decide_false, Bool.false_eq_true, Int.reduceLE, Int.reduceLT, Int.reduceToNat, Int.reducePow, Int.reduceNeg, Nat.reducePow, Option.bind_some, Option.bind_none, finR, finB, finC, closed, Res.nmO, nmM, O.nm, O.below, O.refs, cellsOf, List.take, List.all_cons, List.all_nil, Bool.and_self, Bool.and_true, Bool.true_and, decide_true, hm, hm2, ha]
  · have hp : (b + 7919 * (c + 1) + 104729).natAbs < 2 ^ 64 := by omega
    refine ⟨((((b + 7919 * (c + 1) + 104729) ^ 5 % 2147483647 + (c + 1)) * 40692) % 2147483629 / 7) % m, a, c + 1, ?_, Int.emod_nonneg _ (by omega), Int.emod_lt_of_pos _ hm, ⟨h1, h2, h3, by omega, by omega⟩⟩
    · simp only [f_law_draw, run_eq, endF_nx, endF_rt, endF_ex, endF_no, evSs, evS, evE, evT, evEs, ↓bind_eq, bnd_ok, bnd_ex, bnd_no, Out.run_ok, Out.run_ex, Out.run_no, ↓thn_eq, thk_nx, thk_rt, thk_bk, thk_ct, thk_ex, thk_no, arg_fz, arg_cel, arg_nw, argO_ok, argO_ex, argO_no, nm_fz, nm_cel, rnm_fz, rnm_nw, rnm_cel, res_fz, res_cel, fr_fz, fr_cel, fr_nw, mkc_nw, mkc_fz, mkc_cel, outO_some, outO_none, ofO_some, ofO_none, iceOf, startE, List.map_cons, List.map_nil, List.length_cons, List.length_nil, List.getElem?_cons_zero, List.getElem?_cons_succ, List.set_cons_zero, List.set_cons_succ, List.cons_append, List.nil_append, List.replicate, ↓reduceIte, reduceCtorEq, Nat.reduceAdd, Nat.reduceSub, Nat.reduceEqDiff, Option.map_some, Option.map_none, cast_lit, Int.reduceEq, eq_self, binO, insF, ixR, dctV, seqV, lsqV, lstV, tupV, insV, atI_0, atI_1, atI_2, atI_3, ixN_0, ixN_1, ixN_2, ixN_3, binR, op_add_, op_sub_, op_mul_, op_mod_, op_div_, pow_10_18, op_pow_, mulB_l, mulB_r, cmpR, intCmp, truth, bltR, len_str, len_lst, len_tup, len_rol, len_rot, len_dct, len_cel, putR, decide_true, decide_false, Bool.false_eq_true, Int.reduceLE, Int.reduceLT, Int.reduceToNat, Int.reducePow, Int.reduceNeg, Nat.reducePow, Option.bind_some, Option.bind_none, finR, finB, finC, closed, Res.nmO, nmM, O.nm, O.below, O.refs, cellsOf, List.take, List.all_cons, List.all_nil, Bool.and_self, Bool.and_true, Bool.true_and, decide_true, hm, hm2, ha, hp]
theorem stream_ok (h : HasS T) (n : Nat) {ns : List Int} (hl : ns.length ≤ 63) {t : Nat} (ht : t ≤ 1000) : ∃ a b, (fx T (n+1)).fn n_law_stream [.fz (.rol (ns.map .int)), .fz (.int t)] [] = .ok (.nw (stm a b 0)) [] ∧ Sm.ok a b 0 0 := by
  rw [fx_fn h.stream]
  have hd : (t : Int) < (ns.map D.int).length ∨ ¬ (t : Int) < (ns.map D.int).length := Decidable.em _
  rcases hd with hd | hd
  · have ht' : t < ns.length := by simpa using hd
    have hx : atI ((ns.map D.int).map Val.fz) (t : Int) = some (Val.fz (.int ns[t])) := by
      rw [atI_nat (by simpa using ht')]
      simp [ht']
    by_cases hc : 1000000000000000000 ≤ (if ns[t] < 0 then -ns[t] else ns[t])
    · simp only [f_law_stream, run_eq, endF_nx, endF_rt, endF_ex, endF_no, evSs, evS, evE, evT, evEs, ↓bind_eq, bnd_ok, bnd_ex, bnd_no, Out.run_ok, Out.run_ex, Out.run_no, ↓thn_eq, thk_nx, thk_rt, thk_bk, thk_ct, thk_ex, thk_no, arg_fz, arg_cel, arg_nw, argO_ok, argO_ex, argO_no, nm_fz, nm_cel, rnm_fz, rnm_nw, rnm_cel, res_fz, res_cel, fr_fz, fr_cel, fr_nw, mkc_nw, mkc_fz, mkc_cel, outO_some, outO_none, ofO_some, ofO_none, iceOf, startE, List.map_cons, List.map_nil, List.length_cons, List.length_nil, List.getElem?_cons_zero, List.getElem?_cons_succ, List.set_cons_zero, List.set_cons_succ, List.cons_append, List.nil_append, List.replicate, ↓reduceIte, reduceCtorEq, Nat.reduceAdd, Nat.reduceSub, Nat.reduceEqDiff, Option.map_some, Option.map_none, cast_lit, Int.reduceEq, eq_self, binO, insF, ixR, dctV, seqV, lsqV, lstV, tupV, insV, atI_0, atI_1, atI_2, atI_3, ixN_0, ixN_1, ixN_2, ixN_3, binR, op_add_, op_sub_, op_mul_, op_mod_, op_div_, pow_10_18, op_pow_, mulB_l, mulB_r, cmpR, intCmp, truth, bltR, len_str, len_lst, len_tup, len_rol, len_rot, len_dct, len_cel, putR, decide_true, decide_false, Bool.false_eq_true, Int.reduceLE, Int.reduceLT, Int.reduceToNat, Int.reducePow, Int.reduceNeg, Nat.reducePow, Option.bind_some, Option.bind_none, finR, finB, finC, closed, Res.nmO, nmM, O.nm, O.below, O.refs, cellsOf, List.take, List.all_cons, List.all_nil, Bool.and_self, Bool.and_true, Bool.true_and, decide_true, hd, hx, hc]
      refine ⟨_, _, rfl, ?_⟩
      exact ⟨by omega, by omega, by omega, by omega, by omega⟩
    · simp only [f_law_stream, run_eq, endF_nx, endF_rt, endF_ex, endF_no, evSs, evS, evE, evT, evEs, ↓bind_eq, bnd_ok, bnd_ex, bnd_no, Out.run_ok, Out.run_ex, Out.run_no, ↓thn_eq, thk_nx, thk_rt, thk_bk, thk_ct, thk_ex, thk_no, arg_fz, arg_cel, arg_nw, argO_ok, argO_ex, argO_no, nm_fz, nm_cel, rnm_fz, rnm_nw, rnm_cel, res_fz, res_cel, fr_fz, fr_cel, fr_nw, mkc_nw, mkc_fz, mkc_cel, outO_some, outO_none, ofO_some, ofO_none, iceOf, startE, List.map_cons, List.map_nil, List.length_cons, List.length_nil, List.getElem?_cons_zero, List.getElem?_cons_succ, List.set_cons_zero, List.set_cons_succ, List.cons_append, List.nil_append, List.replicate, ↓reduceIte, reduceCtorEq, Nat.reduceAdd, Nat.reduceSub, Nat.reduceEqDiff, Option.map_some, Option.map_none, cast_lit, Int.reduceEq, eq_self, binO, insF, ixR, dctV, seqV, lsqV, lstV, tupV, insV, atI_0, atI_1, atI_2, atI_3, ixN_0, ixN_1, ixN_2, ixN_3, binR, op_add_, op_sub_, op_mul_, op_mod_, op_div_, pow_10_18, op_pow_, mulB_l, mulB_r, cmpR, intCmp, truth, bltR, len_str, len_lst, len_tup, len_rol, len_rot, len_dct, len_cel, putR, decide_true, decide_false, Bool.false_eq_true, Int.reduceLE, Int.reduceLT, Int.reduceToNat, Int.reducePow, Int.reduceNeg, Nat.reducePow, Option.bind_some, Option.bind_none, finR, finB, finC, closed, Res.nmO, nmM, O.nm, O.below, O.refs, cellsOf, List.take, List.all_cons, List.all_nil, Bool.and_self, Bool.and_true, Bool.true_and, decide_true, hd, hx, hc]
      refine ⟨_, _, rfl, ?_⟩
      exact ⟨by omega, by omega, by omega, by omega, by omega⟩
  · simp only [f_law_stream, run_eq, endF_nx, endF_rt, endF_ex, endF_no, evSs, evS, evE, evT, evEs, ↓bind_eq, bnd_ok, bnd_ex, bnd_no, Out.run_ok, Out.run_ex, Out.run_no, ↓thn_eq, thk_nx, thk_rt, thk_bk, thk_ct, thk_ex, thk_no, arg_fz, arg_cel, arg_nw, argO_ok, argO_ex, argO_no, nm_fz, nm_cel, rnm_fz, rnm_nw, rnm_cel, res_fz, res_cel, fr_fz, fr_cel, fr_nw, mkc_nw, mkc_fz, mkc_cel, outO_some, outO_none, ofO_some, ofO_none, iceOf, startE, List.map_cons, List.map_nil, List.length_cons, List.length_nil, List.getElem?_cons_zero, List.getElem?_cons_succ, List.set_cons_zero, List.set_cons_succ, List.cons_append, List.nil_append, List.replicate, ↓reduceIte, reduceCtorEq, Nat.reduceAdd, Nat.reduceSub, Nat.reduceEqDiff, Option.map_some, Option.map_none, cast_lit, Int.reduceEq, eq_self, binO, insF, ixR, dctV, seqV, lsqV, lstV, tupV, insV, atI_0, atI_1, atI_2, atI_3, ixN_0, ixN_1, ixN_2, ixN_3, binR, op_add_, op_sub_, op_mul_, op_mod_, op_div_, pow_10_18, op_pow_, mulB_l, mulB_r, cmpR, intCmp, truth, bltR, len_str, len_lst, len_tup, len_rol, len_rot, len_dct, len_cel, putR, decide_true, decide_false, Bool.false_eq_true, Int.reduceLE, Int.reduceLT, Int.reduceToNat, Int.reducePow, Int.reduceNeg, Nat.reducePow, Option.bind_some, Option.bind_none, finR, finB, finC, closed, Res.nmO, nmM, O.nm, O.below, O.refs, cellsOf, List.take, List.all_cons, List.all_nil, Bool.and_self, Bool.and_true, Bool.true_and, decide_true, hd]
    refine ⟨_, _, rfl, ?_⟩
    exact ⟨by omega, by omega, by omega, by omega, by omega⟩
end CS
set_option maxRecDepth 100000
set_option maxHeartbeats 2000000
namespace TM
open PySem L2 EW
def letter (c : Nat) : Prop := 97 ≤ c ∧ c ≤ 122
/-- one to eight small letters -/
structure Wrd (x : Str) : Prop where
  l1 : 1 ≤ x.length
  l8 : x.length ≤ 8
  ls : ∀ c ∈ x.cps.toList, letter c
theorem join_cps (ys : List Str) : (Txt.join Str.empty ys).cps.toList = (ys.map fun y => y.cps.toList).flatten := by
  rw [TL.join_eq]
  have h := TL.tl_join Str.empty ys
  have e : ∀ l : List (List Nat), TL.joinL (TL.tl Str.empty) l = l.flatten := by
    intro l
    have e0 : TL.tl Str.empty = [] := rfl
    rw [e0]
    induction l with
    | nil => rfl
    | cons a r ih =>
      cases r with
      | nil => simp [TL.joinL]
      | cons b r => rw [TL.joinL, ih]; simp
  rw [e] at h
  exact h
theorem join_len (cs : List Nat) : (Txt.join Str.empty (cs.map fun c => (⟨#[c]⟩ : Str))).length = cs.length := by
  have e : (Txt.join Str.empty (cs.map fun c => (⟨#[c]⟩ : Str))).cps.toList = cs := by
    rw [join_cps, List.map_map]
    induction cs with
    | nil => rfl
    | cons c cs ih => rw [List.map_cons, List.flatten_cons, ih]; rfl
  rw [← congrArg List.length e]; simp [Str.length]
theorem Wrd.of_signs {cs : List Nat} (h1 : 1 ≤ cs.length) (h8 : cs.length ≤ 8) (hl : ∀ c ∈ cs, letter c) : Wrd (Txt.join Str.empty (cs.map fun c => (⟨#[c]⟩ : Str))) := by
  have e : (Txt.join Str.empty (cs.map fun c => (⟨#[c]⟩ : Str))).cps.toList = cs := by
    rw [join_cps, List.map_map]
    clear h1 h8 hl
    induction cs with
    | nil => rfl
    | cons c cs ih => rw [List.map_cons, List.flatten_cons, ih]; rfl
  have el : (Txt.join Str.empty (cs.map fun c => (⟨#[c]⟩ : Str))).length = cs.length := by
    rw [← congrArg List.length e]; simp [Str.length]
  exact ⟨by rw [el]; exact h1, by rw [el]; exact h8, by rw [e]; exact hl⟩
abbrev alphabet : Str := "abcdefghijklmnopqrstuvwxyz"
theorem alphabet_letters : ∀ c ∈ alphabet.cps.toList, letter c := by
  have h : (alphabet.cps.toList.all fun c => decide (97 ≤ c) && decide (c ≤ 122)) = true := by decide +kernel
  intro c hc
  have := List.all_eq_true.mp h c hc
  simp only [Bool.and_eq_true, decide_eq_true_eq] at this
  exact this
structure Rw where
  name : Str
  folder : Str
  kind : Str
  price : Option Int
  deriving DecidableEq
def priceD : Option Int → D
  | none => .non
  | some n => .int n
def rowD (r : Rw) : D := .tup [.str r.name, .str r.folder, .str r.kind, priceD r.price]
abbrev sTop : Str := "top"
abbrev sFolder : Str := "folder"
abbrev sItem : Str := "item"
abbrev sShut : Str := "shut"
def kinds : List Str := [sFolder, sItem, sShut]
def PriceOk : Option Int → Prop
  | none => True
  | some n => 1 ≤ n
structure NameOk (x : Str) : Prop where
  w : Wrd x
  nt : x ≠ sTop
/-- a row that may stand behind some rows -/
structure RowOk (pre : List Rw) (r : Rw) : Prop where
  name : NameOk r.name
  new : ∀ q ∈ pre, q.name ≠ r.name
  fol : r.folder = sTop ∨ ∃ q ∈ pre, q.name = r.folder ∧ q.kind = sFolder
  kind : r.kind ∈ kinds
  price : PriceOk r.price
inductive Good : List Rw → Prop where
  | nil : Good []
  | snoc {pre : List Rw} {r : Rw} : Good pre → RowOk pre r → Good (pre ++ [r])
def fols (rs : List Rw) : List Str := sTop :: (rs.filter fun r => decide (r.kind = sFolder)).map (·.name)
def nms (rs : List Rw) : List Str := sTop :: rs.map (·.name)
def kindL : List Str := [sFolder, sFolder, sItem, sItem, sItem, sShut]
def priceL : List (Option Int) := [some 1, some 1, some 1, some 2, some 3, some 7, none]
/-- the state of the loop -/
theorem cut_mem {α : Type} {xs : List α} {lo hi : Option Int} {x : α} (h : x ∈ cutD xs lo hi) : x ∈ xs := List.mem_of_mem_drop (List.mem_of_mem_take h)
theorem cut_len {α : Type} (xs : List α) (lo hi : Option Int) : (cutD xs lo hi).length ≤ xs.length := by unfold cutD; rw [List.length_take, List.length_drop]; omega
theorem one_cps (c : Nat) : (⟨#[c]⟩ : Str).cps.toList = [c] := rfl
theorem app_cps (x y : Str) : (x ++ y).cps.toList = x.cps.toList ++ y.cps.toList := TL.tl_append x y
theorem q_cps (a b : Nat) : (Str.ofString "q" ++ (⟨#[a]⟩ : Str) ++ (⟨#[b]⟩ : Str)).cps.toList = [113, a, b] := by
  rw [app_cps, app_cps]
  have : (Str.ofString "q").cps.toList = [113] := by decide +kernel
  rw [this]; rfl
theorem q_len {a b : Nat} : (Str.ofString "q" ++ (⟨#[a]⟩ : Str) ++ (⟨#[b]⟩ : Str)).length = 3 := by
  have := congrArg List.length (q_cps a b)
  simpa [Str.length] using this
theorem q_wrd {a b : Nat} (ha : letter a) (hb : letter b) : NameOk (Str.ofString "q" ++ (⟨#[a]⟩ : Str) ++ (⟨#[b]⟩ : Str)) := by
  have e := q_cps a b
  have el : (Str.ofString "q" ++ (⟨#[a]⟩ : Str) ++ (⟨#[b]⟩ : Str)).length = 3 := by
    have := congrArg List.length e
    simpa [Str.length] using this
  refine ⟨⟨by omega, by omega, fun c hc => ?_⟩, fun z => ?_⟩
  · rw [e] at hc
    simp at hc
    rcases hc with rfl | rfl | rfl
    · exact ⟨by decide, by decide⟩
    · exact ha
    · exact hb
  · rw [z] at e
    have t : sTop.cps.toList = [116, 111, 112] := by decide +kernel
    rw [t] at e
    simp at e
theorem low_letters (z : Str) (h : (z.cps.toList.all fun c => decide (97 ≤ c) && decide (c ≤ 122)) = true) : ∀ c ∈ z.cps.toList, letter c := fun c hc => by
  have := List.all_eq_true.mp h c hc
  simp only [Bool.and_eq_true, decide_eq_true_eq] at this
  exact this
def nameS (x : Str) : Bool := decide (1 ≤ x.length) && decide (x.length ≤ 8) && !decide (x = sTop) && x.cps.toList.all fun c => decide (c ∈ alphabet.cps.toList)
def keysOf (rs : List Rw) : List Key := rs.map fun r => Sum.inr r.name
theorem abc_in {c : Nat} (h : letter c) : c ∈ alphabet.cps.toList := by
  have e : alphabet.cps.toList = [97, 98, 99, 100, 101, 102, 103, 104, 105, 106, 107, 108, 109, 110, 111, 112, 113, 114, 115, 116, 117, 118, 119, 120, 121, 122] := by decide +kernel
  rw [e]
  obtain ⟨h1, h2⟩ := h
  simp only [List.mem_cons, List.not_mem_nil, or_false]
  omega
theorem nameS_ok {x : Str} (h : NameOk x) : nameS x = true := by
  obtain ⟨⟨h1, h8, hl⟩, nt⟩ := h
  unfold nameS
  simp only [Bool.and_eq_true, decide_eq_true_eq, Bool.not_eq_true', decide_eq_false_iff_not, List.all_eq_true]
  exact ⟨⟨⟨h1, h8⟩, nt⟩, fun c hc => abc_in (hl c hc)⟩
theorem fols_in {pre : List Rw} {r : Rw} (h : RowOk pre r) : r.folder ∈ fols pre := by
  rcases h.fol with e | ⟨q, hq, e1, e2⟩
  · rw [e]; exact List.mem_cons_self
  · exact List.mem_cons_of_mem _ (List.mem_map.mpr ⟨q, List.mem_filter.mpr ⟨hq, decide_eq_true e2⟩, e1⟩)
theorem kinds_len {k : Str} (h : k ∈ kinds) : k.length ≤ 1000 := by
  simp only [kinds, List.mem_cons, List.not_mem_nil, or_false] at h
  rcases h with rfl | rfl | rfl <;> decide +kernel
theorem Good.mem {rs : List Rw} (h : Good rs) : ∀ r ∈ rs, NameOk r.name ∧ r.folder.length ≤ 1000 ∧ r.kind ∈ kinds ∧ PriceOk r.price := by
  induction h with
  | nil => intro r hr; exact nomatch hr
  | @snoc pre r g ok ih =>
    intro q hq
    rcases List.mem_append.mp hq with h | h
    · exact ih q h
    · rw [List.mem_singleton.mp h]
      refine ⟨ok.name, ?_, ok.kind, ok.price⟩
      rcases ok.fol with e | ⟨q', hq', e1, _⟩
      · rw [e]; decide +kernel
      · rw [← e1]; have := (ih q' hq').1.w.l8; omega
theorem Good.at_ {rs : List Rw} (h : Good rs) : ∀ (i : Nat) (r : Rw), rs[i]? = some r → RowOk (rs.take i) r := by
  induction h with
  | nil => intro i r e; simp at e
  | @snoc pre r0 g ok ih =>
    intro i r e
    by_cases hi : i < pre.length
    · rw [List.getElem?_append_left hi] at e
      rw [List.take_append_of_le_length (Nat.le_of_lt hi)]
      exact ih i r e
    · have hi' : i = pre.length := by
        have := (List.getElem?_eq_some_iff.mp e).1
        simp at this; omega
      subst hi'
      rw [List.getElem?_append_right (Nat.le_refl _)] at e
      simp at e
      subst e
      rw [List.take_append_of_le_length (Nat.le_refl _), List.take_length]
      exact ok
theorem fols_snoc (pre : List Rw) (r : Rw) : fols (pre ++ [r]) = fols pre ++ (if r.kind = sFolder then [r.name] else []) := by
  unfold fols
  rw [List.filter_append, List.filter_cons]
  by_cases h : r.kind = sFolder
  · simp [h]
  · simp [h]
def namesOf (rs : List Rw) : List Str := rs.map (·.name)
theorem keys_names (rs : List Rw) : keysOf rs = (namesOf rs).map Sum.inr := by simp [keysOf, namesOf]
theorem Good.nd {rs : List Rw} (h : Good rs) : (namesOf rs).Nodup := by
  induction h with
  | nil => exact List.nodup_nil
  | @snoc pre r g ok ih =>
    unfold namesOf at ih ⊢
    rw [List.map_append]
    refine List.nodup_append.mpr ⟨ih, by simp, fun a ha b hb e => ?_⟩
    simp at hb
    subst hb e
    obtain ⟨q, hq, e⟩ := List.mem_map.mp ha
    exact ok.new q hq e
def wayRev : List Rw → Str → List Str
  | [], _ => []
  | r :: rest, n => if n = r.name then wayRev rest r.folder ++ [n] else wayRev rest n
def way (rs : List Rw) (n : Str) : List Str := wayRev rs.reverse n
def fndRev (x : Str) : List Rw → List Str
  | [] => [x]
  | r :: rest => if r.folder ∈ fndRev x rest then fndRev x rest ++ [r.name] else fndRev x rest
def fnd (x : Str) (rs : List Rw) : List Str := fndRev x rs.reverse
theorem way_snoc (rs : List Rw) (r : Rw) (n : Str) : way (rs ++ [r]) n = if n = r.name then way rs r.folder ++ [n] else way rs n := by
  simp [way, wayRev]
theorem fnd_snoc (x : Str) (rs : List Rw) (r : Rw) : fnd x (rs ++ [r]) = if r.folder ∈ fnd x rs then fnd x rs ++ [r.name] else fnd x rs := by
  unfold fnd
  rw [List.reverse_append]
  rfl
theorem names_snoc (rs : List Rw) (r : Rw) : namesOf (rs ++ [r]) = namesOf rs ++ [r.name] := by simp [namesOf]
theorem RowOk.folIn {pre : List Rw} {r : Rw} (h : RowOk pre r) : r.folder = sTop ∨ r.folder ∈ namesOf pre := by
  rcases h.fol with e | ⟨q, hq, e, _⟩
  · exact .inl e
  · exact .inr (List.mem_map.mpr ⟨q, hq, e⟩)
theorem RowOk.newN {pre : List Rw} {r : Rw} (h : RowOk pre r) : r.name ∉ namesOf pre := fun z => by
  obtain ⟨q, hq, e⟩ := List.mem_map.mp z
  exact h.new q hq e
theorem RowOk.folNe {pre : List Rw} {r : Rw} (h : RowOk pre r) : r.folder ≠ r.name := fun e => by
  rcases h.folIn with z | z
  · exact h.name.nt (e ▸ z)
  · exact h.newN (e ▸ z)
theorem Good.wayIn {rs : List Rw} (h : Good rs) : ∀ n, ∀ m ∈ way rs n, m ∈ namesOf rs := by
  induction h with
  | nil => intro n m hm; exact nomatch hm
  | @snoc pre r g ok ih =>
    intro n m hm
    rw [way_snoc] at hm
    rw [names_snoc]
    by_cases e : n = r.name
    · rw [if_pos e] at hm
      rcases List.mem_append.mp hm with z | z
      · exact List.mem_append_left _ (ih _ _ z)
      · rw [List.mem_singleton.mp z, e]; exact List.mem_append_right _ List.mem_cons_self
    · rw [if_neg e] at hm
      exact List.mem_append_left _ (ih _ _ hm)
theorem Good.topNot {rs : List Rw} (h : Good rs) : sTop ∉ namesOf rs := fun z => by
  obtain ⟨q, hq, e⟩ := List.mem_map.mp z
  exact (h.mem q hq).1.nt e
theorem Good.wayTop {rs : List Rw} (h : Good rs) : way rs sTop = [] := by
  induction h with
  | nil => rfl
  | @snoc pre r g ok ih => rw [way_snoc, if_neg (fun z => ok.name.nt z.symm), ih]
theorem Good.wayStep {rs : List Rw} (h : Good rs) : ∀ r ∈ rs, way rs r.name = way rs r.folder ++ [r.name] := by
  induction h with
  | nil => intro r hr; exact nomatch hr
  | @snoc pre r g ok ih =>
    intro q hq
    rw [way_snoc, way_snoc]
    rcases List.mem_append.mp hq with z | z
    · have h1 : q.name ≠ r.name := fun e => ok.newN (e ▸ List.mem_map.mpr ⟨q, z, rfl⟩)
      have h2 : q.folder ≠ r.name := by
        obtain ⟨i, hi⟩ := List.mem_iff_getElem?.mp z
        rcases (g.at_ i q hi).folIn with e | e
        · rw [e]; exact fun e => ok.name.nt e.symm
        · intro e2
          rw [e2] at e
          obtain ⟨p, hp, e3⟩ := List.mem_map.mp e
          exact ok.new p (List.mem_of_mem_take hp) e3
      rw [if_neg h1, if_neg h2]
      exact ih q z
    · rw [List.mem_singleton.mp z, if_pos rfl, if_neg ok.folNe]
theorem Good.folIn {rs : List Rw} (h : Good rs) {q : Rw} (hq : q ∈ rs) : q.folder = sTop ∨ q.folder ∈ namesOf rs := by
  obtain ⟨i, hi⟩ := List.mem_iff_getElem?.mp hq
  rcases (h.at_ i q hi).folIn with e | e
  · exact .inl e
  · obtain ⟨p, hp, e3⟩ := List.mem_map.mp e
    exact .inr (List.mem_map.mpr ⟨p, List.mem_of_mem_take hp, e3⟩)
theorem fnd_sub {x m : Str} : ∀ {rs : List Rw}, Good rs → m ∈ fnd x rs → m = x ∨ m ∈ namesOf rs := by
  intro rs h
  induction h with
  | nil => intro hm; exact .inl (List.mem_singleton.mp hm)
  | @snoc pre r g ok ih =>
    intro hm
    rw [fnd_snoc] at hm
    rw [names_snoc]
    by_cases e : r.folder ∈ fnd x pre
    · rw [if_pos e] at hm
      rcases List.mem_append.mp hm with z | z
      · exact (ih z).imp_right (List.mem_append_left _)
      · exact .inr (List.mem_append_right _ z)
    · rw [if_neg e] at hm
      exact (ih hm).imp_right (List.mem_append_left _)
theorem fnd_way {x : Str} : ∀ {rs : List Rw}, Good rs → ∀ n, (n = sTop ∨ n ∈ namesOf rs) → (n ∈ fnd x rs ↔ x = sTop ∨ x ∈ way rs n) := by
  intro rs h
  induction h with
  | nil =>
    intro n hn
    rcases hn with rfl | z
    · have e : (sTop ∈ fnd x [] ↔ sTop = x) := List.mem_singleton
      rw [e]
      exact ⟨fun e => .inl e.symm, fun e => by rcases e with e | e; exact e.symm; exact nomatch e⟩
    · exact nomatch z
  | @snoc pre r g ok ih =>
    intro n hn
    rw [fnd_snoc, way_snoc]
    have fi := ih r.folder ok.folIn
    by_cases e : n = r.name
    · subst e
      rw [if_pos rfl]
      by_cases hf : r.folder ∈ fnd x pre
      · rw [if_pos hf]
        refine ⟨fun _ => ?_, fun _ => List.mem_append_right _ List.mem_cons_self⟩
        rcases fi.mp hf with z | z
        · exact .inl z
        · exact .inr (List.mem_append_left _ z)
      · rw [if_neg hf]
        refine ⟨fun z => ?_, fun z => ?_⟩
        · rcases fnd_sub g z with e | e
          · exact .inr (List.mem_append_right _ (by rw [e]; exact List.mem_cons_self))
          · exact (ok.newN e).elim
        · rcases z with z | z
          · exact (hf (fi.mpr (.inl z))).elim
          · rcases List.mem_append.mp z with z | z
            · exact (hf (fi.mpr (.inr z))).elim
            · rw [← List.mem_singleton.mp z]
              clear ih fi hf
              have : ∀ l : List Rw, x ∈ fndRev x l := by
                intro l
                induction l with
                | nil => exact List.mem_singleton.mpr rfl
                | cons a l ih =>
                  unfold fndRev
                  split
                  · exact List.mem_append_left _ ih
                  · exact ih
              exact this _
    · rw [if_neg e]
      have hn' : n = sTop ∨ n ∈ namesOf pre := by
        rcases hn with z | z
        · exact .inl z
        · rw [names_snoc] at z
          rcases List.mem_append.mp z with z | z
          · exact .inr z
          · exact (e (List.mem_singleton.mp z)).elim
      rw [← ih n hn']
      by_cases hf : r.folder ∈ fnd x pre
      · rw [if_pos hf]
        refine ⟨fun z => ?_, List.mem_append_left _⟩
        rcases List.mem_append.mp z with z | z
        · exact z
        · exact (e (List.mem_singleton.mp z)).elim
      · rw [if_neg hf]
theorem fnd_new {x : Str} {rs : List Rw} {r : Rw} (g : Good rs) (ok : RowOk rs r) (h : r.folder ∈ fnd x rs) : r.name ∉ fnd x rs := fun z => by
  rcases fnd_sub g z with e | e
  · rcases (fnd_way g _ ok.folIn).mp h with q | q
    · exact ok.name.nt (e.trans q)
    · exact ok.newN (e ▸ g.wayIn _ _ q)
  · exact ok.newN e
theorem fnd_len (x : Str) (rs : List Rw) : (fnd x rs).length ≤ rs.length + 1 := by
  have : ∀ l : List Rw, (fndRev x l).length ≤ l.length + 1 := by
    intro l
    induction l with
    | nil => simp [fndRev]
    | cons a l ih => unfold fndRev; split <;> simp <;> omega
  have := this rs.reverse
  simpa [fnd] using this
theorem Good.takeG {rs : List Rw} (h : Good rs) : ∀ i, Good (rs.take i) := by
  induction h with
  | nil => intro i; rw [List.take_nil]; exact .nil
  | @snoc pre r g ok ih =>
    intro i
    by_cases hi : i ≤ pre.length
    · rw [List.take_append_of_le_length hi]; exact ih i
    · rw [List.take_of_length_le (by simp; omega)]; exact .snoc g ok
def insideL (rs : List Rw) (x : Str) : List Str := (rs.filter fun r => decide (r.folder = x)).map (·.name)
def belowL (rs : List Rw) (x : Str) : List Str := (namesOf rs).filter fun n => decide (n ∈ fnd x rs) && decide (n ≠ x)
theorem way_le {rs : List Rw} : ∀ n, (way rs n).length ≤ rs.length := by
  have : ∀ (l : List Rw) n, (wayRev l n).length ≤ l.length := by
    intro l
    induction l with
    | nil => intro n; exact Nat.le_refl _
    | cons a l ih =>
      intro n
      unfold wayRev
      split
      · have := ih a.folder; simp; omega
      · have := ih n; simp; omega
  intro n
  have := this rs.reverse n
  simpa [way] using this
theorem ok_name' {x : Str} (h : NameOk x) : PyData.strOk x = true := ok_str fun c hc => by have := (h.w.ls c hc).2; omega
theorem ok_top : PyData.strOk sTop = true := by decide +kernel
theorem ok_kind {k : Str} (h : k ∈ kinds) : PyData.strOk k = true := by
  simp only [kinds, List.mem_cons, List.not_mem_nil, or_false] at h
  rcases h with rfl | rfl | rfl <;> decide +kernel
theorem ok_box {rs : List Rw} {x : Str} (h : Good rs) (hx : x = sTop ∨ x ∈ namesOf rs) : PyData.strOk x = true := by
  rcases hx with rfl | z
  · exact ok_top
  · obtain ⟨r, hr, rfl⟩ := List.mem_map.mp z
    exact ok_name' (h.mem r hr).1
theorem cmp_price (p : Option Int) : CmpN 1 (priceD p) := by
  cases p with
  | none => exact cmpN_non
  | some n => exact cmpN_int n
theorem cmp_told {rs : List Rw} {r : Rw} (h : Good rs) (hr : r ∈ rs) : CmpN 2 (.tup [.str r.folder, .str r.kind, priceD r.price]) := cmpN_tup fun d hd => by
  simp only [List.mem_cons, List.not_mem_nil, or_false] at hd
  rcases hd with rfl | rfl | rfl
  · exact cmpN_str (ok_box h (h.folIn hr))
  · exact cmpN_str (ok_kind (h.mem r hr).2.2.1)
  · exact cmp_price _
theorem cmp_row {rs : List Rw} {r : Rw} (h : Good rs) (hr : r ∈ rs) : CmpN 2 (rowD r) := cmpN_tup fun d hd => by
  simp only [List.mem_cons, List.not_mem_nil, or_false] at hd
  rcases hd with rfl | rfl | rfl | rfl
  · exact cmpN_str (ok_name' (h.mem r hr).1)
  · exact cmpN_str (ok_box h (h.folIn hr))
  · exact cmpN_str (ok_kind (h.mem r hr).2.2.1)
  · exact cmp_price _
theorem cmp_rows {rs : List Rw} (h : Good rs) : CmpN 3 (.lst (rs.map rowD)) := cmpN_lst fun d hd => by
  obtain ⟨r, hr, rfl⟩ := List.mem_map.mp hd
  exact cmp_row h hr
theorem cmp_names {rs : List Rw} (h : Good rs) {l : List Str} (hl : ∀ x ∈ l, x ∈ namesOf rs) : CmpN 2 (.lst (l.map D.str)) := cmpN_lst fun d hd => by
  obtain ⟨x, hx, rfl⟩ := List.mem_map.mp hd
  exact cmpN_str (ok_box h (.inr (hl x hx)))
theorem inside_sub (rs : List Rw) (x : Str) : ∀ y ∈ insideL rs x, y ∈ namesOf rs := fun y hy => by
  obtain ⟨r, hr, rfl⟩ := List.mem_map.mp hy
  exact List.mem_map.mpr ⟨r, (List.mem_filter.mp hr).1, rfl⟩
theorem below_sub (rs : List Rw) (x : Str) : ∀ y ∈ belowL rs x, y ∈ namesOf rs := fun y hy => (List.mem_filter.mp hy).1
end TM
set_option maxRecDepth 100000
set_option maxHeartbeats 2000000
local macro_rules | `(tactic| rw_mod_cast ["A", $[$ts:term],*]) => `(tactic| simp only [EW.run_eq, EW.endF_nx, EW.endF_rt, EW.endF_ex, EW.endF_no, EW.evSs, EW.evS, EW.evE, EW.evT, EW.evEs, ↓EW.bind_eq, EW.bnd_ok, EW.bnd_ex, EW.bnd_no, EW.Out.run_ok, EW.Out.run_ex, EW.Out.run_no, ↓EW.thn_eq, EW.thk_nx, EW.thk_rt, EW.thk_bk, EW.thk_ct, EW.thk_ex, EW.thk_no, EW.arg_fz, EW.arg_cel, EW.arg_nw, EW.argO_ok, EW.argO_ex, EW.argO_no, EW.nm_fz, EW.nm_cel, EW.rnm_fz, EW.rnm_nw, EW.rnm_cel, EW.res_fz, EW.res_cel, EW.fr_fz, EW.fr_cel, EW.fr_nw, EW.mkc_nw, EW.mkc_fz, EW.mkc_cel, EW.outO_some, EW.outO_none, EW.ofO_some, EW.ofO_none, EW.iceOf, EW.startE, List.map_cons, List.map_nil, List.length_cons, List.length_nil, List.getElem?_cons_zero, List.getElem?_cons_succ, List.set_cons_zero, List.set_cons_succ, List.cons_append, List.nil_append, List.replicate, ↓reduceIte, reduceCtorEq, Nat.reduceAdd, Nat.reduceSub, Nat.reduceEqDiff, Option.map_some, Option.map_none, EW.cast_lit, Int.reduceEq, eq_self, EW.binO, EW.insF, EW.ixR, EW.dctV, EW.seqV, EW.lsqV, EW.lstV, EW.tupV, EW.insV, EW.atI_0, EW.atI_1, EW.atI_2, EW.atI_3, EW.ixN_0, EW.ixN_1, EW.ixN_2, EW.ixN_3, EW.binR, EW.op_add_, EW.op_sub_, EW.op_mul_, EW.op_mod_, EW.op_div_, EW.pow_10_18, EW.op_pow_, EW.mulB_l, EW.mulB_r, EW.cmpR, EW.intCmp, EW.truth, EW.bltR, EW.len_str, EW.len_lst, EW.len_tup, EW.len_rol, EW.len_rot, EW.len_dct, EW.len_cel, EW.putR, decide_true, decide_false, Bool.false_eq_true, Int.reduceLE, Int.reduceLT, Int.reduceToNat, Int.reducePow, Int.reduceNeg, Nat.reducePow, Option.bind_some, Option.bind_none, EW.lend, EW.lendW, EW.lendS, EW.cellsOf, EW.picks, EW.renum, EW.give, EW.O.flat, EW.O.frozen, EW.fzAll, EW.Res.ok, List.nodup_nil, List.nodup_cons, List.not_mem_nil, List.mem_cons, not_false_eq_true, and_self, or_false, Option.isSome_some, Option.isSome_none, EW.fx_df, EW.fx_dm, EW.fx_fl, EW.fx_gd, EW.fx_kc, EW.finR, EW.finB, EW.finC, EW.closed, EW.Res.nmO, EW.nmM, EW.O.nm, EW.O.below, EW.O.refs, List.take, List.all_cons, List.all_nil, Bool.and_self, Bool.and_true, Bool.true_and, Nat.add_zero, EW.big, Nat.reduceLeDiff, Nat.reduceLT, List.length_map, List.length_append, EW.fzAll_append, EW.mutV, EW.putL, List.map_append, List.map_map, Function.comp_def, EW.fzAll_mapf, EW.fzAll_fz, ↓EW.lc_eq, ↓EW.dc_eq, EW.keyO, ↓EW.loop_eq, ↓EW.wloop_eq, EW.bmRecv, EW.bmtR, EW.walkR, EW.itemsR, EW.seqI, EW.wipeD, EW.setAllV, EW.bindI, EW.chk, List.set_nil, EW.keysPs_mapf, EW.hasK_str, EW.hasK_strs, EW.blOf_mapf, EW.blOf_D, EW.intsOf_mapf, EW.arr1, EW.isiR, EW.isi1, EW.D.tyn, EW.O.tyn, EW.Res.tyn, EW.tyIs, EW.tyOk, EW.tyNames, String.reduceBEq, Bool.or_false, Bool.false_or, Bool.or_true, Bool.true_or, Bool.or_self, Bool.and_false, Bool.false_and, Bool.not_true, Bool.not_false, List.any_cons, List.any_nil, EW.eqR, EW.inR, EW.Res.data, EW.O.data, EW.ng_f, EW.ng_t, EW.cmpB_int, EW.cmpB_non, EW.cmpB_bl, EW.eqD_str, EW.eqD_int, EW.eqD_strs, EW.eqD_strsf, EW.D.key, EW.D.fl, EW.inV_str, EW.inV_strs, EW.fls_str, List.map_id_fun', List.map_id', EW.tidyE, EW.tidyM, EW.nmE, EW.envB, EW.Val.below, EW.cellsOf_mapf, EW.cellsOf_fz, EW.cellsOf_append, List.append_nil, $[$ts:term],*])
local macro_rules | `(tactic| rw_mod_cast ["AM", $[$ts:term],*]) => `(tactic| simp only [EW.run_eq, EW.endF_nx, EW.endF_rt, EW.endF_ex, EW.endF_no, EW.evSs, EW.evS, EW.evE, EW.evT, EW.evEs, ↓EW.bind_eq, EW.bnd_ok, EW.bnd_ex, EW.bnd_no, EW.Out.run_ok, EW.Out.run_ex, EW.Out.run_no, ↓EW.thn_eq, EW.thk_nx, EW.thk_rt, EW.thk_bk, EW.thk_ct, EW.thk_ex, EW.thk_no, EW.arg_fz, EW.arg_cel, EW.arg_nw, EW.argO_ok, EW.argO_ex, EW.argO_no, EW.nm_fz, EW.nm_cel, EW.rnm_fz, EW.rnm_nw, EW.rnm_cel, EW.res_fz, EW.res_cel, EW.fr_fz, EW.fr_cel, EW.fr_nw, EW.mkc_nw, EW.mkc_fz, EW.mkc_cel, EW.outO_some, EW.outO_none, EW.ofO_some, EW.ofO_none, EW.iceOf, EW.startE, List.map_cons, List.map_nil, List.length_cons, List.length_nil, List.getElem?_cons_zero, List.getElem?_cons_succ, List.set_cons_zero, List.set_cons_succ, List.cons_append, List.nil_append, List.replicate, ↓reduceIte, reduceCtorEq, Nat.reduceAdd, Nat.reduceSub, Nat.reduceEqDiff, Option.map_some, Option.map_none, EW.cast_lit, Int.reduceEq, eq_self, EW.binO, EW.insF, EW.ixR, EW.dctV, EW.seqV, EW.lsqV, EW.lstV, EW.tupV, EW.insV, EW.atI_0, EW.atI_1, EW.atI_2, EW.atI_3, EW.ixN_0, EW.ixN_1, EW.ixN_2, EW.ixN_3, EW.binR, EW.op_add_, EW.op_sub_, EW.op_mul_, EW.op_mod_, EW.op_div_, EW.pow_10_18, EW.op_pow_, EW.mulB_l, EW.mulB_r, EW.cmpR, EW.intCmp, EW.truth, EW.bltR, EW.len_str, EW.len_lst, EW.len_tup, EW.len_rol, EW.len_rot, EW.len_dct, EW.len_cel, EW.putR, decide_true, decide_false, Bool.false_eq_true, Int.reduceLE, Int.reduceLT, Int.reduceToNat, Int.reducePow, Int.reduceNeg, Nat.reducePow, Option.bind_some, Option.bind_none, EW.lend, EW.lendW, EW.lendS, EW.cellsOf, EW.picks, EW.renum, EW.give, EW.O.flat, EW.O.frozen, EW.fzAll, EW.Res.ok, List.nodup_nil, List.nodup_cons, List.not_mem_nil, List.mem_cons, not_false_eq_true, and_self, or_false, Option.isSome_some, Option.isSome_none, EW.fx_df, EW.fx_dm, EW.fx_fl, EW.fx_gd, EW.fx_kc, EW.finR, EW.finB, EW.finC, EW.closed, EW.Res.nmO, EW.nmM, EW.O.nm, EW.O.below, EW.O.refs, List.take, List.all_cons, List.all_nil, Bool.and_self, Bool.and_true, Bool.true_and, Nat.add_zero, EW.big, Nat.reduceLeDiff, Nat.reduceLT, List.length_map, List.length_append, EW.fzAll_append, EW.mutV, EW.putL, List.map_append, List.map_map, Function.comp_def, EW.fzAll_mapf, EW.fzAll_fz, ↓EW.lc_eq, ↓EW.dc_eq, EW.keyO, ↓EW.loop_eq, ↓EW.wloop_eq, EW.bmRecv, EW.bmtR, EW.walkR, EW.itemsR, EW.seqI, EW.wipeD, EW.setAllV, EW.bindI, EW.chk, List.set_nil, EW.keysPs_mapf, EW.hasK_str, EW.hasK_strs, EW.blOf_mapf, EW.blOf_D, EW.intsOf_mapf, EW.arr1, EW.isiR, EW.isi1, EW.D.tyn, EW.O.tyn, EW.Res.tyn, EW.tyIs, EW.tyOk, EW.tyNames, String.reduceBEq, Bool.or_false, Bool.false_or, Bool.or_true, Bool.true_or, Bool.or_self, Bool.and_false, Bool.false_and, Bool.not_true, Bool.not_false, List.any_cons, List.any_nil, EW.eqR, EW.inR, EW.Res.data, EW.O.data, EW.ng_f, EW.ng_t, EW.cmpB_int, EW.cmpB_non, EW.cmpB_bl, EW.eqD_str, EW.eqD_int, EW.eqD_strs, EW.eqD_strsf, EW.D.key, EW.D.fl, EW.inV_str, EW.inV_strs, EW.fls_str, List.map_id_fun', List.map_id', EW.tidyE, EW.tidyM, EW.nmE, EW.envB, EW.Val.below, EW.cellsOf_mapf, EW.cellsOf_fz, EW.cellsOf_append, List.append_nil, ne_eq, List.drop_zero, List.take_zero, Nat.add_eq_left, Nat.succ_ne_self, EW.one_ne_zero_, and_true, EW.app_at, EW.app_at0, EW.app_set, EW.app_set0, EW.app_take, EW.app_take0, EW.nm_app, List.append_assoc, EW.fldR, List.idxOf?_cons, List.idxOf?_nil, Nat.reduceBEq, Nat.lt_add_right_iff_pos, EW.cellAt, EW.iceR, $[$ts:term],*])
local macro_rules | `(tactic| rw_mod_cast ["NM", $[$ts:term],*]) => `(tactic| simp only [EW.run_eq, EW.endF_nx, EW.endF_rt, EW.endF_ex, EW.endF_no, EW.evSs, EW.evS, EW.evE, EW.evT, EW.evEs, ↓EW.bind_eq, EW.bnd_ok, EW.bnd_ex, EW.bnd_no, EW.Out.run_ok, EW.Out.run_ex, EW.Out.run_no, ↓EW.thn_eq, EW.thk_nx, EW.thk_rt, EW.thk_bk, EW.thk_ct, EW.thk_ex, EW.thk_no, EW.arg_fz, EW.arg_cel, EW.arg_nw, EW.argO_ok, EW.argO_ex, EW.argO_no, EW.nm_fz, EW.nm_cel, EW.rnm_fz, EW.rnm_nw, EW.rnm_cel, EW.res_fz, EW.res_cel, EW.fr_fz, EW.fr_cel, EW.fr_nw, EW.mkc_nw, EW.mkc_fz, EW.mkc_cel, EW.outO_some, EW.outO_none, EW.ofO_some, EW.ofO_none, EW.iceOf, EW.startE, List.map_cons, List.map_nil, List.length_cons, List.length_nil, List.getElem?_cons_zero, List.getElem?_cons_succ, List.set_cons_zero, List.set_cons_succ, List.cons_append, List.nil_append, List.replicate, ↓reduceIte, reduceCtorEq, Nat.reduceAdd, Nat.reduceSub, Nat.reduceEqDiff, Option.map_some, Option.map_none, EW.cast_lit, Int.reduceEq, eq_self, EW.binO, EW.insF, EW.ixR, EW.dctV, EW.seqV, EW.lsqV, EW.lstV, EW.tupV, EW.insV, EW.atI_0, EW.atI_1, EW.atI_2, EW.atI_3, EW.ixN_0, EW.ixN_1, EW.ixN_2, EW.ixN_3, EW.binR, EW.op_add_, EW.op_sub_, EW.op_mul_, EW.op_mod_, EW.op_div_, EW.pow_10_18, EW.op_pow_, EW.mulB_l, EW.mulB_r, EW.cmpR, EW.intCmp, EW.truth, EW.bltR, EW.len_str, EW.len_lst, EW.len_tup, EW.len_rol, EW.len_rot, EW.len_dct, EW.len_cel, EW.putR, decide_true, decide_false, Bool.false_eq_true, Int.reduceLE, Int.reduceLT, Int.reduceToNat, Int.reducePow, Int.reduceNeg, Nat.reducePow, Option.bind_some, Option.bind_none, EW.lend, EW.lendW, EW.lendS, EW.cellsOf, EW.picks, EW.renum, EW.give, EW.O.flat, EW.O.frozen, EW.fzAll, EW.Res.ok, List.nodup_nil, List.nodup_cons, List.not_mem_nil, List.mem_cons, not_false_eq_true, and_self, or_false, Option.isSome_some, Option.isSome_none, EW.fx_df, EW.fx_dm, EW.fx_fl, EW.fx_gd, EW.fx_kc, EW.finR, EW.finB, EW.finC, EW.closed, EW.Res.nmO, EW.nmM, EW.O.nm, EW.O.below, EW.O.refs, List.take, List.all_cons, List.all_nil, Bool.and_self, Bool.and_true, Bool.true_and, Nat.add_zero, EW.big, Nat.reduceLeDiff, Nat.reduceLT, List.length_map, List.length_append, EW.fzAll_append, EW.mutV, EW.putL, List.map_append, List.map_map, Function.comp_def, EW.fzAll_mapf, EW.fzAll_fz, ↓EW.lc_eq, ↓EW.dc_eq, EW.keyO, ↓EW.loop_eq, ↓EW.wloop_eq, EW.bmRecv, EW.bmtR, EW.walkR, EW.itemsR, EW.seqI, EW.wipeD, EW.setAllV, EW.bindI, EW.chk, List.set_nil, EW.keysPs_mapf, EW.hasK_str, EW.hasK_strs, EW.blOf_mapf, EW.blOf_D, EW.intsOf_mapf, EW.arr1, EW.isiR, EW.isi1, EW.D.tyn, EW.O.tyn, EW.Res.tyn, EW.tyIs, EW.tyOk, EW.tyNames, String.reduceBEq, Bool.or_false, Bool.false_or, Bool.or_true, Bool.true_or, Bool.or_self, Bool.and_false, Bool.false_and, Bool.not_true, Bool.not_false, List.any_cons, List.any_nil, EW.eqR, EW.Res.data, EW.O.data, EW.ng_f, EW.ng_t, EW.cmpB_int, EW.cmpB_non, EW.cmpB_bl, EW.eqD_str, EW.eqD_int, EW.eqD_strs, EW.eqD_strsf, EW.D.key, EW.D.fl, EW.inV_str, EW.inV_strs, EW.fls_str, List.map_id_fun', List.map_id', EW.tidyE, EW.tidyM, EW.nmE, EW.envB, EW.Val.below, EW.cellsOf_mapf, EW.cellsOf_fz, EW.cellsOf_append, List.append_nil, ne_eq, List.drop_zero, List.take_zero, Nat.add_eq_left, Nat.succ_ne_self, EW.one_ne_zero_, and_true, EW.app_at, EW.app_at0, EW.app_set, EW.app_set0, EW.app_take, EW.app_take0, EW.nm_app, List.append_assoc, EW.fldR, List.idxOf?_cons, List.idxOf?_nil, Nat.reduceBEq, Nat.lt_add_right_iff_pos, EW.cellAt, EW.iceR, $[$ts:term],*])
local macro_rules | `(tactic| rw_mod_cast ["QM", $[$ts:term],*]) => `(tactic| simp only [EW.run_eq, EW.endF_nx, EW.endF_rt, EW.endF_ex, EW.endF_no, EW.evSs, EW.evS, EW.evE, EW.evT, EW.evEs, ↓EW.bind_eq, EW.bnd_ok, EW.bnd_ex, EW.bnd_no, EW.Out.run_ok, EW.Out.run_ex, EW.Out.run_no, ↓EW.thn_eq, EW.thk_nx, EW.thk_rt, EW.thk_bk, EW.thk_ct, EW.thk_ex, EW.thk_no, EW.arg_fz, EW.arg_cel, EW.arg_nw, EW.argO_ok, EW.argO_ex, EW.argO_no, EW.nm_fz, EW.nm_cel, EW.rnm_fz, EW.rnm_nw, EW.rnm_cel, EW.res_fz, EW.res_cel, EW.fr_fz, EW.fr_cel, EW.fr_nw, EW.mkc_nw, EW.mkc_fz, EW.mkc_cel, EW.outO_some, EW.outO_none, EW.ofO_some, EW.ofO_none, EW.iceOf, EW.startE, List.map_cons, List.map_nil, List.length_cons, List.length_nil, List.getElem?_cons_zero, List.getElem?_cons_succ, List.set_cons_zero, List.set_cons_succ, List.cons_append, List.nil_append, List.replicate, ↓reduceIte, reduceCtorEq, Nat.reduceAdd, Nat.reduceSub, Nat.reduceEqDiff, Option.map_some, Option.map_none, EW.cast_lit, Int.reduceEq, eq_self, EW.binO, EW.insF, EW.ixR, EW.dctV, EW.seqV, EW.lsqV, EW.lstV, EW.tupV, EW.insV, EW.atI_0, EW.atI_1, EW.atI_2, EW.atI_3, EW.ixN_0, EW.ixN_1, EW.ixN_2, EW.ixN_3, EW.binR, EW.op_add_, EW.op_sub_, EW.op_mul_, EW.op_mod_, EW.op_div_, EW.pow_10_18, EW.op_pow_, EW.mulB_l, EW.mulB_r, EW.cmpR, EW.intCmp, EW.truth, EW.bltR, EW.len_str, EW.len_lst, EW.len_tup, EW.len_rol, EW.len_rot, EW.len_dct, EW.len_cel, EW.putR, decide_true, decide_false, Bool.false_eq_true, Int.reduceLE, Int.reduceLT, Int.reduceToNat, Int.reducePow, Int.reduceNeg, Nat.reducePow, Option.bind_some, Option.bind_none, EW.lend, EW.lendW, EW.lendS, EW.cellsOf, EW.picks, EW.renum, EW.give, EW.O.flat, EW.O.frozen, EW.fzAll, EW.Res.ok, List.nodup_nil, List.nodup_cons, List.not_mem_nil, List.mem_cons, not_false_eq_true, and_self, or_false, Option.isSome_some, Option.isSome_none, EW.fx_df, EW.fx_dm, EW.fx_fl, EW.fx_gd, EW.fx_kc, EW.finR, EW.finB, EW.finC, EW.closed, EW.Res.nmO, EW.nmM, EW.O.nm, EW.O.below, EW.O.refs, List.take, List.all_cons, List.all_nil, Bool.and_self, Bool.and_true, Bool.true_and, Nat.add_zero, EW.big, Nat.reduceLeDiff, Nat.reduceLT, List.length_map, List.length_append, EW.fzAll_append, EW.mutV, EW.putL, List.map_append, List.map_map, Function.comp_def, EW.fzAll_mapf, EW.fzAll_fz, ↓EW.lc_eq, ↓EW.dc_eq, EW.keyO, ↓EW.loop_eq, ↓EW.wloop_eq, EW.bmRecv, EW.bmtR, EW.walkR, EW.itemsR, EW.seqI, EW.wipeD, EW.setAllV, EW.bindI, EW.chk, List.set_nil, EW.keysPs_mapf, EW.hasK_str, EW.hasK_strs, EW.blOf_mapf, EW.blOf_D, EW.intsOf_mapf, EW.arr1, EW.isiR, EW.isi1, EW.D.tyn, EW.O.tyn, EW.Res.tyn, EW.tyIs, EW.tyOk, EW.tyNames, String.reduceBEq, Bool.or_false, Bool.false_or, Bool.or_true, Bool.true_or, Bool.or_self, Bool.and_false, Bool.false_and, Bool.not_true, Bool.not_false, List.any_cons, List.any_nil, EW.inR, EW.Res.data, EW.O.data, EW.ng_f, EW.ng_t, EW.cmpB_int, EW.cmpB_non, EW.cmpB_bl, EW.eqD_str, EW.eqD_int, EW.eqD_strs, EW.eqD_strsf, EW.D.key, EW.D.fl, EW.inV_str, EW.inV_strs, EW.fls_str, List.map_id_fun', List.map_id', EW.tidyE, EW.tidyM, EW.nmE, EW.envB, EW.Val.below, EW.cellsOf_mapf, EW.cellsOf_fz, EW.cellsOf_append, List.append_nil, ne_eq, List.drop_zero, List.take_zero, Nat.add_eq_left, Nat.succ_ne_self, EW.one_ne_zero_, and_true, EW.app_at, EW.app_at0, EW.app_set, EW.app_set0, EW.app_take, EW.app_take0, EW.nm_app, List.append_assoc, EW.fldR, List.idxOf?_cons, List.idxOf?_nil, Nat.reduceBEq, Nat.lt_add_right_iff_pos, EW.cellAt, EW.iceR, $[$ts:term],*])
local macro_rules | `(tactic| rw_mod_cast ["N", $[$ts:term],*]) => `(tactic| simp only [EW.run_eq, EW.endF_nx, EW.endF_rt, EW.endF_ex, EW.endF_no, EW.evSs, EW.evS, EW.evE, EW.evT, EW.evEs, ↓EW.bind_eq, EW.bnd_ok, EW.bnd_ex, EW.bnd_no, EW.Out.run_ok, EW.Out.run_ex, EW.Out.run_no, ↓EW.thn_eq, EW.thk_nx, EW.thk_rt, EW.thk_bk, EW.thk_ct, EW.thk_ex, EW.thk_no, EW.arg_fz, EW.arg_cel, EW.arg_nw, EW.argO_ok, EW.argO_ex, EW.argO_no, EW.nm_fz, EW.nm_cel, EW.rnm_fz, EW.rnm_nw, EW.rnm_cel, EW.res_fz, EW.res_cel, EW.fr_fz, EW.fr_cel, EW.fr_nw, EW.mkc_nw, EW.mkc_fz, EW.mkc_cel, EW.outO_some, EW.outO_none, EW.ofO_some, EW.ofO_none, EW.iceOf, EW.startE, List.map_cons, List.map_nil, List.length_cons, List.length_nil, List.getElem?_cons_zero, List.getElem?_cons_succ, List.set_cons_zero, List.set_cons_succ, List.cons_append, List.nil_append, List.replicate, ↓reduceIte, reduceCtorEq, Nat.reduceAdd, Nat.reduceSub, Nat.reduceEqDiff, Option.map_some, Option.map_none, EW.cast_lit, Int.reduceEq, eq_self, EW.binO, EW.insF, EW.ixR, EW.dctV, EW.seqV, EW.lsqV, EW.lstV, EW.tupV, EW.insV, EW.atI_0, EW.atI_1, EW.atI_2, EW.atI_3, EW.ixN_0, EW.ixN_1, EW.ixN_2, EW.ixN_3, EW.binR, EW.op_add_, EW.op_sub_, EW.op_mul_, EW.op_mod_, EW.op_div_, EW.pow_10_18, EW.op_pow_, EW.mulB_l, EW.mulB_r, EW.cmpR, EW.intCmp, EW.truth, EW.bltR, EW.len_str, EW.len_lst, EW.len_tup, EW.len_rol, EW.len_rot, EW.len_dct, EW.len_cel, EW.putR, decide_true, decide_false, Bool.false_eq_true, Int.reduceLE, Int.reduceLT, Int.reduceToNat, Int.reducePow, Int.reduceNeg, Nat.reducePow, Option.bind_some, Option.bind_none, EW.lend, EW.lendW, EW.lendS, EW.cellsOf, EW.picks, EW.renum, EW.give, EW.O.flat, EW.O.frozen, EW.fzAll, EW.Res.ok, List.nodup_nil, List.nodup_cons, List.not_mem_nil, List.mem_cons, not_false_eq_true, and_self, or_false, Option.isSome_some, Option.isSome_none, EW.fx_df, EW.fx_dm, EW.fx_fl, EW.fx_gd, EW.fx_kc, EW.finR, EW.finB, EW.finC, EW.closed, EW.Res.nmO, EW.nmM, EW.O.nm, EW.O.below, EW.O.refs, List.take, List.all_cons, List.all_nil, Bool.and_self, Bool.and_true, Bool.true_and, Nat.add_zero, EW.big, Nat.reduceLeDiff, Nat.reduceLT, List.length_map, List.length_append, EW.fzAll_append, EW.mutV, EW.putL, List.map_append, List.map_map, Function.comp_def, EW.fzAll_mapf, EW.fzAll_fz, ↓EW.lc_eq, ↓EW.dc_eq, EW.keyO, ↓EW.loop_eq, ↓EW.wloop_eq, EW.bmRecv, EW.bmtR, EW.walkR, EW.itemsR, EW.seqI, EW.wipeD, EW.setAllV, EW.bindI, EW.chk, List.set_nil, EW.keysPs_mapf, EW.hasK_str, EW.hasK_strs, EW.blOf_mapf, EW.blOf_D, EW.intsOf_mapf, EW.arr1, EW.isiR, EW.isi1, EW.D.tyn, EW.O.tyn, EW.Res.tyn, EW.tyIs, EW.tyOk, EW.tyNames, String.reduceBEq, Bool.or_false, Bool.false_or, Bool.or_true, Bool.true_or, Bool.or_self, Bool.and_false, Bool.false_and, Bool.not_true, Bool.not_false, List.any_cons, List.any_nil, EW.eqR, EW.Res.data, EW.O.data, EW.ng_f, EW.ng_t, EW.cmpB_int, EW.cmpB_non, EW.cmpB_bl, EW.eqD_str, EW.eqD_int, EW.eqD_strs, EW.eqD_strsf, EW.D.key, EW.D.fl, EW.inV_str, EW.inV_strs, EW.fls_str, List.map_id_fun', List.map_id', EW.tidyE, EW.tidyM, EW.nmE, EW.envB, EW.Val.below, EW.cellsOf_mapf, EW.cellsOf_fz, EW.cellsOf_append, List.append_nil, $[$ts:term],*])
local macro_rules | `(tactic| rw_mod_cast ["Q", $[$ts:term],*]) => `(tactic| simp only [EW.run_eq, EW.endF_nx, EW.endF_rt, EW.endF_ex, EW.endF_no, EW.evSs, EW.evS, EW.evE, EW.evT, EW.evEs, ↓EW.bind_eq, EW.bnd_ok, EW.bnd_ex, EW.bnd_no, EW.Out.run_ok, EW.Out.run_ex, EW.Out.run_no, ↓EW.thn_eq, EW.thk_nx, EW.thk_rt, EW.thk_bk, EW.thk_ct, EW.thk_ex, EW.thk_no, EW.arg_fz, EW.arg_cel, EW.arg_nw, EW.argO_ok, EW.argO_ex, EW.argO_no, EW.nm_fz, EW.nm_cel, EW.rnm_fz, EW.rnm_nw, EW.rnm_cel, EW.res_fz, EW.res_cel, EW.fr_fz, EW.fr_cel, EW.fr_nw, EW.mkc_nw, EW.mkc_fz, EW.mkc_cel, EW.outO_some, EW.outO_none, EW.ofO_some, EW.ofO_none, EW.iceOf, EW.startE, List.map_cons, List.map_nil, List.length_cons, List.length_nil, List.getElem?_cons_zero, List.getElem?_cons_succ, List.set_cons_zero, List.set_cons_succ, List.cons_append, List.nil_append, List.replicate, ↓reduceIte, reduceCtorEq, Nat.reduceAdd, Nat.reduceSub, Nat.reduceEqDiff, Option.map_some, Option.map_none, EW.cast_lit, Int.reduceEq, eq_self, EW.binO, EW.insF, EW.ixR, EW.dctV, EW.seqV, EW.lsqV, EW.lstV, EW.tupV, EW.insV, EW.atI_0, EW.atI_1, EW.atI_2, EW.atI_3, EW.ixN_0, EW.ixN_1, EW.ixN_2, EW.ixN_3, EW.binR, EW.op_add_, EW.op_sub_, EW.op_mul_, EW.op_mod_, EW.op_div_, EW.pow_10_18, EW.op_pow_, EW.mulB_l, EW.mulB_r, EW.cmpR, EW.intCmp, EW.truth, EW.bltR, EW.len_str, EW.len_lst, EW.len_tup, EW.len_rol, EW.len_rot, EW.len_dct, EW.len_cel, EW.putR, decide_true, decide_false, Bool.false_eq_true, Int.reduceLE, Int.reduceLT, Int.reduceToNat, Int.reducePow, Int.reduceNeg, Nat.reducePow, Option.bind_some, Option.bind_none, EW.lend, EW.lendW, EW.lendS, EW.cellsOf, EW.picks, EW.renum, EW.give, EW.O.flat, EW.O.frozen, EW.fzAll, EW.Res.ok, List.nodup_nil, List.nodup_cons, List.not_mem_nil, List.mem_cons, not_false_eq_true, and_self, or_false, Option.isSome_some, Option.isSome_none, EW.fx_df, EW.fx_dm, EW.fx_fl, EW.fx_gd, EW.fx_kc, EW.finR, EW.finB, EW.finC, EW.closed, EW.Res.nmO, EW.nmM, EW.O.nm, EW.O.below, EW.O.refs, List.take, List.all_cons, List.all_nil, Bool.and_self, Bool.and_true, Bool.true_and, Nat.add_zero, EW.big, Nat.reduceLeDiff, Nat.reduceLT, List.length_map, List.length_append, EW.fzAll_append, EW.mutV, EW.putL, List.map_append, List.map_map, Function.comp_def, EW.fzAll_mapf, EW.fzAll_fz, ↓EW.lc_eq, ↓EW.dc_eq, EW.keyO, ↓EW.loop_eq, ↓EW.wloop_eq, EW.bmRecv, EW.bmtR, EW.walkR, EW.itemsR, EW.seqI, EW.wipeD, EW.setAllV, EW.bindI, EW.chk, List.set_nil, EW.keysPs_mapf, EW.hasK_str, EW.hasK_strs, EW.blOf_mapf, EW.blOf_D, EW.intsOf_mapf, EW.arr1, EW.isiR, EW.isi1, EW.D.tyn, EW.O.tyn, EW.Res.tyn, EW.tyIs, EW.tyOk, EW.tyNames, String.reduceBEq, Bool.or_false, Bool.false_or, Bool.or_true, Bool.true_or, Bool.or_self, Bool.and_false, Bool.false_and, Bool.not_true, Bool.not_false, List.any_cons, List.any_nil, EW.inR, EW.Res.data, EW.O.data, EW.ng_f, EW.ng_t, EW.cmpB_int, EW.cmpB_non, EW.cmpB_bl, EW.eqD_str, EW.eqD_int, EW.eqD_strs, EW.eqD_strsf, EW.D.key, EW.D.fl, EW.inV_str, EW.inV_strs, EW.fls_str, List.map_id_fun', List.map_id', EW.tidyE, EW.tidyM, EW.nmE, EW.envB, EW.Val.below, EW.cellsOf_mapf, EW.cellsOf_fz, EW.cellsOf_append, List.append_nil, $[$ts:term],*])
namespace CS
open PySem L2 EW CT TM
structure HasP (T : Tab) : Prop extends HasS T where
  pick : T.fn n_law_pick = some f_law_pick
variable {T : Tab}
theorem pick_ok (h : HasP T) (n : Nat) {a b c : Int} {k : Nat} (hs : Sm.ok a b c k) (hk : k < 1000000000) {ds : List D} (h0 : ds ≠ []) (hl : ds.length ≤ 1000) : ∃ d a' c', d ∈ ds ∧ (fx T (n+2)).fn n_law_pick [.cel 0, .fz (.lst ds)] [stm a b c] = .ok (.fz d) [stm a' b c'] ∧ Sm.ok a' b c' (k + 1) := by
  have hp : 0 < ds.length := List.length_pos_iff.mpr h0
  obtain ⟨v, a', c', e, v0, v1, ok⟩ := draw_ok h.toHasS n hs hk (m := ds.length) (by omega) (by omega)
  obtain ⟨i, rfl⟩ := Int.eq_ofNat_of_zero_le v0
  have hi : i < ds.length := by omega
  have hx : atI (ds.map Val.fz) (i : Int) = some (Val.fz ds[i]) := by
    rw [atI_nat (by simpa using hi)]
    simp [hi]
  refine ⟨ds[i], a', c', List.getElem_mem hi, ?_, ok⟩
  rw [fx_fn h.pick]
  rw_mod_cast ["A", f_law_pick, h.draw, e, hx]
theorem pickS_ok (h : HasP T) (n : Nat) {a b c : Int} {k : Nat} (hs : Sm.ok a b c k) (hk : k < 1000000000) {z : Str} (h0 : 0 < z.length) (hl : z.length ≤ 1000) : ∃ d a' c', d ∈ z.cps.toList ∧ (fx T (n+2)).fn n_law_pick [.cel 0, .fz (.str z)] [stm a b c] = .ok (.fz (.str ⟨#[d]⟩)) [stm a' b c'] ∧ Sm.ok a' b c' (k + 1) := by
  obtain ⟨v, a', c', e, v0, v1, ok⟩ := draw_ok h.toHasS n hs hk (m := z.length) (by omega) (by omega)
  obtain ⟨i, rfl⟩ := Int.eq_ofNat_of_zero_le v0
  have hi : i < z.cps.toList.length := by simpa [Str.length] using v1
  have hx : atI z.cps.toList (i : Int) = some z.cps.toList[i] := by
    rw [atI_nat hi, List.getElem?_eq_getElem hi]
  have hb : z.length ≤ 1000000 := Nat.le_trans hl (by decide)
  refine ⟨z.cps.toList[i], a', c', List.getElem_mem hi, ?_, ok⟩
  rw [fx_fn h.pick]
  rw_mod_cast ["A", f_law_pick, h.draw, e, hx, hb]
structure HasN (T : Tab) : Prop extends HasP T where
  name : T.fn n_law_name = some f_law_name
theorem name_ok (h : HasN T) (n : Nat) {a b c : Int} {k : Nat} (hs : Sm.ok a b c k) (hk : k < 999999990) : ∃ x a' c', (fx T (n+3)).fn n_law_name [.cel 0] [stm a b c] = .ok (.fz (.str x)) [stm a' b c'] ∧ (Wrd x ∧ (x.length ≠ 4 ∧ x.length ≠ 6)) ∧ Sm.ok a' b c' (k + 9) := by
  obtain ⟨v, a1, c1, e, v0, v1, ok1⟩ := draw_ok h.toHasS (n + 1) hs (by omega) (m := 5) (by decide) (by decide)
  obtain ⟨sz, hx, s1, s8, s4⟩ : ∃ sz : Nat, atI [Val.fz (D.int 1), .fz (.int 1), .fz (.int 2), .fz (.int 3), .fz (.int 8)] v = some (.fz (.int sz)) ∧ 1 ≤ sz ∧ sz ≤ 8 ∧ (sz ≠ 4 ∧ sz ≠ 6) := by
    have : v = 0 ∨ v = 1 ∨ v = 2 ∨ v = 3 ∨ v = 4 := by omega
    rcases this with rfl | rfl | rfl | rfl | rfl
    · exact ⟨1, rfl, by decide, by decide, by decide⟩
    · exact ⟨1, rfl, by decide, by decide, by decide⟩
    · exact ⟨2, rfl, by decide, by decide, by decide⟩
    · exact ⟨3, rfl, by decide, by decide, by decide⟩
    · exact ⟨8, rfl, by decide, by decide, by decide⟩
  have hb : -1000000 ≤ (sz : Int) ∧ (sz : Int) ≤ 1000000 := by omega
  have hb2 : (rngI 0 sz).length ≤ 1000000 := by rw [rng_len]; omega
  rw [fx_fn h.name]
  rw_mod_cast ["A", f_law_name, h.draw, h.pick, e, hx, hb, hb2, Int.toNat_natCast]
  generalize hE : @lcK _ _ _ ⟨_⟩ _ _ _ = o
  obtain ⟨acc, μ', rfl, a2, c2, cs, rfl, ok2, rfl, hcl, hcs⟩ := lc_inv' hE (fun i acc μ => ∃ a' c' cs, μ = [stm a' b c'] ∧ Sm.ok a' b c' (k + 1 + i) ∧ acc = cs.map (fun c : Nat => Val.fz (.str ⟨#[c]⟩)) ∧ cs.length = i ∧ ∀ c ∈ cs, letter c)
    ⟨a1, c1, [], rfl, ok1, rfl, rfl, fun c h => nomatch h⟩ (fun _ _ _ _ => rfl) (by
      rintro i d acc μ hd ⟨a2, c2, cs, rfl, ok2, rfl, hcl, hcs⟩
      obtain ⟨rfl, hi⟩ := rng_get hd
      obtain ⟨x, a3, c3, hx, e3, ok3⟩ := pickS_ok h.toHasP n ok2 (by omega) (z := alphabet) (by decide +kernel) (by decide +kernel)
      refine ⟨_, rfl, ?_⟩
      rw_mod_cast ["A", h.pick, e3]
      refine .mk ⟨a3, c3, cs ++ [x], rfl, ok3, by simp [addO], by simp [hcl], fun y hy => ?_⟩
      rcases List.mem_append.mp hy with hy | hy
      · exact hcs y hy
      · rw [List.mem_singleton.mp hy]; exact alphabet_letters x hx)
  rw [rng_len] at hcl ok2
  have hst : ∀ l : List Nat, strsOf (l.map fun c => Val.fz (.str ⟨#[c]⟩)) = some (l.map fun c => (⟨#[c]⟩ : Str)) := by
    intro l
    induction l with
    | nil => rfl
    | cons x l ih => simp only [List.map_cons, strsOf, ih, Option.map_some]
  have hsum : ((cs.map fun c => (⟨#[c]⟩ : Str)).map (·.length)).sum + (cs.map fun c => (⟨#[c]⟩ : Str)).length * (Str.ofString "").length ≤ 16777216 := by
    have e0 : ∀ l : List Nat, ((l.map fun c => (⟨#[c]⟩ : Str)).map (·.length)).sum = l.length := by
      intro l
      induction l with
      | nil => rfl
      | cons a l ih => rw [List.map_cons, List.map_cons, List.sum_cons, ih]; simp [Str.length]; omega
    have e1 : (Str.ofString "").length = 0 := by decide +kernel
    rw [e0, e1]; omega
  simp only [List.map_map, Function.comp_def, List.length_map] at hsum
  have he : Str.ofString "" = Str.empty := by rfl
  rw_mod_cast ["A", hst, hsum]
  rw [he]
  exact ⟨_, a2, c2, rfl, ⟨Wrd.of_signs (by omega) (by omega) hcs, by rw [join_len]; omega⟩, ok2.mono (by omega)⟩
end CS
set_option maxRecDepth 100000
set_option maxHeartbeats 4000000
namespace CS
open PySem L2 EW CT TM
variable {T : Tab}
structure HasR (T : Tab) : Prop extends HasN T where
  rows : T.fn n_law_rows = some f_law_rows
  lkinds : T.fn n_law_kinds = some f_law_kinds
  lprices : T.fn n_law_prices = some f_law_prices
theorem kinds_ok (h : HasR T) (n : Nat) : (fx T (n+1)).fn n_law_kinds [] [] = .ok (.nw (.lst (kindL.map fun k => .fz (.str k)))) [] := by
  rw [fx_fn h.lkinds]
  rw_mod_cast ["A", f_law_kinds, kindL]
theorem prices_ok (h : HasR T) (n : Nat) : (fx T (n+1)).fn n_law_prices [] [] = .ok (.nw (.lst (priceL.map fun p => .fz (priceD p)))) [] := by
  rw [fx_fn h.lprices]
  rw_mod_cast ["A", f_law_prices, priceL, priceD]
def rowsE (n : Int) (ks ps : D) : EW.Env := [some (.cel 0), some (.fz (.int n)), some (.fz ks), some (.fz ps), some (.cel 1), some (.cel 2), some (.cel 3), none, none, none, none]
def rowsM (a b c : Int) (rs : List Rw) : Mu := [stm a b c, .lst (rs.map fun r => .fz (rowD r)), .lst ((fols rs).map fun x => .fz (.str x)), .lst ((nms rs).map fun x => .fz (.str x))]
theorem rows_ok (h : HasR T) (n : Nat) {a b c : Int} {k : Nat} (hs : Sm.ok a b c k) (hk : k < 100000) {m : Nat} (hm : m ≤ 60) {ks : List Str} {ps : List (Option Int)} (k1 : ks ≠ []) (k2 : ks.length ≤ 100) (p1 : ps ≠ []) (p2 : ps.length ≤ 100) (hks : ∀ k ∈ ks, k ∈ kinds) (hps : ∀ p ∈ ps, PriceOk p) :
    ∃ rs a' c', (fx T (n+4)).fn n_law_rows [.cel 0, .fz (.int m), .fz (.lst (ks.map .str)), .fz (.lst (ps.map priceD))] [stm a b c] = .ok (.nw (.lst (rs.map fun r => .fz (rowD r)))) [stm a' b c'] ∧ Good rs ∧ (∀ r ∈ rs, r.kind ∈ ks ∧ r.price ∈ ps ∧ (r.name.length ≠ 4 ∧ r.name.length ≠ 6)) ∧ rs.length ≤ m ∧ (1 ≤ m → 1 ≤ rs.length) ∧ Sm.ok a' b c' (k + 12 * m) := by
  rw [fx_fn h.rows]
  have hb : -1000000 ≤ (m : Int) ∧ (m : Int) ≤ 1000000 := by omega
  have hb2 : (rngI 0 m).length ≤ 1000000 := by rw [rng_len]; omega
  rw_mod_cast ["A", f_law_rows, hb, hb2, Int.toNat_natCast]
  generalize hE : @loopK _ _ _ _ ⟨_⟩ _ _ _ = o
  obtain ⟨δ', μ', rfl, a2, c2, rs, rfl, rfl, ok2, gd, kp, l1, l2⟩ := loop_inv' hE (fun i δ μ => ∃ a' c' rs, δ = rowsE m (.lst (ks.map .str)) (.lst (ps.map priceD)) ∧ μ = rowsM a' b c' rs ∧ Sm.ok a' b c' (k + 12 * i) ∧ Good rs ∧ (∀ r ∈ rs, r.kind ∈ ks ∧ r.price ∈ ps ∧ (r.name.length ≠ 4 ∧ r.name.length ≠ 6)) ∧ rs.length ≤ i ∧ (1 ≤ i → 1 ≤ rs.length))
    ⟨a, c, [], rfl, rfl, hs, .nil, fun r h => (nomatch h), Nat.le_refl _, fun h => absurd h (by decide)⟩ (fun _ _ _ _ => rfl) (by
      rintro i d δ μ hd ⟨a2, c2, rs, rfl, rfl, ok2, gd, kp, l1, l2⟩
      obtain ⟨rfl, hi⟩ := rng_get hd
      obtain ⟨x, a3, c3, e3, ⟨wx, wx4⟩, ok3⟩ := name_ok h.toHasN n ok2 (by omega)
      have lf : (fols rs).length ≤ 61 := by
        unfold fols
        have := List.length_filter_le (fun r => decide (r.kind = sFolder)) rs
        simp
        omega
      have ln : (nms rs).length ≤ 61 := by simp [nms]; omega
      refine ⟨_, rfl, ?_⟩
      rw_mod_cast ["A", rowsE, rowsM, h.name, e3]
      generalize hI : (if decide (x ∈ nms rs) = true then (_ : Fl) else _) = fl
      obtain ⟨y, wy, wy4, ny, rfl⟩ : ∃ y, Wrd y ∧ (y.length ≠ 4 ∧ y.length ≠ 6) ∧ (rs = [] → y ≠ sTop) ∧ fl = Fl.nx [some (.cel 0), some (.fz (.int m)), some (.fz (.lst (ks.map .str))), some (.fz (.lst (ps.map priceD))), some (.cel 1), some (.cel 2), some (.cel 3), some (.fz (.int i)), some (.fz (.str y)), none, none] (rowsM a3 b c3 rs) := by
        subst hI
        by_cases hx : x ∈ nms rs
        · have hz1 : (Str.ofString "abcdefghij").length ≤ 1000000 := by decide +kernel
          have hz2 : (Str.ofString "klmnop").length ≤ 1000000 := by decide +kernel
          have i1 : 0 ≤ (i : Int) % 10 := Int.emod_nonneg _ (by decide)
          have i2 : (i : Int) % 10 < 10 := Int.emod_lt_of_pos _ (by decide)
          have i3 : 0 ≤ (i : Int) / 10 % 6 := Int.emod_nonneg _ (by decide)
          have i4 : (i : Int) / 10 % 6 < 6 := Int.emod_lt_of_pos _ (by decide)
          obtain ⟨d1, hd1, e1⟩ := atI_mem (xs := (Str.ofString "abcdefghij").cps.toList) i1 (by rw [show (Str.ofString "abcdefghij").cps.toList.length = 10 from by decide +kernel]; exact i2)
          obtain ⟨d2, hd2, e2⟩ := atI_mem (xs := (Str.ofString "klmnop").cps.toList) i3 (by rw [show (Str.ofString "klmnop").cps.toList.length = 6 from by decide +kernel]; exact i4)
          have wq := q_wrd (low_letters _ (by decide +kernel) d1 hd1) (low_letters _ (by decide +kernel) d2 hd2)
          have b1 : (Str.ofString "q").length + (⟨#[d1]⟩ : Str).length ≤ 1000000 := Nat.le_trans (m := 2) (by show (Str.ofString "q").length + 1 ≤ 2; decide +kernel) (by decide)
          have b2 : (Str.ofString "q" ++ (⟨#[d1]⟩ : Str)).length + (⟨#[d2]⟩ : Str).length ≤ 1000000 := by
            have e3 : (Str.ofString "q" ++ (⟨#[d1]⟩ : Str)).length + (⟨#[d2]⟩ : Str).length = (Str.ofString "q" ++ (⟨#[d1]⟩ : Str) ++ (⟨#[d2]⟩ : Str)).length := by
              simp only [TL.len_tl, TL.tl_append, List.length_append]
            rw [e3]
            exact Nat.le_trans wq.w.l8 (by decide)
          refine ⟨_, wq.w, by rw [q_len]; decide, fun _ => wq.nt, ?_⟩
          rw_mod_cast ["A", rowsM, hx, hz1, hz2, e1, e2, b1, b2]
        · refine ⟨x, wx, wx4, fun e z => hx (by rw [z]; exact List.mem_cons_self), ?_⟩
          rw_mod_cast ["A", rowsM, hx]
      obtain ⟨kd, a4, c4, hkd, e4, ok4⟩ := pick_ok h.toHasP (n + 1) ok3 (by omega) (ds := ks.map D.str) (by simpa using k1) (by simp; omega)
      obtain ⟨kd2, hk2, rfl⟩ := List.mem_map.mp hkd
      obtain ⟨fl, a5, c5, hfl, e5, ok5⟩ := pick_ok h.toHasP (n + 1) ok4 (by omega) (ds := (cutD (fols rs) (some (-4)) none).map D.str ++ [D.str "top"]) (by simp) (by have := cut_len (fols rs) (some (-4)) none; simp; omega)
      obtain ⟨pr, a6, c6, hpr, e6, ok6⟩ := pick_ok h.toHasP (n + 1) ok5 (by omega) (ds := ps.map priceD) (by simpa using p1) (by simp; omega)
      clear hI hE
      have lc := cut_len (fols rs) (some (-4)) none
      have lc1 : (cutD (fols rs) (some (-4)) none).length + 1 ≤ 1000000 := by omega
      rw_mod_cast ["A", rowsM, h.pick, e4, e5, e6, slR, partO, isK, cut_map, lc1]
      have l3 : (nms rs).length < 1000000 := by omega
      have l4 : rs.length < 1000000 := by omega
      have l5 : (fols rs).length + 1 < 1000000 := by omega
      have l6 : (fols rs).length < 1000000 := by omega
      by_cases hy : y ∈ nms rs
      · rw_mod_cast ["A", hy, Bool.not_true]
        refine .mk ⟨a5, c5, rs, ?_, ?_, ok5.mono (by omega), gd, kp, by omega, fun _ => ?_⟩
        · rw_mod_cast ["A", rowsE]
        · rw_mod_cast ["A", rowsM]
        · cases rs with
          | nil =>
            simp [nms] at hy
            exact (ny rfl hy).elim
          | cons r rs => simp
      · obtain ⟨pr2, hp2, rfl⟩ := List.mem_map.mp hpr
        have ck : cmpB (.str kd2) = true := cmpB_str (ok_kind (hks kd2 hk2))
        have cf : cmpB (.str (Str.ofString "folder")) = true := by decide +kernel
        obtain ⟨fl, rfl, hf2⟩ : ∃ f, fl = .str f ∧ (f = sTop ∨ f ∈ fols rs) := by
          have hfl' := List.mem_append.mp hfl
          rcases hfl' with h | h
          · obtain ⟨fl2, h1, h2⟩ := List.mem_map.mp h
            exact ⟨_, h2.symm, .inr (cut_mem h1)⟩
          · exact ⟨sTop, List.mem_singleton.mp h, .inl rfl⟩
        obtain ⟨nr, hnr⟩ : ∃ nr : Rw, nr = ⟨y, fl, kd2, pr2⟩ := ⟨_, rfl⟩
        have rok : RowOk rs nr := by
          subst hnr
          refine ⟨⟨wy, fun z => hy (by rw [show y = sTop from z]; exact List.mem_cons_self)⟩, fun q hq z => hy ?_, ?_, hks kd2 hk2, hps pr2 hp2⟩
          · exact List.mem_cons_of_mem _ (List.mem_map.mpr ⟨q, hq, z⟩)
          · rcases hf2 with e | e
            · exact .inl e
            · rcases List.mem_cons.mp e with e | e
              · exact .inl e
              · obtain ⟨q, hq, e3⟩ := List.mem_map.mp e
                have hq' := List.mem_filter.mp hq
                exact .inr ⟨q, hq'.1, e3, of_decide_eq_true hq'.2⟩
        have kp2 : ∀ r ∈ rs ++ [nr], r.kind ∈ ks ∧ r.price ∈ ps ∧ (r.name.length ≠ 4 ∧ r.name.length ≠ 6) := fun r hr => by
          rcases List.mem_append.mp hr with h | h
          · exact kp r h
          · rw [List.mem_singleton.mp h, hnr]; exact ⟨hk2, hp2, wy4⟩
        have en : nms (rs ++ [nr]) = nms rs ++ [y] := by simp [nms, hnr]
        by_cases ek : kd2 = Str.ofString "folder"
        · have ef : fols (rs ++ [nr]) = fols rs ++ [y] := by rw [fols_snoc, hnr, if_pos ek]
          rw_mod_cast ["A", hy, Bool.not_false, h.pick, e6, ck, cf, ek, l3, l4, l5, l6]
          refine .mk ⟨a6, c6, rs ++ [nr], ?_, ?_, ok6.mono (by omega), .snoc gd rok, kp2, by simp; omega, fun _ => by simp⟩
          · rw_mod_cast ["A", rowsE]
          · rw_mod_cast ["A", rowsM, en, ef]
            simp only [hnr, rowD, ek]
        · have ef : fols (rs ++ [nr]) = fols rs := by rw [fols_snoc, hnr, if_neg ek, List.append_nil]
          rw_mod_cast ["A", hy, Bool.not_false, h.pick, e6, ck, cf, ek, l3, l4, l5, l6]
          refine .mk ⟨a6, c6, rs ++ [nr], ?_, ?_, ok6.mono (by omega), .snoc gd rok, kp2, by simp; omega, fun _ => by simp⟩
          · rw_mod_cast ["A", rowsE]
          · rw_mod_cast ["A", rowsM, en, ef]
            simp only [hnr, rowD])
  rw [rng_len] at ok2 l1 l2
  refine ⟨rs, a2, c2, ?_, gd, kp, l1, l2, ok2⟩
  rw_mod_cast ["A", rowsE, rowsM]
end CS
set_option maxRecDepth 100000
set_option maxHeartbeats 4000000
namespace CS
open PySem L2 EW CT TM
variable {T : Tab}
structure HasT (T : Tab) : Prop where
  isName : T.fn nis_name = some fis_name
  isPrice : T.fn nis_price = some fis_price
  isAmong : T.fn nis_among = some fis_among
  isRow : T.fn nis_row = some fis_row
  top : T.gd 0 = some (.str "top")
  kinds : T.gd 1 = some (.rot (TM.kinds.map .str))
  letters : T.gd 2 = some (.str alphabet)
/-- things that may be asked about -/
def Any (d : D) : Prop := (∃ n, d.tyn = some n) ∧ ∀ x, d = .str x → x.length ≤ 1000 ∧ PyData.strOk x = true
def nameB : D → Bool
  | .str x => nameS x
  | _ => false
def priceB : D → Bool
  | .non => true
  | .int n => decide (1 ≤ n)
  | _ => false
def amongB (xs : List Str) : D → Bool
  | .str x => decide (x ∈ xs)
  | _ => false
theorem top_ok : cmpB (.str (Str.ofString "top")) = true := by decide +kernel
theorem isName_ok (h : HasT T) (n : Nat) {d : D} (hd : Any d) : (fx T (n+1)).fn nis_name [.fz d] [] = .ok (.fz (.bl (nameB d))) [] := by
  rw [fx_fn h.isName]
  cases d with
  | str x =>
    obtain ⟨hl, hc⟩ := hd.2 x rfl
    have hc' := cmpB_str hc
    have ht := top_ok
    have hl1 : x.length ≤ 1000000 := by omega
    by_cases a1 : (1 : Int) ≤ x.length
    · by_cases a2 : (x.length : Int) ≤ 8
      · by_cases a3 : x = Str.ofString "top"
        · have : nameS x = false := by unfold nameS; rw [decide_eq_true a3]; simp
          rw_mod_cast ["A", fis_name, nameB, this, hl1, h.top, hc', ht, a1, a2, decide_eq_true a3]
        · have e : nameS x = (x.cps.toList.map fun c => decide (c ∈ alphabet.cps.toList)).all id := by
            unfold nameS
            rw [decide_eq_true (show 1 ≤ x.length by omega), decide_eq_true (show x.length ≤ 8 by omega), decide_eq_false a3]
            simp [List.all_map, Function.comp_def]
          have hl2 : x.cps.toList.length ≤ 1000000 := by simpa [Str.length] using hl1
          rw_mod_cast ["A", fis_name, nameB, hl1, hl2, h.top, h.letters, hc', ht, a1, a2, a3, signs]
          rw [lc_map (f := fun c => Val.fz (.bl (decide (c ∈ alphabet.cps.toList)))) rfl (fun c hc => ⟨_, rfl, by rw_mod_cast ["A", h.letters]⟩)]
          rw_mod_cast ["A", e]
      · have : nameS x = false := by unfold nameS; rw [decide_eq_false (show ¬ x.length ≤ 8 by omega)]; simp
        rw_mod_cast ["A", fis_name, nameB, this, hl1, h.top, hc', ht, a1, a2]
    · have : nameS x = false := by unfold nameS; rw [decide_eq_false (show ¬ 1 ≤ x.length by omega)]; simp
      rw_mod_cast ["A", fis_name, nameB, this, hl1, h.top, hc', ht, a1]
  | non => rw_mod_cast ["A", fis_name, nameB]
  | bl b => rw_mod_cast ["A", fis_name, nameB]
  | int i => rw_mod_cast ["A", fis_name, nameB]
  | tup xs => rw_mod_cast ["A", fis_name, nameB]
  | lst xs => rw_mod_cast ["A", fis_name, nameB]
  | dct ks xs => rw_mod_cast ["A", fis_name, nameB]
  | cls c => obtain ⟨_, z⟩ := hd.1; cases z
  | ty c => obtain ⟨_, z⟩ := hd.1; cases z
  | rol c => obtain ⟨_, z⟩ := hd.1; cases z
  | rot c => obtain ⟨_, z⟩ := hd.1; cases z
  | ins c xs => obtain ⟨_, z⟩ := hd.1; cases z
theorem isPrice_ok (h : HasT T) (n : Nat) {d : D} (hd : Any d) : (fx T (n+1)).fn nis_price [.fz d] [] = .ok (.fz (.bl (priceB d))) [] := by
  rw [fx_fn h.isPrice]
  cases d with
  | str x => rw_mod_cast ["A", fis_price, priceB, D.isNon]
  | non => rw_mod_cast ["A", fis_price, priceB, D.isNon]
  | bl b => rw_mod_cast ["A", fis_price, priceB, D.isNon]
  | int i => rw_mod_cast ["A", fis_price, priceB, D.isNon]
  | tup xs => rw_mod_cast ["A", fis_price, priceB, D.isNon]
  | lst xs => rw_mod_cast ["A", fis_price, priceB, D.isNon]
  | dct ks xs => rw_mod_cast ["A", fis_price, priceB, D.isNon]
  | cls c => obtain ⟨_, z⟩ := hd.1; cases z
  | ty c => obtain ⟨_, z⟩ := hd.1; cases z
  | rol c => obtain ⟨_, z⟩ := hd.1; cases z
  | rot c => obtain ⟨_, z⟩ := hd.1; cases z
  | ins c xs => obtain ⟨_, z⟩ := hd.1; cases z
theorem isAmong_ok (h : HasT T) (n : Nat) {d : D} (hd : Any d) {e : D} {xs : List Str} (he : e = .lst (xs.map .str) ∨ e = .tup (xs.map .str) ∨ e = .rot (xs.map .str)) : (fx T (n+1)).fn nis_among [.fz d, .fz e] [] = .ok (.fz (.bl (amongB xs d))) [] := by
  rw [fx_fn h.isAmong]
  rcases he with rfl | rfl | rfl
  all_goals
    cases d with
    | str x => rw_mod_cast ["A", fis_among, amongB]
    | non => rw_mod_cast ["A", fis_among, amongB]
    | bl b => rw_mod_cast ["A", fis_among, amongB]
    | int i => rw_mod_cast ["A", fis_among, amongB]
    | tup xs => rw_mod_cast ["A", fis_among, amongB]
    | lst xs => rw_mod_cast ["A", fis_among, amongB]
    | dct ks xs => rw_mod_cast ["A", fis_among, amongB]
    | cls c => obtain ⟨_, z⟩ := hd.1; cases z
    | ty c => obtain ⟨_, z⟩ := hd.1; cases z
    | rol c => obtain ⟨_, z⟩ := hd.1; cases z
    | rot c => obtain ⟨_, z⟩ := hd.1; cases z
    | ins c xs => obtain ⟨_, z⟩ := hd.1; cases z
theorem isAmongC_ok (h : HasT T) (n : Nat) {d : D} (hd : Any d) {xs : List Str} : (fx T (n+1)).fn nis_among [.fz d, .cel 0] [.lst (xs.map fun x => .fz (.str x))] = .ok (.fz (.bl (amongB xs d))) [.lst (xs.map fun x => .fz (.str x))] := by
  rw [fx_fn h.isAmong]
  cases d with
  | str x => rw_mod_cast ["A", fis_among, amongB]
  | non => rw_mod_cast ["A", fis_among, amongB]
  | bl b => rw_mod_cast ["A", fis_among, amongB]
  | int i => rw_mod_cast ["A", fis_among, amongB]
  | tup xs => rw_mod_cast ["A", fis_among, amongB]
  | lst xs => rw_mod_cast ["A", fis_among, amongB]
  | dct ks xs => rw_mod_cast ["A", fis_among, amongB]
  | cls c => obtain ⟨_, z⟩ := hd.1; cases z
  | ty c => obtain ⟨_, z⟩ := hd.1; cases z
  | rol c => obtain ⟨_, z⟩ := hd.1; cases z
  | rot c => obtain ⟨_, z⟩ := hd.1; cases z
  | ins c xs => obtain ⟨_, z⟩ := hd.1; cases z
end CS
set_option maxRecDepth 100000
set_option maxHeartbeats 4000000
namespace CS
open PySem L2 EW CT TM
variable {T : Tab}
def rowB4 (fs ns : List Str) (a b c e : D) : Bool := nameB a && !amongB ns a && amongB fs b && amongB TM.kinds c && priceB e
/-- where the names stand: keys of a dict, or a list -/
inductive NamesO (ns : List Str) : O → Prop where
  | dct (ds : List D) : NamesO ns (.dct (ns.map fun x => Sum.inr x) (ds.map Val.fz))
  | lst : NamesO ns (.lst (ns.map fun x => .fz (.str x)))
theorem isRow_t (h : HasT T) (n : Nat) {a b c e : D} (ha : Any a) (hb : Any b) (hc : Any c) (he : Any e) {d : D} (hd : d = .tup [a, b, c, e] ∨ d = .lst [a, b, c, e]) {fs ns : List Str} {o : O} (ho : NamesO ns o) :
    (fx T (n+2)).fn nis_row [.fz d, .cel 0, .cel 1] [.lst (fs.map fun x => .fz (.str x)), o] = .ok (.fz (.bl (rowB4 fs ns a b c e))) [.lst (fs.map fun x => .fz (.str x)), o] := by
  have e1 := isName_ok h n ha
  have e2 := isAmongC_ok h n hb (xs := fs)
  have e3 := isAmong_ok h n hc (xs := TM.kinds) (.inr (.inr rfl))
  have e4 := isPrice_ok h n he
  rw [fx_fn h.isRow]
  cases hn : nameB a with
  | false =>
    rcases hd with rfl | rfl <;> cases ho <;> rw_mod_cast ["A", fis_row, rowB4, h.isName, e1, hn]
  | true =>
    obtain ⟨x, rfl⟩ : ∃ x, a = .str x := by cases a <;> simp [nameB] at hn; exact ⟨_, rfl⟩
    by_cases hx : x ∈ ns
    · have hx2 : amongB ns (.str x) = true := decide_eq_true hx
      rcases hd with rfl | rfl <;> cases ho <;> rw_mod_cast ["A", fis_row, rowB4, h.isName, e1, hn, hx, hx2]
    · have hx2 : amongB ns (.str x) = false := decide_eq_false hx
      cases hf : amongB fs b with
      | false => rcases hd with rfl | rfl <;> cases ho <;> rw_mod_cast ["A", fis_row, rowB4, h.isName, h.isAmong, e1, e2, hn, hx, hx2, hf]
      | true =>
        cases hk : amongB TM.kinds c with
        | false => rcases hd with rfl | rfl <;> cases ho <;> rw_mod_cast ["A", fis_row, rowB4, h.isName, h.isAmong, h.kinds, e1, e2, e3, hn, hx, hx2, hf, hk]
        | true => rcases hd with rfl | rfl <;> cases ho <;> rw_mod_cast ["A", fis_row, rowB4, h.isName, h.isAmong, h.isPrice, h.kinds, e1, e2, e3, e4, hn, hx, hx2, hf, hk]
theorem isRow_c (h : HasT T) (n : Nat) {a b c e : D} (ha : Any a) (hb : Any b) (hc : Any c) (he : Any e) {fs ns : List Str} {o : O} (ho : NamesO ns o) :
    (fx T (n+2)).fn nis_row [.cel 0, .cel 1, .cel 2] [.lst [.fz a, .fz b, .fz c, .fz e], .lst (fs.map fun x => .fz (.str x)), o] = .ok (.fz (.bl (rowB4 fs ns a b c e))) [.lst [.fz a, .fz b, .fz c, .fz e], .lst (fs.map fun x => .fz (.str x)), o] := by
  have e1 := isName_ok h n ha
  have e2 := isAmongC_ok h n hb (xs := fs)
  have e3 := isAmong_ok h n hc (xs := TM.kinds) (.inr (.inr rfl))
  have e4 := isPrice_ok h n he
  rw [fx_fn h.isRow]
  cases hn : nameB a with
  | false =>
    cases ho <;> rw_mod_cast ["A", fis_row, rowB4, h.isName, e1, hn]
  | true =>
    obtain ⟨x, rfl⟩ : ∃ x, a = .str x := by cases a <;> simp [nameB] at hn; exact ⟨_, rfl⟩
    by_cases hx : x ∈ ns
    · have hx2 : amongB ns (.str x) = true := decide_eq_true hx
      cases ho <;> rw_mod_cast ["A", fis_row, rowB4, h.isName, e1, hn, hx, hx2]
    · have hx2 : amongB ns (.str x) = false := decide_eq_false hx
      cases hf : amongB fs b with
      | false => cases ho <;> rw_mod_cast ["A", fis_row, rowB4, h.isName, h.isAmong, e1, e2, hn, hx, hx2, hf]
      | true =>
        cases hk : amongB TM.kinds c with
        | false => cases ho <;> rw_mod_cast ["A", fis_row, rowB4, h.isName, h.isAmong, h.kinds, e1, e2, e3, hn, hx, hx2, hf, hk]
        | true => cases ho <;> rw_mod_cast ["A", fis_row, rowB4, h.isName, h.isAmong, h.isPrice, h.kinds, e1, e2, e3, e4, hn, hx, hx2, hf, hk]
end CS
set_option maxRecDepth 100000
set_option maxHeartbeats 4000000
namespace CS
open PySem L2 EW CT TM
variable {T : Tab}
structure HasI (T : Tab) : Prop extends HasT T where
  init : T.mt cTree k_init_ = some mTree_init_
  flT : T.fl cTree = [2, 3]
def rowV (r : Rw) : List Val := [.fz (.str r.name), .fz (.str r.folder), .fz (.str r.kind), .fz (priceD r.price)]
def rowL (r : Rw) : List D := [.str r.name, .str r.folder, .str r.kind, priceD r.price]
/-- a tree of these rows -/
def treeD (rs : List Rw) : D := .ins cTree [.dct (rs.map fun r => Sum.inr r.name) (rs.map rowD), .lst ((fols rs).map .str)]
/-- a row as it may be handed in -/
inductive RowIs (μ : Mu) (r : Rw) : Val → Prop where
  | tup : RowIs μ r (.fz (.tup (rowL r)))
  | lst : RowIs μ r (.fz (.lst (rowL r)))
  | cel {j : Nat} (h : μ[j]? = some (.lst (rowV r))) : RowIs μ r (.cel j)
inductive RowsIs (μ : Mu) : Val → List Val → Ck → Prop where
  | fl (ds : List D) : RowsIs μ (.fz (.lst ds)) (ds.map Val.fz) none
  | ft (ds : List D) : RowsIs μ (.fz (.tup ds)) (ds.map Val.fz) none
  | cl {k : Nat} {ws : List Val} (h : μ[k]? = some (.lst ws)) : RowsIs μ (.cel k) ws (some (k, .lst ws))
  | ct {k : Nat} {ws : List Val} (h : μ[k]? = some (.tup ws)) : RowsIs μ (.cel k) ws (some (k, .tup ws))
def initM (μ : Mu) (rs : List Rw) : Mu := μ ++ [.ins cTree [.cel (μ.length + 1), .cel (μ.length + 2)], .dct (rs.map fun r => Sum.inr r.name) (rs.map fun r => .fz (rowD r)), .lst ((fols rs).map fun x => .fz (.str x))]
theorem any_str {x : Str} (h : x.length ≤ 1000) (h2 : PyData.strOk x = true) : Any (.str x) := ⟨⟨_, rfl⟩, fun y e => by cases e; exact ⟨h, h2⟩⟩
theorem any_price (p : Option Int) : Any (priceD p) := by cases p <;> exact ⟨⟨_, rfl⟩, fun y e => nomatch e⟩
theorem any_fol {pre : List Rw} {r : Rw} (g : Good pre) (h : RowOk pre r) : Any (.str r.folder) := by
  have hx : r.folder = sTop ∨ r.folder ∈ namesOf pre := h.folIn
  refine any_str ?_ (ok_box g hx)
  rcases hx with e | e
  · rw [e]; decide +kernel
  · obtain ⟨q, hq, e2⟩ := List.mem_map.mp e
    rw [← e2]; have := (g.mem q hq).1.w.l8; omega
theorem row_ok {pre : List Rw} {r : Rw} (h : RowOk pre r) : rowB4 (fols pre) (pre.map (·.name)) (.str r.name) (.str r.folder) (.str r.kind) (priceD r.price) = true := by
  unfold rowB4
  have e1 : nameB (.str r.name) = true := nameS_ok h.name
  have e2 : amongB (pre.map (·.name)) (.str r.name) = false := decide_eq_false fun z => by
    obtain ⟨q, hq, e⟩ := List.mem_map.mp z
    exact h.new q hq e
  have e3 : amongB (fols pre) (.str r.folder) = true := decide_eq_true (fols_in h)
  have e4 : amongB TM.kinds (.str r.kind) = true := decide_eq_true h.kind
  have e5 : priceB (priceD r.price) = true := by
    have := h.price
    cases hp : r.price with
    | none => rfl
    | some n => rw [hp] at this; exact decide_eq_true this
  rw [e1, e2, e3, e4, e5]; rfl
def initBody : Css := match mTree_init_.body with | .cons _ (.cons _ (.cons _ (.cons (.for_ _ _ _ _ b) _))) => b | _ => .nil
theorem init_loop (h : HasI T) (n : Nat) {μ : Mu} {w : Val} {ws : List Val} {ck : Ck} {rs : List Rw} {g : EW.Env → Mu → Fl} {o : Fl} (hg : g = fun δ' μ' => evSs (fx T (n+2)) initBody δ' μ')
    (hE : @loopK (.tp [2, 3]) [2, 3] ck (μ.length + 3) ⟨g⟩ (enumI 0 ws) [some (.cel μ.length), some w, none, none] (initM μ []) = o) (pl : Plain μ) (hwn : ∀ l, w.nm (μ ++ l) = w) (hck : ∀ l, chk ck (μ ++ l) = true) (hl : ws.length = rs.length) (hl2 : rs.length ≤ 900) (hr : ∀ (i : Nat) w r, ws[i]? = some w → rs[i]? = some r → RowIs μ r w) (gd : Good rs) :
    o = .nx [some (.cel μ.length), some w, none, none] (initM μ rs) := by
  obtain ⟨δ', μ', rfl, rfl, rfl⟩ := loop_inv' hE (fun i δ μ' => δ = [some (.cel μ.length), some w, none, none] ∧ μ' = initM μ (rs.take i)) ⟨rfl, by rw [List.take_zero]⟩ (fun i δ μ' ⟨_, e⟩ => by rw [e]; exact hck _) (by
    rintro i d δ μ' hd ⟨rfl, rfl⟩
    obtain ⟨u, hu, rfl⟩ := enum_get hd
    have hi : i < rs.length := by have := (List.getElem?_eq_some_iff.mp hu).1; omega
    have hri : rs[i]? = some rs[i] := List.getElem?_eq_getElem hi
    have rok := gd.at_ i _ hri
    have ht : rs.take (i + 1) = rs.take i ++ [rs[i]] := by rw [List.take_succ, hri]; rfl
    have hrow := hr i u _ hu hri
    have lt : (rs.take i).length ≤ 900 := by rw [List.length_take]; omega
    rw [ht, hg]
    generalize rs[i] = r at rok hrow
    have gd0 := gd.takeG i
    generalize rs.take i = pre at rok lt gd0
    have ho : NamesO (pre.map (·.name)) (.dct (pre.map fun r => Sum.inr r.name) (pre.map fun r => .fz (rowD r))) := by
      have := NamesO.dct (ns := pre.map (·.name)) (pre.map rowD)
      simpa [List.map_map, Function.comp_def] using this
    have a1 : Any (.str r.name) := any_str (by have := rok.name.w.l8; omega) (ok_name' rok.name)
    have a2 : Any (.str r.folder) := any_fol gd0 rok
    have a3 : Any (.str r.kind) := any_str (kinds_len rok.kind) (ok_kind rok.kind)
    have a4 : Any (priceD r.price) := any_price _
    have hB := row_ok rok
    have hnew : ¬ r.name ∈ pre.map fun r => r.name := fun z => by obtain ⟨q, hq, e⟩ := List.mem_map.mp z; exact rok.new q hq e
    have ck1 : cmpB (.str r.kind) = true := cmpB_str (ok_kind rok.kind)
    have cf : cmpB (.str (Str.ofString "folder")) = true := by decide +kernel
    have lt1 : pre.length < 1000000 := by omega
    have lf : (fols pre).length < 1000000 := by
      unfold fols
      have := List.length_filter_le (fun r => decide (r.kind = sFolder)) pre
      simp
      omega
    have fin : initM μ (pre ++ [r]) = μ ++ [.ins cTree [.cel (μ.length + 1), .cel (μ.length + 2)], .dct ((pre.map fun r => Sum.inr r.name) ++ [Sum.inr r.name]) ((pre.map fun r => .fz (rowD r)) ++ [.fz (.tup (rowL r))]), .lst (((fols pre).map fun x => .fz (.str x)) ++ (if r.kind = sFolder then [.fz (.str r.name)] else []))] := by
      unfold initM
      rw [fols_snoc]
      split <;> simp [rowD, rowL]
    rw [fin]
    clear hE hr hl
    cases hrow with
    | tup =>
      have e := isRow_t h.toHasT n a1 a2 a3 a4 (.inl rfl) (fs := fols pre) ho
      refine ⟨_, rfl, ?_⟩
      by_cases hk : r.kind = Str.ofString "folder"
      · rw_mod_cast ["AM", initBody, mTree_init_, initM, rowL, rowV, h.flT, h.isRow, e, hB, hnew, ck1, cf, lt1, lf, decide_eq_true hk, putKs, putWs, tupleR]
        refine .mk ⟨?_, ?_⟩
        · rw_mod_cast ["AM", hwn]
        · rw [if_pos hk, nmM, nm_app, pl.nm, tidyM_len (by simp)]
          rw_mod_cast ["AM", rowL]
      · rw_mod_cast ["AM", initBody, mTree_init_, initM, rowL, rowV, h.flT, h.isRow, e, hB, hnew, ck1, cf, lt1, lf, decide_eq_false hk, putKs, putWs, tupleR]
        refine .mk ⟨?_, ?_⟩
        · rw_mod_cast ["AM", hwn]
        · rw [if_neg hk, nmM, nm_app, pl.nm, tidyM_len (by simp)]
          rw_mod_cast ["AM", rowL]
    | lst =>
      have e := isRow_t h.toHasT n a1 a2 a3 a4 (.inr rfl) (fs := fols pre) ho
      refine ⟨_, rfl, ?_⟩
      by_cases hk : r.kind = Str.ofString "folder"
      · rw_mod_cast ["AM", initBody, mTree_init_, initM, rowL, rowV, h.flT, h.isRow, e, hB, hnew, ck1, cf, lt1, lf, decide_eq_true hk, putKs, putWs, tupleR]
        refine .mk ⟨?_, ?_⟩
        · rw_mod_cast ["AM", hwn]
        · rw [if_pos hk, nmM, nm_app, pl.nm, tidyM_len (by simp)]
          rw_mod_cast ["AM", rowL]
      · rw_mod_cast ["AM", initBody, mTree_init_, initM, rowL, rowV, h.flT, h.isRow, e, hB, hnew, ck1, cf, lt1, lf, decide_eq_false hk, putKs, putWs, tupleR]
        refine .mk ⟨?_, ?_⟩
        · rw_mod_cast ["AM", hwn]
        · rw [if_neg hk, nmM, nm_app, pl.nm, tidyM_len (by simp)]
          rw_mod_cast ["AM", rowL]
    | @cel j hj =>
      have e := isRow_c h.toHasT n a1 a2 a3 a4 (fs := fols pre) ho
      have hj1 := app_lt hj
      have hj2 := app_same hj
      have hj3 : j < μ.length := (List.getElem?_eq_some_iff.mp hj).1
      have n1 : ¬ j = μ.length + 1 := by omega
      have n2 : ¬ j = μ.length + 2 := by omega
      simp only [rowV] at hj1 hj2
      refine ⟨_, rfl, ?_⟩
      by_cases hk : r.kind = Str.ofString "folder"
      · rw_mod_cast ["AM", initBody, mTree_init_, initM, rowL, rowV, h.flT, h.isRow, e, hB, hnew, ck1, cf, lt1, lf, decide_eq_true hk, putKs, putWs, tupleR, hj1, hj2, n1, n2]
        refine .mk ⟨?_, ?_⟩
        · rw_mod_cast ["AM", hwn]
        · rw [if_pos hk, nmM, nm_app, pl.nm, tidyM_len (by simp)]
          rw_mod_cast ["AM", rowL]
      · rw_mod_cast ["AM", initBody, mTree_init_, initM, rowL, rowV, h.flT, h.isRow, e, hB, hnew, ck1, cf, lt1, lf, decide_eq_false hk, putKs, putWs, tupleR, hj1, hj2, n1, n2]
        refine .mk ⟨?_, ?_⟩
        · rw_mod_cast ["AM", hwn]
        · rw [if_neg hk, nmM, nm_app, pl.nm, tidyM_len (by simp)]
          rw_mod_cast ["AM", rowL])
  rw [enum_len, hl, List.take_length]
theorem init_ok (h : HasI T) (n : Nat) {μ : Mu} {w : Val} {ws : List Val} {ck : Ck} {rs : List Rw} (pl : Plain μ) (hw : RowsIs μ w ws ck) (hl : ws.length = rs.length) (hl2 : rs.length ≤ 900) (hr : ∀ (i : Nat) w r, ws[i]? = some w → rs[i]? = some r → RowIs μ r w) (gd : Good rs) :
    (fx T (n+3)).mt cTree k_init_ [.cel μ.length, w] (μ ++ [.ins cTree []]) = .ok (.fz .non) (μ ++ [.ins cTree [.fz (.dct (rs.map fun r => Sum.inr r.name) (rs.map rowD)), .fz (.lst ((fols rs).map .str))]]) := by
  rw [fx_mt h.init]
  have hen : (enumI 0 ws).length ≤ 1000000 := by rw [enum_len]; omega
  cases hw with
  | fl ds =>
    rw_mod_cast ["AM", mTree_init_, h.top, h.flT, fldR, hen]
    generalize hE : @loopK _ _ _ _ ⟨_⟩ _ _ _ = o
    have := init_loop h n rfl hE pl (fun _ => rfl) (fun _ => rfl) hl hl2 hr gd
    subst this
    rw_mod_cast ["AM", initM, h.flT, pl.nm, pl.cl, List.all_append]
  | ft ds =>
    rw_mod_cast ["AM", mTree_init_, h.top, h.flT, fldR, hen]
    generalize hE : @loopK _ _ _ _ ⟨_⟩ _ _ _ = o
    have := init_loop h n rfl hE pl (fun _ => rfl) (fun _ => rfl) hl hl2 hr gd
    subst this
    rw_mod_cast ["AM", initM, h.flT, pl.nm, pl.cl, List.all_append]
  | @cl k _ hk =>
    have hk1 := app_lt hk
    have hwn : ∀ l, (Val.cel k).nm (μ ++ l) = .cel k := fun l => by simp only [nm_cel, iceOf, hk1]
    rw_mod_cast ["AM", mTree_init_, h.top, h.flT, fldR, hen, hk1]
    generalize hE : @loopK _ _ _ _ ⟨_⟩ _ _ _ = o
    have := init_loop h n rfl hE pl hwn (fun l => by simp only [chk, hk1, decide_true]) hl hl2 hr gd
    subst this
    rw_mod_cast ["AM", initM, h.flT, pl.nm, pl.cl, List.all_append]
  | @ct k _ hk =>
    have hk1 := app_lt hk
    have hwn : ∀ l, (Val.cel k).nm (μ ++ l) = .cel k := fun l => by simp only [nm_cel, iceOf, hk1]
    rw_mod_cast ["AM", mTree_init_, h.top, h.flT, fldR, hen, hk1]
    generalize hE : @loopK _ _ _ _ ⟨_⟩ _ _ _ = o
    have := init_loop h n rfl hE pl hwn (fun l => by simp only [chk, hk1, decide_true]) hl hl2 hr gd
    subst this
    rw_mod_cast ["AM", initM, h.flT, pl.nm, pl.cl, List.all_append]
end CS
set_option maxRecDepth 100000
set_option maxHeartbeats 4000000
namespace CS
open PySem L2 EW CT TM
variable {T : Tab}
structure HasM (T : Tab) : Prop extends HasI T where
  len : T.mt cTree k_len_ = some mTree_len_
  cont : T.mt cTree k_contains_ = some mTree_contains_
  rws : T.mt cTree krows = some mTreerows
  nams : T.mt cTree knames = some mTreenames
  rowOf : T.mt cTree krow_of = some mTreerow_of
  check : T.mt cTree kcheck = some mTreecheck
theorem len_ok (h : HasM T) (n : Nat) {rs : List Rw} : (fx T (n+1)).mt cTree k_len_ [.fz (treeD rs)] [] = .ok (.fz (.int rs.length)) [] := by
  rw [fx_mt h.len]
  rw_mod_cast ["AM", mTree_len_, treeD, h.flT]
theorem cont_ok (h : HasM T) (n : Nat) {rs : List Rw} {d : D} (hd : Any d) : (fx T (n+1)).mt cTree k_contains_ [.fz (treeD rs), .fz d] [] = .ok (.fz (.bl (amongB (namesOf rs) d))) [] := by
  rw [fx_mt h.cont]
  cases d with
  | str x =>
    rw_mod_cast ["AM", mTree_contains_, treeD, amongB, namesOf, h.flT]
    rfl
  | non => rw_mod_cast ["AM", mTree_contains_, treeD, amongB, h.flT]
  | bl b => rw_mod_cast ["AM", mTree_contains_, treeD, amongB, h.flT]
  | int i => rw_mod_cast ["AM", mTree_contains_, treeD, amongB, h.flT]
  | tup xs => rw_mod_cast ["AM", mTree_contains_, treeD, amongB, h.flT]
  | lst xs => rw_mod_cast ["AM", mTree_contains_, treeD, amongB, h.flT]
  | dct ks xs => rw_mod_cast ["AM", mTree_contains_, treeD, amongB, h.flT]
  | cls c => obtain ⟨_, z⟩ := hd.1; cases z
  | ty c => obtain ⟨_, z⟩ := hd.1; cases z
  | rol c => obtain ⟨_, z⟩ := hd.1; cases z
  | rot c => obtain ⟨_, z⟩ := hd.1; cases z
  | ins c xs => obtain ⟨_, z⟩ := hd.1; cases z
/-- a tree that may be asked -/
structure Tr (rs : List Rw) : Prop where
  good : Good rs
  few : rs.length ≤ 900
theorem get_row {rs : List Rw} (g : Good rs) {r : Rw} (hr : r ∈ rs) : dget (rs.map fun r => Sum.inr r.name) (rs.map fun r => Val.fz (rowD r)) (Sum.inr r.name) = some (.fz (rowD r)) :=
  dget_str (f := fun r : Rw => r.name) (g := fun r => Val.fz (rowD r)) g.nd hr
theorem rws_ok (h : HasM T) (n : Nat) {rs : List Rw} (t : Tr rs) : (fx T (n+1)).mt cTree krows [.fz (treeD rs)] [] = .ok (.nw (.lst (rs.map fun r => .fz (rowD r)))) [] := by
  rw [fx_mt h.rws]
  have hl : rs.length ≤ 1000000 := by have := t.few; omega
  rw_mod_cast ["AM", mTreerows, treeD, h.flT, kD, hl]
  rw [lc_map (f := fun r => Val.fz (rowD r)) rfl (fun r hr => ⟨_, rfl, by rw_mod_cast ["AM", h.flT, get_row t.good hr]⟩)]
  rw_mod_cast ["A", eq_self]
theorem nams_ok (h : HasM T) (n : Nat) {rs : List Rw} : (fx T (n+1)).mt cTree knames [.fz (treeD rs)] [] = .ok (.nw (.lst (rs.map fun r => .fz (.str r.name)))) [] := by
  rw [fx_mt h.nams]
  rw_mod_cast ["AM", mTreenames, treeD, h.flT, kD, listR]
theorem among_mem {rs : List Rw} {r : Rw} (hr : r ∈ rs) : amongB (namesOf rs) (.str r.name) = true := decide_eq_true (List.mem_map.mpr ⟨r, hr, rfl⟩)
theorem any_name {rs : List Rw} (g : Good rs) {r : Rw} (hr : r ∈ rs) : Any (.str r.name) := any_str (by have := (g.mem r hr).1.w.l8; omega) (ok_name' (g.mem r hr).1)
theorem rowOf_ok (h : HasM T) (n : Nat) {rs : List Rw} (t : Tr rs) {r : Rw} (hr : r ∈ rs) : (fx T (n+2)).mt cTree krow_of [.fz (treeD rs), .fz (.str r.name)] [] = .ok (.fz (rowD r)) [] := by
  rw [fx_mt h.rowOf]
  have e := cont_ok h n (any_name t.good hr) (rs := rs)
  rw [among_mem hr] at e
  simp only [treeD] at e
  rw_mod_cast ["AM", mTreerow_of, treeD, h.flT, e, get_row t.good hr, Out.calm, h.cont]
theorem any_box {rs : List Rw} (g : Good rs) {x : Str} (hx : x = sTop ∨ x ∈ namesOf rs) : Any (.str x) := by
  rcases hx with rfl | hx
  · exact any_str (by decide +kernel) ok_top
  · obtain ⟨r, hr, rfl⟩ := List.mem_map.mp hx
    exact any_name g hr
theorem check_ok (h : HasM T) (n : Nat) {rs : List Rw} (t : Tr rs) {x : Str} (hx : x = sTop ∨ x ∈ namesOf rs) : (fx T (n+2)).mt cTree kcheck [.fz (treeD rs), .fz (.str x)] [] = .ok (.fz .non) [] := by
  rw [fx_mt h.check]
  have a := any_box t.good hx
  have e := cont_ok h n a (rs := rs)
  have e2 := isAmong_ok h.toHasT n a (xs := [sTop]) (.inr (.inl rfl))
  simp only [treeD] at e
  by_cases hn : x ∈ namesOf rs
  · rw [show amongB (namesOf rs) (.str x) = true from decide_eq_true hn] at e
    rw_mod_cast ["AM", mTreecheck, treeD, h.flT, e, Out.calm, h.cont]
  · have hx2 : x = sTop := hx.resolve_right hn
    subst hx2
    rw [show amongB (namesOf rs) (.str sTop) = false from decide_eq_false hn] at e
    have e3 : amongB [sTop] (.str sTop) = true := by simp [amongB]
    rw [e3] at e2
    simp only [List.map_cons, List.map_nil] at e2
    rw_mod_cast ["AM", mTreecheck, treeD, h.flT, e, e2, Out.calm, h.cont, h.top, h.isAmong]
end CS
set_option maxRecDepth 100000
set_option maxHeartbeats 4000000
namespace CS
open PySem L2 EW CT TM
variable {T : Tab}
structure HasE0 (T : Tab) : Prop extends HasM T where
  eq : T.mt cTree k_eq_ = some mTree_eq_
  kc : T.kc cTree = true
  folder : T.mt cTree kfolder = some mTreefolder
  kind : T.mt cTree kkind = some mTreekind
  price : T.mt cTree kprice = some mTreeprice
structure HasE (T : Tab) : Prop extends HasE0 T where
  inside : T.mt cTree kinside = some mTreeinside
  below : T.mt cTree kbelow = some mTreebelow
instance : Coe (HasE T) (HasE0 T) := ⟨HasE.toHasE0⟩
abbrev keysT (rs : List Rw) : List Key := rs.map fun r => Sum.inr r.name
theorem eqD_rowD {a b : Rw} (h : eqD (rowD a) (rowD b) = true) : a = b := by
  obtain ⟨n1, f1, k1, p1⟩ := a
  obtain ⟨n2, f2, k2, p2⟩ := b
  simp only [eqD, rowD, D.pd, D.pds, PyData.eqv, PyData.eqvAll, Bool.and_eq_true, beq_iff_eq] at h
  obtain ⟨h1, h2, h3, h4, _⟩ := h
  subst h1 h2 h3
  have : p1 = p2 := by
    cases p1 <;> cases p2 <;> simp [priceD, D.pd, PyData.eqv] at h4 <;> first | rfl | (rw [h4])
  rw [this]
theorem get_rowD {rs : List Rw} (g : Good rs) {r : Rw} (hr : r ∈ rs) : dget (keysT rs) (rs.map rowD) (.inr r.name) = some (rowD r) := dget_str (f := fun r : Rw => r.name) (g := rowD) g.nd hr
theorem dhits_eq {rs : List Rw} (g : Good rs) : ∀ (ps : List Rw) (qs : List Rw), namesOf ps = namesOf qs → (∀ q ∈ qs, q ∈ rs) → dhits (keysT rs) (rs.map rowD) (keysT ps) (ps.map rowD) = true → ps = qs
  | [], [], _, _, _ => rfl
  | [], q :: qs, h, _, _ => by simp [namesOf] at h
  | p :: ps, [], h, _, _ => by simp [namesOf] at h
  | p :: ps, q :: qs, h, hq, hh => by
    simp only [namesOf, List.map_cons, List.cons.injEq] at h
    have e := get_rowD g (hq q List.mem_cons_self)
    simp only [keysT, List.map_cons, dhits] at hh
    rw [h.1] at hh
    simp only [keysT] at e
    rw [e] at hh
    dsimp only at hh
    split at hh
    · rename_i e2
      rw [eqD_rowD e2, dhits_eq g ps qs h.2 (fun x hx => hq x (List.mem_cons_of_mem _ hx)) hh]
    · cases hh
theorem dhits_refl {rs : List Rw} (g : Good rs) : ∀ (ps : List Rw), (∀ q ∈ ps, q ∈ rs) → dhits (keysT rs) (rs.map rowD) (keysT ps) (ps.map rowD) = true
  | [], _ => rfl
  | p :: ps, h => by
    have e := get_rowD g (h p List.mem_cons_self)
    simp only [keysT, List.map_cons, dhits]
    simp only [keysT] at e
    rw [e]
    dsimp only
    rw [if_pos (eqD_refl (cmp_row g (h p List.mem_cons_self)).cmp)]
    exact dhits_refl g ps fun x hx => h x (List.mem_cons_of_mem _ hx)
theorem cmpB_names {rs : List Rw} (g : Good rs) : cmpB (.lst (rs.map fun r => .str r.name)) = true := by
  have := (cmp_names g (l := namesOf rs) fun x h => h).cmp
  simpa [namesOf, List.map_map, Function.comp_def] using this
theorem cmpB_rowsAll {rs : List Rw} (g : Good rs) : (rs.map rowD).all cmpB = true := by
  rw [List.all_eq_true]
  intro d hd
  obtain ⟨r, hr, rfl⟩ := List.mem_map.mp hd
  exact (cmp_row g hr).cmp
theorem eq_ok (h : HasE0 T) (n : Nat) {rs qs : List Rw} (t : Tr rs) (u : Tr qs) : (fx T (n+1)).mt cTree k_eq_ [.fz (treeD rs), .fz (treeD qs)] [] = .ok (.fz (.bl (decide (rs = qs)))) [] := by
  rw [fx_mt h.eq]
  have c1 := cmpB_names t.good
  have c2 := cmpB_names u.good
  have c3 := cmpB_rowsAll t.good
  have c4 := cmpB_rowsAll u.good
  by_cases hn : namesOf rs = namesOf qs
  · have hl : (keysT rs).length = (keysT qs).length := by simpa [keysT, namesOf] using congrArg List.length hn
    have hn' : rs.map (fun r => r.name) = qs.map (fun r => r.name) := hn
    have hl' : rs.length = qs.length := by simpa using hl
    have hd : dhits (keysT qs) (qs.map rowD) (keysT rs) (rs.map rowD) = decide (rs = qs) := by
      by_cases e : rs = qs
      · subst e; rw [dhits_refl t.good rs fun _ h => h]; simp
      · rw [decide_eq_false e]
        cases q : dhits (keysT qs) (qs.map rowD) (keysT rs) (rs.map rowD) with
        | false => rfl
        | true => exact (e (dhits_eq u.good rs qs hn (fun _ h => h) q)).elim
    simp only [keysT] at hd
    rw_mod_cast ["AM", mTree_eq_, treeD, h.flT, h.kc, Res.insC, listR, kD, c1, c2, c3, c4, decide_eq_true hn', hl', beq_self_eq_true, hd]
  · have hn' : ¬ rs.map (fun r => r.name) = qs.map (fun r => r.name) := hn
    have e : ¬ rs = qs := fun z => hn (by rw [z])
    rw_mod_cast ["AM", mTree_eq_, treeD, h.flT, h.kc, Res.insC, listR, kD, c1, c2, decide_eq_false hn', decide_eq_false e]
theorem folder_ok (h : HasE0 T) (n : Nat) {rs : List Rw} (t : Tr rs) {r : Rw} (hr : r ∈ rs) : (fx T (n+3)).mt cTree kfolder [.fz (treeD rs), .fz (.str r.name)] [] = .ok (.fz (.str r.folder)) [] := by
  rw [fx_mt h.folder]
  have e := rowOf_ok h.toHasM n t hr
  simp only [treeD, rowD] at e
  rw_mod_cast ["AM", mTreefolder, treeD, h.flT, e, h.rowOf]
theorem kind_ok (h : HasE0 T) (n : Nat) {rs : List Rw} (t : Tr rs) {r : Rw} (hr : r ∈ rs) : (fx T (n+3)).mt cTree kkind [.fz (treeD rs), .fz (.str r.name)] [] = .ok (.fz (.str r.kind)) [] := by
  rw [fx_mt h.kind]
  have e := rowOf_ok h.toHasM n t hr
  simp only [treeD, rowD] at e
  rw_mod_cast ["AM", mTreekind, treeD, h.flT, e, h.rowOf]
theorem price_ok (h : HasE0 T) (n : Nat) {rs : List Rw} (t : Tr rs) {r : Rw} (hr : r ∈ rs) : (fx T (n+3)).mt cTree kprice [.fz (treeD rs), .fz (.str r.name)] [] = .ok (.fz (priceD r.price)) [] := by
  rw [fx_mt h.price]
  have e := rowOf_ok h.toHasM n t hr
  simp only [treeD, rowD] at e
  rw_mod_cast ["AM", mTreeprice, treeD, h.flT, e, h.rowOf]
theorem cmp_box {rs : List Rw} (g : Good rs) {x : Str} (hx : x = sTop ∨ x ∈ namesOf rs) : cmpB (.str x) = true := cmpB_str (ok_box g hx)
theorem inside_ok (h : HasE T) (n : Nat) {rs : List Rw} (t : Tr rs) {x : Str} (hx : x = sTop ∨ x ∈ namesOf rs) : (fx T (n+3)).mt cTree kinside [.fz (treeD rs), .fz (.str x)] [] = .ok (.nw (.lst ((rs.filter fun r => decide (r.folder = x)).map fun r => .fz (.str r.name)))) [] := by
  rw [fx_mt h.inside]
  have e := check_ok h.toHasM n t hx
  have e2 := rws_ok h.toHasM (n+1) t
  have hl : rs.length ≤ 1000000 := by have := t.few; omega
  simp only [treeD, rowD] at e e2
  rw_mod_cast ["AM", mTreeinside, treeD, h.flT, e, e2, h.check, h.rws, hl]
  rw [lc_filter (p := fun r => decide (r.folder = x)) (f := fun r => Val.fz (.str r.name)) rfl (fun r hr => ⟨_, rfl, by
    rw_mod_cast ["AM", h.flT, cmp_box t.good hx, cmp_box t.good (t.good.folIn hr)]
    cases decide (r.folder = x) <;> rw_mod_cast ["A", eq_self]⟩)]
  rw_mod_cast ["A", eq_self]
end CS
set_option maxRecDepth 100000
set_option maxHeartbeats 4000000
namespace CS
open PySem L2 EW CT TM
variable {T : Tab}
def foundO (l : List Str) : O := .dct (l.map fun x => Sum.inr x) (l.map fun _ => .fz (.bl true))
theorem below_ok (h : HasE T) (n : Nat) {rs : List Rw} (t : Tr rs) {x : Str} (hx : x = sTop ∨ x ∈ namesOf rs) : (fx T (n+3)).mt cTree kbelow [.fz (treeD rs), .fz (.str x)] [] = .ok (.nw (.lst ((belowL rs x).map fun y => .fz (.str y)))) [] := by
  rw [fx_mt h.below]
  have e := check_ok h.toHasM n t hx
  have e2 := rws_ok h.toHasM (n+1) t
  have hl : rs.length ≤ 1000000 := by have := t.few; omega
  simp only [treeD, rowD] at e e2
  rw_mod_cast ["AM", mTreebelow, treeD, h.flT, e, e2, h.check, h.rws, hl]
  generalize hE : @loopK _ _ _ _ ⟨_⟩ _ _ _ = o
  obtain ⟨δ', μ', rfl, rfl, rfl⟩ := loop_inv' hE (fun i δ μ => δ = [some (.fz (treeD rs)), some (.fz (.str x)), some (.cel 0), none, none, none, none] ∧ μ = [foundO (fnd x (rs.take i))]) ⟨rfl, rfl⟩ (fun _ _ _ _ => rfl) (by
    rintro i d δ μ hd ⟨rfl, rfl⟩
    obtain ⟨r, hri, rfl⟩ := map_get hd
    have rok := t.good.at_ i _ hri
    have ht : rs.take (i + 1) = rs.take i ++ [r] := by rw [List.take_succ, hri]; rfl
    have gd0 := t.good.takeG i
    have lt : (rs.take i).length ≤ 900 := by rw [List.length_take]; have := t.few; omega
    rw [ht, fnd_snoc]
    generalize rs.take i = pre at rok lt gd0
    have lf := fnd_len x pre
    have lf1 : (fnd x pre).length < 1000000 := by omega
    refine ⟨_, rfl, ?_⟩
    by_cases hf : r.folder ∈ fnd x pre
    · have hnew := fnd_new gd0 rok hf
      rw_mod_cast ["AM", foundO, treeD, hf, hnew, lf1, putKs, putWs]
      refine .mk ⟨?_, ?_⟩
      · rw_mod_cast ["AM", treeD]
      · rw [if_pos hf]
        rw_mod_cast ["AM", foundO, treeD]
    · rw_mod_cast ["AM", foundO, treeD, hf]
      refine .mk ⟨?_, ?_⟩
      · rw_mod_cast ["AM", treeD]
      · rw [if_neg hf]
        rw_mod_cast ["AM", foundO, treeD])
  rw_mod_cast ["AM", List.length_map, List.take_length, foundO, treeD, kD, h.flT, hl]
  rw [lc_filter (p := fun r => decide (r.name ∈ fnd x rs) && decide (r.name ≠ x)) (f := fun r => Val.fz (.str r.name)) rfl (fun r hr => ⟨_, rfl, by
    have hn : r.name ∈ namesOf rs := List.mem_map.mpr ⟨r, hr, rfl⟩
    by_cases a : r.name ∈ fnd x rs
    · by_cases b : r.name = x
      · rw_mod_cast ["AM", h.flT, cmp_box t.good hx, cmp_box t.good (.inr hn), a, b, decide_true, ne_eq, not_true_eq_false]
        subst b
        rw_mod_cast ["A", a, cmp_box t.good (.inr hn)]
      · rw_mod_cast ["AM", h.flT, cmp_box t.good hx, cmp_box t.good (.inr hn), a, b, ne_eq]
    · rw_mod_cast ["AM", h.flT, a]⟩)]
  rw_mod_cast ["A", eq_self]
  simp only [belowL, namesOf, List.filter_map, List.map_map, Function.comp_def]
structure HasW0 (T : Tab) : Prop where
  lway : T.fn n_law_way = some f_law_way
structure HasW (T : Tab) : Prop extends HasW0 T where
  lbelow : T.fn n_law_below = some f_law_below
abbrev rowsD (rs : List Rw) : D := .lst (rs.map rowD)
theorem get_fol {rs : List Rw} (g : Good rs) {r : Rw} (hr : r ∈ rs) : dget (rs.map fun r => (Sum.inr r.name : Key)) (rs.map fun r => Val.fz (.str r.folder)) (.inr r.name) = some (.fz (.str r.folder)) := dget_str (f := fun r : Rw => r.name) (g := fun r => Val.fz (.str r.folder)) g.nd hr
theorem wayL_ok (h : HasW0 T) (n : Nat) {rs : List Rw} (g : Good rs) (few : rs.length ≤ 90) {x : Str} (hx : x = sTop ∨ x ∈ namesOf rs) : (fx T (n+1)).fn n_law_way [.fz (rowsD rs), .fz (.str x)] [] = .ok (.nw (.lst ((way rs x).map fun y => .fz (.str y)))) [] := by
  rw [fx_fn h.lway]
  have hl : rs.length ≤ 1000000 := by omega
  have nd := nd_inr (f := fun r : Rw => r.name) g.nd
  rw_mod_cast ["AM", f_law_way, rowsD, rowD, hl]
  rw [lc_map (f := fun r => Val.fz (.tup [.str r.name, .str r.folder])) rfl (fun r hr => ⟨_, rfl, by rw_mod_cast ["AM", eq_self]⟩)]
  rw_mod_cast ["AM", nd, hl]
  generalize hE : @wloopK _ _ ⟨_⟩ ⟨_⟩ _ _ _ = o
  obtain ⟨δ', μ', rfl, v, rfl, rfl⟩ := wloop_inv' hE (fun j δ μ => ∃ b acc, δ = [some (.fz (.lst (rs.map fun r => .tup [.str r.name, .str r.folder, .str r.kind, priceD r.price]))), some (.fz (.str b)), some (.fz (.dct (rs.map fun r => Sum.inr r.name) (rs.map fun r => .str r.folder))), some (.cel 0), none] ∧ μ = [.lst (acc.map fun y => .fz (.str y))] ∧ (b = sTop ∨ b ∈ namesOf rs) ∧ way rs x = way rs b ++ acc ∧ j = (way rs b).length)
    (fun δ μ => ∃ v, δ = [some (.fz (.lst (rs.map fun r => .tup [.str r.name, .str r.folder, .str r.kind, priceD r.price]))), v, some (.fz (.dct (rs.map fun r => Sum.inr r.name) (rs.map fun r => .str r.folder))), some (.cel 0), none] ∧ μ = [.lst ((way rs x).map fun y => .fz (.str y))]) (way rs x).length (by have := way_le (rs := rs) x; omega) ⟨x, [], rfl, rfl, hx, by simp, rfl⟩ (by
    rintro j δ μ ⟨b, acc, rfl, rfl, hb, hw, rfl⟩
    by_cases e : b = Str.ofString "top"
    · refine ⟨false, [.lst (acc.map fun y => .fz (.str y))], ?_, fun _ => ⟨_, rfl, ?_⟩, fun z => nomatch z⟩
      · rw_mod_cast ["AM", cmp_box g hb, top_ok, decide_eq_true e]
      · rw [hw, e, show way rs (Str.ofString "top") = [] from g.wayTop]; rfl
    · refine ⟨true, [.lst (acc.map fun y => .fz (.str y))], ?_, fun z => (nomatch z), fun _ => ?_⟩
      · rw_mod_cast ["AM", cmp_box g hb, top_ok, decide_eq_false e]
      · obtain ⟨r, hr, rfl⟩ := List.mem_map.mp (hb.resolve_left e)
        have hs := g.wayStep r hr
        have la : acc.length < 1000000 := by
          have h1 := congrArg List.length hw
          have h2 := way_le (rs := rs) x
          rw [List.length_append] at h1
          omega
        refine ⟨(way rs r.folder).length, by rw [hs]; simp, ?_⟩
        rw_mod_cast ["AM", la, get_fol g hr, Int.reducePow]
        refine .mk ⟨r.folder, r.name :: acc, ?_, ?_, g.folIn hr, by rw [hw, hs]; simp, rfl⟩
        · rw_mod_cast ["AM", eq_self]
        · rw_mod_cast ["AM", eq_self])
  rw_mod_cast ["AM", eq_self]
theorem below_eq {rs : List Rw} {x : Str} (g : Good rs) : (((namesOf rs).filter fun n => !decide (n = x)).filter fun n => decide (x = sTop) || decide (x ∈ way rs n)) = belowL rs x := by
  unfold belowL
  rw [List.filter_filter]
  apply List.filter_congr
  intro n hn
  have := fnd_way (x := x) g n (.inr hn)
  rw [Bool.eq_iff_iff]
  simp only [Bool.and_eq_true, Bool.or_eq_true, decide_eq_true_eq, Bool.not_eq_true', decide_eq_false_iff_not, ne_eq]
  rw [this]
theorem belowLw_ok (h : HasW T) (n : Nat) {rs : List Rw} (g : Good rs) (few : rs.length ≤ 90) {x : Str} (hx : x = sTop ∨ x ∈ namesOf rs) : (fx T (n+2)).fn n_law_below [.fz (rowsD rs), .fz (.str x)] [] = .ok (.nw (.lst ((belowL rs x).map fun y => .fz (.str y)))) [] := by
  rw [fx_fn h.lbelow]
  have hl : rs.length ≤ 1000000 := by omega
  rw [← below_eq g]
  rw_mod_cast ["AM", f_law_below, rowsD, rowD, hl]
  rw [lc_filter (p := fun r => !decide (r.name = x)) (f := fun r => Val.fz (.str r.name)) rfl (fun r hr => ⟨_, rfl, by
    have hn : r.name ∈ namesOf rs := List.mem_map.mpr ⟨r, hr, rfl⟩
    rw_mod_cast ["AM", cmp_box g hx, cmp_box g (.inr hn)]
    cases decide (r.name = x) <;> rw_mod_cast ["A", eq_self]⟩)]
  have hl2 : (rs.filter fun r => !decide (r.name = x)).length ≤ 1000000 := Nat.le_trans (List.length_filter_le _ _) hl
  rw_mod_cast ["AM", hl2]
  rw [lc_filter (p := fun r : Rw => decide (x = sTop) || decide (x ∈ way rs r.name)) (f := fun r => Val.fz (.str r.name)) rfl (fun r hr => ⟨_, rfl, by
    have hr' := (List.mem_filter.mp hr).1
    have hn : r.name ∈ namesOf rs := List.mem_map.mpr ⟨r, hr', rfl⟩
    have e := wayL_ok h.toHasW0 n g few (.inr hn)
    simp only [rowsD, rowD] at e
    by_cases a : x = Str.ofString "top"
    · rw_mod_cast ["AM", cmp_box g hx, top_ok, decide_eq_true a]
    · rw_mod_cast ["AM", cmp_box g hx, top_ok, decide_eq_false a, h.lway, e]
      cases decide (x ∈ way rs r.name) <;> rw_mod_cast ["A", eq_self]⟩)]
  rw_mod_cast ["A", eq_self]
  simp only [namesOf, List.filter_map, List.map_map, Function.comp_def]
end CS
set_option maxRecDepth 100000
set_option maxHeartbeats 4000000
namespace CS
open PySem L2 EW CT TM
variable {T : Tab}
structure HasH (T : Tab) : Prop extends HasE T, HasW T where
  shows : T.fn n_law_shows = some f_law_shows
theorem lenT (h : HasM T) (n : Nat) {rs : List Rw} {μ : Mu} (t : Tr rs) : lenR (fx T (n+1)) (.fz (treeD rs)) μ = .ok (.fz (.int rs.length)) μ := by
  have e := len_ok h n (rs := rs)
  have hl := t.few
  unfold treeD at e ⊢
  refine lenR_ins (by simp only [fx_dm, h.len, Option.isSome_some]) ?_ (by omega) (by omega)
  simp only [lend, lendW, lendS, cellsOf, picks, renum, give, O.flat, O.frozen, fzAll, Res.ok, List.nodup_nil, List.nodup_cons, List.not_mem_nil, List.mem_cons, not_false_eq_true, and_self, or_false, Option.isSome_some, Option.isSome_none, fx_df, fx_dm, fx_fl, fx_gd, fx_kc, run_eq, endF_nx, endF_rt, endF_ex, endF_no, evSs, evS, evE, evT, evEs, ↓bind_eq, bnd_ok, bnd_ex, bnd_no, Out.run_ok, Out.run_ex, Out.run_no, ↓thn_eq, thk_nx, thk_rt, thk_bk, thk_ct, thk_ex, thk_no, arg_fz, arg_cel, arg_nw, argO_ok, argO_ex, argO_no, nm_fz, nm_cel, rnm_fz, rnm_nw, rnm_cel, res_fz, res_cel, fr_fz, fr_cel, fr_nw, mkc_nw, mkc_fz, mkc_cel, outO_some, outO_none, ofO_some, ofO_none, iceOf, startE, List.map_cons, List.map_nil, List.length_cons, List.length_nil, List.getElem?_cons_zero, List.getElem?_cons_succ, List.set_cons_zero, List.set_cons_succ, List.cons_append, List.nil_append, List.replicate, ↓reduceIte, reduceCtorEq, Nat.reduceAdd, Nat.reduceSub, Nat.reduceEqDiff, Option.map_some, Option.map_none, e, List.all_nil, Bool.and_self, decide_true]
theorem shows_ok (h : HasH T) (n : Nat) {rs : List Rw} (t : Tr rs) (few : rs.length ≤ 90) : (fx T (n+4)).fn n_law_shows [.fz (treeD rs), .fz (rowsD rs)] [] = .ok (.fz (.bl true)) [] := by
  rw [fx_fn h.shows]
  have g := t.good
  have hl : rs.length ≤ 1000000 := by omega
  have hl2 : 1 + rs.length ≤ 1000000 := by omega
  have hl3 : rs.length ≤ 999999 := by omega
  have e1 := lenT h.toHasM (n+2) (rs := rs) (μ := []) t
  have e2 := rws_ok h.toHasM (n+2) t
  have cr : cmpB (.lst (rs.map rowD)) = true := (cmp_rows g).cmp
  have er := eqD_refl cr
  simp only [treeD] at e1 e2
  rw_mod_cast ["AM", f_law_shows, rowsD, treeD, e1, e2, h.len, h.rws, hl, Out.calm, cr, er]
  rw [lc_map (f := fun r => Val.fz (.bl true)) rfl (fun r hr => ⟨_, rfl, by rw_mod_cast ["AM", rowD]⟩)]
  have ht : (rs.all fun _ => true) = true := by rw [List.all_eq_true]; exact fun _ _ => rfl
  rw_mod_cast ["AM", List.all_map, Function.comp_def, id_eq, ht, hl]
  generalize hE : @loopK _ _ _ _ ⟨_⟩ _ _ _ = o
  obtain ⟨δ', μ', rfl, rfl, rfl⟩ := loop_inv' hE (fun i δ μ => δ = [some (.fz (treeD rs)), some (.fz (.lst (rs.map rowD))), none, none, none, none, none, none, none] ∧ μ = []) ⟨rfl, rfl⟩ (fun _ _ _ _ => rfl) (by
    rintro i d δ μ hd ⟨rfl, rfl⟩
    obtain ⟨r, hri, rfl⟩ := map_get hd
    have hr : r ∈ rs := List.mem_of_getElem? hri
    have hn : r.name ∈ namesOf rs := List.mem_map.mpr ⟨r, hr, rfl⟩
    have f1 := folder_ok h.toHasE0 n t hr
    have f2 := kind_ok h.toHasE0 n t hr
    have f3 := price_ok h.toHasE0 n t hr
    have f4 := cont_ok h.toHasM (n+2) (any_name g hr) (rs := rs)
    have ct : cmpB (.tup [.str r.folder, .str r.kind, priceD r.price]) = true := (cmp_told g hr).cmp
    have et := eqD_refl ct
    rw [among_mem hr] at f4
    simp only [treeD] at f1 f2 f3 f4
    refine ⟨_, rfl, ?_⟩
    rw_mod_cast ["AM", treeD, rowD, f1, f2, f3, f4, h.folder, h.kind, h.price, h.cont, Out.calm, ct, et]
    refine .mk ⟨?_, ?_⟩
    · rw_mod_cast ["AM", treeD, rowD]
    · rw_mod_cast ["AM", eq_self])
  rw_mod_cast ["AM", treeD, hl]
  rw [lc_map (f := fun r => Val.fz (.str r.name)) rfl (fun r hr => ⟨_, rfl, by rw_mod_cast ["AM", rowD]⟩)]
  rw_mod_cast ["AM", hl, hl2, hl3]
  clear hE
  generalize hE : @loopK _ _ _ _ ⟨_⟩ _ _ _ = o
  obtain ⟨δ', μ', rfl, rfl, rfl⟩ := loop_inv' hE (fun i δ μ => δ = [some (.fz (treeD rs)), some (.fz (.lst (rs.map rowD))), none, none, none, none, none, none, none] ∧ μ = []) ⟨rfl, rfl⟩ (fun _ _ _ _ => rfl) (by
    rintro i d δ μ hd ⟨rfl, rfl⟩
    obtain ⟨x, hx, rfl⟩ : ∃ x, (x = sTop ∨ x ∈ namesOf rs) ∧ d = .one (.fz (.str x)) := by
      cases i with
      | zero => simp at hd; exact ⟨sTop, .inl rfl, hd.symm⟩
      | succ i =>
        rw [List.getElem?_cons_succ] at hd
        obtain ⟨r, hri, rfl⟩ := map_get hd
        exact ⟨r.name, .inr (List.mem_map.mpr ⟨r, List.mem_of_getElem? hri, rfl⟩), rfl⟩
    have f1 := inside_ok h.toHasE n t hx
    have f2 := below_ok h.toHasE n t hx
    have f3 := belowLw_ok h.toHasW (n+1) g few hx
    have c1 : cmpB (.lst ((rs.filter fun r => decide (r.folder = x)).map fun r => .str r.name)) = true := by
      have := (cmp_names g (l := insideL rs x) (inside_sub rs x)).cmp
      simpa [insideL, List.map_map, Function.comp_def] using this
    have c2 : cmpB (.lst ((belowL rs x).map fun y => .str y)) = true := (cmp_names g (below_sub rs x)).cmp
    simp only [treeD] at f1 f2
    simp only [rowsD] at f3
    refine ⟨_, rfl, ?_⟩
    rw_mod_cast ["AM", treeD, f1, f2, f3, h.inside, h.below, h.lbelow, hl]
    rw [lc_filter (p := fun r => decide (r.folder = x)) (f := fun r => Val.fz (.str r.name)) rfl (fun r hr => ⟨_, rfl, by
      rw_mod_cast ["AM", rowD, cmp_box g hx, cmp_box g (g.folIn hr)]
      cases decide (r.folder = x) <;> rw_mod_cast ["A", eq_self]⟩)]
    rw_mod_cast ["AM", treeD, f1, f2, f3, h.inside, h.below, h.lbelow, hl, c1, c2]
    refine .mk ⟨?_, ?_⟩
    · rw_mod_cast ["AM", treeD, rowD]
    · rw_mod_cast ["AM", eq_self])
  rw_mod_cast ["AM", treeD, hl, hl3]
end CS
set_option maxRecDepth 100000
set_option maxHeartbeats 2000000
namespace TM
open PySem L2 EW
def ben (rs : List Rw) (x : Str) : List Str := (namesOf rs).filter fun n => decide (x ∈ way rs n)
def lessL (rs : List Rw) (x : Str) : List Rw := rs.filter fun r => !decide (x ∈ way rs r.name)
def mvR (x f : Str) (r : Rw) : Rw := if r.name = x then ⟨x, f, r.kind, r.price⟩ else r
def movedL (rs : List Rw) (x f : Str) : List Rw := lessL rs x ++ (rs.filter fun r => decide (x ∈ way rs r.name)).map (mvR x f)
def opR (x : Str) (r : Rw) : Rw := if r.name = x then ⟨r.name, r.folder, sFolder, r.price⟩ else r
theorem mvR_name {x f : Str} {r : Rw} : (mvR x f r).name = r.name := by unfold mvR; split <;> simp_all
theorem mvR_kind {x f : Str} {r : Rw} : (mvR x f r).kind = r.kind := by unfold mvR; split <;> rfl
theorem mvR_price {x f : Str} {r : Rw} : (mvR x f r).price = r.price := by unfold mvR; split <;> rfl
theorem Good.waySelf {rs : List Rw} (g : Good rs) {x : Str} (hx : x ∈ namesOf rs) : x ∈ way rs x := by
  obtain ⟨r, hr, rfl⟩ := List.mem_map.mp hx
  rw [g.wayStep r hr]; exact List.mem_append_right _ List.mem_cons_self
theorem gone_iff {rs : List Rw} (g : Good rs) {x : Str} (hx : x ∈ namesOf rs) {n : Str} (hn : n ∈ namesOf rs) : (n ∈ belowL rs x ∨ n = x) ↔ x ∈ way rs n := by
  have hxt : x ≠ sTop := fun e => g.topNot (e ▸ hx)
  have fw := fnd_way (x := x) g n (.inr hn)
  unfold belowL
  rw [List.mem_filter]
  simp only [Bool.and_eq_true, decide_eq_true_eq, ne_eq]
  constructor
  · rintro (⟨_, h1, _⟩ | rfl)
    · exact (fw.mp h1).resolve_left hxt
    · exact g.waySelf hx
  · intro h
    by_cases e : n = x
    · exact .inr e
    · exact .inl ⟨hn, fw.mpr (.inr h), e⟩
theorem good_filter {rs : List Rw} (g : Good rs) (p : Rw → Bool) (hp : ∀ r ∈ rs, p r = true → ∀ q ∈ rs, q.name = r.folder → p q = true) : Good (rs.filter p) := by
  induction g with
  | nil => exact .nil
  | @snoc pre r g ok ih =>
    have ih' := ih fun r hr h q hq e => hp r (List.mem_append_left _ hr) h q (List.mem_append_left _ hq) e
    rw [List.filter_append]
    cases hr : p r with
    | false => simpa [hr] using ih'
    | true =>
      rw [List.filter_cons_of_pos hr, List.filter_nil]
      refine .snoc ih' ⟨ok.name, fun q hq => ok.new q (List.mem_filter.mp hq).1, ?_, ok.kind, ok.price⟩
      rcases ok.fol with e | ⟨q, hq, e1, e2⟩
      · exact .inl e
      · exact .inr ⟨q, List.mem_filter.mpr ⟨hq, hp r (by simp) hr q (List.mem_append_left _ hq) e1⟩, e1, e2⟩
theorem less_good {rs : List Rw} (g : Good rs) (x : Str) : Good (lessL rs x) := by
  refine good_filter g _ fun r hr hp q hq e => ?_
  simp only [Bool.not_eq_true', decide_eq_false_iff_not] at hp ⊢
  rw [g.wayStep r hr] at hp
  rw [e]
  exact fun z => hp (List.mem_append_left _ z)
theorem nd_eq {rs : List Rw} (g : Good rs) {p q : Rw} (hp : p ∈ rs) (hq : q ∈ rs) (e : p.name = q.name) : p = q := by
  have nd := g.nd
  clear g
  induction rs with
  | nil => exact nomatch hp
  | cons a l ih =>
    have nd' : (a.name :: namesOf l).Nodup := nd
    obtain ⟨h1, h2⟩ := List.nodup_cons.mp nd'
    rcases List.mem_cons.mp hp with e1 | hp1
    · rcases List.mem_cons.mp hq with e2 | hq1
      · rw [e1, e2]
      · exact (h1 (List.mem_map.mpr ⟨q, hq1, by rw [← e, e1]⟩)).elim
    · rcases List.mem_cons.mp hq with e2 | hq1
      · exact (h1 (List.mem_map.mpr ⟨p, hp1, by rw [e, e2]⟩)).elim
      · exact ih hp1 hq1 h2
theorem moved_good {rs : List Rw} (g : Good rs) {x f : Str} (hf : f = sTop ∨ ∃ q ∈ rs, q.name = f ∧ q.kind = sFolder ∧ x ∉ way rs f) : Good (movedL rs x f) := by
  have key : ∀ k, k ≤ rs.length → Good (lessL rs x ++ ((rs.take k).filter fun r => decide (x ∈ way rs r.name)).map (mvR x f)) := by
    intro k
    induction k with
    | zero => intro _; simpa using less_good g x
    | succ k ih =>
      intro hk
      have ih := ih (by omega)
      have hr : rs[k]? = some rs[k] := List.getElem?_eq_getElem (by omega)
      have hm : rs[k] ∈ rs := List.getElem_mem _
      have rok := g.at_ k _ hr
      have ht : rs.take (k + 1) = rs.take k ++ [rs[k]] := by rw [List.take_succ, hr]; rfl
      have hsub : ∀ q ∈ rs.take k, q ∈ rs := fun q hq => List.mem_of_mem_take hq
      rw [ht, List.filter_append]
      generalize rs[k] = r at rok hm
      generalize rs.take k = pre at rok ih hsub
      by_cases hw : x ∈ way rs r.name
      · have e : [r].filter (fun r => decide (x ∈ way rs r.name)) = [r] := by simp [hw]
        rw [e, List.map_append, List.map_cons, List.map_nil, ← List.append_assoc]
        refine .snoc ih ⟨by rw [mvR_name]; exact rok.name, fun q hq => ?_, ?_, by rw [mvR_kind]; exact rok.kind, by rw [mvR_price]; exact rok.price⟩
        · rw [mvR_name]
          rcases List.mem_append.mp hq with h | h
          · have h' := (List.mem_filter.mp h).2
            simp only [Bool.not_eq_true', decide_eq_false_iff_not] at h'
            exact fun e => h' (by rw [e]; exact hw)
          · obtain ⟨p, hp, rfl⟩ := List.mem_map.mp h
            rw [mvR_name]
            exact rok.new p (List.mem_filter.mp hp).1
        · by_cases hx : r.name = x
          · have ef : (mvR x f r).folder = f := by simp [mvR, hx]
            rw [ef]
            rcases hf with h | ⟨q, hq, e1, e2, e3⟩
            · exact .inl h
            · exact .inr ⟨q, List.mem_append_left _ (List.mem_filter.mpr ⟨hq, by simp [e1, e3]⟩), e1, e2⟩
          · have ef : (mvR x f r).folder = r.folder := by simp [mvR, hx]
            rw [ef]
            have hw2 : x ∈ way rs r.folder := by
              rw [g.wayStep r hm] at hw
              rcases List.mem_append.mp hw with h | h
              · exact h
              · exact (hx (List.mem_singleton.mp h).symm).elim
            rcases rok.fol with h | ⟨q, hq, e1, e2⟩
            · rw [h, g.wayTop] at hw2; exact nomatch hw2
            · exact .inr ⟨mvR x f q, List.mem_append_right _ (List.mem_map.mpr ⟨q, List.mem_filter.mpr ⟨hq, by rw [e1]; exact decide_eq_true hw2⟩, rfl⟩), by rw [mvR_name]; exact e1, by rw [mvR_kind]; exact e2⟩
      · have e : [r].filter (fun r => decide (x ∈ way rs r.name)) = [] := by simp [hw]
        rw [e, List.append_nil]
        exact ih
  have := key rs.length (Nat.le_refl _)
  rwa [List.take_length] at this
theorem lessL_len (rs : List Rw) (x : Str) : (lessL rs x).length ≤ rs.length := List.length_filter_le _ _
theorem movedL_len (rs : List Rw) (x f : Str) : (movedL rs x f).length ≤ 2 * rs.length := by
  unfold movedL
  have h1 := lessL_len rs x
  have h2 := List.length_filter_le (fun r : Rw => decide (x ∈ way rs r.name)) rs
  simp only [List.length_append, List.length_map]; omega
/-- rows that a shut box may hold -/
structure InnOk (rs : List Rw) (x : Str) (pre : List Rw) (r : Rw) : Prop where
  name : NameOk r.name
  new : ∀ q ∈ rs ++ pre, q.name ≠ r.name
  fol : r.folder = x ∨ ∃ q ∈ pre, q.name = r.folder ∧ q.kind = sFolder
  kind : r.kind ∈ kinds
  price : PriceOk r.price
inductive Inn (rs : List Rw) (x : Str) : List Rw → Prop where
  | nil : Inn rs x []
  | snoc {pre : List Rw} {r : Rw} : Inn rs x pre → InnOk rs x pre r → Inn rs x (pre ++ [r])
theorem opR_name {x : Str} {r : Rw} : (opR x r).name = r.name := by unfold opR; split <;> rfl
theorem opR_folder {x : Str} {r : Rw} : (opR x r).folder = r.folder := by unfold opR; split <;> rfl
theorem opR_price {x : Str} {r : Rw} : (opR x r).price = r.price := by unfold opR; split <;> rfl
theorem opR_kind {x : Str} {r : Rw} (h : r.kind ∈ kinds) : (opR x r).kind ∈ kinds := by unfold opR; split; exact List.mem_cons_self; exact h
theorem opR_fol {x : Str} {r : Rw} (h : r.kind = sFolder) : (opR x r).kind = sFolder := by unfold opR; split; rfl; exact h
theorem op_good {rs : List Rw} (g : Good rs) (x : Str) : Good (rs.map (opR x)) := by
  induction g with
  | nil => exact .nil
  | @snoc pre r g ok ih =>
    rw [List.map_append, List.map_cons, List.map_nil]
    refine .snoc ih ⟨by rw [opR_name]; exact ok.name, fun q hq => ?_, ?_, opR_kind ok.kind, by rw [opR_price]; exact ok.price⟩
    · obtain ⟨p, hp, rfl⟩ := List.mem_map.mp hq
      rw [opR_name, opR_name]; exact ok.new p hp
    · rw [opR_folder]
      rcases ok.fol with h | ⟨q, hq, e1, e2⟩
      · exact .inl h
      · exact .inr ⟨_, List.mem_map.mpr ⟨q, hq, rfl⟩, by rw [opR_name]; exact e1, opR_fol e2⟩
theorem opened_good {rs inn : List Rw} (g : Good rs) {x : Str} (hx : x ∈ namesOf rs) (h : Inn rs x inn) : Good (rs.map (opR x) ++ inn) := by
  induction h with
  | nil => rw [List.append_nil]; exact op_good g x
  | @snoc pre r i ok ih =>
    rw [← List.append_assoc]
    refine .snoc ih ⟨ok.name, fun q hq => ?_, ?_, ok.kind, ok.price⟩
    · rcases List.mem_append.mp hq with h | h
      · obtain ⟨p, hp, rfl⟩ := List.mem_map.mp h
        rw [opR_name]; exact ok.new p (List.mem_append_left _ hp)
      · exact ok.new q (List.mem_append_right _ h)
    · rcases ok.fol with h | ⟨q, hq, e1, e2⟩
      · obtain ⟨p, hp, e⟩ := List.mem_map.mp hx
        refine .inr ⟨opR x p, List.mem_append_left _ (List.mem_map.mpr ⟨p, hp, rfl⟩), ?_, ?_⟩
        · rw [opR_name, h]; exact e
        · unfold opR; rw [if_pos e]
      · exact .inr ⟨q, List.mem_append_right _ hq, e1, e2⟩
theorem Inn.at_ {rs inn : List Rw} {x : Str} (h : Inn rs x inn) : ∀ (i : Nat) (r : Rw), inn[i]? = some r → InnOk rs x (inn.take i) r ∧ Inn rs x (inn.take i) := by
  induction h with
  | nil => intro i r e; simp at e
  | @snoc pre r0 g ok ih =>
    intro i r e
    by_cases hi : i < pre.length
    · rw [List.getElem?_append_left hi] at e
      rw [List.take_append_of_le_length (Nat.le_of_lt hi)]
      exact ih i r e
    · have hi' : i = pre.length := by
        have := (List.getElem?_eq_some_iff.mp e).1
        simp at this; omega
      subst hi'
      rw [List.getElem?_append_right (Nat.le_refl _)] at e
      simp at e
      subst e
      rw [List.take_append_of_le_length (Nat.le_refl _), List.take_length]
      exact ⟨ok, g⟩
/-- folders that stand in an opened box -/
def ifl (x : Str) (rs : List Rw) : List Str := x :: (rs.filter fun r => decide (r.kind = sFolder)).map (·.name)
theorem ifl_snoc (x : Str) (pre : List Rw) (r : Rw) : ifl x (pre ++ [r]) = ifl x pre ++ (if r.kind = sFolder then [r.name] else []) := by
  unfold ifl
  rw [List.filter_append, List.filter_cons]
  by_cases h : r.kind = sFolder
  · simp [h]
  · simp [h]
theorem ifl_in {rs pre : List Rw} {x : Str} {r : Rw} (h : InnOk rs x pre r) : r.folder ∈ ifl x pre := by
  rcases h.fol with e | ⟨q, hq, e1, e2⟩
  · rw [e]; exact List.mem_cons_self
  · exact List.mem_cons_of_mem _ (List.mem_map.mpr ⟨q, List.mem_filter.mpr ⟨hq, decide_eq_true e2⟩, e1⟩)
/-- new names -/
def nwN (c : Nat) : Str := Str.ofString "new" ++ (⟨#[c]⟩ : Str)
theorem nwN_cps (c : Nat) : (nwN c).cps.toList = [110, 101, 119, c] := by
  unfold nwN
  rw [app_cps]
  have : (Str.ofString "new").cps.toList = [110, 101, 119] := by decide +kernel
  rw [this]; rfl
theorem nwN_len (c : Nat) : (nwN c).length = 4 := by
  have := congrArg List.length (nwN_cps c)
  simpa [Str.length] using this
theorem nwN_inj {a b : Nat} (h : nwN a = nwN b) : a = b := by
  have := nwN_cps a
  rw [h, nwN_cps] at this
  simpa using this.symm
theorem nwN_ok {c : Nat} (hc : letter c) : NameOk (nwN c) := by
  refine ⟨⟨by rw [nwN_len]; decide, by rw [nwN_len]; decide, fun d hd => ?_⟩, fun z => ?_⟩
  · rw [nwN_cps] at hd
    simp at hd
    rcases hd with rfl | rfl | rfl | rfl
    · exact ⟨by decide, by decide⟩
    · exact ⟨by decide, by decide⟩
    · exact ⟨by decide, by decide⟩
    · exact hc
  · have e := nwN_len c
    rw [z] at e
    exact absurd e (by decide +kernel)
end TM
set_option maxRecDepth 100000
set_option maxHeartbeats 8000000
namespace CS
open PySem L2 EW CT TM
variable {T : Tab}
/-- a row as it may be handed in, frozen -/
def RowF (r : Rw) (d : D) : Prop := d = .tup (rowL r) ∨ d = .lst (rowL r)
/-- a tree is made of rows that do not change -/
theorem makeT (h : HasI T) (n : Nat) {rs : List Rw} (t : Tr rs) {ds : List D} (hl : ds.length = rs.length) (hd : ∀ (i : Nat) d r, ds[i]? = some d → rs[i]? = some r → RowF r d) {μ : Mu} : makeR ((fx T (n+3)).mt cTree 0) cTree [.fz (.lst ds)] μ = .ok (.nw (.ins cTree [.fz (.dct (rs.map fun r => Sum.inr r.name) (rs.map rowD)), .fz (.lst ((fols rs).map .str))])) μ := by
  have e := init_ok h n (μ := []) (w := .fz (.lst ds)) plain_nil (.fl _) (by simpa using hl) t.few (fun i w r h1 h2 => by
    obtain ⟨q, h3, rfl⟩ := map_get h1
    rcases hd i q r h3 h2 with rfl | rfl
    · exact .tup
    · exact .lst) t.good
  simp only [List.nil_append, List.length_nil] at e
  simp only [makeR, cellsOf, List.isEmpty_nil, ↓reduceIte, e, O.flat, O.frozen, fzAll, Option.map_some, Option.isSome_some]
theorem rowF_map {rs : List Rw} : ∀ (i : Nat) d r, (rs.map rowD)[i]? = some d → rs[i]? = some r → RowF r d := fun i d r h1 h2 => by
  obtain ⟨q, h3, rfl⟩ := map_get h1
  rw [h2] at h3; cases h3
  exact .inl rfl
/-- two trees are compared -/
theorem eqT (h : HasE0 T) (n : Nat) {rs qs : List Rw} (t : Tr rs) (u : Tr qs) {neg : Bool} {μ : Mu} : eqR (fx T (n+1)) neg (.fz (treeD rs)) (.fz (treeD qs)) μ = .ok (ng neg (decide (rs = qs))) μ := by
  have e := eq_ok h n t u
  simp only [treeD] at e ⊢
  unfold eqR
  dsimp only
  rw [if_pos ⟨rfl, by simp only [fx_dm, h.eq, Option.isSome_some]⟩]
  simp only [lend, lendW, lendS, cellsOf, picks, renum, give, O.flat, O.frozen, fzAll, Res.ok, List.nodup_nil, List.nodup_cons, List.not_mem_nil, List.mem_cons, not_false_eq_true, and_self, or_false, Option.isSome_some, Option.isSome_none, fx_df, fx_dm, fx_fl, fx_gd, fx_kc, run_eq, endF_nx, endF_rt, endF_ex, endF_no, evSs, evS, evE, evT, evEs, ↓bind_eq, bnd_ok, bnd_ex, bnd_no, Out.run_ok, Out.run_ex, Out.run_no, ↓thn_eq, thk_nx, thk_rt, thk_bk, thk_ct, thk_ex, thk_no, arg_fz, arg_cel, arg_nw, argO_ok, argO_ex, argO_no, nm_fz, nm_cel, rnm_fz, rnm_nw, rnm_cel, res_fz, res_cel, fr_fz, fr_cel, fr_nw, mkc_nw, mkc_fz, mkc_cel, outO_some, outO_none, ofO_some, ofO_none, iceOf, startE, List.map_cons, List.map_nil, List.length_cons, List.length_nil, List.getElem?_cons_zero, List.getElem?_cons_succ, List.set_cons_zero, List.set_cons_succ, List.cons_append, List.nil_append, List.replicate, ↓reduceIte, reduceCtorEq, Nat.reduceAdd, Nat.reduceSub, Nat.reduceEqDiff, Option.map_some, Option.map_none, e, List.all_nil, Bool.and_self, decide_true, Out.calm]
structure HasX (T : Tab) : Prop extends HasE T where
  wayM : T.mt cTree kway = some mTreeway
  more : T.mt cTree kmore = some mTreemore
  less : T.mt cTree kless = some mTreeless
  moved : T.mt cTree kmoved = some mTreemoved
  opened : T.mt cTree kopened = some mTreeopened
theorem wayT_ok (h : HasX T) (n : Nat) {rs : List Rw} (t : Tr rs) (few : rs.length ≤ 90) {x : Str} (hx : x = sTop ∨ x ∈ namesOf rs) : (fx T (n+3)).mt cTree kway [.fz (treeD rs), .fz (.str x)] [] = .ok (.nw (.lst ((way rs x).map fun y => .fz (.str y)))) [] := by
  rw [fx_mt h.wayM]
  have g := t.good
  have e := check_ok h.toHasM n t hx
  simp only [treeD] at e
  rw_mod_cast ["AM", mTreeway, treeD, e, h.check]
  generalize hE : @wloopK _ _ ⟨_⟩ ⟨_⟩ _ _ _ = o
  obtain ⟨δ', μ', rfl, v, rfl, rfl⟩ := wloop_inv' hE (fun j δ μ => ∃ b acc, δ = [some (.fz (treeD rs)), some (.fz (.str b)), some (.cel 0)] ∧ μ = [.lst (acc.map fun y => .fz (.str y))] ∧ (b = sTop ∨ b ∈ namesOf rs) ∧ way rs x = way rs b ++ acc.reverse ∧ j = (way rs b).length)
    (fun δ μ => ∃ v, δ = [some (.fz (treeD rs)), v, some (.cel 0)] ∧ μ = [.lst ((way rs x).reverse.map fun y => .fz (.str y))]) (way rs x).length (by have := way_le (rs := rs) x; omega) ⟨x, [], rfl, rfl, hx, by simp, rfl⟩ (by
    rintro j δ μ ⟨b, acc, rfl, rfl, hb, hw, rfl⟩
    by_cases e : b = Str.ofString "top"
    · refine ⟨false, [.lst (acc.map fun y => .fz (.str y))], ?_, fun _ => ⟨_, rfl, ?_⟩, fun z => nomatch z⟩
      · rw_mod_cast ["AM", treeD, h.top, cmp_box g hb, top_ok, decide_eq_true e]
      · rw [hw, e, show way rs (Str.ofString "top") = [] from g.wayTop]; simp
    · refine ⟨true, [.lst (acc.map fun y => .fz (.str y))], ?_, fun z => (nomatch z), fun _ => ?_⟩
      · rw_mod_cast ["AM", treeD, h.top, cmp_box g hb, top_ok, decide_eq_false e]
      · obtain ⟨r, hr, rfl⟩ := List.mem_map.mp (hb.resolve_left e)
        have hs := g.wayStep r hr
        have la : acc.length < 1000000 := by
          have h1 := congrArg List.length hw
          have h2 := way_le (rs := rs) x
          rw [List.length_append, List.length_reverse] at h1
          omega
        refine ⟨(way rs r.folder).length, by rw [hs]; simp, ?_⟩
        have gr := get_row g hr
        simp only [rowD] at gr
        rw_mod_cast ["AM", treeD, h.flT, la, gr, rowD, Int.reducePow]
        refine .mk ⟨r.folder, acc ++ [r.name], ?_, ?_, g.folIn hr, by rw [hw, hs]; simp, rfl⟩
        · rw_mod_cast ["AM", treeD, rowD]
        · rw_mod_cast ["AM", treeD])
  rw_mod_cast ["AM", treeD, List.map_reverse, List.reverse_reverse]
theorem more_ok (h : HasX T) (n : Nat) {rs : List Rw} (t : Tr rs) {r : Rw} (u : Tr (rs ++ [r])) {d : D} (hd : RowF r d) : (fx T (n+4)).mt cTree kmore [.fz (treeD rs), .fz d] [] = .ok (.nw (.ins cTree [.fz (.dct ((rs ++ [r]).map fun r => Sum.inr r.name) ((rs ++ [r]).map rowD)), .fz (.lst ((fols (rs ++ [r])).map .str))])) [] := by
  rw [fx_mt h.more]
  have e := rws_ok h.toHasM (n+2) t
  have hl : rs.length + 1 ≤ 1000000 := by have := u.few; simp at this; omega
  have m := makeT h.toHasI n u (ds := rs.map rowD ++ [d]) (by simp) (fun i d' r' h1 h2 => by
    by_cases hi : i < rs.length
    · rw [List.getElem?_append_left (by simpa using hi)] at h1
      rw [List.getElem?_append_left hi] at h2
      exact rowF_map i d' r' h1 h2
    · have hi' : i = rs.length := by
        have := (List.getElem?_eq_some_iff.mp h2).1
        simp at this; omega
      subst hi'
      rw [List.getElem?_append_right (by simp)] at h1
      rw [List.getElem?_append_right (by simp)] at h2
      simp at h1 h2
      subst h1 h2
      exact hd) (μ := [])
  simp only [treeD] at e
  rw_mod_cast ["AM", mTreemore, treeD, h.rws, h.init, e, hl, m]
/-- a test for names in a list -/
theorem in_lst {F : Fx} {neg : Bool} {y : Str} {G : List D} {ys : List Str} {μ : Mu} (h : G = ys.map D.str) : inR F neg (.fz (.str y)) (.fz (.lst G)) μ = .ok (ng neg (decide (y ∈ ys))) μ := by
  subst h
  rw_mod_cast ["A", eq_self]
theorem less_ok (h : HasX T) (n : Nat) {rs : List Rw} (t : Tr rs) {r : Rw} (hr : r ∈ rs) : (fx T (n+4)).mt cTree kless [.fz (treeD rs), .fz (.str r.name)] [] = .ok (.nw (.ins cTree [.fz (.dct ((lessL rs r.name).map fun r => Sum.inr r.name) ((lessL rs r.name).map rowD)), .fz (.lst ((fols (lessL rs r.name)).map .str))])) [] := by
  rw [fx_mt h.less]
  have g := t.good
  have hn : r.name ∈ namesOf rs := List.mem_map.mpr ⟨r, hr, rfl⟩
  have e1 := rowOf_ok h.toHasM (n+1) t hr
  have e2 := below_ok h.toHasE n t (.inr hn)
  have e3 := rws_ok h.toHasM (n+2) t
  have hl0 : rs.length ≤ 1000000 := by have := t.few; omega
  have hl : (belowL rs r.name).length + 1 ≤ 1000000 := by
    have h1 : (belowL rs r.name).length ≤ (namesOf rs).length := List.length_filter_le _ _
    have h2 : (namesOf rs).length = rs.length := by simp [namesOf]
    have := t.few; omega
  have u : Tr (lessL rs r.name) := ⟨less_good g _, Nat.le_trans (lessL_len _ _) t.few⟩
  have m := makeT h.toHasI n u (ds := (lessL rs r.name).map rowD) (by simp) rowF_map (μ := [])
  have ei : ∀ (y : Str) (μ : Mu), inR (fx T (n+3)) true (.fz (.str y)) (.fz (.lst ((belowL rs r.name).map (fun y => D.str y) ++ [D.str r.name]))) μ = .ok (ng true (decide (y ∈ belowL rs r.name ++ [r.name]))) μ := fun y μ => in_lst (by simp)
  simp only [treeD] at e1 e2 e3
  rw_mod_cast ["AM", mTreeless, treeD, h.rowOf, h.below, h.rws, h.init, e1, e2, e3, hl, hl0]
  rw [lc_filter (p := fun q => !decide (r.name ∈ way rs q.name)) (f := fun q => Val.fz (rowD q)) rfl (fun q hq => ⟨_, rfl, by
    have hqn : q.name ∈ namesOf rs := List.mem_map.mpr ⟨q, hq, rfl⟩
    have hi := gone_iff g hn hqn
    rw_mod_cast ["NM", rowD, ei]
    by_cases a : r.name ∈ way rs q.name
    · have b : q.name ∈ belowL rs r.name ++ [r.name] := by
        rcases hi.mpr a with z | z
        · exact List.mem_append_left _ z
        · exact List.mem_append_right _ (by rw [z]; exact List.mem_cons_self)
      simp only [a, b, run_eq, endF_nx, endF_rt, endF_ex, endF_no, evSs, evS, evE, evT, evEs, ↓bind_eq, bnd_ok, bnd_ex, bnd_no, Out.run_ok, Out.run_ex, Out.run_no, ↓thn_eq, thk_nx, thk_rt, thk_bk, thk_ct, thk_ex, thk_no, arg_fz, arg_cel, arg_nw, argO_ok, argO_ex, argO_no, nm_fz, nm_cel, rnm_fz, rnm_nw, rnm_cel, res_fz, res_cel, fr_fz, fr_cel, fr_nw, mkc_nw, mkc_fz, mkc_cel, outO_some, outO_none, ofO_some, ofO_none, iceOf, startE, List.map_cons, List.map_nil, List.length_cons, List.length_nil, List.getElem?_cons_zero, List.getElem?_cons_succ, List.set_cons_zero, List.set_cons_succ, List.cons_append, List.nil_append, List.replicate, ↓reduceIte, reduceCtorEq, Nat.reduceAdd, Nat.reduceSub, Nat.reduceEqDiff, Option.map_some, Option.map_none, cast_lit, Int.reduceEq, eq_self, binO, insF, ixR, dctV, seqV, lsqV, lstV, tupV, insV, atI_0, atI_1, atI_2, atI_3, ixN_0, ixN_1, ixN_2, ixN_3, binR, op_add_, op_sub_, op_mul_, op_mod_, op_div_, pow_10_18, op_pow_, mulB_l, mulB_r, cmpR, intCmp, truth, bltR, len_str, len_lst, len_tup, len_rol, len_rot, len_dct, len_cel, putR, decide_true, decide_false, Bool.false_eq_true, Int.reduceLE, Int.reduceLT, Int.reduceToNat, Int.reducePow, Int.reduceNeg, Nat.reducePow, Option.bind_some, Option.bind_none, decide_true, Bool.not_true, Nat.add_zero, big, Nat.reduceLeDiff, Nat.reduceLT, List.length_map, List.length_append, fzAll_append, mutV, putL, List.map_append, List.map_map, Function.comp_def, fzAll_mapf, fzAll_fz, ↓lc_eq, ↓dc_eq, keyO, ↓loop_eq, ↓wloop_eq, bmRecv, bmtR, walkR, itemsR, seqI, wipeD, setAllV, bindI, chk, List.set_nil]
    · have b : ¬ q.name ∈ belowL rs r.name ++ [r.name] := fun z => a (hi.mp ((List.mem_append.mp z).imp_right fun z => List.mem_singleton.mp z))
      simp only [a, b, run_eq, endF_nx, endF_rt, endF_ex, endF_no, evSs, evS, evE, evT, evEs, ↓bind_eq, bnd_ok, bnd_ex, bnd_no, Out.run_ok, Out.run_ex, Out.run_no, ↓thn_eq, thk_nx, thk_rt, thk_bk, thk_ct, thk_ex, thk_no, arg_fz, arg_cel, arg_nw, argO_ok, argO_ex, argO_no, nm_fz, nm_cel, rnm_fz, rnm_nw, rnm_cel, res_fz, res_cel, fr_fz, fr_cel, fr_nw, mkc_nw, mkc_fz, mkc_cel, outO_some, outO_none, ofO_some, ofO_none, iceOf, startE, List.map_cons, List.map_nil, List.length_cons, List.length_nil, List.getElem?_cons_zero, List.getElem?_cons_succ, List.set_cons_zero, List.set_cons_succ, List.cons_append, List.nil_append, List.replicate, ↓reduceIte, reduceCtorEq, Nat.reduceAdd, Nat.reduceSub, Nat.reduceEqDiff, Option.map_some, Option.map_none, cast_lit, Int.reduceEq, eq_self, binO, insF, ixR, dctV, seqV, lsqV, lstV, tupV, insV, atI_0, atI_1, atI_2, atI_3, ixN_0, ixN_1, ixN_2, ixN_3, binR, op_add_, op_sub_, op_mul_, op_mod_, op_div_, pow_10_18, op_pow_, mulB_l, mulB_r, cmpR, intCmp, truth, bltR, len_str, len_lst, len_tup, len_rol, len_rot, len_dct, len_cel, putR, decide_true, decide_false, Bool.false_eq_true, Int.reduceLE, Int.reduceLT, Int.reduceToNat, Int.reducePow, Int.reduceNeg, Nat.reducePow, Option.bind_some, Option.bind_none, decide_false, Bool.not_false, Nat.add_zero, big, Nat.reduceLeDiff, Nat.reduceLT, List.length_map, List.length_append, fzAll_append, mutV, putL, List.map_append, List.map_map, Function.comp_def, fzAll_mapf, fzAll_fz, ↓lc_eq, ↓dc_eq, keyO, ↓loop_eq, ↓wloop_eq, bmRecv, bmtR, walkR, itemsR, seqI, wipeD, setAllV, bindI, chk, List.set_nil]⟩)]
  simp only [lessL, treeD] at m
  rw_mod_cast ["AM", lessL, m]
end CS
set_option maxRecDepth 100000
set_option maxHeartbeats 2000000
namespace TM
open PySem L2 EW
def svRev (b : Bool) (p : Str → Bool) : List Rw → Str → Bool
  | [], _ => b
  | r :: rest, n => if n = r.name then (svRev b p rest r.folder != p r.name) else svRev b p rest n
/-- the value of a box -/
def sv (rs : List Rw) (b : Bool) (p : Str → Bool) (n : Str) : Bool := svRev b p rs.reverse n
theorem sv_snoc (rs : List Rw) (r : Rw) (b : Bool) (p : Str → Bool) (n : Str) : sv (rs ++ [r]) b p n = if n = r.name then (sv rs b p r.folder != p r.name) else sv rs b p n := by
  simp [sv, svRev]
theorem sv_top {rs : List Rw} (g : Good rs) (b : Bool) (p : Str → Bool) : sv rs b p sTop = b := by
  induction g with
  | nil => rfl
  | @snoc pre r g ok ih => rw [sv_snoc, if_neg (fun z => ok.name.nt z.symm), ih]
theorem Good.folNe {rs : List Rw} (h : Good rs) {r q : Rw} (hq : q ∈ rs) (ok : RowOk rs r) : q.folder ≠ r.name := by
  rcases h.folIn hq with e | e
  · rw [e]; exact fun e => ok.name.nt e.symm
  · exact fun z => ok.newN (z ▸ e)
theorem sv_step {rs : List Rw} (g : Good rs) (b : Bool) (p : Str → Bool) : ∀ r ∈ rs, sv rs b p r.name = (sv rs b p r.folder != p r.name) := by
  induction g with
  | nil => intro r hr; exact nomatch hr
  | @snoc pre r g ok ih =>
    intro q hq
    rw [sv_snoc, sv_snoc]
    rcases List.mem_append.mp hq with z | z
    · have h1 : q.name ≠ r.name := fun e => ok.newN (e ▸ List.mem_map.mpr ⟨q, z, rfl⟩)
      rw [if_neg h1, if_neg (g.folNe z ok)]
      exact ih q z
    · rw [List.mem_singleton.mp z, if_pos rfl, if_neg ok.folNe]
theorem sv_congr {rs : List Rw} (g : Good rs) {b : Bool} {p q : Str → Bool} (h : ∀ n ∈ namesOf rs, p n = q n) : ∀ n, sv rs b p n = sv rs b q n := by
  induction g with
  | nil => intro n; rfl
  | @snoc pre r g ok ih =>
    intro n
    have ih := ih fun n hn => h n (by rw [names_snoc]; exact List.mem_append_left _ hn)
    rw [sv_snoc, sv_snoc, ih, ih, h r.name (by rw [names_snoc]; exact List.mem_append_right _ List.mem_cons_self)]
/-- the law's reckoning -/
def lv (rs : List Rw) (b : Bool) (p : Str → Bool) (n : Str) : Bool := b != decide (((way rs n).filter p).length % 2 = 1)
theorem sv_lv {rs : List Rw} (g : Good rs) (b : Bool) (p : Str → Bool) : ∀ n, (n = sTop ∨ n ∈ namesOf rs) → sv rs b p n = lv rs b p n := by
  induction g with
  | nil => intro n _; simp [sv, svRev, lv, way, wayRev]
  | @snoc pre r g ok ih =>
    intro n hn
    rw [sv_snoc]
    unfold lv
    rw [way_snoc]
    by_cases e : n = r.name
    · rw [if_pos e, if_pos e, ih _ ok.folIn, e]
      unfold lv
      rw [List.filter_append, List.length_append]
      generalize ((way pre r.folder).filter p).length = k
      cases hp : p r.name with
      | false =>
        have hf : [r.name].filter p = [] := by simp [hp]
        rw [hf, List.length_nil, Nat.add_zero]
        cases b <;> cases decide (k % 2 = 1) <;> rfl
      | true =>
        have hf : [r.name].filter p = [r.name] := by simp [hp]
        have e2 : decide ((k + 1) % 2 = 1) = !decide (k % 2 = 1) := by
          by_cases h : k % 2 = 1
          · rw [decide_eq_true h, decide_eq_false (by omega)]; rfl
          · rw [decide_eq_false h, decide_eq_true (by omega)]; rfl
        rw [hf, List.length_cons, List.length_nil, Nat.zero_add, e2]
        cases b <;> cases decide (k % 2 = 1) <;> rfl
    · rw [if_neg e, if_neg e]
      refine ih n ?_
      rcases hn with h | h
      · exact .inl h
      · rw [names_snoc] at h
        rcases List.mem_append.mp h with h | h
        · exact .inr h
        · exact (e (List.mem_singleton.mp h)).elim
/-- turns in the order of the rows -/
def tsOf (rs : List Rw) (ts : List Str) : List Str := (namesOf rs).filter fun n => decide (n ∈ ts)
structure TsOk (rs : List Rw) (ts : List Str) : Prop where
  nd : ts.Nodup
  op : ∀ n ∈ ts, ∃ r ∈ rs, r.name = n ∧ r.price ≠ none
  few : ts.length ≤ 60
theorem TsOk.names {rs : List Rw} {ts : List Str} (t : TsOk rs ts) : ∀ n ∈ ts, n ∈ namesOf rs := fun n hn => by
  obtain ⟨r, hr, e, _⟩ := t.op n hn
  exact List.mem_map.mpr ⟨r, hr, e⟩
abbrev inP (ts : List Str) : Str → Bool := fun n => decide (n ∈ ts)
theorem tsOf_eq {rs : List Rw} {s t : List Str} : tsOf rs s = tsOf rs t ↔ ∀ n ∈ namesOf rs, inP s n = inP t n := by
  constructor
  · intro e n hn
    have h1 : n ∈ tsOf rs s ↔ n ∈ tsOf rs t := by rw [e]
    simp only [tsOf, List.mem_filter, decide_eq_true_eq] at h1
    rw [decide_eq_decide]
    exact ⟨fun h => (h1.mp ⟨hn, h⟩).2, fun h => (h1.mpr ⟨hn, h⟩).2⟩
  · intro h
    exact List.filter_congr fun n hn => h n hn
theorem all_like {rs : List Rw} (g : Good rs) {b c : Bool} {s t : List Str} : (∀ n, (n = sTop ∨ n ∈ namesOf rs) → sv rs b (inP s) n = sv rs c (inP t) n) ↔ (b = c ∧ tsOf rs s = tsOf rs t) := by
  constructor
  · intro h
    have h0 := h sTop (.inl rfl)
    rw [sv_top g, sv_top g] at h0
    refine ⟨h0, tsOf_eq.mpr fun n hn => ?_⟩
    obtain ⟨r, hr, rfl⟩ := List.mem_map.mp hn
    have h1 := h r.name (.inr hn)
    rw [sv_step g _ _ r hr, sv_step g _ _ r hr, h r.folder (g.folIn hr)] at h1
    revert h1
    cases sv rs c (inP t) r.folder <;> cases inP s r.name <;> cases inP t r.name <;> simp
  · rintro ⟨rfl, e⟩ n _
    exact sv_congr g (tsOf_eq.mp e) n
theorem perm_iff {rs : List Rw} {s t : List Str} (hs : TsOk rs s) (ht : TsOk rs t) : s.Perm t ↔ tsOf rs s = tsOf rs t := by
  rw [tsOf_eq]
  constructor
  · intro p n _
    rw [decide_eq_decide]; exact p.mem_iff
  · intro h
    refine (List.perm_ext_iff_of_nodup hs.nd ht.nd).mpr fun n => ⟨fun hn => ?_, fun hn => ?_⟩
    · have := h n (hs.names n hn)
      rw [decide_eq_decide] at this
      exact this.mp hn
    · have := h n (ht.names n hn)
      rw [decide_eq_decide] at this
      exact this.mpr hn
end TM
set_option maxRecDepth 100000
set_option maxHeartbeats 8000000
namespace CS
open PySem L2 EW CT TM
variable {T : Tab}
theorem eqD_bl {a c : Bool} : eqD (.bl a) (.bl c) = (a == c) := by cases a <;> cases c <;> rfl
theorem eqD_strsT {xs ys : List Str} : eqD (.tup (xs.map D.str)) (.tup (ys.map D.str)) = decide (xs = ys) := eqD_strs (xs := xs) (ys := ys)
structure HasMn (T : Tab) : Prop extends HasE0 T where
  minit : T.mt cMeaning k_init_ = some mMeaning_init_
  flM : T.fl cMeaning = [5, 6, 7]
  kcM : T.kc cMeaning = true
  meq : T.mt cMeaning k_eq_ = some mMeaning_eq_
  mst : T.mt cMeaning kstates = some mMeaningstates
  mval : T.mt cMeaning kvalue = some mMeaningvalue
  same : T.fn nsame_tree = some fsame_tree
def meanD (rs : List Rw) (b : Bool) (ts : List Str) : D := .ins cMeaning [treeD rs, .bl b, .tup ((tsOf rs ts).map .str)]
def meanO (rs : List Rw) (b : Bool) (ts : List Str) : O := .ins cMeaning [.fz (treeD rs), .fz (.bl b), .fz (.tup ((tsOf rs ts).map .str))]
theorem minit_ok (h : HasMn T) (n : Nat) {rs : List Rw} (t : Tr rs) {b : Bool} {ts : List Str} (ht : TsOk rs ts) : (fx T (n+4)).mt cMeaning k_init_ [.cel 0, .fz (treeD rs), .fz (.bl b), .fz (.lst (ts.map .str))] [.ins cMeaning []] = .ok (.fz .non) [meanO rs b ts] := by
  rw [fx_mt h.minit]
  have g := t.good
  have hl : ts.length ≤ 1000000 := by have := ht.few; omega
  have hl2 : rs.length ≤ 1000000 := by have := t.few; omega
  have e2 := nams_ok h.toHasM (n+2) (rs := rs)
  simp only [treeD] at e2
  rw_mod_cast ["AM", mMeaning_init_, treeD, hl]
  generalize hE : @loopK _ _ _ _ ⟨_⟩ _ _ _ = o
  obtain ⟨δ', μ', rfl, rfl, rfl⟩ := loop_inv' hE (fun i δ μ => δ = [some (.cel 0), some (.fz (treeD rs)), some (.fz (.bl b)), some (.fz (.lst (ts.map .str))), none, none] ∧ μ = [.ins cMeaning []]) ⟨rfl, rfl⟩ (fun _ _ _ _ => rfl) (by
    rintro i d δ μ hd ⟨rfl, rfl⟩
    obtain ⟨x, hx, rfl⟩ := map_get hd
    obtain ⟨r, hr, rfl, _⟩ := ht.op x (List.mem_of_getElem? hx)
    have c := cont_ok h.toHasM (n+2) (any_name g hr) (rs := rs)
    rw [among_mem hr] at c
    simp only [treeD] at c
    refine ⟨_, rfl, ?_⟩
    rw_mod_cast ["AM", treeD, c, h.cont, Out.calm]
    refine .mk ⟨?_, ?_⟩
    · rw_mod_cast ["AM", treeD]
    · rw_mod_cast ["AM", eq_self])
  clear hE
  rw_mod_cast ["AM", treeD, hl]
  generalize hE : @loopK _ _ _ _ ⟨_⟩ _ _ _ = o
  obtain ⟨δ', μ', rfl, rfl, rfl⟩ := loop_inv' hE (fun i δ μ => δ = [some (.cel 0), some (.fz (treeD rs)), some (.fz (.bl b)), some (.fz (.lst (ts.map .str))), none, none] ∧ μ = [.ins cMeaning []]) ⟨rfl, rfl⟩ (fun _ _ _ _ => rfl) (by
    rintro i d δ μ hd ⟨rfl, rfl⟩
    obtain ⟨x, hx, rfl⟩ := map_get hd
    obtain ⟨r, hr, rfl, hp⟩ := ht.op x (List.mem_of_getElem? hx)
    have c := price_ok h.toHasE0 n t hr
    have hn : (priceD r.price).isNon = false := by
      cases hq : r.price with
      | none => exact (hp hq).elim
      | some v => rfl
    simp only [treeD] at c
    refine ⟨_, rfl, ?_⟩
    rw_mod_cast ["AM", treeD, c, h.price, hn]
    refine .mk ⟨?_, ?_⟩
    · rw_mod_cast ["AM", treeD]
    · rw_mod_cast ["AM", eq_self])
  clear hE
  rw_mod_cast ["AM", treeD, h.flM, h.nams, e2, hl2]
  rw [lc_filter (p := fun r => decide (r.name ∈ ts)) (f := fun r => Val.fz (.str r.name)) rfl (fun r hr => ⟨_, rfl, by
    rw_mod_cast ["AM", eq_self]
    cases decide (r.name ∈ ts) <;> rw_mod_cast ["A", eq_self]⟩)]
  rw_mod_cast ["AM", h.flM, tupleR, meanO, treeD, tsOf, namesOf, List.filter_map]
theorem makeM (h : HasMn T) (n : Nat) {rs : List Rw} (t : Tr rs) {b : Bool} {ts : List Str} (ht : TsOk rs ts) {μ : Mu} : makeR ((fx T (n+4)).mt cMeaning 0) cMeaning [.fz (treeD rs), .fz (.bl b), .fz (.lst (ts.map .str))] μ = .ok (.nw (meanO rs b ts)) μ := by
  have e := minit_ok h n t (b := b) ht
  simp only [makeR, cellsOf, List.isEmpty_nil, ↓reduceIte, e, meanO, O.flat, O.frozen, fzAll, Option.map_some, Option.isSome_some]
def stK (rs : List Rw) : List Key := (nms rs).map fun x => Sum.inr x
def stO (rs : List Rw) (b : Bool) (p : Str → Bool) : O := .dct ((nms rs).map fun x => Sum.inr x) ((nms rs).map fun x => .fz (.bl (sv rs b p x)))
theorem nms_nd {rs : List Rw} (g : Good rs) : (nms rs).Nodup := List.nodup_cons.mpr ⟨g.topNot, g.nd⟩
theorem nms_in {rs : List Rw} {x : Str} : x ∈ nms rs ↔ (x = sTop ∨ x ∈ namesOf rs) := List.mem_cons
theorem get_st {rs : List Rw} (g : Good rs) {b : Bool} {p : Str → Bool} {x : Str} (hx : x = sTop ∨ x ∈ namesOf rs) : dget ((nms rs).map fun x => (Sum.inr x : Key)) ((nms rs).map fun x => Val.fz (.bl (sv rs b p x))) (.inr x) = some (.fz (.bl (sv rs b p x))) :=
  dget_str (f := fun x : Str => x) (g := fun x => Val.fz (.bl (sv rs b p x))) (by simpa using nms_nd g) (nms_in.mpr hx)
theorem states_ok (h : HasMn T) (n : Nat) {rs : List Rw} (t : Tr rs) {b : Bool} {ts : List Str} : (fx T (n+2)).mt cMeaning kstates [.fz (meanD rs b ts)] [] = .ok (.nw (stO rs b (inP ts))) [] := by
  rw [fx_mt h.mst]
  have g := t.good
  have e2 := rws_ok h.toHasM n t
  have hl : rs.length ≤ 1000000 := by have := t.few; omega
  simp only [treeD] at e2
  rw_mod_cast ["AM", mMeaningstates, meanD, treeD, h.flM, h.top, h.rws, e2, hl]
  generalize hE : @loopK _ _ _ _ ⟨_⟩ _ _ _ = o
  obtain ⟨δ', μ', rfl, rfl, rfl⟩ := loop_inv' hE (fun i δ μ => δ = [some (.fz (meanD rs b ts)), some (.cel 0), none, none, none, none] ∧ μ = [stO (rs.take i) b (inP ts)]) ⟨rfl, rfl⟩ (fun _ _ _ _ => rfl) (by
    rintro i d δ μ hd ⟨rfl, rfl⟩
    obtain ⟨r, hri, rfl⟩ := map_get hd
    have hr := List.mem_of_getElem? hri
    have hn : r.name ∈ namesOf rs := List.mem_map.mpr ⟨r, hr, rfl⟩
    have rok := g.at_ i _ hri
    have ht : rs.take (i + 1) = rs.take i ++ [r] := by rw [List.take_succ, hri]; rfl
    have gd0 := g.takeG i
    have lt : (rs.take i).length ≤ 900 := by rw [List.length_take]; have := t.few; omega
    rw [ht]
    generalize rs.take i = pre at rok lt gd0
    have lf1 : (nms pre).length < 1000000 := by simp [nms]; omega
    have hnew : ¬ r.name ∈ nms pre := fun z => by
      rcases nms_in.mp z with z | z
      · exact rok.name.nt z
      · exact rok.newN z
    have gs := get_st gd0 (b := b) (p := inP ts) rok.folIn
    have hp : decide (r.name ∈ tsOf rs ts) = decide (r.name ∈ ts) := by
      rw [decide_eq_decide]
      simp only [tsOf, List.mem_filter, decide_eq_true_eq]
      exact ⟨fun z => z.2, fun z => ⟨hn, z⟩⟩
    have fin : stO (pre ++ [r]) b (inP ts) = .dct (((nms pre).map fun x => Sum.inr x) ++ [Sum.inr r.name]) (((nms pre).map fun x => .fz (.bl (sv pre b (inP ts) x))) ++ [.fz (.bl (sv pre b (inP ts) r.folder != decide (r.name ∈ ts)))]) := by
      unfold stO
      have e1 : nms (pre ++ [r]) = nms pre ++ [r.name] := by simp [nms]
      rw [e1, List.map_append, List.map_append]
      congr 1
      congr 1
      · refine List.map_congr_left fun x hx => ?_
        rw [sv_snoc, if_neg (show ¬ x = r.name from fun z => hnew (z ▸ hx))]
      · simp only [List.map_cons, List.map_nil, sv_snoc, if_pos]
    rw [fin]
    refine ⟨_, rfl, ?_⟩
    rw_mod_cast ["AM", stO, meanD, treeD, rowD, h.flM, hnew, lf1, gs, hp, eqD_bl, putKs, putWs]
    refine .mk ⟨?_, ?_⟩
    · rw_mod_cast ["AM", meanD, treeD]
    · rw_mod_cast ["AM", eq_self]
      rfl)
  rw_mod_cast ["AM", List.length_map, List.take_length, stO, meanD, treeD]
theorem value_ok (h : HasMn T) (n : Nat) {rs : List Rw} (t : Tr rs) {b : Bool} {ts : List Str} {x : Str} (hx : x = sTop ∨ x ∈ namesOf rs) : (fx T (n+3)).mt cMeaning kvalue [.fz (meanD rs b ts), .fz (.str x)] [] = .ok (.fz (.bl (sv rs b (inP ts) x))) [] := by
  rw [fx_mt h.mval]
  have e1 := check_ok h.toHasM n t hx
  have e2 := states_ok h n t (b := b) (ts := ts)
  have gs := get_st t.good (b := b) (p := inP ts) hx
  simp only [meanD, treeD] at e1 e2
  rw_mod_cast ["AM", mMeaningvalue, meanD, treeD, h.flM, h.check, h.mst, e1, e2, stO, gs]
/-- two meanings of a tree are compared -/
theorem eqM (h : HasMn T) (n : Nat) {rs : List Rw} (t : Tr rs) {b c : Bool} {s u : List Str} (hs : TsOk rs s) (hu : TsOk rs u) {neg : Bool} {μ : Mu} : eqR (fx T (n+3)) neg (.fz (meanD rs b s)) (.fz (meanD rs c u)) μ = .ok (ng neg (decide (b = c ∧ tsOf rs s = tsOf rs u))) μ := by
  have g := t.good
  have q1 := eqT h.toHasE0 n t t (neg := false) (μ := [])
  rw [decide_eq_true rfl] at q1
  have cs : ∀ w, cmpB (.tup ((tsOf rs w).map .str)) = true := fun w => (cmpN_tup (n := 1) fun d hd => by
    obtain ⟨x, hx, rfl⟩ := List.mem_map.mp hd
    exact cmpN_str (ok_box g (.inr (List.mem_filter.mp hx).1))).cmp
  have c1 := cs s
  have c2 := cs u
  have e0 : (fx T (n+2)).fn nsame_tree [.fz (meanD rs b s), .fz (meanD rs c u)] [] = .ok (.fz (.bl true)) [] := by
    rw [fx_fn h.same]
    simp only [treeD, ng_f] at q1
    rw_mod_cast ["QM", fsame_tree, meanD, treeD, h.flM, q1]
  have e : (fx T (n+3)).mt cMeaning k_eq_ [.fz (meanD rs b s), .fz (meanD rs c u)] [] = .ok (.fz (.bl (decide (b = c ∧ tsOf rs s = tsOf rs u)))) [] := by
    rw [fx_mt h.meq]
    simp only [meanD, treeD] at e0
    by_cases hb : b = c
    · subst hb
      have hbb : (b == b) = true := by cases b <;> rfl
      rw_mod_cast ["AM", mMeaning_eq_, meanD, treeD, h.flM, h.kcM, Res.insC, h.same, e0, eqD_bl, c1, c2, eqD_strsT, hbb, true_and]
    · have hbb : (b == c) = false := by cases b <;> cases c <;> simp_all
      rw_mod_cast ["AM", mMeaning_eq_, meanD, treeD, h.flM, h.kcM, Res.insC, h.same, e0, eqD_bl, hbb, hb, false_and]
  simp only [meanD] at e ⊢
  unfold eqR
  dsimp only
  rw [if_pos ⟨rfl, by simp only [fx_dm, h.meq, Option.isSome_some]⟩]
  simp only [lend, lendW, lendS, cellsOf, picks, renum, give, O.flat, O.frozen, fzAll, Res.ok, List.nodup_nil, List.nodup_cons, List.not_mem_nil, List.mem_cons, not_false_eq_true, and_self, or_false, Option.isSome_some, Option.isSome_none, fx_df, fx_dm, fx_fl, fx_gd, fx_kc, run_eq, endF_nx, endF_rt, endF_ex, endF_no, evSs, evS, evE, evT, evEs, ↓bind_eq, bnd_ok, bnd_ex, bnd_no, Out.run_ok, Out.run_ex, Out.run_no, ↓thn_eq, thk_nx, thk_rt, thk_bk, thk_ct, thk_ex, thk_no, arg_fz, arg_cel, arg_nw, argO_ok, argO_ex, argO_no, nm_fz, nm_cel, rnm_fz, rnm_nw, rnm_cel, res_fz, res_cel, fr_fz, fr_cel, fr_nw, mkc_nw, mkc_fz, mkc_cel, outO_some, outO_none, ofO_some, ofO_none, iceOf, startE, List.map_cons, List.map_nil, List.length_cons, List.length_nil, List.getElem?_cons_zero, List.getElem?_cons_succ, List.set_cons_zero, List.set_cons_succ, List.cons_append, List.nil_append, List.replicate, ↓reduceIte, reduceCtorEq, Nat.reduceAdd, Nat.reduceSub, Nat.reduceEqDiff, Option.map_some, Option.map_none, e, List.all_nil, Bool.and_self, decide_true, Out.calm]
end CS
set_option maxRecDepth 100000
set_option maxHeartbeats 8000000
namespace CS
open PySem L2 EW CT TM
variable {T : Tab}
structure HasV0 (T : Tab) : Prop extends HasMn T, HasP T where
  lsome : T.fn n_law_some = some f_law_some
  lopen : T.fn n_law_open = some f_law_open
structure HasV (T : Tab) : Prop extends HasV0 T, HasW0 T where
  lvals : T.fn n_law_values = some f_law_values
theorem lopen_ok (h : HasV0 T) (n : Nat) {rs : List Rw} (few : rs.length ≤ 900) : (fx T (n+1)).fn n_law_open [.fz (rowsD rs)] [] = .ok (.nw (.lst ((rs.filter fun r => decide (r.price ≠ none)).map fun r => .fz (.str r.name)))) [] := by
  rw [fx_fn h.lopen]
  have hl : rs.length ≤ 1000000 := by omega
  rw_mod_cast ["AM", f_law_open, rowsD, rowD, hl]
  rw [lc_filter (p := fun r : Rw => decide (r.price ≠ none)) (f := fun r => Val.fz (.str r.name)) rfl (fun r hr => ⟨_, rfl, by
    cases hp : r.price with
    | none => rw_mod_cast ["AM", priceD, D.isNon] <;> rfl
    | some v => rw_mod_cast ["AM", priceD, D.isNon] <;> rfl⟩)]
  rw_mod_cast ["AM", eq_self]
def opn (rs : List Rw) : List Str := (rs.filter fun r => decide (r.price ≠ none)).map (·.name)
theorem opn_ok {rs : List Rw} (g : Good rs) (few : rs.length ≤ 60) {ys : List Str} (h : ys.Sublist (opn rs)) : TsOk rs ys := by
  have nd : (opn rs).Nodup := by
    have h1 : (opn rs).Sublist (namesOf rs) := List.Sublist.map _ List.filter_sublist
    exact h1.nodup g.nd
  refine ⟨h.nodup nd, fun n hn => ?_, ?_⟩
  · obtain ⟨r, hr, e⟩ := List.mem_map.mp (h.subset hn)
    have := List.mem_filter.mp hr
    exact ⟨r, this.1, e, of_decide_eq_true this.2⟩
  · have h1 := h.length_le
    have h2 : (opn rs).length ≤ rs.length := by unfold opn; rw [List.length_map]; exact List.length_filter_le _ _
    omega
theorem lsome_ok (h : HasV0 T) (n : Nat) {xs : List Str} (hx : xs.length ≤ 900) {a b c : Int} {k : Nat} (ok : Sm.ok a b c k) (hk : k < 100000) : ∃ (ys : List Str) (a' c' : Int), (fx T (n+2)).fn n_law_some [.cel 0, .fz (.lst (xs.map .str))] [stm a b c] = .ok (.nw (.lst (ys.map fun x => .fz (.str x)))) [stm a' b c'] ∧ ys.Sublist xs ∧ Sm.ok a' b c' (k + xs.length) := by
  rw [fx_fn h.lsome]
  have hl : xs.length ≤ 1000000 := by omega
  rw_mod_cast ["AM", f_law_some, hl]
  generalize hE : @lcK _ _ _ ⟨_⟩ _ _ _ = o
  obtain ⟨acc, μ', rfl, ys, a2, c2, rfl, ok2, rfl, hs⟩ := lc_inv' hE (fun i acc μ => ∃ (ys : List Str) (a' c' : Int), μ = [stm a' b c'] ∧ Sm.ok a' b c' (k + i) ∧ acc = ys.map (fun x => Val.fz (.str x)) ∧ ys.Sublist (xs.take i))
    ⟨[], a, c, rfl, ok, rfl, List.nil_sublist _⟩ (fun _ _ _ _ => rfl) (by
    rintro i d acc μ hd ⟨ys, a2, c2, rfl, ok2, rfl, hs⟩
    obtain ⟨x, hx2, rfl⟩ := map_get hd
    have hi : i < xs.length := (List.getElem?_eq_some_iff.mp hx2).1
    have ht : xs.take (i + 1) = xs.take i ++ [x] := by rw [List.take_succ, hx2]; rfl
    obtain ⟨v, a3, c3, e3, w0, w1, ok3⟩ := draw_ok h.toHasS n ok2 (by omega) (m := 2) (by decide) (by decide)
    refine ⟨_, rfl, ?_⟩
    by_cases hv : v = 0
    · rw_mod_cast ["AM", h.draw, e3, decide_eq_true hv]
      refine .mk ⟨ys ++ [x], a3, c3, rfl, ok3, by simp [addO], ?_⟩
      rw [ht]
      exact List.Sublist.append hs (List.Sublist.refl _)
    · rw_mod_cast ["AM", h.draw, e3, decide_eq_false hv]
      refine .mk ⟨ys, a3, c3, rfl, ok3, by simp [addO], ?_⟩
      rw [ht]
      exact hs.trans (List.sublist_append_left _ _))
  rw [List.length_map] at ok2 hs
  rw [List.take_length] at hs
  refine ⟨ys, a2, c2, ?_, hs, ok2⟩
  rw_mod_cast ["AM", eq_self]
theorem mod2 {k : Nat} : decide (((k : Nat) : Int) % 2 = 1) = decide (k % 2 = 1) := by
  rw [decide_eq_decide]; omega
theorem lvals_ok (h : HasV T) (n : Nat) {rs : List Rw} (t : Tr rs) (few : rs.length ≤ 90) {b : Bool} {ts : List Str} : (fx T (n+2)).fn n_law_values [.fz (rowsD rs), .fz (.bl b), .fz (.lst (ts.map .str))] [] = .ok (.nw (stO rs b (inP ts))) [] := by
  rw [fx_fn h.lvals]
  have g := t.good
  have hl : rs.length ≤ 1000000 := by omega
  have es : stO rs b (inP ts) = .dct ((nms rs).map fun x => Sum.inr x) ((nms rs).map fun x => .fz (.bl (lv rs b (inP ts) x))) := by
    unfold stO
    congr 1
    exact List.map_congr_left fun x hx => by rw [sv_lv g _ _ _ (nms_in.mp hx)]
  have l0 : lv rs b (inP ts) sTop = b := by rw [← sv_lv g _ _ _ (.inl rfl), sv_top g]
  rw [es]
  rw_mod_cast ["AM", f_law_values, rowsD, hl]
  generalize hE : @loopK _ _ _ _ ⟨_⟩ _ _ _ = o
  obtain ⟨δ', μ', rfl, rfl, rfl⟩ := loop_inv' hE (fun i δ μ => δ = [some (.fz (.lst (rs.map rowD))), some (.fz (.bl b)), some (.fz (.lst (ts.map .str))), some (.cel 0), none, none, none] ∧ μ = [.dct ((nms (rs.take i)).map fun x => Sum.inr x) ((nms (rs.take i)).map fun x => .fz (.bl (lv rs b (inP ts) x)))]) ⟨rfl, by rw [List.take_zero]; simp only [nms, namesOf, List.map_cons, List.map_nil, l0]⟩ (fun _ _ _ _ => rfl) (by
    rintro i d δ μ hd ⟨rfl, rfl⟩
    obtain ⟨r, hri, rfl⟩ := map_get hd
    have hr := List.mem_of_getElem? hri
    have hn : r.name ∈ namesOf rs := List.mem_map.mpr ⟨r, hr, rfl⟩
    have rok := g.at_ i _ hri
    have ht : rs.take (i + 1) = rs.take i ++ [r] := by rw [List.take_succ, hri]; rfl
    have lt : (rs.take i).length ≤ 90 := by rw [List.length_take]; omega
    rw [ht]
    generalize rs.take i = pre at rok lt
    have lf1 : (nms pre).length < 1000000 := by simp [nms]; omega
    have hnew : ¬ r.name ∈ nms pre := fun z => by
      rcases nms_in.mp z with z | z
      · exact rok.name.nt z
      · exact rok.newN z
    have e := wayL_ok h.toHasW0 n g few (.inr hn)
    have hw : (way rs r.name).length ≤ 1000000 := by have := way_le (rs := rs) r.name; omega
    have e1 : nms (pre ++ [r]) = nms pre ++ [r.name] := by simp [nms]
    simp only [rowsD] at e
    rw [e1, List.map_append, List.map_append]
    refine ⟨_, rfl, ?_⟩
    rw_mod_cast ["AM", rowD, h.lway, e, hw]
    rw [lc_filter (p := fun x => decide (x ∈ ts)) (f := fun x => Val.fz (.str x)) rfl (fun x hx => ⟨_, rfl, by
      rw_mod_cast ["AM", eq_self]
      cases decide (x ∈ ts) <;> rw_mod_cast ["A", eq_self]⟩)]
    rw_mod_cast ["AM", rowD, hnew, lf1, mod2, eqD_bl, putKs, putWs]
    refine .mk ⟨?_, ?_⟩
    · rw_mod_cast ["AM", eq_self]
    · rw_mod_cast ["AM", lv]
      rfl)
  rw_mod_cast ["AM", List.length_map, List.take_length]
end CS
set_option maxRecDepth 100000
set_option maxHeartbeats 2000000
namespace TM
open PySem L2 EW
/-- the boxes whose value is not that of their folder -/
def trn (rs : List Rw) (v : Str → Bool) : List Str := (rs.filter fun r => v r.name != v r.folder).map (·.name)
theorem row_same {rs : List Rw} (g : Good rs) {r q : Rw} (hr : r ∈ rs) (hq : q ∈ rs) (e : r.name = q.name) : r = q := by
  induction g with
  | nil => exact nomatch hr
  | @snoc pre x g ok ih =>
    rcases List.mem_append.mp hr with a | a <;> rcases List.mem_append.mp hq with b | b
    · exact ih a b
    · rw [List.mem_singleton.mp b] at e
      exact (ok.newN (e ▸ List.mem_map.mpr ⟨r, a, rfl⟩)).elim
    · rw [List.mem_singleton.mp a] at e
      exact (ok.newN (e ▸ List.mem_map.mpr ⟨q, b, rfl⟩)).elim
    · rw [List.mem_singleton.mp a, List.mem_singleton.mp b]
theorem trn_mem {rs : List Rw} (g : Good rs) {v : Str → Bool} {r : Rw} (hr : r ∈ rs) : r.name ∈ trn rs v ↔ (v r.name != v r.folder) = true := by
  unfold trn
  constructor
  · intro h
    obtain ⟨q, hq, e⟩ := List.mem_map.mp h
    obtain ⟨h1, h2⟩ := List.mem_filter.mp hq
    rw [← row_same g h1 hr e]
    exact h2
  · intro h
    exact List.mem_map.mpr ⟨r, List.mem_filter.mpr ⟨hr, h⟩, rfl⟩
theorem tsOf_map {rs : List Rw} {ts : List Str} : tsOf rs ts = (rs.filter fun r => decide (r.name ∈ ts)).map (·.name) := by
  unfold tsOf namesOf
  rw [List.filter_map]
  rfl
theorem tsOf_trn {rs : List Rw} (g : Good rs) (v : Str → Bool) : tsOf rs (trn rs v) = trn rs v := by
  rw [tsOf_map]
  unfold trn
  congr 1
  refine List.filter_congr fun r hr => ?_
  have := trn_mem g (v := v) hr
  unfold trn at this
  rw [Bool.eq_iff_iff, decide_eq_true_eq]
  exact this
theorem sv_of {rs : List Rw} (g : Good rs) {v p : Str → Bool} (h : ∀ r ∈ rs, p r.name = (v r.name != v r.folder)) : ∀ n, (n = sTop ∨ n ∈ namesOf rs) → sv rs (v sTop) p n = v n := by
  induction g with
  | nil =>
    intro n hn
    rcases hn with rfl | hn
    · rfl
    · exact nomatch hn
  | @snoc pre r g ok ih =>
    intro n hn
    have ih := ih fun q hq => h q (List.mem_append_left _ hq)
    rw [sv_snoc]
    by_cases e : n = r.name
    · subst e
      rw [if_pos rfl, ih _ ok.folIn, h r (List.mem_append_right _ List.mem_cons_self)]
      cases v r.name <;> cases v r.folder <;> rfl
    · rw [if_neg e]
      refine ih n ?_
      rcases hn with hn | hn
      · exact .inl hn
      · rw [names_snoc] at hn
        rcases List.mem_append.mp hn with z | z
        · exact .inr z
        · exact (e (List.mem_singleton.mp z)).elim
theorem sv_trn {rs : List Rw} (g : Good rs) {v : Str → Bool} {n : Str} (hn : n = sTop ∨ n ∈ namesOf rs) : sv rs (v sTop) (inP (trn rs v)) n = v n :=
  sv_of g (fun r hr => by rw [Bool.eq_iff_iff, decide_eq_true_eq]; exact trn_mem g hr) n hn
/-- no locked box is turned -/
def Opn (rs : List Rw) (v : Str → Bool) : Prop := ∀ r ∈ rs, (v r.name != v r.folder) = true → r.price ≠ none
theorem Opn.ts {rs : List Rw} (g : Good rs) (few : rs.length ≤ 60) {v : Str → Bool} (o : Opn rs v) : TsOk rs (trn rs v) := by
  refine ⟨?_, fun n hn => ?_, ?_⟩
  · have h1 : (trn rs v).Sublist (namesOf rs) := List.Sublist.map _ List.filter_sublist
    exact h1.nodup g.nd
  · obtain ⟨r, hr, e⟩ := List.mem_map.mp hn
    obtain ⟨h1, h2⟩ := List.mem_filter.mp hr
    exact ⟨r, h1, e, o r h1 h2⟩
  · unfold trn
    rw [List.length_map]
    exact Nat.le_trans (List.length_filter_le _ _) few
theorem Opn.map2 {rs : List Rw} {v w : Str → Bool} (ov : Opn rs v) (ow : Opn rs w) (f : Bool → Bool → Bool) : Opn rs fun n => f (v n) (w n) := fun r hr h => by
  by_cases h1 : (v r.name != v r.folder) = true
  · exact ov r hr h1
  · by_cases h2 : (w r.name != w r.folder) = true
    · exact ow r hr h2
    · have e1 : v r.name = v r.folder := by revert h1; cases v r.name <;> cases v r.folder <;> simp
      have e2 : w r.name = w r.folder := by revert h2; cases w r.name <;> cases w r.folder <;> simp
      simp [e1, e2] at h
theorem Opn.map1 {rs : List Rw} {v : Str → Bool} (ov : Opn rs v) (f : Bool → Bool) : Opn rs fun n => f (v n) := ov.map2 ov fun a _ => f a
theorem Opn.const (rs : List Rw) (b : Bool) : Opn rs fun _ => b := fun r hr h => by simp at h
theorem trn_const (rs : List Rw) (b : Bool) : trn rs (fun _ => b) = [] := by simp [trn]
theorem trn_not (rs : List Rw) (v : Str → Bool) : trn rs (fun n => !v n) = trn rs v := by
  unfold trn
  congr 1
  refine List.filter_congr fun r _ => ?_
  show ((!v r.name) != (!v r.folder)) = (v r.name != v r.folder)
  cases v r.name <;> cases v r.folder <;> rfl
/-- a meaning by its turns is one by its values -/
theorem trn_sv {rs : List Rw} (g : Good rs) (b : Bool) (ts : List Str) : trn rs (sv rs b (inP ts)) = tsOf rs ts := by
  rw [tsOf_map]
  unfold trn
  congr 1
  refine List.filter_congr fun r hr => ?_
  rw [sv_step g _ _ r hr]
  cases sv rs b (inP ts) r.folder <;> cases h : decide (r.name ∈ ts) <;> simp [h]
theorem opn_sv {rs : List Rw} (g : Good rs) (b : Bool) {ts : List Str} (t : TsOk rs ts) : Opn rs (sv rs b (inP ts)) := fun r hr h => by
  rw [sv_step g _ _ r hr] at h
  have hm : r.name ∈ ts := by
    by_cases hm : r.name ∈ ts
    · exact hm
    · have : inP ts r.name = false := decide_eq_false hm
      rw [this] at h
      revert h
      cases sv rs b (inP ts) r.folder <;> simp
  obtain ⟨q, hq, e, p⟩ := t.op _ hm
  rw [← row_same g hq hr e]
  exact p
end TM
set_option maxRecDepth 100000
set_option maxHeartbeats 8000000
namespace CS
open PySem L2 EW CT TM
variable {T : Tab}
theorem minitT_ok (h : HasMn T) (n : Nat) {rs : List Rw} (t : Tr rs) {b : Bool} {ts : List Str} (ht : TsOk rs ts) : (fx T (n+4)).mt cMeaning k_init_ [.cel 0, .fz (treeD rs), .fz (.bl b), .fz (.tup (ts.map .str))] [.ins cMeaning []] = .ok (.fz .non) [meanO rs b ts] := by
  rw [fx_mt h.minit]
  have g := t.good
  have hl : ts.length ≤ 1000000 := by have := ht.few; omega
  have hl2 : rs.length ≤ 1000000 := by have := t.few; omega
  have e2 := nams_ok h.toHasM (n+2) (rs := rs)
  simp only [treeD] at e2
  rw_mod_cast ["AM", mMeaning_init_, treeD, hl]
  generalize hE : @loopK _ _ _ _ ⟨_⟩ _ _ _ = o
  obtain ⟨δ', μ', rfl, rfl, rfl⟩ := loop_inv' hE (fun i δ μ => δ = [some (.cel 0), some (.fz (treeD rs)), some (.fz (.bl b)), some (.fz (.tup (ts.map .str))), none, none] ∧ μ = [.ins cMeaning []]) ⟨rfl, rfl⟩ (fun _ _ _ _ => rfl) (by
    rintro i d δ μ hd ⟨rfl, rfl⟩
    obtain ⟨x, hx, rfl⟩ := map_get hd
    obtain ⟨r, hr, rfl, _⟩ := ht.op x (List.mem_of_getElem? hx)
    have c := cont_ok h.toHasM (n+2) (any_name g hr) (rs := rs)
    rw [among_mem hr] at c
    simp only [treeD] at c
    refine ⟨_, rfl, ?_⟩
    rw_mod_cast ["AM", treeD, c, h.cont, Out.calm]
    refine .mk ⟨?_, ?_⟩
    · rw_mod_cast ["AM", treeD]
    · rw_mod_cast ["AM", eq_self])
  clear hE
  rw_mod_cast ["AM", treeD, hl]
  generalize hE : @loopK _ _ _ _ ⟨_⟩ _ _ _ = o
  obtain ⟨δ', μ', rfl, rfl, rfl⟩ := loop_inv' hE (fun i δ μ => δ = [some (.cel 0), some (.fz (treeD rs)), some (.fz (.bl b)), some (.fz (.tup (ts.map .str))), none, none] ∧ μ = [.ins cMeaning []]) ⟨rfl, rfl⟩ (fun _ _ _ _ => rfl) (by
    rintro i d δ μ hd ⟨rfl, rfl⟩
    obtain ⟨x, hx, rfl⟩ := map_get hd
    obtain ⟨r, hr, rfl, hp⟩ := ht.op x (List.mem_of_getElem? hx)
    have c := price_ok h.toHasE0 n t hr
    have hn : (priceD r.price).isNon = false := by
      cases hq : r.price with
      | none => exact (hp hq).elim
      | some v => rfl
    simp only [treeD] at c
    refine ⟨_, rfl, ?_⟩
    rw_mod_cast ["AM", treeD, c, h.price, hn]
    refine .mk ⟨?_, ?_⟩
    · rw_mod_cast ["AM", treeD]
    · rw_mod_cast ["AM", eq_self])
  clear hE
  rw_mod_cast ["AM", treeD, h.flM, h.nams, e2, hl2]
  rw [lc_filter (p := fun r => decide (r.name ∈ ts)) (f := fun r => Val.fz (.str r.name)) rfl (fun r hr => ⟨_, rfl, by
    rw_mod_cast ["AM", eq_self]
    cases decide (r.name ∈ ts) <;> rw_mod_cast ["A", eq_self]⟩)]
  rw_mod_cast ["AM", h.flM, tupleR, meanO, treeD, tsOf, namesOf, List.filter_map]
theorem makeMT (h : HasMn T) (n : Nat) {rs : List Rw} (t : Tr rs) {b : Bool} {ts : List Str} (ht : TsOk rs ts) {μ : Mu} : makeR ((fx T (n+4)).mt cMeaning 0) cMeaning [.fz (treeD rs), .fz (.bl b), .fz (.tup (ts.map .str))] μ = .ok (.nw (meanO rs b ts)) μ := by
  have e := minitT_ok h n t (b := b) ht
  simp only [makeR, cellsOf, List.isEmpty_nil, ↓reduceIte, e, meanO, O.flat, O.frozen, fzAll, Option.map_some, Option.isSome_some]
theorem minit0_ok (h : HasMn T) (n : Nat) {rs : List Rw} (t : Tr rs) {b : Bool} : (fx T (n+4)).mt cMeaning k_init_ [.cel 0, .fz (treeD rs), .fz (.bl b), .fz (.rot [])] [.ins cMeaning []] = .ok (.fz .non) [meanO rs b []] := by
  rw [fx_mt h.minit]
  have g := t.good
  have hl2 : rs.length ≤ 1000000 := by have := t.few; omega
  have e2 := nams_ok h.toHasM (n+2) (rs := rs)
  simp only [treeD] at e2
  rw_mod_cast ["AM", mMeaning_init_, treeD, Nat.zero_le]
  generalize hE : @loopK _ _ _ _ ⟨_⟩ _ _ _ = o
  obtain ⟨δ', μ', rfl, rfl, rfl⟩ := loop_inv' hE (fun i δ μ => δ = [some (.cel 0), some (.fz (treeD rs)), some (.fz (.bl b)), some (.fz (.rot [])), none, none] ∧ μ = [.ins cMeaning []]) ⟨rfl, rfl⟩ (fun _ _ _ _ => rfl) (fun i d δ μ hd => by simp at hd)
  clear hE
  rw_mod_cast ["AM", treeD, Nat.zero_le]
  generalize hE : @loopK _ _ _ _ ⟨_⟩ _ _ _ = o
  obtain ⟨δ', μ', rfl, rfl, rfl⟩ := loop_inv' hE (fun i δ μ => δ = [some (.cel 0), some (.fz (treeD rs)), some (.fz (.bl b)), some (.fz (.rot [])), none, none] ∧ μ = [.ins cMeaning []]) ⟨rfl, rfl⟩ (fun _ _ _ _ => rfl) (fun i d δ μ hd => by simp at hd)
  clear hE
  rw_mod_cast ["AM", treeD, h.flM, h.nams, e2, hl2]
  rw [lc_filter (p := fun r => false) (f := fun r => Val.fz (.str r.name)) rfl (fun r hr => ⟨_, rfl, by
    rw_mod_cast ["AM", fls, inV, List.any_nil]⟩)]
  rw_mod_cast ["AM", h.flM, tupleR, meanO, treeD, tsOf, namesOf, List.filter_map, List.not_mem_nil]
theorem makeM0 (h : HasMn T) (n : Nat) {rs : List Rw} (t : Tr rs) {b : Bool} {μ : Mu} : makeR ((fx T (n+4)).mt cMeaning 0) cMeaning [.fz (treeD rs), .fz (.bl b), .fz (.rot [])] μ = .ok (.nw (meanO rs b [])) μ := by
  have e := minit0_ok h n t (b := b)
  simp only [makeR, cellsOf, List.isEmpty_nil, ↓reduceIte, e, meanO, O.flat, O.frozen, fzAll, Option.map_some, Option.isSome_some]
/-- a meaning by its values -/
def mD (rs : List Rw) (v : Str → Bool) : D := .ins cMeaning [treeD rs, .bl (v sTop), .tup ((trn rs v).map .str)]
def mO (rs : List Rw) (v : Str → Bool) : O := .ins cMeaning [.fz (treeD rs), .fz (.bl (v sTop)), .fz (.tup ((trn rs v).map .str))]
def stV (rs : List Rw) (v : Str → Bool) : O := .dct ((nms rs).map fun x => Sum.inr x) ((nms rs).map fun x => .fz (.bl (v x)))
theorem mD_of {rs : List Rw} (g : Good rs) (v : Str → Bool) : meanD rs (v sTop) (trn rs v) = mD rs v := by unfold meanD mD; rw [tsOf_trn g]
theorem mO_of {rs : List Rw} (g : Good rs) (v : Str → Bool) : meanO rs (v sTop) (trn rs v) = mO rs v := by unfold meanO mO; rw [tsOf_trn g]
theorem mO_sv {rs : List Rw} (g : Good rs) (b : Bool) (ts : List Str) : meanO rs b ts = mO rs (sv rs b (inP ts)) := by unfold meanO mO; rw [trn_sv g, sv_top g]
theorem mO_sv0 {rs : List Rw} (g : Good rs) (b : Bool) : meanO rs b [] = mO rs fun _ => b := by
  unfold meanO mO
  rw [trn_const]
  have : tsOf rs [] = [] := by simp [tsOf]
  rw [this]
theorem statesV (h : HasMn T) (n : Nat) {rs : List Rw} (t : Tr rs) (v : Str → Bool) : (fx T (n+2)).mt cMeaning kstates [.fz (mD rs v)] [] = .ok (.nw (stV rs v)) [] := by
  have g := t.good
  have e : stO rs (v sTop) (inP (trn rs v)) = stV rs v := by
    unfold stO stV
    congr 1
    exact List.map_congr_left fun x hx => by rw [sv_trn g (nms_in.mp hx)]
  rw [← mD_of g, states_ok h n t, e]
theorem get_stV {rs : List Rw} (g : Good rs) (v : Str → Bool) {x : Str} (hx : x = sTop ∨ x ∈ namesOf rs) : dget ((nms rs).map fun x => (Sum.inr x : Key)) ((nms rs).map fun x => Val.fz (.bl (v x))) (.inr x) = some (.fz (.bl (v x))) :=
  dget_str (f := fun x : Str => x) (g := fun x => Val.fz (.bl (v x))) (by simpa using nms_nd g) (nms_in.mpr hx)
theorem get_stW {rs : List Rw} (g : Good rs) (v : Str → Bool) {x : Str} (hx : x = sTop ∨ x ∈ namesOf rs) : dget ((nms rs).map fun x => (Sum.inr x : Key)) ((nms rs).map fun x => D.bl (v x)) (.inr x) = some (.bl (v x)) :=
  dget_str (f := fun x : Str => x) (g := fun x => D.bl (v x)) (by simpa using nms_nd g) (nms_in.mpr hx)
theorem hits_stV {rs : List Rw} (g : Good rs) (v : Str → Bool) : ∀ xs : List Str, (∀ x ∈ xs, x ∈ nms rs) → dhits ((nms rs).map fun x => (Sum.inr x : Key)) ((nms rs).map fun x => D.bl (v x)) (xs.map fun x => (Sum.inr x : Key)) (xs.map fun x => D.bl (v x)) = true
  | [], _ => rfl
  | x :: xs, h => by
    have e := get_stW g v (nms_in.mp (h x List.mem_cons_self))
    simp only [List.map_cons, dhits]
    rw [e]
    dsimp only
    rw [if_pos (eqD_refl cmpB_bl)]
    exact hits_stV g v xs fun y hy => h y (List.mem_cons_of_mem _ hy)
theorem cmp_stV {rs : List Rw} (v : Str → Bool) : ((nms rs).map fun x => D.bl (v x)).all cmpB = true := by
  rw [List.all_eq_true]
  intro d hd
  obtain ⟨x, _, rfl⟩ := List.mem_map.mp hd
  exact cmpB_bl
theorem cmp_trn {rs : List Rw} (g : Good rs) (v : Str → Bool) : cmpB (.tup ((trn rs v).map .str)) = true := (cmpN_tup (n := 1) fun d hd => by
  obtain ⟨x, hx, rfl⟩ := List.mem_map.mp hd
  obtain ⟨r, hr, rfl⟩ := List.mem_map.mp hx
  exact cmpN_str (ok_box g (.inr (List.mem_map.mpr ⟨r, (List.mem_filter.mp hr).1, rfl⟩)))).cmp
theorem same_ok (h : HasMn T) (n : Nat) {rs : List Rw} (t : Tr rs) {v w : Str → Bool} : (fx T (n+2)).fn nsame_tree [.fz (mD rs v), .fz (mD rs w)] [] = .ok (.fz (.bl true)) [] := by
  have q1 := eqT h.toHasE0 n t t (neg := false) (μ := [])
  rw [decide_eq_true rfl] at q1
  rw [fx_fn h.same]
  simp only [treeD, ng_f] at q1
  rw_mod_cast ["QM", fsame_tree, mD, treeD, h.flM, q1]
/-- a meaning is equal to itself -/
theorem meqV (h : HasMn T) (n : Nat) {rs : List Rw} (t : Tr rs) (v : Str → Bool) : (fx T (n+3)).mt cMeaning k_eq_ [.fz (mD rs v), .fz (mD rs v)] [] = .ok (.fz (.bl true)) [] := by
  have e0 := same_ok h n t (v := v) (w := v)
  have c1 := cmp_trn t.good v
  have e1 := eqD_refl c1
  have e2 : eqD (.bl (v sTop)) (.bl (v sTop)) = true := eqD_refl cmpB_bl
  rw [fx_mt h.meq]
  simp only [mD, treeD] at e0
  rw_mod_cast ["AM", mMeaning_eq_, mD, treeD, h.flM, h.kcM, Res.insC, h.same, e0, c1, e1, e2]
end CS
set_option maxRecDepth 100000
set_option maxHeartbeats 8000000
namespace K06
open PySem L2 EW CT TM CS
variable {T : Tab}
structure HasL (T : Tab) : Prop extends HasV T, HasR T where
  more : T.mt cTree kmore = some mTreemore
  mlen : T.mt cMeaning k_len_ = some mMeaning_len_
  mcont : T.mt cMeaning k_contains_ = some mMeaning_contains_
  mprice : T.mt cMeaning kprice = some mMeaningprice
  lmix : T.fn n_law_mix = some f_law_mix
  lnew : T.fn n_law_newcomers_right = some f_law_newcomers_right
  lunl : T.fn n_law_unlike = some f_law_unlike
  dk0 : T.dk cMeaning [.rot []] = true
theorem fx_dk {n : Nat} : (fx T n).dk = T.dk := by cases n <;> rfl
theorem minitC_ok (h : HasMn T) (n : Nat) {rs : List Rw} (t : Tr rs) {b : Bool} {ts : List Str} (op : ∀ n ∈ ts, ∃ r ∈ rs, r.name = n ∧ r.price ≠ none) (hl : ts.length ≤ 1000000) {a1 a2 a3 : Int} : (fx T (n+4)).mt cMeaning k_init_ [.cel 2, .fz (treeD rs), .fz (.bl b), .cel 1] [stm a1 a2 a3, .lst (ts.map fun x => .fz (.str x)), .ins cMeaning []] = .ok (.fz .non) [stm a1 a2 a3, .lst (ts.map fun x => .fz (.str x)), meanO rs b ts] := by
  rw [fx_mt h.minit]
  have g := t.good
  have hl2 : rs.length ≤ 1000000 := by have := t.few; omega
  have e2 := nams_ok h.toHasM (n+2) (rs := rs)
  simp only [treeD] at e2
  rw_mod_cast ["AM", mMeaning_init_, treeD, hl]
  generalize hE : @loopK _ _ _ _ ⟨_⟩ _ _ _ = o
  obtain ⟨δ', μ', rfl, rfl, rfl⟩ := loop_inv' hE (fun i δ μ => δ = [some (.cel 2), some (.fz (treeD rs)), some (.fz (.bl b)), some (.cel 1), none, none] ∧ μ = [stm a1 a2 a3, .lst (ts.map fun x => .fz (.str x)), .ins cMeaning []]) ⟨rfl, rfl⟩ (fun _ _ _ z => by rw [z.2]; exact decide_eq_true rfl) (by
    rintro i d δ μ hd ⟨rfl, rfl⟩
    obtain ⟨x, hx, rfl⟩ := map_get hd
    obtain ⟨r, hr, rfl, _⟩ := op x (List.mem_of_getElem? hx)
    have c := cont_ok h.toHasM (n+2) (any_name g hr) (rs := rs)
    rw [among_mem hr] at c
    simp only [treeD] at c
    refine ⟨_, rfl, ?_⟩
    rw_mod_cast ["AM", treeD, c, h.cont, Out.calm]
    refine .mk ⟨?_, ?_⟩
    · rw_mod_cast ["AM", treeD]
    · rw_mod_cast ["AM", eq_self])
  clear hE
  rw_mod_cast ["AM", treeD, hl]
  generalize hE : @loopK _ _ _ _ ⟨_⟩ _ _ _ = o
  obtain ⟨δ', μ', rfl, rfl, rfl⟩ := loop_inv' hE (fun i δ μ => δ = [some (.cel 2), some (.fz (treeD rs)), some (.fz (.bl b)), some (.cel 1), none, none] ∧ μ = [stm a1 a2 a3, .lst (ts.map fun x => .fz (.str x)), .ins cMeaning []]) ⟨rfl, rfl⟩ (fun _ _ _ z => by rw [z.2]; exact decide_eq_true rfl) (by
    rintro i d δ μ hd ⟨rfl, rfl⟩
    obtain ⟨x, hx, rfl⟩ := map_get hd
    obtain ⟨r, hr, rfl, hp⟩ := op x (List.mem_of_getElem? hx)
    have c := price_ok h.toHasE0 n t hr
    have hn : (priceD r.price).isNon = false := by
      cases hq : r.price with
      | none => exact (hp hq).elim
      | some v => rfl
    simp only [treeD] at c
    refine ⟨_, rfl, ?_⟩
    rw_mod_cast ["AM", treeD, c, h.price, hn]
    refine .mk ⟨?_, ?_⟩
    · rw_mod_cast ["AM", treeD]
    · rw_mod_cast ["AM", eq_self])
  clear hE
  rw_mod_cast ["AM", treeD, h.flM, h.nams, e2, hl2]
  rw [lc_filter (p := fun r => decide (r.name ∈ ts)) (f := fun r => Val.fz (.str r.name)) rfl (fun r hr => ⟨_, rfl, by
    rw_mod_cast ["AM", eq_self]
    cases decide (r.name ∈ ts) <;> rw_mod_cast ["A", eq_self]⟩)]
  rw_mod_cast ["AM", h.flM, tupleR, meanO, treeD, tsOf, namesOf, List.filter_map]
theorem sub_filter {α : Type} [DecidableEq α] : ∀ {xs ys : List α}, xs.Sublist ys → ys.Nodup → ys.filter (fun y => decide (y ∈ xs)) = xs := by
  intro xs ys h
  induction h with
  | slnil => intro _; rfl
  | @cons l1 l2 a h ih =>
    intro nd
    obtain ⟨n1, n2⟩ := List.nodup_cons.mp nd
    rw [List.filter_cons_of_neg (by simpa using fun z => n1 (h.subset z))]
    exact ih n2
  | @cons_cons l1 l2 a h ih =>
    intro nd
    obtain ⟨n1, n2⟩ := List.nodup_cons.mp nd
    rw [List.filter_cons_of_pos (by simp)]
    congr 1
    have : l2.filter (fun y => decide (y ∈ a :: l1)) = l2.filter (fun y => decide (y ∈ l1)) := List.filter_congr fun y hy => by
      rw [decide_eq_decide, List.mem_cons]
      exact ⟨fun z => z.resolve_left (fun e => n1 (e ▸ hy)), .inr⟩
    rw [this]
    exact ih n2
theorem tsOf_sub {rs : List Rw} (g : Good rs) {ts : List Str} (h : ts.Sublist (opn rs)) : tsOf rs ts = ts := by
  have h1 : (opn rs).Sublist (namesOf rs) := List.Sublist.map _ List.filter_sublist
  exact sub_filter (h.trans h1) g.nd
theorem tsOf_mem {rs : List Rw} {s t : List Str} (h : ∀ x, x ∈ s ↔ x ∈ t) : tsOf rs s = tsOf rs t := tsOf_eq.mpr fun n _ => by rw [decide_eq_decide]; exact h n
theorem map_erase {α β : Type} (f : α → β) : ∀ (l : List α) (j : Nat), (l.map f).eraseIdx j = (l.eraseIdx j).map f
  | [], _ => rfl
  | _ :: _, 0 => rfl
  | x :: l, j + 1 => by simp only [List.map_cons, List.eraseIdx_cons_succ, map_erase f l j]
theorem mem_erase {α : Type} : ∀ (l : List α) (j : Nat) (x : α), l[j]? = some x → ∀ y, y ∈ l ↔ y = x ∨ y ∈ l.eraseIdx j
  | [], _, _, h, _ => by simp at h
  | a :: l, 0, x, h, y => by simp at h; subst h; simp
  | a :: l, j + 1, x, h, y => by
    have := mem_erase l j x (by simpa using h) y
    simp only [List.eraseIdx_cons_succ, List.mem_cons]
    rw [this]
    constructor
    · rintro (h | h | h)
      · exact .inr (.inl h)
      · exact .inl h
      · exact .inr (.inr h)
    · rintro (h | h | h)
      · exact .inr (.inl h)
      · exact .inl h
      · exact .inr (.inr h)
theorem pop_at {ls : List Str} {j : Nat} {x : Str} {q0 : O} (hj : ls[j]? = some x) (hl : ls.length ≤ 1000000) : popR (.cel 1) (j : Int) [q0, .lst (ls.map fun x => .fz (.str x))] = .ok (.fz (.str x)) [q0, .lst ((ls.eraseIdx j).map fun x => .fz (.str x))] := by
  have h1 : j < ls.length := (List.getElem?_eq_some_iff.mp hj).1
  have e4 : ixN (ls.map fun x => Val.fz (.str x)).length (j : Int) = some j := ixN_nat (by simpa using h1)
  have e5 : (ls.map fun x => Val.fz (.str x))[j]? = some (.fz (.str x)) := by rw [List.getElem?_map, hj]; rfl
  have e6 := map_erase (fun x => Val.fz (.str x)) ls j
  have e7 : -(2 ^ 63 : Int) ≤ (j : Int) := Int.le_trans (by decide) (Int.natCast_nonneg j)
  have e8 : (j : Int) < 2 ^ 63 := Int.lt_of_le_of_lt (Int.ofNat_le.mpr (Nat.le_trans (Nat.le_of_lt h1) hl)) (by decide)
  unfold popR
  show (if _ then _ else _) = _
  rw [if_pos ⟨e7, e8⟩, e4]
  dsimp only
  rw [e5]
  dsimp only
  rw [e6]
  rfl
theorem pop_E {F : Fx} {i j : Nat} {as : Ces} {δ : EW.Env} {ls ms : List Str} {x : Str} {q0 q1 : O} (hi : δ[i]? = some (some (.cel 1))) (hA : evEs F as δ [q0, .lst (ms.map fun x => .fz (.str x))] = .ok [.fz (.int (j : Int))] [q1, .lst (ls.map fun x => .fz (.str x))]) (hj : ls[j]? = some x) (hl : ls.length ≤ 1000000) : evE F (.bmt .pop (.x i) as) δ [q0, .lst (ms.map fun x => .fz (.str x))] = .ok (.fz (.str x)) [q1, .lst ((ls.eraseIdx j).map fun x => .fz (.str x))] := by
  have e5 := pop_at (q0 := q1) hj hl
  have hx : evE F (.x i) δ [q0, .lst (ms.map fun x => .fz (.str x))] = .ok (.cel 1) [q0, .lst (ms.map fun x => .fz (.str x))] := by
    rw [evE, hi]; rfl
  rw [evE, hx]
  have hr : bmRecv .pop (.cel 1) [q0, .lst (ms.map fun x => .fz (.str x))] = true := rfl
  unfold Out.bind
  dsimp only
  rw [hr, if_pos rfl, hA]
  exact e5
theorem zero_add_ {i : Int} : 0 + i = i := Int.zero_add i
theorem mix_ok (h : HasL T) (n : Nat) {xs : List Str} (hx : xs.length ≤ 900) {a b c : Int} {k : Nat} (ok : Sm.ok a b c k) (hk : k < 100000) : ∃ (ys : List Str) (a' c' : Int), (fx T (n+2)).fn n_law_mix [.cel 0, .fz (.lst (xs.map .str))] [stm a b c] = .ok (.nw (.lst (ys.map fun x => .fz (.str x)))) [stm a' b c'] ∧ (∀ x, x ∈ ys ↔ x ∈ xs) ∧ ys.length = xs.length ∧ Sm.ok a' b c' (k + xs.length) := by
  rw [fx_fn h.lmix]
  have hb1 : -1000000 ≤ (xs.length : Int) ∧ (xs.length : Int) ≤ 1000000 := by omega
  have hb2 : (rngI 0 xs.length).length ≤ 1000000 := by rw [rng_len]; omega
  rw_mod_cast ["AM", f_law_mix, listR, hb1, hb2, Int.toNat_natCast]
  generalize hE : @lcK _ _ _ ⟨_⟩ _ _ _ = o
  obtain ⟨acc, μ', rfl, ys, ls, a2, c2, rfl, ok2, rfl, hm, h1, h2⟩ := lc_inv' hE (fun i acc μ => ∃ (ys ls : List Str) (a' c' : Int), μ = [stm a' b c', .lst (ls.map fun x => .fz (.str x))] ∧ Sm.ok a' b c' (k + i) ∧ acc = ys.map (fun x => Val.fz (.str x)) ∧ (∀ x, x ∈ xs ↔ x ∈ ys ∨ x ∈ ls) ∧ ls.length + i = xs.length ∧ ys.length = i)
    ⟨[], xs, a, c, rfl, ok, rfl, by simp, rfl, rfl⟩ (fun _ _ _ _ => rfl) (by
    rintro i d acc μ hd ⟨ys, ls, a2, c2, rfl, ok2, rfl, hm, h1, h2⟩
    obtain ⟨rfl, hi⟩ := rng_get hd
    obtain ⟨v, a3, c3, e3, w0, w1, ok3⟩ := draw_ok h.toHasS n ok2 (by omega) (m := ls.length) (by omega) (by omega)
    obtain ⟨j, rfl⟩ := Int.eq_ofNat_of_zero_le w0
    have hj : j < ls.length := by omega
    obtain ⟨x, hx3⟩ : ∃ x, ls[j]? = some x := ⟨_, List.getElem?_eq_getElem hj⟩
    have e5 := fun q0 => pop_at (q0 := q0) hx3 (by omega)
    refine ⟨_, rfl, ?_⟩
    have hA : evEs (fx T (n+1)) (.cons (.fn 5 (.cons (.x 0) (.cons (.blt .len (.cons (.x 2) .nil)) .nil))) .nil) [some (.cel 0), some (.fz (.lst (xs.map .str))), some (.cel 1), some (.fz (.int (i : Int)))] [stm a2 b c2, .lst (ls.map fun x => .fz (.str x))] = .ok [.fz (.int (j : Int))] [stm a3 b c3, .lst (ls.map fun x => .fz (.str x))] := by
      simp only [run_eq, endF_nx, endF_rt, endF_ex, endF_no, evSs, evS, evE, evT, evEs, ↓bind_eq, bnd_ok, bnd_ex, bnd_no, Out.run_ok, Out.run_ex, Out.run_no, ↓thn_eq, thk_nx, thk_rt, thk_bk, thk_ct, thk_ex, thk_no, arg_fz, arg_cel, arg_nw, argO_ok, argO_ex, argO_no, nm_fz, nm_cel, rnm_fz, rnm_nw, rnm_cel, res_fz, res_cel, fr_fz, fr_cel, fr_nw, mkc_nw, mkc_fz, mkc_cel, outO_some, outO_none, ofO_some, ofO_none, iceOf, startE, List.map_cons, List.map_nil, List.length_cons, List.length_nil, List.getElem?_cons_zero, List.getElem?_cons_succ, List.set_cons_zero, List.set_cons_succ, List.cons_append, List.nil_append, List.replicate, ↓reduceIte, reduceCtorEq, Nat.reduceAdd, Nat.reduceSub, Nat.reduceEqDiff, Option.map_some, Option.map_none, cast_lit, Int.reduceEq, eq_self, binO, insF, ixR, dctV, seqV, lsqV, lstV, tupV, insV, atI_0, atI_1, atI_2, atI_3, ixN_0, ixN_1, ixN_2, ixN_3, binR, op_add_, op_sub_, op_mul_, op_mod_, op_div_, pow_10_18, op_pow_, mulB_l, mulB_r, cmpR, intCmp, truth, bltR, len_str, len_lst, len_tup, len_rol, len_rot, len_dct, len_cel, putR, decide_true, decide_false, Bool.false_eq_true, Int.reduceLE, Int.reduceLT, Int.reduceToNat, Int.reducePow, Int.reduceNeg, Nat.reducePow, Option.bind_some, Option.bind_none, lend, lendW, lendS, cellsOf, picks, renum, give, O.flat, O.frozen, fzAll, Res.ok, List.nodup_nil, List.nodup_cons, List.not_mem_nil, List.mem_cons, not_false_eq_true, and_self, or_false, Option.isSome_some, Option.isSome_none, fx_df, fx_dm, fx_fl, fx_gd, fx_kc, Nat.add_zero, big, Nat.reduceLeDiff, Nat.reduceLT, List.length_map, List.length_append, fzAll_append, mutV, putL, List.map_append, List.map_map, Function.comp_def, fzAll_mapf, fzAll_fz, ↓lc_eq, ↓dc_eq, keyO, ↓loop_eq, ↓wloop_eq, bmRecv, bmtR, walkR, itemsR, seqI, wipeD, setAllV, bindI, chk, List.set_nil, h.draw, e3, List.all_cons, List.all_nil, Bool.and_self, Bool.and_true, Bool.true_and]
    have hB := pop_E (F := fx T (n+1)) (i := 2) (δ := [some (.cel 0), some (.fz (.lst (xs.map .str))), some (.cel 1), some (.fz (.int (i : Int)))]) rfl hA hx3 (by omega)
    simp only [List.set_cons_succ, List.set_cons_zero, nm_fz]
    rw [hB]
    simp only [run_eq, endF_nx, endF_rt, endF_ex, endF_no, evSs, evS, evE, evT, evEs, ↓bind_eq, bnd_ok, bnd_ex, bnd_no, Out.run_ok, Out.run_ex, Out.run_no, ↓thn_eq, thk_nx, thk_rt, thk_bk, thk_ct, thk_ex, thk_no, arg_fz, arg_cel, arg_nw, argO_ok, argO_ex, argO_no, nm_fz, nm_cel, rnm_fz, rnm_nw, rnm_cel, res_fz, res_cel, fr_fz, fr_cel, fr_nw, mkc_nw, mkc_fz, mkc_cel, outO_some, outO_none, ofO_some, ofO_none, iceOf, startE, List.map_cons, List.map_nil, List.length_cons, List.length_nil, List.getElem?_cons_zero, List.getElem?_cons_succ, List.set_cons_zero, List.set_cons_succ, List.cons_append, List.nil_append, List.replicate, ↓reduceIte, reduceCtorEq, Nat.reduceAdd, Nat.reduceSub, Nat.reduceEqDiff, Option.map_some, Option.map_none]
    refine .mk ⟨ys ++ [x], ls.eraseIdx j, a3, c3, rfl, ok3, by simp [addO], fun y => ?_, ?_, by simp [h2]⟩
    · rw [hm y, mem_erase ls j x hx3 y, List.mem_append, List.mem_singleton]
      constructor
      · rintro (h | h | h)
        · exact .inl (.inl h)
        · exact .inl (.inr h)
        · exact .inr h
      · rintro ((h | h) | h)
        · exact .inl h
        · exact .inr (.inl h)
        · exact .inr (.inr h)
    · rw [List.length_eraseIdx_of_lt hj]; omega)
  rw [rng_len] at h1 h2 ok2
  have hl0 : ls = [] := List.length_eq_zero_iff.mp (by omega)
  refine ⟨ys, a2, c2, ?_, fun x => by rw [hm x, hl0]; simp, h2, ok2⟩
  rw_mod_cast ["AM", eq_self]
def prI (r : Rw) : Int := match r.price with
  | some v => v
  | none => 0
theorem mprice_ok (h : HasL T) (n : Nat) {rs : List Rw} (t : Tr rs) {b : Bool} {ts : List Str} (op : ∀ n ∈ ts, ∃ r ∈ rs, r.name = n ∧ r.price ≠ none) : (fx T (n+4)).mt cMeaning kprice [.fz (meanD rs b ts)] [] = .ok (.fz (.int ((rs.filter fun r => decide (r.name ∈ ts)).map prI).sum)) [] := by
  have g := t.good
  have hl : (rs.filter fun r => decide (r.name ∈ ts)).length ≤ 1000000 := Nat.le_trans (List.length_filter_le _ _) (by have := t.few; omega)
  rw [fx_mt h.mprice]
  rw_mod_cast ["AM", mMeaningprice, meanD, tsOf_map, treeD, h.flM, hl]
  rw [lc_map (f := fun r => Val.fz (.int (prI r))) rfl (fun r hr => ⟨_, rfl, by
    obtain ⟨h1, h2⟩ := List.mem_filter.mp hr
    have hm : r.name ∈ ts := of_decide_eq_true h2
    obtain ⟨q, hq, e, hp⟩ := op _ hm
    have : q = r := row_same g hq h1 e
    subst this
    have c := price_ok h.toHasE0 n t h1
    simp only [treeD] at c
    have hp2 : priceD q.price = .int (prI q) := by
      unfold prI
      cases hq2 : q.price with
      | none => exact (hp hq2).elim
      | some v => rfl
    rw [hp2] at c
    rw_mod_cast ["AM", h.flM, h.price, c]⟩)]
  rw_mod_cast ["AM", eq_self]
theorem mlen_ok (h : HasL T) (n : Nat) {rs : List Rw} {b : Bool} {ts : List Str} : (fx T (n+1)).mt cMeaning k_len_ [.fz (meanD rs b ts)] [] = .ok (.fz (.int (tsOf rs ts).length)) [] := by
  rw [fx_mt h.mlen]
  rw_mod_cast ["AM", mMeaning_len_, meanD, treeD, h.flM]
theorem mcont_ok (h : HasL T) (n : Nat) {rs : List Rw} (t : Tr rs) {b : Bool} {ts : List Str} {x : Str} (hx : x = sTop ∨ x ∈ namesOf rs) : (fx T (n+4)).mt cMeaning k_contains_ [.fz (meanD rs b ts), .fz (.str x)] [] = .ok (.fz (.bl (sv rs b (inP ts) x))) [] := by
  have g := t.good
  rw [fx_mt h.mcont]
  have e1 := cont_ok h.toHasM (n+2) (any_box g hx) (rs := rs)
  have e2 := value_ok h.toHasMn n t (b := b) (ts := ts) hx
  have cx := cmp_box g hx
  simp only [meanD, treeD] at e1 e2
  by_cases hn : x ∈ namesOf rs
  · have ha : amongB (namesOf rs) (.str x) = true := decide_eq_true hn
    rw [ha] at e1
    rw_mod_cast ["AM", mMeaning_contains_, meanD, treeD, h.flM, h.cont, h.mval, e1, e2, Out.calm]
  · have ha : amongB (namesOf rs) (.str x) = false := decide_eq_false hn
    have ht : x = Str.ofString "top" := hx.resolve_right hn
    rw [ha] at e1
    rw_mod_cast ["AM", mMeaning_contains_, meanD, treeD, h.flM, h.cont, h.mval, h.top, e1, e2, cx, top_ok, decide_eq_true ht, Out.calm]
theorem mcont_no (h : HasL T) (n : Nat) {rs : List Rw} (t : Tr rs) {b : Bool} {ts : List Str} {d : D} (hd : Any d) (hn : amongB (namesOf rs) d = false) (hs : (∃ s, d.tyn = some s ∧ tyIs s "str" = false) ∨ ∃ y, d = .str y ∧ y ≠ sTop ∧ cmpB (.str y) = true) : (fx T (n+4)).mt cMeaning k_contains_ [.fz (meanD rs b ts), .fz d] [] = .ok (.fz (.bl false)) [] := by
  rw [fx_mt h.mcont]
  have e1 := cont_ok h.toHasM (n+2) hd (rs := rs)
  rw [hn] at e1
  simp only [treeD] at e1
  rcases hs with ⟨s, h1, h2⟩ | ⟨y, rfl, h1, h2⟩
  · have e3 : ∀ μ, isi1 (fx T (n+3)) (.fz d) μ (.ty "str") = some false := fun μ => by rw [isi1_ty h1 (by decide), h2]
    simp only [mMeaning_contains_, meanD, treeD, evSs, evS, evE, evT, run_eq, endF_nx, endF_rt, endF_ex, endF_no, evSs, evS, evE, evT, evEs, ↓bind_eq, bnd_ok, bnd_ex, bnd_no, Out.run_ok, Out.run_ex, Out.run_no, ↓thn_eq, thk_nx, thk_rt, thk_bk, thk_ct, thk_ex, thk_no, arg_fz, arg_cel, arg_nw, argO_ok, argO_ex, argO_no, nm_fz, nm_cel, rnm_fz, rnm_nw, rnm_cel, res_fz, res_cel, fr_fz, fr_cel, fr_nw, mkc_nw, mkc_fz, mkc_cel, outO_some, outO_none, ofO_some, ofO_none, iceOf, startE, List.map_cons, List.map_nil, List.length_cons, List.length_nil, List.getElem?_cons_zero, List.getElem?_cons_succ, List.set_cons_zero, List.set_cons_succ, List.cons_append, List.nil_append, List.replicate, ↓reduceIte, reduceCtorEq, Nat.reduceAdd, Nat.reduceSub, Nat.reduceEqDiff, Option.map_some, Option.map_none, cast_lit, Int.reduceEq, eq_self, binO, insF, ixR, dctV, seqV, lsqV, lstV, tupV, insV, atI_0, atI_1, atI_2, atI_3, ixN_0, ixN_1, ixN_2, ixN_3, binR, op_add_, op_sub_, op_mul_, op_mod_, op_div_, pow_10_18, op_pow_, mulB_l, mulB_r, cmpR, intCmp, truth, bltR, len_str, len_lst, len_tup, len_rol, len_rot, len_dct, len_cel, putR, decide_true, decide_false, Bool.false_eq_true, Int.reduceLE, Int.reduceLT, Int.reduceToNat, Int.reducePow, Int.reduceNeg, Nat.reducePow, Option.bind_some, Option.bind_none, lend, lendW, lendS, cellsOf, picks, renum, give, O.flat, O.frozen, fzAll, Res.ok, List.nodup_nil, List.nodup_cons, List.not_mem_nil, List.mem_cons, not_false_eq_true, and_self, or_false, Option.isSome_some, Option.isSome_none, fx_df, fx_dm, fx_fl, fx_gd, fx_kc, finR, finB, finC, closed, Res.nmO, nmM, O.nm, O.below, O.refs, cellsOf, List.take, List.all_cons, List.all_nil, Bool.and_self, Bool.and_true, Bool.true_and, decide_true, Nat.add_zero, big, Nat.reduceLeDiff, Nat.reduceLT, List.length_map, List.length_append, fzAll_append, mutV, putL, List.map_append, List.map_map, Function.comp_def, fzAll_mapf, fzAll_fz, ↓lc_eq, ↓dc_eq, keyO, ↓loop_eq, ↓wloop_eq, bmRecv, bmtR, walkR, itemsR, seqI, wipeD, setAllV, bindI, chk, List.set_nil, eqR, inR, ng_f, ne_eq, List.drop_zero, List.take_zero, Nat.add_eq_left, Nat.succ_ne_self, one_ne_zero_, and_true, app_at, app_at0, app_set, app_set0, app_take, app_take0, nm_app, List.append_assoc, fldR, List.idxOf?_cons, List.idxOf?_nil, Nat.reduceBEq, Nat.lt_add_right_iff_pos, cellAt, iceR, h.flM, h.cont, e1, isiR, e3, Out.calm]
  · have ht : ¬ y = Str.ofString "top" := h1
    rw_mod_cast ["AM", mMeaning_contains_, meanD, treeD, h.flM, h.cont, h.top, e1, h2, top_ok, decide_eq_false ht, Out.calm]
end K06
set_option maxRecDepth 100000
set_option maxHeartbeats 8000000
namespace K06
open PySem L2 EW CT TM CS
variable {T : Tab}
structure HasU (T : Tab) : Prop extends HasL T where
  niM : T.ni cMeaning = true
  niT : T.ni cTree = true
  sb1 : T.sub cTree cMeaning = some false
  sb2 : T.sub cMeaning cTree = some false
theorem fx_sub {n : Nat} : (fx T n).sub = T.sub := by cases n <;> rfl
theorem more0_ok (h : HasL T) (n : Nat) {rs : List Rw} (t : Tr rs) {r : Rw} {ws : List Rw} (u : Tr ws) {d : D} (hw : ws = rs ++ [r]) (hd : RowF r d) : (fx T (n+4)).mt cTree kmore [.fz (treeD rs), .fz d] [] = .ok (.nw (.ins cTree [.fz (.dct (ws.map fun r => Sum.inr r.name) (ws.map rowD)), .fz (.lst ((fols ws).map .str))])) [] := by
  subst hw
  rw [fx_mt h.more]
  have e := rws_ok h.toHasM (n+2) t
  have hl : rs.length + 1 ≤ 1000000 := by have := u.few; simp at this; omega
  have m := makeT h.toHasI n u (ds := rs.map rowD ++ [d]) (by simp) (fun i d' r' h1 h2 => by
    by_cases hi : i < rs.length
    · rw [List.getElem?_append_left (by simpa using hi)] at h1
      rw [List.getElem?_append_left hi] at h2
      exact rowF_map i d' r' h1 h2
    · have hi' : i = rs.length := by
        have := (List.getElem?_eq_some_iff.mp h2).1
        simp at this; omega
      subst hi'
      rw [List.getElem?_append_right (by simp)] at h1
      rw [List.getElem?_append_right (by simp)] at h2
      simp at h1 h2
      subst h1 h2
      exact hd) (μ := [])
  simp only [treeD] at e
  rw_mod_cast ["AM", mTreemore, treeD, h.rws, h.init, e, hl, m]
def nwZ (f : Str) : Rw := ⟨Str.ofString "newz", f, Str.ofString "item", some 1⟩
theorem nz_ok : NameOk (Str.ofString "newz") ∧ (Str.ofString "newz").length = 4 := by
  have e : Str.ofString "newz" = nwN 122 := by decide +kernel
  rw [e]
  exact ⟨nwN_ok ⟨by decide, by decide⟩, nwN_len _⟩
def wdZ (rs : List Rw) (f : Str) : List Rw := rs ++ [nwZ f]
theorem nz_good {rs : List Rw} (g : Good rs) (n4 : ∀ r ∈ rs, r.name.length ≠ 4) {f : Str} (hf : f = sTop ∨ ∃ q ∈ rs, q.name = f ∧ q.kind = sFolder) : Good (wdZ rs f) :=
  show Good (rs ++ [nwZ f]) from .snoc g ⟨nz_ok.1, fun q hq z => n4 q hq (by rw [show q.name = _ from z]; exact nz_ok.2), hf, by simp [TM.kinds, nwZ], by show (1:Int) ≤ 1; decide⟩
theorem nz_sv {rs : List Rw} (n4 : ∀ r ∈ rs, r.name.length ≠ 4) {f : Str} {b : Bool} {ts : List Str} (ht : TsOk rs ts) : sv (wdZ rs f) b (inP ts) (Str.ofString "newz") = sv rs b (inP ts) f := by
  have nin : inP ts (Str.ofString "newz") = false := decide_eq_false fun z => by
    obtain ⟨r, hr, e, _⟩ := ht.op _ z
    exact n4 r hr (by rw [e]; exact nz_ok.2)
  unfold wdZ
  rw [sv_snoc, if_pos (show Str.ofString "newz" = (nwZ f).name from rfl)]
  show (sv rs b (inP ts) f != inP ts (Str.ofString "newz")) = _
  rw [nin]
  cases sv rs b (inP ts) f <;> rfl
theorem nz_ts {rs : List Rw} {f : Str} {ts : List Str} (ht : TsOk rs ts) : TsOk (wdZ rs f) ts := ⟨ht.nd, fun n hn => by
  obtain ⟨r, hr, e, p⟩ := ht.op n hn
  exact ⟨r, List.mem_append_left _ hr, e, p⟩, ht.few⟩
abbrev stZ (rs : List Rw) (b : Bool) (ts : List Str) : D := .dct ((nms rs).map fun x => Sum.inr x) ((nms rs).map fun x => .bl (sv rs b (inP ts) x))
theorem newr_ok (h : HasL T) (n : Nat) {rs : List Rw} (t : Tr rs) (few : rs.length ≤ 50) (n4 : ∀ r ∈ rs, r.name.length ≠ 4) {b : Bool} {ts : List Str} (ht : TsOk rs ts) : (fx T (n+6)).fn n_law_newcomers_right [.fz (treeD rs), .fz (rowsD rs), .fz (.bl b), .fz (.lst (ts.map .str)), .fz (stZ rs b ts)] [] = .ok (.fz (.bl true)) [] := by
  rw [fx_fn h.lnew]
  have g := t.good
  have hl : rs.length ≤ 1000000 := by omega
  have lf0 : (rs.filter fun r => decide (r.kind = sFolder)).length ≤ 50 := Nat.le_trans (List.length_filter_le _ _) few
  have lf1 : 1 + (rs.filter fun r => decide (r.kind = sFolder)).length ≤ 1000000 := by omega
  have lf2 : (rs.filter fun r => decide (r.kind = sFolder)).length ≤ 999999 := by omega
  rw_mod_cast ["AM", f_law_newcomers_right, rowsD, hl]
  rw [lc_filter (p := fun q => decide (q.kind = sFolder)) (f := fun q => Val.fz (.str q.name)) rfl (fun q hq => ⟨_, rfl, by
    have ck1 : cmpB (.str q.kind) = true := cmpB_str (ok_kind (g.mem q hq).2.2.1)
    have cf : cmpB (.str (Str.ofString "folder")) = true := by decide +kernel
    by_cases a : q.kind = Str.ofString "folder"
    · rw_mod_cast ["AM", rowD, ck1, cf, decide_eq_true a]
    · rw_mod_cast ["AM", rowD, ck1, cf, decide_eq_false a]⟩)]
  rw_mod_cast ["AM", lf1, lf2]
  generalize hE : @loopK _ _ _ _ ⟨_⟩ _ _ _ = o
  obtain ⟨δ', μ', rfl, rfl, rfl⟩ := loop_inv' hE (fun i δ μ => δ = [some (.fz (treeD rs)), some (.fz (.lst (rs.map rowD))), some (.fz (.bl b)), some (.fz (.lst (ts.map .str))), some (.fz (stZ rs b ts)), none, none, none] ∧ μ = []) ⟨rfl, rfl⟩ (fun _ _ _ _ => rfl) (by
    rintro i d δ μ hd ⟨rfl, rfl⟩
    obtain ⟨f, hfi, rfl⟩ : ∃ f, (fols rs)[i]? = some f ∧ d = .one (.fz (.str f)) := by
      cases i with
      | zero => simp at hd; exact ⟨sTop, rfl, hd.symm⟩
      | succ i =>
        rw [List.getElem?_cons_succ] at hd
        obtain ⟨q, hq, rfl⟩ := map_get hd
        exact ⟨q.name, by unfold fols; rw [List.getElem?_cons_succ, List.getElem?_map, hq]; rfl, rfl⟩
    have hf : f = sTop ∨ ∃ q ∈ rs, q.name = f ∧ q.kind = sFolder := by
      rcases List.mem_cons.mp (List.mem_of_getElem? hfi) with e | e
      · exact .inl e
      · obtain ⟨q, hq, e⟩ := List.mem_map.mp e
        have hq' := List.mem_filter.mp hq
        exact .inr ⟨q, hq'.1, e, of_decide_eq_true hq'.2⟩
    have hf2 : f = sTop ∨ f ∈ namesOf rs := hf.elim .inl fun z => .inr (by
      obtain ⟨q, hq, e, _⟩ := z
      exact List.mem_map.mpr ⟨q, hq, e⟩)
    have wt : Tr (wdZ rs f) := ⟨nz_good g n4 hf, by simp [wdZ]; omega⟩
    have wts := nz_ts (f := f) ht
    have m0 := more0_ok h (n+1) t wt (d := .tup [.str (Str.ofString "newz"), .str f, .str (Str.ofString "item"), .int 1]) rfl (.inl rfl)
    have m2 := fun μ => makeM h.toHasMn (n+1) wt (b := b) wts (μ := μ)
    have hx1 : Str.ofString "newz" ∈ namesOf (wdZ rs f) := by simp [namesOf, wdZ, nwZ]
    have v1 := value_ok h.toHasMn (n+2) wt (b := b) (ts := ts) (.inr hx1)
    rw [nz_sv n4 ht] at v1
    have gf := get_st g (b := b) (p := inP ts) hf2
    have eb : eqD (.bl (sv rs b (inP ts) f)) (.bl (sv rs b (inP ts) f)) = true := eqD_refl cmpB_bl
    simp only [meanO, meanD, treeD] at m0 m2 v1
    refine ⟨_, rfl, ?_⟩
    rw_mod_cast ["AM", treeD, h.more, h.minit, h.mval, m0, m2, v1, gf, eb]
    refine .mk ⟨?_, ?_⟩
    · rw_mod_cast ["AM", treeD]
    · rw_mod_cast ["AM", eq_self])
  rw_mod_cast ["AM", eq_self]
theorem eqM_no (h : HasMn T) (n : Nat) {rs qs : List Rw} (t : Tr rs) (u : Tr qs) {b c : Bool} {s w : List Str} {neg : Bool} {μ : Mu} (hne : rs ≠ qs) : eqR (fx T (n+3)) neg (.fz (meanD rs b s)) (.fz (meanD qs c w)) μ = .ok neg μ := by
  have q1 := eqT h.toHasE0 n t u (neg := false) (μ := [])
  rw [decide_eq_false hne] at q1
  have e0 : (fx T (n+2)).fn nsame_tree [.fz (meanD rs b s), .fz (meanD qs c w)] [] = .ok (.fz (.bl false)) [] := by
    rw [fx_fn h.same]
    simp only [treeD, ng_f] at q1
    rw_mod_cast ["QM", fsame_tree, meanD, treeD, h.flM, q1]
  have e : (fx T (n+3)).mt cMeaning k_eq_ [.fz (meanD rs b s), .fz (meanD qs c w)] [] = .ok (.fz (.bl false)) [] := by
    rw [fx_mt h.meq]
    simp only [meanD, treeD] at e0
    rw_mod_cast ["AM", mMeaning_eq_, meanD, treeD, h.flM, h.kcM, Res.insC, h.same, e0]
  simp only [meanD] at e ⊢
  unfold eqR
  dsimp only
  rw [if_pos ⟨rfl, by simp only [fx_dm, h.meq, Option.isSome_some]⟩]
  simp only [lend, lendW, lendS, cellsOf, picks, renum, give, O.flat, O.frozen, fzAll, Res.ok, List.nodup_nil, List.nodup_cons, List.not_mem_nil, List.mem_cons, not_false_eq_true, and_self, or_false, Option.isSome_some, Option.isSome_none, fx_df, fx_dm, fx_fl, fx_gd, fx_kc, run_eq, endF_nx, endF_rt, endF_ex, endF_no, evSs, evS, evE, evT, evEs, ↓bind_eq, bnd_ok, bnd_ex, bnd_no, Out.run_ok, Out.run_ex, Out.run_no, ↓thn_eq, thk_nx, thk_rt, thk_bk, thk_ct, thk_ex, thk_no, arg_fz, arg_cel, arg_nw, argO_ok, argO_ex, argO_no, nm_fz, nm_cel, rnm_fz, rnm_nw, rnm_cel, res_fz, res_cel, fr_fz, fr_cel, fr_nw, mkc_nw, mkc_fz, mkc_cel, outO_some, outO_none, ofO_some, ofO_none, iceOf, startE, List.map_cons, List.map_nil, List.length_cons, List.length_nil, List.getElem?_cons_zero, List.getElem?_cons_succ, List.set_cons_zero, List.set_cons_succ, List.cons_append, List.nil_append, List.replicate, ↓reduceIte, reduceCtorEq, Nat.reduceAdd, Nat.reduceSub, Nat.reduceEqDiff, Option.map_some, Option.map_none, e, List.all_nil, Bool.and_self, decide_true, Out.calm]
  cases neg <;> rfl
theorem eqM_ne (h : HasMn T) (n : Nat) {rs : List Rw} (t : Tr rs) {b c : Bool} {s w : List Str} (hs : TsOk rs s) (hw : TsOk rs w) {neg : Bool} {μ : Mu} (hne : ¬ (b = c ∧ tsOf rs s = tsOf rs w)) : eqR (fx T (n+3)) neg (.fz (meanD rs b s)) (.fz (meanD rs c w)) μ = .ok neg μ := by
  rw [eqM h n t hs hw, decide_eq_false hne]
  cases neg <;> rfl
theorem eqM_odd (h : HasU T) (n : Nat) {rs : List Rw} {b : Bool} {s : List Str} {d : D} {neg : Bool} {μ : Mu} (ho : d.odd neg = true) (hi : ∀ c ds, d ≠ .ins c ds) : eqR (fx T (n+1)) neg (.fz (meanD rs b s)) (.fz d) μ = .ok neg μ := by
  have hn : (fx T (n+1)).ni cMeaning = true := h.niM
  unfold eqR meanD
  cases d with
  | ins c ds => exact (hi c ds rfl).elim
  | _ => simp only [hn, ho, Bool.and_self, if_true]
theorem eqM_tree (h : HasU T) (n : Nat) {rs qs : List Rw} {b : Bool} {s : List Str} {neg : Bool} {μ : Mu} : eqR (fx T (n+1)) neg (.fz (meanD rs b s)) (.fz (treeD qs)) μ = .ok neg μ := by
  have ha : apart (fx T (n+1)) cMeaning cTree = true := by
    unfold apart
    have h1 : (fx T (n+1)).ni cMeaning = true := h.niM
    have h2 : (fx T (n+1)).ni cTree = true := h.niT
    rw [h1, h2, fx_sub, h.sb1, h.sb2]
    rfl
  unfold eqR meanD treeD
  dsimp only
  rw [if_neg (fun z => by exact absurd z.1 (by decide)), if_pos ha]
def togL (ts : List Str) (x : Str) : List Str := (ts.filter fun y => !decide (y = x)) ++ (if x ∈ ts then [] else [x])
theorem tog_ok {rs : List Rw} {ts : List Str} (ht : TsOk rs ts) (few : ts.length ≤ 50) {x : Str} (hx : ∃ r ∈ rs, r.name = x ∧ r.price ≠ none) : TsOk rs (togL ts x) := by
  have hl4 : (ts.filter fun y => !decide (y = x)).length ≤ 50 := Nat.le_trans (List.length_filter_le _ _) few
  refine ⟨?_, fun z hz => ?_, ?_⟩
  · unfold togL
    refine List.nodup_append.mpr ⟨ht.nd.filter _, by split <;> simp, fun p hp q hq e => ?_⟩
    split at hq
    · exact nomatch hq
    · have := (List.mem_filter.mp hp).2
      rw [e, List.mem_singleton.mp hq] at this
      simp at this
  · rcases List.mem_append.mp hz with hz | hz
    · exact ht.op z (List.mem_filter.mp hz).1
    · split at hz
      · exact nomatch hz
      · rw [List.mem_singleton.mp hz]; exact hx
  · unfold togL
    rw [List.length_append]
    split <;> simp <;> omega
theorem tog_ne {rs : List Rw} {ts : List Str} {x : Str} (hx : x ∈ namesOf rs) : tsOf rs ts ≠ tsOf rs (togL ts x) := fun z => by
  have := tsOf_eq.mp z x hx
  rw [decide_eq_decide] at this
  unfold togL at this
  by_cases hm : x ∈ ts
  · have h1 := this.mp hm
    rw [if_pos hm, List.append_nil] at h1
    have := (List.mem_filter.mp h1).2
    simp at this
  · have h1 : x ∈ ts := this.mpr (by rw [if_neg hm]; simp)
    exact hm h1
theorem any_no {α : Type} (l : List α) : ((l.map fun _ => false).any id) = false := by
  induction l with
  | nil => rfl
  | cons a l ih => simpa using ih
theorem all_yes {α : Type} (l : List α) : ((l.map fun _ => true).all id) = true := by
  induction l with
  | nil => rfl
  | cons a l ih => simpa using ih
theorem unl_ok (h : HasU T) (n : Nat) {rs : List Rw} (t : Tr rs) (few : rs.length ≤ 50) (n4 : ∀ r ∈ rs, r.name.length ≠ 4) {b : Bool} {ts : List Str} (ht : TsOk rs ts) (htl : ts.length ≤ 50) : (fx T (n+6)).fn n_law_unlike [.fz (meanD rs b ts), .fz (treeD rs), .fz (rowsD rs), .fz (.bl b), .fz (.lst (ts.map .str))] [] = .ok (.fz (.bl true)) [] := by
  have g := t.good
  have hl : rs.length ≤ 1000000 := by omega
  have hl1 : rs.length + 1 ≤ 1000000 := by omega
  have hl2 : ts.length ≤ 1000000 := by omega
  have wt : Tr (wdZ rs sTop) := ⟨nz_good g n4 (.inl rfl), by simp [wdZ]; omega⟩
  have wts := nz_ts (f := sTop) ht
  have ew : (wdZ rs sTop).map rowD = rs.map rowD ++ [.tup [.str (Str.ofString "newz"), .str (Str.ofString "top"), .str (Str.ofString "item"), .int 1]] := by simp [rowD, wdZ, nwZ, priceD]
  have m0 := fun μ => makeT h.toHasI (n+2) wt (ds := rs.map rowD ++ [.tup [.str (Str.ofString "newz"), .str (Str.ofString "top"), .str (Str.ofString "item"), .int 1]]) (by rw [← ew]; simp) (by rw [← ew]; exact rowF_map) (μ := μ)
  have m1 := fun μ => makeM h.toHasMn (n+1) t (b := !b) ht (μ := μ)
  have m2 := fun μ => makeM h.toHasMn (n+1) wt (b := b) wts (μ := μ)
  have eo := lopen_ok h.toHasV0 (n+4) (rs := rs) (by omega)
  have eo2 : (rs.filter fun r => decide (r.price ≠ none)).map (fun r => Val.fz (D.str r.name)) = (opn rs).map fun x => Val.fz (.str x) := by simp [opn]
  have st := states_ok h.toHasMn (n+3) t (b := b) (ts := ts)
  have ro := opn_ok g (by omega) (List.Sublist.refl (opn rs))
  have u1 : ∀ neg μ, eqR (fx T (n+5)) neg (.fz (meanD rs b ts)) (.fz (meanD rs (!b) ts)) μ = .ok neg μ := fun neg μ => eqM_ne h.toHasMn (n+2) t ht ht (fun z => by have := z.1; cases b <;> cases this)
  have u2 : ∀ neg μ, eqR (fx T (n+5)) neg (.fz (meanD rs b ts)) (.fz (meanD (wdZ rs sTop) b ts)) μ = .ok neg μ := fun neg μ => eqM_no h.toHasMn (n+2) t wt (fun z => by have := congrArg List.length z; simp [wdZ] at this)
  have u3 : ∀ x ∈ opn rs, ∀ neg μ, eqR (fx T (n+5)) neg (.fz (meanD rs b ts)) (.fz (meanD rs b (togL ts x))) μ = .ok neg μ := fun x hx neg μ => eqM_ne h.toHasMn (n+2) t ht (tog_ok ht htl (ro.op x hx)) (fun z => tog_ne (ro.names x hx) z.2)
  have u4 : ∀ neg μ, eqR (fx T (n+5)) neg (.fz (meanD rs b ts)) (.fz .non) μ = .ok neg μ := fun neg μ => eqM_odd h (n+4) rfl (by simp)
  have u5 : ∀ neg μ, eqR (fx T (n+5)) neg (.fz (meanD rs b ts)) (.fz (treeD rs)) μ = .ok neg μ := fun neg μ => eqM_tree h (n+4)
  have u6 : ∀ neg μ, eqR (fx T (n+5)) neg (.fz (meanD rs b ts)) (.fz (stZ rs b ts)) μ = .ok neg μ := fun neg μ => eqM_odd h (n+4) rfl (by simp)
  have u7 : ∀ neg μ, eqR (fx T (n+5)) neg (.fz (meanD rs b ts)) (.fz (.tup (ts.map .str))) μ = .ok neg μ := fun neg μ => eqM_odd h (n+4) rfl (by simp)
  have u1' := u1
  have u2' := u2
  simp only [meanO, treeD] at m0 m1 m2
  simp only [rowsD] at eo
  rw [eo2] at eo
  simp only [meanD, treeD, stO] at st
  have op2 : (opn rs).length ≤ 50 := by unfold opn; rw [List.length_map]; exact Nat.le_trans (List.length_filter_le _ _) few
  have hc2 : (cutD (opn rs) none (some 2)).length ≤ 1000000 := Nat.le_trans (cut_len _ _ _) (by omega)
  have hc3 : (cutD (opn rs) none (some 2)).length ≤ 50 := Nat.le_trans (cut_len _ _ _) op2
  rw [fx_fn h.lunl]
  rw_mod_cast ["AM", f_law_unlike, rowsD, meanD, treeD, h.init, h.minit, h.lopen, m0, m1, m2, eo, hl1, partO, isK, slR, cut_map, hc2]
  generalize hE : @loopK _ _ _ _ ⟨_⟩ _ _ _ = o
  obtain ⟨δ', μ', rfl, rfl, os, rfl, ho, hol⟩ := loop_inv' hE (fun i δ μ => δ = [some (.fz (meanD rs b ts)), some (.fz (treeD rs)), some (.fz (.lst (rs.map rowD))), some (.fz (.bl b)), some (.fz (.lst (ts.map .str))), some (.fz (treeD (wdZ rs sTop))), some (.cel 0), none, none, none, none] ∧ ∃ os : List D, μ = [.lst (os.map fun d => .fz d)] ∧ (∀ d ∈ os, ∀ neg μ, eqR (fx T (n+5)) neg (.fz (meanD rs b ts)) (.fz d) μ = .ok neg μ) ∧ os.length ≤ 2 + i)
    ⟨rfl, [meanD rs (!b) ts, meanD (wdZ rs sTop) b ts], rfl, by
      intro d hd
      rcases List.mem_cons.mp hd with rfl | hd
      · exact u1
      · rw [List.mem_singleton.mp hd]; exact u2, Nat.le_refl _⟩ (fun _ _ _ _ => rfl) (by
    rintro i d δ μ hd ⟨rfl, os, rfl, ho, hol⟩
    obtain ⟨x, hxi, rfl⟩ := map_get hd
    have hx := cut_mem (List.mem_of_getElem? hxi)
    have hi : i < 50 := by have := (List.getElem?_eq_some_iff.mp hxi).1; omega
    have hol2 : os.length < 1000000 := by omega
    have cx : ∀ y ∈ namesOf rs, cmpB (.str y) = true := fun y hy => cmp_box g (.inr hy)
    have hxn := ro.names x hx
    have m3 := fun μ => makeM h.toHasMn (n+1) t (b := b) (tog_ok ht htl (ro.op x hx)) (μ := μ)
    have hl4 : (ts.filter fun y => !decide (y = x)).length ≤ 50 := Nat.le_trans (List.length_filter_le _ _) htl
    have hl5 : (ts.filter fun y => !decide (y = x)).length ≤ 1000000 := by omega
    have hl6 : (ts.filter fun y => !decide (y = x)).length + 1 ≤ 1000000 := by omega
    have fin : ∀ d ∈ os ++ [meanD rs b (togL ts x)], ∀ neg μ, eqR (fx T (n+5)) neg (.fz (meanD rs b ts)) (.fz d) μ = .ok neg μ := fun d hd => by
      rcases List.mem_append.mp hd with hd | hd
      · exact ho d hd
      · rw [List.mem_singleton.mp hd]; exact u3 x hx
    simp only [meanO, treeD] at m3
    refine ⟨_, rfl, ?_⟩
    rw_mod_cast ["AM", treeD, hl2]
    rw [lc_filter (p := fun y => !decide (y = x)) (f := fun y => Val.fz (.str y)) rfl (fun y hy => ⟨_, rfl, by
      rw_mod_cast ["AM", cx x hxn, cx y (ht.names y hy)]
      cases decide (y = x) <;> rw_mod_cast ["A", eq_self]⟩)]
    by_cases hm : x ∈ ts
    · have et : togL ts x = ts.filter fun y => !decide (y = x) := by unfold togL; rw [if_pos hm, List.append_nil]
      rw [et] at m3 fin
      rw_mod_cast ["AM", treeD, hm, hl5, hl6, Int.reduceToNat, List.flatten_nil, Nat.reduceMul, Nat.zero_le, true_and, h.minit, m3, hol2]
      refine .mk ⟨?_, _, ?_, fin, by simp; omega⟩
      · rw_mod_cast ["AM", meanD, treeD]
      · rw_mod_cast ["AM", meanD, treeD]
    · have et : togL ts x = (ts.filter fun y => !decide (y = x)) ++ [x] := by unfold togL; rw [if_neg hm]
      rw [et] at m3 fin
      simp only [List.map_append, List.map_cons, List.map_nil] at m3
      rw_mod_cast ["AM", treeD, hm, hl5, hl6, Int.reduceToNat, List.flatten_cons, List.flatten_nil, Nat.reduceMul, true_and, h.minit, m3, hol2]
      refine .mk ⟨?_, _, ?_, fin, by simp; omega⟩
      · rw_mod_cast ["AM", meanD, treeD]
      · rw_mod_cast ["AM", meanD, treeD])
  clear hE
  rw [List.length_map] at hol
  have hol2 : os.length + 4 < 1000000 := by omega
  have ho2 : ∀ d ∈ os ++ [.non, treeD rs, stZ rs b ts, .tup (ts.map .str)], ∀ neg μ, eqR (fx T (n+5)) neg (.fz (meanD rs b ts)) (.fz d) μ = .ok neg μ := fun d hd => by
    rcases List.mem_append.mp hd with hd | hd
    · exact ho d hd
    · simp only [List.mem_cons, List.not_mem_nil, or_false] at hd
      rcases hd with rfl | rfl | rfl | rfl
      · exact u4
      · exact u5
      · exact u6
      · exact u7
  have hfz : (os.map fun d => Val.fz d) ++ [.fz .non, .fz (treeD rs), .fz (stZ rs b ts), .fz (.tup (ts.map .str))] = (os ++ [.non, treeD rs, stZ rs b ts, .tup (ts.map .str)]).map fun d => Val.fz d := by simp
  have hos : (os ++ [D.non, treeD rs, stZ rs b ts, .tup (ts.map .str)]).length ≤ 1000000 := by simp; omega
  have hol3 : os.length + 4 ≤ 1000000 := by omega
  simp only [meanD, treeD, stZ] at ho2
  clear hfz
  obtain ⟨qs, hqs⟩ : ∃ qs : List D, qs = os ++ [.non, .ins cTree [.dct (rs.map fun r => Sum.inr r.name) (rs.map rowD), .lst ((fols rs).map .str)], .dct ((nms rs).map fun x => Sum.inr x) ((nms rs).map fun x => .bl (sv rs b (inP ts) x)), .tup (ts.map .str)] := ⟨_, rfl⟩
  have hq1 : (os.map fun x => Item.one (Val.fz x)) ++ [.one (.fz .non), .one (.fz (.ins cTree [.dct (rs.map fun r => Sum.inr r.name) (rs.map rowD), .lst ((fols rs).map .str)])), .one (.fz (.dct ((nms rs).map fun x => Sum.inr x) ((nms rs).map fun x => .bl (sv rs b (inP ts) x)))), .one (.fz (.tup (ts.map .str)))] = qs.map fun x => Item.one (Val.fz x) := by rw [hqs]; simp
  have hq2 : (os.map fun d => Val.fz d) ++ [.fz .non, .fz (.ins cTree [.dct (rs.map fun r => Sum.inr r.name) (rs.map rowD), .lst ((fols rs).map .str)]), .fz (.dct ((nms rs).map fun x => Sum.inr x) ((nms rs).map fun x => .bl (sv rs b (inP ts) x))), .fz (.tup (ts.map .str))] = qs.map fun d => Val.fz d := by rw [hqs]; simp
  have hql : qs.length ≤ 1000000 := by rw [hqs]; simp; omega
  rw [← hqs] at ho2
  clear hqs hos
  have an := any_no qs
  have al := all_yes qs
  rw_mod_cast ["AM", meanD, treeD, h.mst, st, tupleR, hol2, hol3]
  rw [hq1, hq2, lc_map (f := fun _ => Val.fz (.bl false)) (by exact decide_eq_true rfl) (fun d hd => ⟨_, rfl, by
    have e := ho2 d hd
    rw_mod_cast ["QM", e]⟩)]
  rw_mod_cast ["AM", an, hql]
  rw [lc_map (f := fun _ => Val.fz (.bl true)) (by exact decide_eq_true rfl) (fun d hd => ⟨_, rfl, by
    have e := ho2 d hd
    rw_mod_cast ["QM", e]⟩)]
  rw_mod_cast ["AM", al]
end K06
set_option maxRecDepth 100000
set_option maxHeartbeats 8000000
namespace K06
open PySem L2 EW CT TM CS
variable {T : Tab}
def lawB : Css := match flaw_v4.body with | .cons (.for_ _ _ _ _ b) _ => b | _ => .nil
def dropS : Nat → Css → Css
  | 0, c => c
  | n + 1, .cons _ r => dropS n r
  | _ + 1, .nil => .nil
def preS : Nat → Css → Css → Css
  | 0, _, r => r
  | n + 1, .cons s c, r => .cons s (preS n c r)
  | _ + 1, .nil, r => r
theorem makeMC (h : HasL T) (n : Nat) {rs : List Rw} (t : Tr rs) {b : Bool} {hs ts : List Str} (op : ∀ n ∈ hs, ∃ r ∈ rs, r.name = n ∧ r.price ≠ none) (hl : hs.length ≤ 1000000) (hm : ∀ x, x ∈ hs ↔ x ∈ ts) {a c d : Int} : makeR ((fx T (n+4)).mt cMeaning 0) cMeaning [.fz (treeD rs), .fz (.bl b), .cel 1] [stm a c d, .lst (hs.map fun x => .fz (.str x))] = .ok (.nw (meanO rs b ts)) [stm a c d, .lst (hs.map fun x => .fz (.str x))] := by
  have e := minitC_ok h.toHasMn n t (b := b) (ts := hs) op hl (a1 := a) (a2 := c) (a3 := d)
  have et : meanO rs b hs = meanO rs b ts := by unfold meanO; rw [tsOf_mem hm]
  rw [et] at e
  simp only [stm, meanO, treeD] at e ⊢
  simp only [makeR, makeC, cellsOf, List.isEmpty_cons, Bool.false_eq_true, if_false, List.length_cons, List.length_nil, Nat.reduceAdd, List.cons_append, List.nil_append, e, closed, List.take, List.all_cons, List.all_nil, O.below, O.refs, cellsOf_mapf, Bool.and_self, if_true, List.getElem?_cons_succ, List.getElem?_cons_zero, O.flat, O.frozen, fzAll, Option.map_some, Option.isSome_some]
abbrev stMu (a c d : Int) (hs : List Str) : Mu := [stm a c d, .lst (hs.map fun x => .fz (.str x))]
abbrev envL (S v1 : D) (rs : List Rw) (b : Bool) (ts : List Str) : EW.Env := [some (.fz S), some (.fz v1), some (.cel 0), some (.fz (rowsD rs)), some (.fz (treeD rs)), some (.fz (.bl b)), some (.fz (.lst (ts.map .str))), some (.cel 1), some (.fz (meanD rs b ts)), some (.fz (stZ rs b ts)), none, none, none, none, none, none]
theorem partA (h : HasL T) (n : Nat) {ns : List Int} (hl : ns.length ≤ 63) {i : Nat} (hi : i < 4) (rest : Css) :
    ∃ rs a b c, Tr rs ∧ rs.length ≤ 11 ∧ (∀ r ∈ rs, r.name.length ≠ 4 ∧ r.name.length ≠ 6) ∧ Sm.ok a b c 1000 ∧ evSs (fx T (n+8)) (preS 2 lawB rest) [some (.fz (.rol (ns.map .int))), some (.fz (.int i)), none, none, none, none, none, none, none, none, none, none, none, none, none, none] [] = evSs (fx T (n+8)) rest [some (.fz (.rol (ns.map .int))), some (.fz (.int i)), some (.cel 0), some (.fz (rowsD rs)), none, none, none, none, none, none, none, none, none, none, none, none] [stm a b c] := by
  obtain ⟨a0, b, e0, ok0⟩ := stream_ok h.toHasS (n+7) hl (t := i) (by omega)
  obtain ⟨v, a1, c1, e1, v0, v1, ok1⟩ := draw_ok h.toHasS (n+7) ok0 (by decide) (m := 12) (by decide) (by decide)
  obtain ⟨m, rfl⟩ := Int.eq_ofNat_of_zero_le v0
  have e2 := kinds_ok h.toHasR (n+7)
  have e3 := prices_ok h.toHasR (n+7)
  obtain ⟨rs, a2, c2, e4, gd, kp, l1, _, ok2⟩ := rows_ok h.toHasR (n+4) ok1 (by decide) (m := m) (by omega) (ks := kindL) (ps := priceL) (by simp [kindL]) (by simp [kindL]) (by simp [priceL]) (by simp [priceL]) (by simp [kindL, TM.kinds]) (by simp [priceL, PriceOk])
  refine ⟨rs, a2, b, c2, ⟨gd, by omega⟩, by omega, fun r hr => (kp r hr).2.2, ok2.mono (by omega), ?_⟩
  rw_mod_cast ["AM", preS, lawB, flaw_v4, rowsD, h.stream, h.draw, h.rows, h.lkinds, h.lprices, e0, e1, e2, e3, e4]
theorem partB (h : HasL T) (n : Nat) {rs : List Rw} (t : Tr rs) (few : rs.length ≤ 11) {a d e : Int} (ok : Sm.ok a d e 1000) {S v1 : D} (rest : Css) :
    ∃ b ts hs a' e', TsOk rs ts ∧ ts.length ≤ 11 ∧ tsOf rs ts = ts ∧ evSs (fx T (n+8)) (preS 6 (dropS 2 lawB) rest) [some (.fz S), some (.fz v1), some (.cel 0), some (.fz (rowsD rs)), none, none, none, none, none, none, none, none, none, none, none, none] [stm a d e] = evSs (fx T (n+8)) rest (envL S v1 rs b ts) (stMu a' d e' hs) := by
  have g := t.good
  obtain ⟨w, a1, x1, e1, w0, w1, ok1⟩ := draw_ok h.toHasS (n+7) ok (by decide) (m := 2) (by decide) (by decide)
  have eo := lopen_ok h.toHasV0 (n+7) (rs := rs) (by omega)
  have eo2 : (rs.filter fun r => decide (r.price ≠ none)).map (fun r => D.str r.name) = (opn rs).map D.str := by simp [opn]
  have ol : (opn rs).length ≤ 11 := by unfold opn; rw [List.length_map]; exact Nat.le_trans (List.length_filter_le _ _) few
  obtain ⟨ts, a2, x2, e2, hsub, ok2⟩ := lsome_ok h.toHasV0 (n+6) (xs := opn rs) (by omega) ok1 (by omega)
  have ht := opn_ok g (by omega) hsub
  have tl : ts.length ≤ 11 := Nat.le_trans hsub.length_le ol
  obtain ⟨ys, a3, x3, e3, hy, hyl, ok3⟩ := mix_ok h (n+6) (xs := ts) (by omega) ok2 (by omega)
  obtain ⟨v, a4, x4, e4, v0, v2, ok4⟩ := draw_ok h.toHasS (n+7) ok3 (by omega) (m := 2) (by decide) (by decide)
  have hcl : (cutD ts none (some v)).length ≤ 11 := Nat.le_trans (cut_len _ _ _) tl
  have hcl1 : ys.length + (cutD ts none (some v)).length ≤ 1000000 := by omega
  have hcl2 : ys.length + (cutD ts none (some v)).length < 1000000 := by omega
  have hm : ∀ x, x ∈ ys ++ cutD ts none (some v) ↔ x ∈ ts := fun x => by
    rw [List.mem_append, hy x]
    exact ⟨fun z => z.elim id cut_mem, .inl⟩
  have m1 := fun μ => makeT h.toHasI (n+5) t (ds := rs.map rowD) (by simp) rowF_map (μ := μ)
  have m2 := makeMC h (n+4) t (b := decide (w = 0)) (hs := ys ++ cutD ts none (some v)) (ts := ts) (fun x hx => ht.op x ((hm x).mp hx)) (by simp; omega) hm (a := a4) (c := d) (d := x4)
  have l1 := lvals_ok h.toHasV (n+6) t (by omega) (b := decide (w = 0)) (ts := ts)
  rw [← eo2] at e2
  refine ⟨decide (w = 0), ts, ys ++ cutD ts none (some v) ++ [Str.ofString "spoilt"], a4, x4, ht, tl, tsOf_sub g hsub, ?_⟩
  simp only [rowsD] at eo l1
  simp only [stO] at l1
  simp only [meanO, treeD, List.map_append] at m1 m2
  rw_mod_cast ["AM", preS, dropS, lawB, flaw_v4, rowsD, treeD, h.draw, h.init, h.minit, h.lopen, h.lsome, h.lmix, h.lvals, partO, isK, slR, cut_map, e1, e2, e3, e4, eo, m1, m2, l1, hcl1, hcl2, envL, meanD, stZ, stMu]
end K06
set_option maxRecDepth 100000
set_option maxHeartbeats 8000000
namespace K06
open PySem L2 EW CT TM CS
variable {T : Tab}
theorem litsD_map {α : Type} {f : α → Str} {g : α → D} : ∀ {xs : List α}, litsD (xs.map fun x => Sum.inr (f x)) (xs.map g) = xs.map fun x => Val.fz (.tup [.str (f x), g x])
  | [] => rfl
  | x :: xs => by simp only [List.map_cons, litsD, kD, litsD_map]
theorem litsD_strs {g : Str → D} {xs : List Str} : litsD (xs.map fun x => (Sum.inr x : Key)) (xs.map g) = xs.map fun x => Val.fz (.tup [.str x, g x]) := litsD_map (f := fun x => x)
theorem cmp_ts {rs : List Rw} (g : Good rs) {ts : List Str} (h : ∀ x ∈ ts, x ∈ namesOf rs) : cmpB (.tup (ts.map .str)) = true := (cmpN_tup (n := 1) fun d hd => by
  obtain ⟨x, hx, rfl⟩ := List.mem_map.mp hd
  exact cmpN_str (ok_box g (.inr (h x hx)))).cmp
theorem meqS (h : HasMn T) (n : Nat) {rs : List Rw} (t : Tr rs) {b : Bool} {ts : List Str} : (fx T (n+3)).mt cMeaning k_eq_ [.fz (meanD rs b ts), .fz (meanD rs b ts)] [] = .ok (.fz (.bl true)) [] := by
  have e : meanD rs b ts = mD rs (sv rs b (inP ts)) := by unfold meanD mD; rw [trn_sv t.good, sv_top t.good]
  rw [e]
  exact meqV h n t _
theorem partC (h : HasU T) (n : Nat) {rs : List Rw} (t : Tr rs) (few : rs.length ≤ 11) {b : Bool} {ts hs : List Str} (ht : TsOk rs ts) (htf : tsOf rs ts = ts) {S v1 : D} {a d e : Int} (rest : Css) :
    evSs (fx T (n+8)) (preS 1 (dropS 8 lawB) rest) (envL S v1 rs b ts) (stMu a d e hs) = evSs (fx T (n+8)) rest (envL S v1 rs b ts) (stMu a d e hs) := by
  have g := t.good
  have st := states_ok h.toHasMn (n+6) t (b := b) (ts := ts)
  have hl : (nms rs).length ≤ 1000000 := by simp [nms]; omega
  have cl : cmpB (.lst ((nms rs).map fun x => .tup [.str x, .bl (sv rs b (inP ts) x)])) = true := (cmpN_lst (n := 2) fun d hd => by
    obtain ⟨x, hx, rfl⟩ := List.mem_map.mp hd
    refine cmpN_tup fun d hd => ?_
    rcases List.mem_cons.mp hd with rfl | hd
    · exact cmpN_str (ok_box g (nms_in.mp hx))
    · rw [List.mem_singleton.mp hd]; exact cmpN_bl _).cmp
  have el := eqD_refl cl
  have ct := cmp_ts g ht.names
  have et := eqD_refl ct
  have hb2 : (rngI 0 2).length ≤ 1000000 := by decide
  simp only [meanD, htf, treeD, stO] at st
  rw_mod_cast ["AM", preS, dropS, lawB, flaw_v4, envL, stMu, meanD, htf, treeD, rowsD, stZ, hb2]
  generalize hE : @loopK _ _ _ _ ⟨_⟩ _ _ _ = o
  obtain ⟨δ', μ', rfl, rfl, rfl⟩ := loop_inv' hE (fun i δ μ => δ = [some (.fz S), some (.fz v1), some (.cel 0), some (.fz (.lst (rs.map rowD))), some (.fz (.ins cTree [.dct (rs.map fun r => Sum.inr r.name) (rs.map rowD), .lst ((fols rs).map .str)])), some (.fz (.bl b)), some (.fz (.lst (ts.map .str))), some (.cel 1), some (.fz (.ins cMeaning [.ins cTree [.dct (rs.map fun r => Sum.inr r.name) (rs.map rowD), .lst ((fols rs).map .str)], .bl b, .tup (ts.map .str)])), some (.fz (.dct ((nms rs).map fun x => Sum.inr x) ((nms rs).map fun x => .bl (sv rs b (inP ts) x)))), none, none, none, none, none, none] ∧ μ = [stm a d e, .lst (hs.map fun x => .fz (.str x))]) ⟨rfl, rfl⟩ (fun _ _ _ _ => rfl) (by
    rintro i d δ μ hd ⟨rfl, rfl⟩
    obtain ⟨rfl, hi⟩ := rng_get hd
    refine ⟨_, rfl, ?_⟩
    rw_mod_cast ["AM", h.flM, h.mst, st, litsR, litsD_strs, hl, cl, el, ct, et, tupleR, bm0R, clearR]
    refine .mk ⟨?_, ?_⟩
    · rw_mod_cast ["AM", eq_self]
    · rw_mod_cast ["AM", eq_self])
  rw_mod_cast ["AM", eq_self]
theorem partD1 (h : HasU T) (n : Nat) {rs : List Rw} (t : Tr rs) (few : rs.length ≤ 11) {b : Bool} {ts hs : List Str} (ht : TsOk rs ts) (htf : tsOf rs ts = ts) {S v1 : D} {a d e : Int} (rest : Css) :
    evSs (fx T (n+8)) (preS 2 (dropS 9 lawB) rest) (envL S v1 rs b ts) (stMu a d e hs) = evSs (fx T (n+8)) rest (envL S v1 rs b ts) (stMu a d e hs) := by
  have g := t.good
  have q1 := eq_ok h.toHasE0 (n+7) t t
  rw [decide_eq_true rfl] at q1
  have eb : eqD (.bl b) (.bl b) = true := eqD_refl cmpB_bl
  have tl : ts.length ≤ 1000000 := by have := ht.few; omega
  have cl : cmpB (.lst (ts.map .str)) = true := (cmp_names g ht.names).cmp
  have el := eqD_refl cl
  simp only [treeD] at q1
  rw_mod_cast ["AM", preS, dropS, lawB, flaw_v4, envL, stMu, meanD, htf, treeD, rowsD, stZ, h.flM, eb, h.eq, q1, Out.calm, tl]
  rw [lc_map (f := fun x => Val.fz (.str x)) rfl (fun x hx => ⟨_, rfl, by rw_mod_cast ["AM", eq_self]⟩)]
  rw_mod_cast ["AM", cl, el]
abbrev envC (S v1 : D) (rs : List Rw) (b : Bool) (ts : List Str) (k : Int) : EW.Env := [some (.fz S), some (.fz v1), some (.cel 0), some (.fz (rowsD rs)), some (.fz (treeD rs)), some (.fz (.bl b)), some (.fz (.lst (ts.map .str))), some (.cel 1), some (.fz (meanD rs b ts)), some (.fz (stZ rs b ts)), none, none, none, some (.fz (.int k)), none, none]
theorem lend1 {g : List Val → Mu → Out Res} {a : D} {r : Res} {μ : Mu} (h : g [.fz a] [] = .ok r []) (hr : r.ok = true) : lend g [.fz a] μ = .ok r μ := by
  simp only [lend, lendW, List.map_cons, List.map_nil, nm_fz, cellsOf, List.nodup_nil, if_true, picks, lendS, renum, h, hr, List.all_nil, decide_true, Bool.and_self, give]
theorem partD2 (h : HasU T) (n : Nat) {rs : List Rw} (t : Tr rs) (few : rs.length ≤ 11) {b : Bool} {ts hs : List Str} (ht : TsOk rs ts) (htf : tsOf rs ts = ts) {S v1 : D} {a d e : Int} (rest : Css) :
    ∃ k, evSs (fx T (n+8)) (preS 2 (dropS 11 lawB) rest) (envL S v1 rs b ts) (stMu a d e hs) = evSs (fx T (n+8)) rest (envC S v1 rs b ts k) (stMu a d e hs) := by
  have g := t.good
  have hl : rs.length ≤ 1000000 := by omega
  have m1 := mlen_ok h.toHasL (n+7) (rs := rs) (b := b) (ts := ts)
  have m2 := mprice_ok h.toHasL (n+4) t (b := b) (ts := ts) ht.op
  have hlen : ∀ μ, lenR (fx T (n+8)) (.fz (meanD rs b ts)) μ = .ok (.fz (.int ts.length)) μ := fun μ => by
    unfold meanD at m1 ⊢
    rw [htf] at m1 ⊢
    exact lenR_ins (by rw [fx_dm]; show (T.mt cMeaning k_len_).isSome = true; rw [h.mlen]; rfl) (lend1 m1 rfl) (by omega) (by have := ht.few; omega)
  refine ⟨((rs.filter fun r => decide (r.name ∈ ts)).map prI).sum, ?_⟩
  simp only [meanD, htf, treeD] at m2 hlen
  rw_mod_cast ["AM", preS, dropS, lawB, flaw_v4, envL, envC, stMu, meanD, htf, treeD, rowsD, stZ, hl]
  rw [lc_filter (p := fun r => decide (r.name ∈ ts)) (f := fun r => Val.fz (.int (prI r))) rfl (fun r hr => ⟨_, rfl, by
    cases hp : decide (r.name ∈ ts) with
    | false => rw_mod_cast ["AM", rowD, hp]
    | true =>
      obtain ⟨q, hq, e, hp3⟩ := ht.op _ (of_decide_eq_true hp)
      have : q = r := row_same g hq hr e
      subst this
      have hp2 : priceD q.price = .int (prI q) := by
        unfold prI
        cases hq2 : q.price with
        | none => exact (hp3 hq2).elim
        | some v => rfl
      rw_mod_cast ["AM", rowD, hp, hp2]⟩)]
  rw_mod_cast ["AM", hlen, h.mprice, m2]
theorem partD3 (h : HasU T) (n : Nat) {rs : List Rw} (t : Tr rs) (few : rs.length ≤ 11) {b : Bool} {ts hs : List Str} (ht : TsOk rs ts) (htf : tsOf rs ts = ts) {S v1 : D} {a d e k : Int} (rest : Css) :
    evSs (fx T (n+8)) (preS 1 (dropS 13 lawB) rest) (envC S v1 rs b ts k) (stMu a d e hs) = evSs (fx T (n+8)) rest (envC S v1 rs b ts k) (stMu a d e hs) := by
  have g := t.good
  have hl : (nms rs).length ≤ 1000000 := by simp [nms]; omega
  rw_mod_cast ["AM", preS, dropS, lawB, flaw_v4, envC, stMu, meanD, htf, treeD, rowsD, stZ, hl, kD]
  generalize hE : @loopK _ _ _ _ ⟨_⟩ _ _ _ = o
  obtain ⟨δ', μ', rfl, rfl, rfl⟩ := loop_inv' hE (fun i δ μ => δ = [some (.fz S), some (.fz v1), some (.cel 0), some (.fz (.lst (rs.map rowD))), some (.fz (.ins cTree [.dct (rs.map fun r => Sum.inr r.name) (rs.map rowD), .lst ((fols rs).map .str)])), some (.fz (.bl b)), some (.fz (.lst (ts.map .str))), some (.cel 1), some (.fz (.ins cMeaning [.ins cTree [.dct (rs.map fun r => Sum.inr r.name) (rs.map rowD), .lst ((fols rs).map .str)], .bl b, .tup (ts.map .str)])), some (.fz (.dct ((nms rs).map fun x => Sum.inr x) ((nms rs).map fun x => .bl (sv rs b (inP ts) x)))), none, none, none, some (.fz (.int k)), none, none] ∧ μ = [stm a d e, .lst (hs.map fun x => .fz (.str x))]) ⟨rfl, rfl⟩ (fun _ _ _ _ => rfl) (by
    rintro i d δ μ hd ⟨rfl, rfl⟩
    obtain ⟨x, hx, rfl⟩ := map_get hd
    have hx := nms_in.mp (List.mem_of_getElem? hx)
    have e1 := value_ok h.toHasMn (n+5) t (b := b) (ts := ts) hx
    have e2 := mcont_ok h.toHasL (n+4) t (b := b) (ts := ts) hx
    have gs := get_st g (b := b) (p := inP ts) hx
    have eb : eqD (.bl (sv rs b (inP ts) x)) (.bl (sv rs b (inP ts) x)) = true := eqD_refl cmpB_bl
    simp only [meanD, htf, treeD] at e1 e2
    refine ⟨_, rfl, ?_⟩
    rw_mod_cast ["AM", h.mval, h.mcont, e1, e2, gs, eb, Out.calm]
    refine .mk ⟨?_, ?_⟩
    · rw_mod_cast ["AM", eq_self]
    · rw_mod_cast ["AM", eq_self])
  rw_mod_cast ["AM", eq_self]
theorem partD4 (h : HasU T) (n : Nat) {rs : List Rw} (t : Tr rs) (few : rs.length ≤ 11) (n6 : ∀ r ∈ rs, r.name.length ≠ 6) {b : Bool} {ts hs : List Str} (ht : TsOk rs ts) (htf : tsOf rs ts = ts) {S v1 : D} {a d e k : Int} (rest : Css) :
    evSs (fx T (n+8)) (preS 2 (dropS 14 lawB) rest) (envC S v1 rs b ts k) (stMu a d e hs) = evSs (fx T (n+8)) rest (envC S v1 rs b ts k) (stMu a d e hs) := by
  have g := t.good
  have no : ∀ d ∈ ([.non, .int 5, .str (Str.ofString "nobody"), .lst [.str (Str.ofString "top")], .dct [] [], .bl true] : List D), (fx T (n+8)).mt cMeaning k_contains_ [.fz (meanD rs b ts), .fz d] [] = .ok (.fz (.bl false)) [] := fun d hd => by
    simp only [List.mem_cons, List.not_mem_nil, or_false] at hd
    rcases hd with rfl | rfl | rfl | rfl | rfl | rfl
    · exact mcont_no h.toHasL (n+4) t ⟨⟨_, rfl⟩, fun y e => nomatch e⟩ rfl (.inl ⟨_, rfl, by decide⟩)
    · exact mcont_no h.toHasL (n+4) t ⟨⟨_, rfl⟩, fun y e => nomatch e⟩ rfl (.inl ⟨_, rfl, by decide⟩)
    · refine mcont_no h.toHasL (n+4) t (any_str (by decide +kernel) (by decide +kernel)) (decide_eq_false fun z => ?_) (.inr ⟨_, rfl, by decide +kernel, by decide +kernel⟩)
      obtain ⟨r, hr, e⟩ := List.mem_map.mp z
      exact n6 r hr (by rw [e]; decide +kernel)
    · exact mcont_no h.toHasL (n+4) t ⟨⟨_, rfl⟩, fun y e => nomatch e⟩ rfl (.inl ⟨_, rfl, by decide⟩)
    · exact mcont_no h.toHasL (n+4) t ⟨⟨_, rfl⟩, fun y e => nomatch e⟩ rfl (.inl ⟨_, rfl, by decide⟩)
    · exact mcont_no h.toHasL (n+4) t ⟨⟨_, rfl⟩, fun y e => nomatch e⟩ rfl (.inl ⟨_, rfl, by decide⟩)
  obtain ⟨qs, hqs⟩ : ∃ qs : List D, qs = [.non, .int 5, .str (Str.ofString "nobody"), .lst [.str (Str.ofString "top")], .dct [] [], .bl true] := ⟨_, rfl⟩
  have hq1 : [Item.one (.fz .non), .one (.fz (.int 5)), .one (.fz (.str (Str.ofString "nobody"))), .one (.fz (.lst [.str (Str.ofString "top")])), .one (.fz (.dct [] [])), .one (.fz (.bl true))] = qs.map fun x => Item.one (Val.fz x) := by rw [hqs]; rfl
  rw [← hqs] at no
  clear hqs
  have an := any_no qs
  have m1 := fun μ => makeMT h.toHasMn (n+4) t (b := b) ht (μ := μ)
  have q1 := meqS h.toHasMn (n+5) t (b := b) (ts := ts)
  simp only [meanO, meanD, htf, treeD] at no m1 q1
  rw_mod_cast ["AM", preS, dropS, lawB, flaw_v4, envC, stMu, meanD, htf, treeD, rowsD, stZ]
  rw [hq1, lc_map (f := fun _ => Val.fz (.bl false)) rfl (fun d hd => ⟨_, rfl, by
    have e := no d hd
    rw_mod_cast ["AM", h.mcont, e, Out.calm]⟩)]
  rw_mod_cast ["AM", an, tupleR, h.minit, m1, h.meq, q1, Out.calm]
theorem partD5 (h : HasU T) (n : Nat) {rs : List Rw} (t : Tr rs) (few : rs.length ≤ 11) (n4 : ∀ r ∈ rs, r.name.length ≠ 4) {b : Bool} {ts hs : List Str} (ht : TsOk rs ts) (tl : ts.length ≤ 11) (htf : tsOf rs ts = ts) {S v1 : D} {a d e k : Int} :
    evSs (fx T (n+8)) (dropS 16 lawB) (envC S v1 rs b ts k) (stMu a d e hs) = .nx (envC S v1 rs b ts k) (stMu a d e hs) := by
  have u := unl_ok h (n+2) t (by omega) n4 (b := b) ht (by omega)
  have w := newr_ok h.toHasL (n+2) t (by omega) n4 (b := b) ht
  simp only [meanD, htf, treeD, rowsD, stZ] at u w
  rw_mod_cast ["AM", dropS, lawB, flaw_v4, envC, stMu, meanD, htf, treeD, rowsD, stZ, h.lunl, h.lnew, u, w]
theorem turn_ok (h : HasU T) (n : Nat) {ns : List Int} (hl : ns.length ≤ 63) {i : Nat} (hi : i < 4) :
    ∃ δ μ, evSs (fx T (n+8)) lawB [some (.fz (.rol (ns.map .int))), some (.fz (.int i)), none, none, none, none, none, none, none, none, none, none, none, none, none, none] [] = .nx δ μ ∧ tidyE [1, 2, 3, 4, 5, 6, 7, 8, 9, 10, 11, 12, 13] δ μ = [some (.fz (.rol (ns.map .int))), none, none, none, none, none, none, none, none, none, none, none, none, none, none, none] := by
  obtain ⟨rs, a, b, c, t, few, nl, ok, e1⟩ := partA h.toHasL n hl hi (dropS 2 lawB)
  obtain ⟨d, ts, hs, a2, c2, ht, tl, htf, e2⟩ := partB h.toHasL n t few ok (S := .rol (ns.map .int)) (v1 := .int i) (dropS 8 lawB)
  have e3 := partC h n t few (b := d) (hs := hs) ht htf (S := .rol (ns.map .int)) (v1 := .int i) (a := a2) (d := b) (e := c2) (dropS 9 lawB)
  have e4 := partD1 h n t few (b := d) (hs := hs) ht htf (S := .rol (ns.map .int)) (v1 := .int i) (a := a2) (d := b) (e := c2) (dropS 11 lawB)
  obtain ⟨k, e5⟩ := partD2 h n t few (b := d) (hs := hs) ht htf (S := .rol (ns.map .int)) (v1 := .int i) (a := a2) (d := b) (e := c2) (dropS 13 lawB)
  have e6 := partD3 h n t few (b := d) (hs := hs) ht htf (S := .rol (ns.map .int)) (v1 := .int i) (a := a2) (d := b) (e := c2) (k := k) (dropS 14 lawB)
  have e7 := partD4 h n t few (fun r hr => (nl r hr).2) (b := d) (hs := hs) ht htf (S := .rol (ns.map .int)) (v1 := .int i) (a := a2) (d := b) (e := c2) (k := k) (dropS 16 lawB)
  have e8 := partD5 h n t few (fun r hr => (nl r hr).1) (b := d) (hs := hs) ht tl htf (S := .rol (ns.map .int)) (v1 := .int i) (a := a2) (d := b) (e := c2) (k := k)
  refine ⟨_, _, e1.trans (e2.trans (e3.trans (e4.trans (e5.trans (e6.trans (e7.trans e8)))))), ?_⟩
  rw_mod_cast ["AM", envC, meanD, treeD, stZ]
theorem law_run (h : HasU T) (n : Nat) {ns : List Int} (hl : ns.length ≤ 63) : ∃ μ, runF (fx T (n+8)) flaw_v4 [.fz (.rol (ns.map .int))] [] = .ok (.fz (.bl true)) μ := by
  have hb : flaw_v4 = ⟨1, 16, .cons (.for_ (.nm 1) [1, 2, 3, 4, 5, 6, 7, 8, 9, 10, 11, 12, 13] .rng (.k (.int 4)) lawB) (dropS 1 flaw_v4.body)⟩ := rfl
  have hb2 : (rngI 0 4).length ≤ 1000000 := by decide
  rw [hb]
  rw_mod_cast ["AM", hb2]
  generalize hE : @loopK _ _ _ _ ⟨_⟩ _ _ _ = o
  obtain ⟨δ', μ', rfl, rfl, rfl⟩ := loop_inv' hE (fun i δ μ' => δ = [some (.fz (.rol (ns.map .int))), none, none, none, none, none, none, none, none, none, none, none, none, none, none, none] ∧ μ' = []) ⟨rfl, rfl⟩ (fun _ _ _ _ => rfl) (by
    rintro i d δ μ' hd ⟨rfl, rfl⟩
    obtain ⟨rfl, hi⟩ := rng_get hd
    refine ⟨_, rfl, ?_⟩
    obtain ⟨δ2, μ2, e, e2⟩ := turn_ok h n hl hi
    refine ⟨δ2, μ2, e, e2, ?_⟩
    rw [e2]
    rfl)
  have tn : Tr [] := ⟨.nil, by decide⟩
  have m1 := fun μ => makeT h.toHasI (n+5) tn (ds := []) rfl (fun i d r z => by simp at z) (μ := μ)
  have m2 := fun μ => makeM0 h.toHasMn (n+4) tn (b := true) (μ := μ)
  have st := states_ok h.toHasMn (n+6) tn (b := true) (ts := [])
  have hd : dhits [(Sum.inr (Str.ofString "top") : Key)] [D.bl true] [(Sum.inr (Str.ofString "top") : Key)] [D.bl true] = true := by decide +kernel
  have s0 : sv [] true (inP []) (Str.ofString "top") = true := rfl
  have nn : nms [] = [Str.ofString "top"] := rfl
  have hk := h.dk0
  refine ⟨[], ?_⟩
  simp only [meanO, meanD, treeD, stO, nn, List.map_nil, List.map_cons, s0] at m1 m2 st
  rw_mod_cast ["AM", dropS, flaw_v4, h.init, h.minit, fx_dk, hk, h.mst, m1, m2, st, hd, List.all_cons, List.all_nil, beq_self_eq_true]
end K06
set_option maxRecDepth 100000
set_option maxHeartbeats 8000000
namespace K06
open PySem L2 EW CT TM CS
theorem hasL : HasU T := { stream := rfl, draw := rfl, pick := rfl, name := rfl, rows := rfl, lkinds := rfl, lprices := rfl, isName := rfl, isPrice := rfl, isAmong := rfl, isRow := rfl, top := rfl, kinds := rfl, letters := rfl, init := rfl, flT := rfl, len := rfl, cont := rfl, rws := rfl, nams := rfl, rowOf := rfl, check := rfl, eq := rfl, kc := rfl, folder := rfl, kind := rfl, price := rfl, minit := rfl, flM := rfl, kcM := rfl, meq := rfl, mst := rfl, mval := rfl, same := rfl, lway := rfl, lvals := rfl, lsome := rfl, lopen := rfl, more := rfl, mlen := rfl, mcont := rfl, mprice := rfl, lmix := rfl, lnew := rfl, lunl := rfl, dk0 := rfl, niM := rfl, niT := rfl, sb1 := rfl, sb2 := rfl }
theorem law_ok : LawOk (fx T (depth + 1)) 14 := by
  intro ns hl
  obtain ⟨μ, e⟩ := law_run hasL 8 hl
  exact ⟨μ, (fx_fn rfl).trans e⟩
end K06
set_option maxRecDepth 100000
set_option maxHeartbeats 4000000
namespace K06
open PySem PySem.Spec PyProof.Rows L2 EW CT
abbrev R : PySem.W.OpenRow := PySem.W.OpenLaw.row PySem.Challenge.rw_turnsets_k06_whole_values
abbrev hk : PySem.W.Hook := hookB 6 lookB dds
def ob (s : PySem.W.SharedT) : He.AlD := obB' 6 lookB dds s
def names : List Str := (["_wall", "__name__", "BoxError", "BadRow", "NoBox", "BadDefault", "Locked", "UnlikeTrees", "TOP", "KINDS", "LETTERS", "is_name", "is_price", "is_among", "is_row", "Tree", "same_tree", "Meaning", "check_alike", "of_values", "_law_stream", "_law_draw", "_law_pick", "_law_name", "_law_kinds", "_law_prices", "_law_rows", "_law_way", "_law_values", "_law_some"] : List Str) ++ (["_law_open", "_law_mix", "_law_newcomers_right", "_law_unlike"] : List Str)
theorem run (w : World) : HandSHeadRun.RunEq R (PySem.W.view R.prog [37]) hk ob 40000 names w := by
  intro os
  kernel_rfl
theorem facts {P : Program} {w : World} {K : PySem.W.Frag} {h : Heap} {mg : Str → Option Value} {f : Addr} (X : K.In h) (G : h.Ns mainGlobals mg) (hfa : mg ("law" : Str) = some (.ref f)) (c : SaysB lookB dds K) (L : LawOk (fx T (depth + 1)) 14) :
    ∃ fd : FuncData, (∀ (s : Shared) (v : Value), BindsTo s fd ⟨[v], []⟩ [("_law_script", v)]) ∧ ∀ base : Heap, K.In base → base.Ns mainGlobals mg → FnOk P w K mg base (L2.CX P w) (2 * (depth + 1)) f fd ["_law_script"] (spLaw K) := by
  obtain ⟨fd, F⟩ := c.def_ 21 (d := ddflaw_v4) rfl
  have D := daflaw_v4 F
  have e := hfa.symm.trans (He.glo_ok X G (glFn (lookB_ok c.look).1 (show (14, flaw_v4) ∈ TL.fn from List.mem_of_getElem? (i := 21) rfl)))
  cases e
  have b := FunD.bindsA (ps := ["_law_script"]) F fun _ _ _ _ _ _ us hl => match us, hl with | [_], _ => rfl
  exact ⟨fd, fun s v => b s [v] rfl, fun base _ _ => law_of (I := cI K) (T := T) (stat X G c) (by rfl) D L⟩
end K06
open PySem PySem.W PySem.Calls PyProof.Rows
set_option maxRecDepth 100000 in
set_option maxHeartbeats 0 in
theorem PySem.Challenge.cw_turnsets_k06_whole_values_holds : PySem.Challenge.rw_turnsets_k06_whole_values.Holds := by
  w_on; o_law
  refine HandSHeadRun.head_any (r := OpenLaw.row PySem.Challenge.rw_turnsets_k06_whole_values) (q := view (OpenLaw.row PySem.Challenge.rw_turnsets_k06_whole_values).prog [37]) (H := K06.hk) (ob := K06.ob) (M := 40000) (loose := K06.names) (d := HandSHeadRun.topDef (OpenLaw.row PySem.Challenge.rw_turnsets_k06_whole_values).prog 37) (kwd := []) (fun s => EW.obB_eq _ _ _ s)
    (by kernel_rfl) (fun s => by kernel_rfl) K06.run (by kernel_rfl) (by kernel_rfl) (by kernel_rfl) (by rfl) (by first | assumption | decide +kernel) (by decide +kernel) ⟨rfl, rfl, rfl, rfl, rfl, by decide +kernel⟩ ?hw ?hc
  case hw => w_witness2
  case hc =>
    refine EW.walk_ofW (l := PySem.Challenge.rw_turnsets_k06_whole_values) (n := 63) (k := 2 * (K06.depth + 1)) (x := "_law_script") (CX := fun w => L2.CX (PySem.Challenge.rw_turnsets_k06_whole_values).prog w) rfl (by decide) (by kernel_rfl) ⟨rfl, by decide, by decide⟩ ?F (fun _ _ _ _ _ z => EW.no_exc z)
    intro w mg fa h Y G hmg0
    obtain ⟨K, KX, c⟩ := Y
    have hmg : mg ("law" : PySem.Str) = some (.ref fa) := by
      have e : (HandSHeadRun.topDef (OpenLaw.row PySem.Challenge.rw_turnsets_k06_whole_values).prog 37).name = ("law" : PySem.Str) := by kernel_rfl
      rw [← e]
      exact hmg0
    obtain ⟨fd, hb, hF⟩ := K06.facts (P := (PySem.Challenge.rw_turnsets_k06_whole_values).prog) (w := w) KX G hmg c K06.law_ok
    exact ⟨K, fd, EW.spLaw K, KX, hb, fun H a ns hl _ hS => ⟨a, ns, rfl, hS, hl, fun _ => rfl⟩, hF⟩

