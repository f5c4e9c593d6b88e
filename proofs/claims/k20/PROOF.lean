import PyProof.Rows.All
import Wide.All
import OpenK.AllK
import Wide.FinOn
import HandS.ForMost
import HandS.Wide
import HandS.WideBits
import HandS.IsInst
import KE.KDictKeyed
import HandS.Lambda
import HandS.Deep
import PyProof.LongRange
import HandS.EndBits
import HandS.Style
import HandS.Defaults
import HandS.MakeKw
import PyProof.MaxThree
import HandS.Comp
import HandS.Conv
import PyProof.ListRange
import HandS.Flow
import HandS.Codes
import KE.SortData
import HandS.ExcInit
import HandS.ExcField
import KE.KExcInit
import HandS.WordsExc
import HandS.TryMany
import HandS.ExcIs
import KE.KExcIs
import HandS.ExcOwn
import HandS.SetFor
import KE.KDictWalk
import KE.KDictDisplayH
import HandS.TupSets
import HandS.SetBool
import PyProof.Transfer
import HandS.Dict
import KE.DataMinMax
import KE.KRevSl
import KE.GoesEnumKw
import PyProof.Rows.CallKwBuiltin
import KE.OsSorts
import HandS.ListItems
import KE.KDictItemsList
import KE.KTops
import KE.KDictPairs
import KE.KEqDict
import KE.SortKeyHeap
import KE.KSortKey
import KE.KLam
import KE.KNestM
import HandS.EndTab
import PySem.Challenge.RW_wetmarks_k20_whole_the_only_way
set_option Elab.async false
set_option linter.all false
set_option maxRecDepth 100000
set_option maxHeartbeats 4000000
section
namespace Wm
open PySem PySem.Spec L2
inductive D where
  | non | bl (b : Bool) | int (i : Int) | str (s : Str) | tup (xs : List D) | obj (n : Nat) | hld (a : Addr)
inductive Ob where
  | lst (xs : List D) | scr (xs : List D) | ins (c : Nat) (fs : List D) | dct (ks vs : List D) | dcl (ks vs : List D)
abbrev Hm := List Ob
abbrev Env := List (Option D)
inductive R (a : Type) where
  | ok (x : a) (h : Hm) | exc (c : Nat) (fs : List D) (h : Hm) | bad
inductive O where
  | nx (env : Env) (h : Hm) | rt (d : D) (h : Hm) | bk (env : Env) (h : Hm) | ct (env : Env) (h : Hm) | exc (c : Nat) (fs : List D) (h : Hm) | bad
abbrev BSem := Env → Hm → O
structure Cs where
  ad : Nat → Addr
  nm : Nat → List Str
  /-- the refusals in hand: the dict, its fields' names, their values -/
  ex : List (Addr × List Str × List D) := []
  /-- what keys hash to -/
  hs : NestedKey → Int := fun _ => 0
  /-- tables of code objects, each with its lambdas' name -/
  tb : List (Addr × Str) := []
def R.bind {a b : Type} (r : R a) (f : a → Hm → R b) : R b := match r with
  | .ok x h => f x h
  | .exc c fs h => .exc c fs h
  | .bad => .bad
def R.bindO {a : Type} (r : R a) (f : a → Hm → O) : O := match r with
  | .ok x h => f x h
  | .exc c fs h => .exc c fs h
  | .bad => .bad
def O.seq (o : O) (f : Env → Hm → O) : O := match o with
  | .nx e h => f e h
  | .rt d h => .rt d h
  | .bk e h => .bk e h
  | .ct e h => .ct e h
  | .exc c fs h => .exc c fs h
  | .bad => .bad
mutual
def RV (K : PySem.W.Frag) (rho : List Addr) (H : Hp) : D → V → Prop
  | .non, v => v = .non
  | .bl b, v => v = .bl b
  | .int i, v => v = .int i
  | .str s, v => v = .str s
  | .obj n, v => ∃ a, rho[n]? = some a ∧ v = .ref a
  | .hld a, v => v = .ref a
  | .tup ds, v => ∃ a vs, v = .ref a ∧ SqT K H a vs ∧ RVs K rho H ds vs
def RVs (K : PySem.W.Frag) (rho : List Addr) (H : Hp) : List D → List V → Prop
  | [], vs => vs = []
  | d :: ds, vs => ∃ v vs', vs = v :: vs' ∧ RV K rho H d v ∧ RVs K rho H ds vs'
end
mutual
def D.lows (n : Nat) : D → Bool
  | .obj m => decide (m < n)
  | .tup ds => lowsL n ds
  | _ => true
def lowsL (n : Nat) : List D → Bool
  | [] => true
  | d :: ds => D.lows n d && lowsL n ds
end
mutual
def keyN : D → Option NestedKey
  | .non => some .none
  | .bl b => some (.num (if b then 1 else 0))
  | .int i => some (.num i)
  | .str s => some (.text s)
  | .tup ds => (keyNs ds).map .tup
  | .obj _ => none
  | .hld _ => none
def keyNs : List D → Option (List NestedKey)
  | [] => some []
  | d :: ds => match keyN d, keyNs ds with
    | some k, some ks => some (k :: ks)
    | _, _ => none
end
def keyD (d : D) : Option NestedKey := match d with
  | .tup ds => match keyNs ds with
    | some ks => if (NestedKey.tup ks).depth ≤ 8 then some (.tup ks) else none
    | none => none
  | _ => none
def keyL : List D → Option (List NestedKey)
  | [] => some []
  | d :: ds => match keyD d, keyL ds with
    | some k, some ks => some (k :: ks)
    | _, _ => none
abbrev Ent := NestedKey × Addr × V
def RelE (x : Ent) (y : NestedKey × Addr × Value) : Prop := x.1 = y.1 ∧ x.2.1 = y.2.1 ∧ RelV x.2.2 y.2.2
def rawD (hs : NestedKey → Int) (a : Addr) (xs : List Ent) : Heap → Prop := fun h => ∃ ys o es ep, Paired RelE xs ys ∧ h.get? a = some o ∧ o.ExactDict ∧ o.data = Data.dict es ep ∧
  es.toList = ys.map (fun y => ⟨hs y.1, .ref y.2.1, y.2.2⟩) ∧ (xs.map fun x => x.1).Nodup ∧ (a == sysModules) = false
def MutW : Option HO → Prop
  | some (.frz _ (.ext _)) => True
  | o => Mut o
def Ob.lows (n : Nat) : Ob → Bool
  | .lst xs => lowsL n xs
  | .scr xs => lowsL n xs
  | .ins _ fs => lowsL n fs
  | .dct ks vs => lowsL n ks && lowsL n vs
  | .dcl ks vs => lowsL n ks && lowsL n vs
def Ob.wr : Ob → Bool
  | .scr _ => false
  | .dcl _ _ => false
  | _ => true
theorem mutW_of {u : HO} (m : Mut (some u)) : MutW (some u) := by
  cases u with
  | frz o u => exact False.elim m
  | _ => exact m
def Ob.mu : Ob → Bool
  | .scr _ => false
  | _ => true
def SqF (K : PySem.W.Frag) (H : Hp) (a : Addr) (vs : List V) : Prop :=
  (∃ o, H a = some (.frz o (.lst vs))) ∨
    ∃ (o : Obj) (its : Array Value) (n : Nat), K.lookup a = some o ∧ o.cls = .type "list" ∧ o.dict = none ∧ o.data = .seq its n ∧ its.size ≤ sizeLine ∧ Vals vs its.toList
theorem SqF.l {K : PySem.W.Frag} {H : Hp} {a : Addr} {vs : List V} (h : SqF K H a vs) : SqL K H a vs := by
  rcases h with ⟨o, h⟩ | h
  · exact Or.inl (Or.inr ⟨o, h⟩)
  · exact Or.inr h
def ObR (K : PySem.W.Frag) (cs : Cs) (rho : List Addr) (H : Hp) (a : Addr) : Ob → Prop
  | .lst xs => ∃ vs, H a = some (.lst vs) ∧ RVs K rho H xs vs
  | .scr xs => ∃ vs, SqF K H a vs ∧ RVs K rho H xs vs
  | .ins c fs => ∃ dx vs, H a = some (.ins (cs.ad c) dx ((cs.nm c).zip vs)) ∧ vs.length ≤ (cs.nm c).length ∧ RVs K rho H fs vs
  | .dct ks vs => ∃ xs : List Ent, keyL ks = some (xs.map fun x => x.1) ∧ H a = some (.ext (rawD cs.hs a xs)) ∧ RVs K rho H ks (xs.map fun x => .ref x.2.1) ∧ RVs K rho H vs (xs.map fun x => x.2.2)
  | .dcl ks vs => ∃ (xs : List Ent) (od : Obj), keyL ks = some (xs.map fun x => x.1) ∧ H a = some (.frz od (.ext (rawD cs.hs a xs))) ∧ RVs K rho H ks (xs.map fun x => .ref x.2.1) ∧ RVs K rho H vs (xs.map fun x => x.2.2)
def Nin (rho : List Addr) (a : Addr) : Prop := ∀ n, 0 < n → rho[n]? ≠ some a
def ExR (K : PySem.W.Frag) (rho : List Addr) (H : Hp) (e : Addr × List Str × List D) : Prop := Nin rho e.1 ∧ ∃ vs, H e.1 = some (.xd (e.2.1.zip vs)) ∧ vs.length = e.2.1.length ∧ RVs K rho H e.2.2 vs
def TabW (rho : List Addr) (H : Hp) (P : Addr) (q : Str) : Prop := Nin rho P ∧ ∃ ps : Array Value, H P = some (.tbl ps) ∧ TriplesOk ps.toList ∧ ∀ (pos : Pos) (cv : Value), codeAmong pos ps.toList = some cv → ∃ c, cv = .ref c ∧ H c = some (LamX.CodeO c q) ∧ Nin rho c
def NoT (o : HO) : Prop := ∀ ps, o ≠ .tbl ps
structure Rel (K : PySem.W.Frag) (cs : Cs) (rho : List Addr) (h : Hm) (H : Hp) : Prop where
  len : rho.length = h.length
  ob : ∀ (n : Nat) (o : Ob) (a : Addr), h[n]? = some o → rho[n]? = some a → ObR K cs rho H a o
  inj : ∀ (n m : Nat) (o o' : Ob) (a : Addr), h[n]? = some o → o.mu = true → h[m]? = some o' → o'.mu = true → rho[n]? = some a → rho[m]? = some a → n = m
  z : ∃ xs, h[0]? = some (.scr xs)
  zm : ∀ n o, 0 < n → h[n]? = some o → o.mu = true
  exs : ∀ e ∈ cs.ex, ExR K rho H e
  tbs : ∀ t ∈ cs.tb, TabW rho H t.1 t.2
structure St (K : PySem.W.Frag) (rho : List Addr) (H : Hp) (rho' : List Addr) (H' : Hp) : Prop where
  pre : ∃ more, rho' = rho ++ more ∧ ∀ a ∈ more, H a = none
  tup : ∀ a xs, SqT K H a xs → SqT K H' a xs
  frm : ∀ a o, H a = some o → NoT o → Nin rho a → H' a = some o
  trk : ∀ a, H' a = none → H a = none
  frz : ∀ a o u, H a = some (.frz o u) → H' a = some (.frz o u)
section
variable {K : PySem.W.Frag} {cs : Cs} {rho rho1 rho2 : List Addr} {H H1 H2 : Hp}
theorem Nin.grow {a : Addr} {more : List Addr} (n : Nin rho a) (fr : ∀ a ∈ more, H a = none) {o : HO} (e : H a = some o) : Nin (rho ++ more) a := fun i i0 hi => by
  by_cases l : i < rho.length
  · rw [List.getElem?_append_left l] at hi; exact n i i0 hi
  · rw [List.getElem?_append_right (by omega)] at hi
    rw [fr a (List.mem_of_getElem? hi)] at e; cases e
theorem Nin.cut {a : Addr} {more : List Addr} (n : Nin (rho ++ more) a) : Nin rho a := fun i i0 hi => n i i0 (by rw [List.getElem?_append_left (List.getElem?_eq_some_iff.mp hi).1]; exact hi)
theorem TabW.cut {P : Addr} {q : Str} {more : List Addr} (t : TabW (rho ++ more) H P q) : TabW rho H P q := by
  obtain ⟨n, ps, e, ok, al⟩ := t
  exact ⟨n.cut, ps, e, ok, fun pos cv h => by obtain ⟨c, a, b, d⟩ := al pos cv h; exact ⟨c, a, b, d.cut⟩⟩
theorem TabW.over {P p : Addr} {q : Str} {u o : HO} (t : TabW rho H P q) (hp : H p = some u) (nt : NoT u := by intro _ z; cases z) (nc : ∀ q, u ≠ LamX.CodeO p q := by intro _ z; cases z) : TabW rho (upd H p o) P q := by
  obtain ⟨n, ps, e, ok, al⟩ := t
  refine ⟨n, ps, ?_, ok, fun pos cv h => ?_⟩
  · rw [upd_ne fun z => ?_]
    · exact e
    · rw [z, hp] at e; exact nt ps (Option.some.inj e)
  · obtain ⟨c, a, b, d⟩ := al pos cv h
    refine ⟨c, a, ?_, d⟩
    rw [upd_ne fun z => ?_]
    · exact b
    · rw [z, hp] at b; exact nc _ (Option.some.inj b)
theorem TabW.grow {P : Addr} {q : Str} {more : List Addr} (t : TabW rho H P q) (fr : ∀ a ∈ more, H a = none) : TabW (rho ++ more) H P q := by
  obtain ⟨n, ps, e, ok, al⟩ := t
  exact ⟨n.grow fr e, ps, e, ok, fun pos cv h => by obtain ⟨c, a, b, d⟩ := al pos cv h; exact ⟨c, a, b, d.grow fr b⟩⟩
theorem TabW.own {P p : Addr} {q : Str} {o : HO} {n : Nat} (t : TabW rho H P q) (n0 : 0 < n) (hr : rho[n]? = some p) : TabW rho (upd H p o) P q := by
  obtain ⟨m, ps, e, ok, al⟩ := t
  refine ⟨m, ps, ?_, ok, fun pos cv h => ?_⟩
  · rw [upd_ne fun z => m n n0 (by rw [z]; exact hr)]; exact e
  · obtain ⟨c, a, b, d⟩ := al pos cv h
    exact ⟨c, a, by rw [upd_ne fun z => d n n0 (by rw [z]; exact hr)]; exact b, d⟩
theorem code_ne {c : Addr} {q : Str} {f : Heap → Prop} (hf : ∀ h : Heap, f h → ∀ oc vs, h.get? c = some oc → oc.data ≠ .fields vs) : HO.ext f ≠ LamX.CodeO c q := by
  intro z
  unfold LamX.CodeO at z
  have e := HO.ext.inj z
  obtain ⟨t⟩ : Nonempty Tok := ⟨default⟩
  have g : (Heap.mk (Array.replicate (c + 1) (Obj.mk .none none (.fields #[.none, .str q t]) #[])) {}).get? c = some (Obj.mk .none none (.fields #[.none, .str q t]) #[]) := by
    unfold Heap.get?
    simp
  have h2 := congrFun e (Heap.mk (Array.replicate (c + 1) (Obj.mk .none none (.fields #[.none, .str q t]) #[])) {})
  have h3 : f (Heap.mk (Array.replicate (c + 1) (Obj.mk .none none (.fields #[.none, .str q t]) #[])) {}) := by
    rw [h2]
    exact ⟨_, _, t, g, rfl, rfl⟩
  exact hf _ h3 _ _ g rfl
theorem rawD_code {hs : NestedKey → Int} {a : Addr} {xs : List Ent} {q : Str} : HO.ext (rawD hs a xs) ≠ LamX.CodeO a q := code_ne fun h ⟨ys, o, es, ep, _, e, _, ed, _⟩ oc vs e2 z => by
  rw [e] at e2; cases e2; rw [ed] at z; cases z
theorem TabW.fresh {P p : Addr} {q : Str} {o : HO} (t : TabW rho H P q) (hp : H p = none) : TabW rho (upd H p o) P q := by
  obtain ⟨n, ps, e, ok, al⟩ := t
  exact ⟨n, ps, by rw [upd_ne (ne_of_none e hp)]; exact e, ok, fun pos cv h => by obtain ⟨c, a, b, d⟩ := al pos cv h; exact ⟨c, a, by rw [upd_ne (ne_of_none b hp)]; exact b, d⟩⟩
theorem TabW.new {P p : Addr} {q : Str} {o : HO} (t : TabW rho H P q) (hp : H p = none) : TabW (rho ++ [p]) (upd H p o) P q := by
  obtain ⟨n, ps, e, ok, al⟩ := t.grow (more := [p]) fun a h => by rw [List.mem_singleton.mp h]; exact hp
  exact ⟨n, ps, by rw [upd_ne (ne_of_none e hp)]; exact e, ok, fun pos cv h => by obtain ⟨c, a, b, d⟩ := al pos cv h; exact ⟨c, a, by rw [upd_ne (ne_of_none b hp)]; exact b, d⟩⟩
theorem St.of (pre : ∃ more, rho1 = rho ++ more ∧ ∀ a ∈ more, H a = none) (tup : ∀ a xs, SqT K H a xs → SqT K H1 a xs) (frm : ∀ a o, H a = some o → Nin rho a → H1 a = some o) (trk : ∀ a, H1 a = none → H a = none)
    (frz : ∀ a o u, H a = some (.frz o u) → H1 a = some (.frz o u)) : St K rho H rho1 H1 := ⟨pre, tup, fun a o h _ n => frm a o h n, trk, frz⟩
theorem St.refl : St K rho H rho H := .of ⟨[], by simp, by simp⟩ (fun _ _ h => h) (fun _ _ h _ => h) (fun _ h => h) (fun _ _ _ h => h)
theorem St.trans (a : St K rho H rho1 H1) (b : St K rho1 H1 rho2 H2) : St K rho H rho2 H2 := by
  obtain ⟨m1, rfl, f1⟩ := a.pre
  obtain ⟨m2, rfl, f2⟩ := b.pre
  refine ⟨⟨m1 ++ m2, by simp, fun x hx => ?_⟩, fun x xs h => b.tup x xs (a.tup x xs h), fun x o h nt hn => ?_, fun x h => a.trk x (b.trk x h), fun x o u h => b.frz x o u (a.frz x o u h)⟩
  · rcases List.mem_append.mp hx with h | h
    · exact f1 x h
    · exact a.trk x (f2 x h)
  · refine b.frm x o (a.frm x o h nt hn) nt fun n n0 hm => ?_
    by_cases l : n < rho.length
    · rw [List.getElem?_append_left l] at hm; exact hn n n0 hm
    · rw [List.getElem?_append_right (by omega)] at hm
      rw [f1 x (List.mem_of_getElem? hm)] at h; cases h
theorem St.at (a : St K rho H rho1 H1) {n : Nat} {x : Addr} (h : rho[n]? = some x) : rho1[n]? = some x := by
  obtain ⟨m, rfl, _⟩ := a.pre
  rw [List.getElem?_append_left (List.getElem?_eq_some_iff.mp h).1]; exact h
mutual
theorem RV.mono (s : St K rho H rho1 H1) : ∀ (d : D) (v : V), RV K rho H d v → RV K rho1 H1 d v
  | .non, _, h => by simpa [RV] using h
  | .bl _, _, h => by simpa [RV] using h
  | .int _, _, h => by simpa [RV] using h
  | .str _, _, h => by simpa [RV] using h
  | .hld _, _, h => by simpa [RV] using h
  | .obj n, v, h => by
    simp only [RV] at h ⊢
    obtain ⟨a, h1, h2⟩ := h
    exact ⟨a, s.at h1, h2⟩
  | .tup ds, v, h => by
    simp only [RV] at h ⊢
    obtain ⟨a, vs, h1, h2, h3⟩ := h
    exact ⟨a, vs, h1, s.tup _ _ h2, RVs.mono s ds vs h3⟩
theorem RVs.mono (s : St K rho H rho1 H1) : ∀ (ds : List D) (vs : List V), RVs K rho H ds vs → RVs K rho1 H1 ds vs
  | [], _, h => by simpa [RVs] using h
  | d :: ds, vs, h => by
    simp only [RVs] at h ⊢
    obtain ⟨v, vs', h1, h2, h3⟩ := h
    exact ⟨v, vs', h1, RV.mono s d v h2, RVs.mono s ds vs' h3⟩
end
mutual
theorem RV.lows : ∀ (d : D) (v : V), RV K rho H d v → d.lows rho.length = true
  | .non, _, h => by simp [D.lows]
  | .bl _, _, h => by simp [D.lows]
  | .int _, _, h => by simp [D.lows]
  | .str _, _, h => by simp [D.lows]
  | .hld _, _, h => by simp [D.lows]
  | .obj n, v, h => by
    simp only [RV] at h
    obtain ⟨a, h1, h2⟩ := h
    simp only [D.lows, decide_eq_true_eq]
    exact (List.getElem?_eq_some_iff.mp h1).1
  | .tup ds, v, h => by
    simp only [RV] at h
    obtain ⟨a, vs, h1, h2, h3⟩ := h
    simp only [D.lows]
    exact RVs.lows ds vs h3
theorem RVs.lows : ∀ (ds : List D) (vs : List V), RVs K rho H ds vs → lowsL rho.length ds = true
  | [], _, h => by simp [lowsL]
  | d :: ds, vs, h => by
    simp only [RVs] at h
    obtain ⟨v, vs', h1, h2, h3⟩ := h
    simp only [lowsL, Bool.and_eq_true]
    exact ⟨RV.lows d v h2, RVs.lows ds vs' h3⟩
end
mutual
theorem RV.cut {more : List Addr} : ∀ (d : D) (v : V), d.lows rho.length = true → RV K (rho ++ more) H d v → RV K rho H d v
  | .non, _, _, h => by simpa [RV] using h
  | .bl _, _, _, h => by simpa [RV] using h
  | .int _, _, _, h => by simpa [RV] using h
  | .str _, _, _, h => by simpa [RV] using h
  | .hld _, _, _, h => by simpa [RV] using h
  | .obj n, v, b, h => by
    simp only [RV] at h ⊢
    obtain ⟨a, h1, h2⟩ := h
    simp only [D.lows, decide_eq_true_eq] at b
    rw [List.getElem?_append_left b] at h1
    exact ⟨a, h1, h2⟩
  | .tup ds, v, b, h => by
    simp only [RV] at h ⊢
    obtain ⟨a, vs, h1, h2, h3⟩ := h
    simp only [D.lows] at b
    exact ⟨a, vs, h1, h2, RVs.cut ds vs b h3⟩
theorem RVs.cut {more : List Addr} : ∀ (ds : List D) (vs : List V), lowsL rho.length ds = true → RVs K (rho ++ more) H ds vs → RVs K rho H ds vs
  | [], _, _, h => by simpa [RVs] using h
  | d :: ds, vs, b, h => by
    simp only [RVs] at h ⊢
    obtain ⟨v, vs', h1, h2, h3⟩ := h
    simp only [lowsL, Bool.and_eq_true] at b
    exact ⟨v, vs', h1, RV.cut d v b.1 h2, RVs.cut ds vs' b.2 h3⟩
end
theorem RVs.length : ∀ {ds : List D} {vs : List V}, RVs K rho H ds vs → vs.length = ds.length
  | [], _, h => by simp only [RVs] at h; subst h; rfl
  | d :: ds, vs, h => by
    simp only [RVs] at h
    obtain ⟨v, vs', rfl, _, h3⟩ := h
    simp [RVs.length h3]
theorem RVs.get : ∀ {ds : List D} {vs : List V} {i : Nat} {d : D}, RVs K rho H ds vs → ds[i]? = some d → ∃ v, vs[i]? = some v ∧ RV K rho H d v
  | [], _, _, _, _, e => by simp at e
  | d :: ds, vs, i, d', h, e => by
    simp only [RVs] at h
    obtain ⟨v, vs', rfl, h2, h3⟩ := h
    cases i with
    | zero => simp at e; subst e; exact ⟨v, by simp, h2⟩
    | succ i => simp only [List.getElem?_cons_succ] at e ⊢; exact RVs.get h3 e
theorem RVs.nil : RVs K rho H [] [] := by simp [RVs]
theorem RVs.cons {d : D} {v : V} {ds : List D} {vs : List V} (h : RV K rho H d v) (t : RVs K rho H ds vs) : RVs K rho H (d :: ds) (v :: vs) := by
  simp only [RVs]; exact ⟨v, vs, rfl, h, t⟩
theorem RVs.append : ∀ {ds es : List D} {vs ws : List V}, RVs K rho H ds vs → RVs K rho H es ws → RVs K rho H (ds ++ es) (vs ++ ws)
  | [], _, vs, _, h, k => by simp only [RVs] at h; subst h; simpa using k
  | d :: ds, es, vs, ws, h, k => by
    simp only [RVs] at h
    obtain ⟨v, vs', rfl, h2, h3⟩ := h
    exact RVs.cons h2 (RVs.append h3 k)
theorem RVs.set {d : D} {v : V} (hd : RV K rho H d v) : ∀ {ds : List D} {vs : List V} (i : Nat), RVs K rho H ds vs → RVs K rho H (ds.set i d) (vs.set i v)
  | [], vs, _, h => by simp only [RVs] at h; subst h; simp [RVs]
  | e :: ds, vs, i, h => by
    simp only [RVs] at h
    obtain ⟨v', vs', rfl, h2, h3⟩ := h
    cases i with
    | zero => exact RVs.cons hd h3
    | succ i => exact RVs.cons h2 (RVs.set hd i h3)
theorem RVs.take : ∀ {ds : List D} {vs : List V} (n : Nat), RVs K rho H ds vs → RVs K rho H (ds.take n) (vs.take n)
  | _, _, 0, _ => by simp [RVs]
  | [], vs, _ + 1, h => by simp only [RVs] at h; subst h; simp [RVs]
  | d :: ds, vs, n + 1, h => by
    simp only [RVs] at h
    obtain ⟨v, vs', rfl, h2, h3⟩ := h
    exact RVs.cons h2 (RVs.take n h3)
theorem RVs.drop : ∀ {ds : List D} {vs : List V} (n : Nat), RVs K rho H ds vs → RVs K rho H (ds.drop n) (vs.drop n)
  | _, _, 0, h => by simpa using h
  | [], vs, _ + 1, h => by simp only [RVs] at h; subst h; simp [RVs]
  | d :: ds, vs, n + 1, h => by
    simp only [RVs] at h
    obtain ⟨v, vs', rfl, h2, h3⟩ := h
    simpa using RVs.drop n h3
theorem RVs.one {d : D} {vs : List V} (h : RVs K rho H [d] vs) : ∃ v, vs = [v] ∧ RV K rho H d v := by
  simp only [RVs] at h
  obtain ⟨v, vs', rfl, h2, rfl⟩ := h
  exact ⟨v, rfl, h2⟩
theorem RVs.two {d e : D} {vs : List V} (h : RVs K rho H [d, e] vs) : ∃ v w, vs = [v, w] ∧ RV K rho H d v ∧ RV K rho H e w := by
  simp only [RVs] at h
  obtain ⟨v, vs', rfl, h2, w, vs2, rfl, h3, rfl⟩ := h
  exact ⟨v, w, rfl, h2, h3⟩
theorem SqF.keep {a : Addr} {vs : List V} (h : SqF K H a vs) (k : ∀ o, H a = some (.frz o (.lst vs)) → H1 a = some (.frz o (.lst vs))) : SqF K H1 a vs := by
  rcases h with ⟨o, h⟩ | h
  · exact Or.inl ⟨o, k o h⟩
  · exact Or.inr h
theorem ObR.mu_some {a : Addr} {o : Ob} (h : ObR K cs rho H a o) (m : o.mu = true) : ∃ u, H a = some u ∧ MutW (some u) := by
  cases o with
  | lst xs => obtain ⟨vs, h, _⟩ := h; exact ⟨_, h, trivial⟩
  | scr xs => simp [Ob.mu] at m
  | ins c fs => obtain ⟨dx, vs, h, _⟩ := h; exact ⟨_, h, trivial⟩
  | dct ks vs => obtain ⟨xs, _, h, _⟩ := h; exact ⟨_, h, trivial⟩
  | dcl ks vs => obtain ⟨xs, od, _, h, _⟩ := h; exact ⟨_, h, trivial⟩
theorem ObR.wr_some {a : Addr} {o : Ob} (h : ObR K cs rho H a o) (m : o.wr = true) : ∃ u, H a = some u ∧ Mut (some u) := by
  cases o with
  | lst xs => obtain ⟨vs, h, _⟩ := h; exact ⟨_, h, trivial⟩
  | scr xs => simp [Ob.wr] at m
  | ins c fs => obtain ⟨dx, vs, h, _⟩ := h; exact ⟨_, h, trivial⟩
  | dct ks vs => obtain ⟨xs, _, h, _⟩ := h; exact ⟨_, h, trivial⟩
  | dcl ks vs => simp [Ob.wr] at m
theorem ObR.keep {a : Addr} {o : Ob} (s : St K rho H rho1 H1) (k : ∀ u, H a = some u → (o.mu = true ∨ ¬ MutW (some u)) → H1 a = some u) (h : ObR K cs rho H a o) : ObR K cs rho1 H1 a o := by
  cases o with
  | lst xs => obtain ⟨vs, h, r⟩ := h; exact ⟨vs, k _ h (Or.inl rfl), RVs.mono s _ _ r⟩
  | scr xs => obtain ⟨vs, h, r⟩ := h; exact ⟨vs, h.keep fun o q => k _ q (Or.inr fun z => z), RVs.mono s _ _ r⟩
  | ins c fs => obtain ⟨dx, vs, h, l, r⟩ := h; exact ⟨dx, vs, k _ h (Or.inl rfl), l, RVs.mono s _ _ r⟩
  | dct ks vs => obtain ⟨xs, e, h, r, r2⟩ := h; exact ⟨xs, e, k _ h (Or.inl rfl), RVs.mono s _ _ r, RVs.mono s _ _ r2⟩
  | dcl ks vs => obtain ⟨xs, od, e, h, r, r2⟩ := h; exact ⟨xs, od, e, k _ h (Or.inl rfl), RVs.mono s _ _ r, RVs.mono s _ _ r2⟩
theorem SqT.keep {a : Addr} {xs : List V} (h : SqT K H a xs) (k : ∀ u, H a = some u → ¬ MutW (some u) → H1 a = some u) : SqT K H1 a xs := by
  rcases h with (h | ⟨o, h⟩) | h
  · exact Or.inl (Or.inl (k _ h fun z => z))
  · exact Or.inl (Or.inr ⟨o, k _ h fun z => z⟩)
  · exact Or.inr h
theorem ExR.mono {e : Addr × List Str × List D} (s : St K rho H rho1 H1) (x : ExR K rho H e) : ExR K rho1 H1 e := by
  obtain ⟨n, vs, at_e, l, r⟩ := x
  refine ⟨fun i i0 hi => ?_, vs, s.frm _ _ at_e (fun _ z => by cases z) n, l, RVs.mono s _ _ r⟩
  obtain ⟨more, rfl, fresh⟩ := s.pre
  by_cases q : i < rho.length
  · rw [List.getElem?_append_left q] at hi; exact n i i0 hi
  · rw [List.getElem?_append_right (by omega)] at hi
    rw [fresh _ (List.mem_of_getElem? hi)] at at_e; cases at_e
theorem St.aside {p : Addr} {o : HO} (hp : H p = none) : St K rho H rho (upd H p o) :=
  .of ⟨[], by simp, by simp⟩ (fun a xs h => SqT.keep h fun u hu _ => by rw [upd_ne (ne_of_none hu hp)]; exact hu) (fun a u h _ => by rw [upd_ne (ne_of_none h hp)]; exact h)
    (fun a h => by by_cases e : a = p; (subst e; exact hp); (rw [upd_ne e] at h; exact h)) (fun a o' u h => by rw [upd_ne (ne_of_none h hp)]; exact h)
theorem Rel.aside {h : Hm} {p : Addr} {o : HO} (r : Rel K cs rho h H) (hp : H p = none) : Rel K cs rho h (upd H p o) :=
  ⟨r.len, fun n ob a h1 h2 => (r.ob n ob a h1 h2).keep (St.aside hp) fun u hu _ => by rw [upd_ne (ne_of_none hu hp)]; exact hu, r.inj, r.z, r.zm, fun e he => (r.exs e he).mono (St.aside hp), fun t ht => (r.tbs t ht).fresh hp⟩
theorem St.new {p : Addr} {o : HO} (hp : H p = none) : St K rho H (rho ++ [p]) (upd H p o) :=
  .of ⟨[p], rfl, fun a h => by rw [List.mem_singleton.mp h]; exact hp⟩ (St.aside (K := K) (rho := rho) hp).tup (fun a u h _ => by rw [upd_ne (ne_of_none h hp)]; exact h) (St.aside (K := K) (rho := rho) hp).trk (St.aside (K := K) (rho := rho) hp).frz
theorem Rel.new {h : Hm} {p : Addr} {o : HO} {ob : Ob} (r : Rel K cs rho h H) (hp : H p = none) (n : ObR K cs (rho ++ [p]) (upd H p o) p ob) (mo : ob.mu = true := by rfl) : Rel K cs (rho ++ [p]) (h ++ [ob]) (upd H p o) := by
  refine ⟨by simp [r.len], fun n' ob' a h1 h2 => ?_, fun i j o1 o2 a h1 m1 h2 m2 e1 e2 => ?_, ?_, fun i o' i0 h1 => ?_, fun e he => (r.exs e he).mono (St.new hp), fun t ht => (r.tbs t ht).new hp⟩
  · by_cases hn : n' < h.length
    · rw [List.getElem?_append_left hn] at h1
      rw [List.getElem?_append_left (by rw [r.len]; exact hn)] at h2
      exact (r.ob n' ob' a h1 h2).keep (St.new hp) fun u hu _ => by rw [upd_ne (ne_of_none hu hp)]; exact hu
    · rw [List.getElem?_append_right (by omega)] at h1
      rw [List.getElem?_append_right (by rw [r.len]; omega)] at h2
      have e : n' - h.length = 0 := by
        have := (List.getElem?_eq_some_iff.mp h1).1
        simp at this; exact this
      rw [e] at h1
      rw [r.len, e] at h2
      simp at h1 h2
      subst h1; subst h2
      exact n
  · have key : ∀ (i : Nat) (o1 : Ob), (h ++ [ob])[i]? = some o1 → o1.mu = true → (rho ++ [p])[i]? = some a → (i < h.length ∧ h[i]? = some o1 ∧ rho[i]? = some a ∧ a ≠ p) ∨ (i = h.length ∧ a = p) := by
      intro i o1 h1 m1 e1
      by_cases hn : i < h.length
      · rw [List.getElem?_append_left hn] at h1
        rw [List.getElem?_append_left (by rw [r.len]; exact hn)] at e1
        obtain ⟨u, hu, _⟩ := (r.ob i o1 a h1 e1).mu_some m1
        exact Or.inl ⟨hn, h1, e1, ne_of_none hu hp⟩
      · rw [List.getElem?_append_right (by rw [r.len]; omega)] at e1
        have := (List.getElem?_eq_some_iff.mp e1).1
        simp [r.len] at this
        have e : i = h.length := by omega
        subst e
        rw [r.len] at e1
        simp at e1
        exact Or.inr ⟨rfl, e1.symm⟩
    rcases key i o1 h1 m1 e1 with ⟨a1, b1, c1, d1⟩ | ⟨a1, d1⟩ <;> rcases key j o2 h2 m2 e2 with ⟨a2, b2, c2, d2⟩ | ⟨a2, d2⟩
    · exact r.inj i j o1 o2 a b1 m1 b2 m2 c1 c2
    · exact (d1 d2).elim
    · exact (d2 d1).elim
    · omega
  · obtain ⟨xs, e⟩ := r.z
    exact ⟨xs, by rw [List.getElem?_append_left (List.getElem?_eq_some_iff.mp e).1]; exact e⟩
  · by_cases l : i < h.length
    · rw [List.getElem?_append_left l] at h1; exact r.zm i o' i0 h1
    · rw [List.getElem?_append_right (by omega)] at h1
      have e : i - h.length = 0 := by
        have := (List.getElem?_eq_some_iff.mp h1).1
        simp at this; exact this
      rw [e] at h1
      simp at h1
      rw [← h1]; exact mo
theorem Rel.pos {h : Hm} {n : Nat} {o : Ob} (r : Rel K cs rho h H) (e : h[n]? = some o) (m : o.mu = true) : 0 < n := by
  rcases Nat.eq_zero_or_pos n with z | z
  · subst z
    obtain ⟨xs, e2⟩ := r.z
    rw [e] at e2; cases e2; cases m
  · exact z
theorem St.put {p : Addr} {o u : HO} {n : Nat} (n0 : 0 < n) (hr : rho[n]? = some p) (hp : H p = some u) (m : Mut (some u)) : St K rho H rho (upd H p o) :=
  .of ⟨[], by simp, by simp⟩ (fun a xs h => SqT.keep h fun u' hu nm => by
      rw [upd_ne]
      · exact hu
      · intro e; subst e; rw [hp] at hu; cases hu; exact nm (mutW_of m))
    (fun a u' h hn => by
      rw [upd_ne]
      · exact h
      · intro e; subst e; exact hn n n0 hr)
    (fun a h => by
      by_cases e : a = p
      · subst e; rw [upd_same] at h; cases h
      · rw [upd_ne e] at h; exact h)
    (fun a o' u' h => by
      rw [upd_ne]
      · exact h
      · intro e; subst e; rw [hp] at h; cases h; exact m)
theorem Rel.put {h : Hm} {p : Addr} {o : HO} {n : Nat} {ob old : Ob} (r : Rel K cs rho h H) (hr : rho[n]? = some p) (ho : h[n]? = some old) (mo : old.mu = true) (hm : ob.mu = true)
    (nw : ObR K cs rho (upd H p o) p ob) (nl : old.wr = true := by rfl) : Rel K cs rho (h.set n ob) (upd H p o) := by
  obtain ⟨u, hp, m⟩ := (r.ob n old p ho hr).wr_some nl
  have hn : n < h.length := (List.getElem?_eq_some_iff.mp ho).1
  refine ⟨by simp [r.len], fun n' ob' a h1 h2 => ?_, fun i j o1 o2 a h1 m1 h2 m2 e1 e2 => ?_, ?_, fun i o' i0 h1 => ?_, fun e he => (r.exs e he).mono (St.put (r.pos ho mo) hr hp m), fun t ht => (r.tbs t ht).own (r.pos ho mo) hr⟩
  · by_cases e : n' = n
    · subst e
      rw [List.getElem?_set_self hn] at h1
      rw [hr] at h2
      cases h1; cases h2
      exact nw
    · rw [List.getElem?_set_ne (Ne.symm e)] at h1
      refine (r.ob n' ob' a h1 h2).keep (St.put (r.pos ho mo) hr hp m) fun u' hu q => ?_
      have ne : a ≠ p := by
        intro ea
        subst ea
        rcases q with q | q
        · exact e (r.inj n' n ob' old _ h1 q ho mo h2 hr)
        · rw [hp] at hu; cases hu; exact q (mutW_of m)
      rw [upd_ne ne]
      exact hu
  · have key : ∀ (i : Nat) (o1 : Ob), (h.set n ob)[i]? = some o1 → o1.mu = true → ∃ o', h[i]? = some o' ∧ o'.mu = true := by
      intro i o1 h1 m1
      by_cases e : i = n
      · subst e; exact ⟨old, ho, mo⟩
      · rw [List.getElem?_set_ne (Ne.symm e)] at h1; exact ⟨o1, h1, m1⟩
    obtain ⟨o3, b1, c1⟩ := key i o1 h1 m1
    obtain ⟨o4, b2, c2⟩ := key j o2 h2 m2
    exact r.inj i j o3 o4 a b1 c1 b2 c2 e1 e2
  · obtain ⟨xs, e⟩ := r.z
    have := r.pos ho mo
    exact ⟨xs, by rw [List.getElem?_set_ne (by omega)]; exact e⟩
  · by_cases e : i = n
    · subst e
      rw [List.getElem?_set_self hn] at h1
      cases h1; exact hm
    · rw [List.getElem?_set_ne (Ne.symm e)] at h1; exact r.zm i o' i0 h1
end
def PExc (K : PySem.W.Frag) (cs : Cs) (rho : List Addr) (H : Hp) (c : Nat) (fs : List D) (h : Hm) (E : XK) : Prop :=
  ∀ da vs rho' H', St K rho H rho' H' → Rel K cs rho' h H' → H' da = some (.xd ((cs.nm c).zip vs)) → vs.length = (cs.nm c).length → RVs K rho' H' fs vs → E (.ref (cs.ad c)) (some da) H'
def Post {a b : Type} (K : PySem.W.Frag) (cs : Cs) (rel : List Addr → Hp → a → b → Prop) (rho : List Addr) (H : Hp) (r : R a) (Q : b → Hp → Prop) (E : XK) : Prop := match r with
  | .ok x h => ∀ v rho' H', St K rho H rho' H' → Rel K cs rho' h H' → rel rho' H' x v → Q v H'
  | .exc c fs h => PExc K cs rho H c fs h E
  | .bad => False
def RS (K : PySem.W.Frag) (rho : List Addr) (H : Hp) (env : Env) (σ : L2.St) : Prop := env.length = σ.length ∧ ∀ (i : Nat) (d : D), env[i]? = some (some d) → ∃ v, σ[i]? = some (some v) ∧ RV K rho H d v
def PostS (K : PySem.W.Frag) (cs : Cs) (rho : List Addr) (H : Hp) (o : O) (Dn : Ends) (E : XK) : Prop := match o with
  | .nx env h => ∀ σ rho' H', St K rho H rho' H' → Rel K cs rho' h H' → RS K rho' H' env σ → Dn.nx σ H'
  | .bk env h => ∀ σ rho' H', St K rho H rho' H' → Rel K cs rho' h H' → RS K rho' H' env σ → Dn.bk σ H'
  | .ct env h => ∀ σ rho' H', St K rho H rho' H' → Rel K cs rho' h H' → RS K rho' H' env σ → Dn.ct σ H'
  | .rt d h => ∀ v rho' H', St K rho H rho' H' → Rel K cs rho' h H' → RV K rho' H' d v → Dn.rt v H'
  | .exc c fs h => PExc K cs rho H c fs h E
  | .bad => False
def relB (_ : List Addr) (_ : Hp) (a b : Bool) : Prop := a = b
section
variable {K : PySem.W.Frag} {cs : Cs} {rho rho1 rho2 : List Addr} {H H1 H2 : Hp} {E : XK} {h h1 : Hm} {env : Env} {σ : L2.St}
theorem RS.mono (s : St K rho H rho1 H1) (r : RS K rho H env σ) : RS K rho1 H1 env σ := ⟨r.1, fun i d e => by
  obtain ⟨v, e1, e2⟩ := r.2 i d e
  exact ⟨v, e1, e2.mono s⟩⟩
theorem RS.set {i : Nat} {d : D} {v : V} (r : RS K rho H env σ) (hd : RV K rho H d v) : RS K rho H (env.set i (some d)) (σ.set i (some v)) := ⟨by simp [r.1], fun j d' e => by
  by_cases hj : j = i
  · subst hj
    by_cases hl : j < env.length
    · rw [List.getElem?_set_self hl] at e
      cases e
      exact ⟨v, List.getElem?_set_self (by rw [← r.1]; exact hl), hd⟩
    · rw [List.getElem?_eq_none (by simp; omega)] at e
      cases e
  · rw [List.getElem?_set_ne (Ne.symm hj)] at e
    rw [List.getElem?_set_ne (Ne.symm hj)]
    exact r.2 j d' e⟩
theorem PExc.mono {c : Nat} {fs : List D} (s : St K rho H rho1 H1) (p : PExc K cs rho H c fs h E) : PExc K cs rho1 H1 c fs h E := fun da vs r' H' s' => p da vs r' H' (s.trans s')
theorem Post.mono {a b : Type} {rel : List Addr → Hp → a → b → Prop} {r : R a} {Q : b → Hp → Prop} (s : St K rho H rho1 H1) (p : Post K cs rel rho H r Q E) : Post K cs rel rho1 H1 r Q E := by
  cases r with
  | ok x h => exact fun v r' H' s' => p v r' H' (s.trans s')
  | exc c fs h => exact PExc.mono s p
  | bad => exact p
theorem PostS.mono {o : O} {Dn : Ends} (s : St K rho H rho1 H1) (p : PostS K cs rho H o Dn E) : PostS K cs rho1 H1 o Dn E := by
  cases o with
  | nx e h => exact fun v r' H' s' => p v r' H' (s.trans s')
  | bk e h => exact fun v r' H' s' => p v r' H' (s.trans s')
  | ct e h => exact fun v r' H' s' => p v r' H' (s.trans s')
  | rt e h => exact fun v r' H' s' => p v r' H' (s.trans s')
  | exc c fs h => exact PExc.mono s p
  | bad => exact p
theorem Post.bind {a b c d : Type} {rel : List Addr → Hp → a → b → Prop} {rel2 : List Addr → Hp → c → d → Prop} {r : R a} {f : a → Hm → R c} {Q1 : b → Hp → Prop} {Q : d → Hp → Prop} (p : Post K cs rel2 rho H (r.bind f) Q E)
    (k : ∀ x h1 v rho1 H1, St K rho H rho1 H1 → Rel K cs rho1 h1 H1 → rel rho1 H1 x v → Post K cs rel2 rho1 H1 (f x h1) Q E → Q1 v H1) : Post K cs rel rho H r Q1 E := by
  cases r with
  | ok x h => exact fun v r' H' s' rl rv => k x h v r' H' s' rl rv (Post.mono s' p)
  | exc c fs h => exact p
  | bad => exact p
theorem Post.bindO {a b : Type} {rel : List Addr → Hp → a → b → Prop} {r : R a} {f : a → Hm → O} {Q1 : b → Hp → Prop} {Dn : Ends} (p : PostS K cs rho H (r.bindO f) Dn E)
    (k : ∀ x h1 v rho1 H1, St K rho H rho1 H1 → Rel K cs rho1 h1 H1 → rel rho1 H1 x v → PostS K cs rho1 H1 (f x h1) Dn E → Q1 v H1) : Post K cs rel rho H r Q1 E := by
  cases r with
  | ok x h => exact fun v r' H' s' rl rv => k x h v r' H' s' rl rv (PostS.mono s' p)
  | exc c fs h => exact p
  | bad => exact p
theorem PostS.seq {o : O} {f : Env → Hm → O} {Dn : Ends} {N : L2.St → Hp → Prop} (p : PostS K cs rho H (o.seq f) Dn E)
    (k : ∀ env h1 σ rho1 H1, St K rho H rho1 H1 → Rel K cs rho1 h1 H1 → RS K rho1 H1 env σ → PostS K cs rho1 H1 (f env h1) Dn E → N σ H1) : PostS K cs rho H o { Dn with nx := N } E := by
  cases o with
  | nx e h => exact fun σ r' H' s' rl rs => k e h σ r' H' s' rl rs (PostS.mono s' p)
  | bk e h => exact p
  | ct e h => exact p
  | rt e h => exact p
  | exc c fs h => exact p
  | bad => exact p
theorem Post.fin {a b : Type} {rel : List Addr → Hp → a → b → Prop} {x : a} {v : b} {Q : b → Hp → Prop} (p : Post K cs rel rho H (.ok x h) Q E) (rl : Rel K cs rho h H) (rv : rel rho H x v) : Q v H := p v rho H St.refl rl rv
theorem RV.obj {n : Nat} {v : V} (r : RV K rho H (.obj n) v) : ∃ a, rho[n]? = some a ∧ v = .ref a := by simpa [RV] using r
theorem Rel.obj (rl : Rel K cs rho h H) {n : Nat} {o : Ob} {v : V} (r : RV K rho H (.obj n) v) (e : h[n]? = some o) : ∃ a, v = .ref a ∧ rho[n]? = some a ∧ ObR K cs rho H a o := by
  obtain ⟨a, e1, e2⟩ := r.obj
  exact ⟨a, e2, e1, rl.ob n o a e e1⟩
end
section
variable (cs : Cs) (X : Cx) (E : XK)
structure SE (e : Expr) (f : Env → Hm → R D) : Prop where
  ex : ∃ t : TE, PE X e t ∧ ∀ rho h H env σ (Q : VK), Rel X.K cs rho h H → RS X.K rho H env σ → Post X.K cs (RV X.K) rho H (f env h) Q E → t σ H Q
structure ST (e : Expr) (f : Env → Hm → R Bool) : Prop where
  ex : ∃ t : TT, PT X e t ∧ ∀ rho h H env σ (Q : Bool → Hp → Prop), Rel X.K cs rho h H → RS X.K rho H env σ → Post X.K cs relB rho H (f env h) Q E → t σ H Q
structure SW (e : Expr) (f : Env → Hm → R Bool) : Prop where
  ex : ∃ t : TT, PW X e t ∧ ∀ rho h H env σ (Q : Bool → Hp → Prop), Rel X.K cs rho h H → RS X.K rho H env σ → Post X.K cs relB rho H (f env h) Q E → t σ H Q
structure SA (es : List Expr) (f : Env → Hm → R (List D)) : Prop where
  ex : ∃ t : TA, PA X es t ∧ ∀ rho h H env σ (Q : List V → Hp → Prop), Rel X.K cs rho h H → RS X.K rho H env σ → Post X.K cs (RVs X.K) rho H (f env h) Q E → t σ H Q
structure SS (st : Stmt) (f : Env → Hm → O) : Prop where
  ex : ∃ t : TS, PS X st t ∧ ∀ rho h H env σ (Dn : Ends), Rel X.K cs rho h H → RS X.K rho H env σ → PostS X.K cs rho H (f env h) Dn E → t Dn σ H
structure SB (sts : List Stmt) (f : Env → Hm → O) : Prop where
  ex : ∃ t : TS, PSs X sts t ∧ ∀ rho h H env σ (Dn : Ends), Rel X.K cs rho h H → RS X.K rho H env σ → PostS X.K cs rho H (f env h) Dn E → t Dn σ H
def Op2 (K : PySem.W.Frag) (r : R2) (f : D → D → Hm → R D) : Prop := ∀ rho h H x y v w (Q : VK), Rel K cs rho h H → RV K rho H x v → RV K rho H y w → Post K cs (RV K) rho H (f x y h) Q E → r v w H Q
def Op1 (K : PySem.W.Frag) (r : V → Hp → VK → Prop) (f : D → Hm → R D) : Prop := ∀ rho h H x v (Q : VK), Rel K cs rho h H → RV K rho H x v → Post K cs (RV K) rho H (f x h) Q E → r v H Q
def OpN (K : PySem.W.Frag) (r : List V → Hp → VK → Prop) (f : List D → Hm → R D) : Prop := ∀ rho h H xs vs (Q : VK), Rel K cs rho h H → RVs K rho H xs vs → Post K cs (RV K) rho H (f xs h) Q E → r vs H Q
end
def eVar (i : Nat) : Env → Hm → R D := fun env h => match env[i]? with
  | some (some d) => .ok d h
  | _ => .bad
def eC (d : D) : Env → Hm → R D := fun _ h => .ok d h
def e2 (f : D → D → Hm → R D) (a b : Env → Hm → R D) : Env → Hm → R D := fun env h => (a env h).bind fun x h1 => (b env h1).bind fun y h2 => f x y h2
def e1 (f : D → Hm → R D) (a : Env → Hm → R D) : Env → Hm → R D := fun env h => (a env h).bind f
def aNil : Env → Hm → R (List D) := fun _ h => .ok [] h
def aCons (a : Env → Hm → R D) (b : Env → Hm → R (List D)) : Env → Hm → R (List D) := fun env h => (a env h).bind fun x h1 => (b env h1).bind fun xs h2 => .ok (x :: xs) h2
def eN (f : List D → Hm → R D) (a : Env → Hm → R (List D)) : Env → Hm → R D := fun env h => (a env h).bind f
section
variable {cs : Cs} {X : Cx} {E : XK} {a b c : Expr} {pos : Pos} {fa fb fc : Env → Hm → R D} {es : List Expr} {fs : Env → Hm → R (List D)}
theorem se_var (i : Nat) {x : Str} {pos : Pos} (hN : X.N[i]? = some x := by rfl) (hv : Vis X.env.scope x := by first | exact Or.inl rfl | exact Or.inr (Or.inl rfl) | exact Or.inr (Or.inr rfl)) (hd : (x == ("__debug__" : Str)) = false := by decide)
    (hcd : (x == ("__classdict__" : Str)) = false := by decide) : SE cs X E (.Name x pos) (eVar i) := ⟨_, pe_var hN hv hd hcd, fun rho h H env σ Q rl rs p => by
  unfold eVar at p
  split at p
  · rename_i d e
    obtain ⟨v, e1, e2⟩ := rs.2 i d e
    exact ⟨v, e1, p.fin rl e2⟩
  · exact p.elim⟩
theorem se_int {i : Int} {j} : SE cs X E (.Constant (.int i) j pos) (eC (.int i)) := ⟨_, pe_int, fun _ _ _ _ _ _ rl _ p => p.fin rl (by simp [RV])⟩
theorem se_bl {i : Bool} {j} : SE cs X E (.Constant (.bool i) j pos) (eC (.bl i)) := ⟨_, pe_bl, fun _ _ _ _ _ _ rl _ p => p.fin rl (by simp [RV])⟩
theorem se_non {j} : SE cs X E (.Constant .none j pos) (eC .non) := ⟨_, pe_non, fun _ _ _ _ _ _ rl _ p => p.fin rl (by simp [RV])⟩
theorem se_str {i : Str} {j} : SE cs X E (.Constant (.str i) j pos) (eC (.str i)) := ⟨_, pe_str, fun _ _ _ _ _ _ rl _ p => p.fin rl (by simp [RV])⟩
theorem se_op {op : Operator} {r : R2} {f : D → D → Hm → R D} (ho : OpR X (binaryOp op) r) (hs : Op2 cs E X.K r f) (ha : SE cs X E a fa) (hb : SE cs X E b fb) : SE cs X E (.BinOp a op b pos) (e2 f fa fb) := by
  obtain ⟨ta, pa, qa⟩ := ha.ex
  obtain ⟨tb, pb, qb⟩ := hb.ex
  exact ⟨_, pe_op ho pa pb, fun rho h H env σ Q rl rs p => qa _ _ _ _ _ _ rl rs (Post.bind p fun x h1 v r1 H1 s1 rl1 rv p1 => qb _ _ _ _ _ _ rl1 (rs.mono s1) (Post.bind p1 fun y h2 w r2 H2 s2 rl2 rw p2 => hs _ _ _ _ _ _ _ _ rl2 (RV.mono s2 _ _ rv) rw p2))⟩
theorem se_un {op : UnaryOp} {r : V → Hp → VK → Prop} {f : D → Hm → R D} (ho : UnR X (unaryOp op) r) (hs : Op1 cs E X.K r f) (ha : SE cs X E a fa) : SE cs X E (.UnaryOp op a pos) (e1 f fa) := by
  obtain ⟨ta, pa, qa⟩ := ha.ex
  exact ⟨_, pe_un ho pa, fun rho h H env σ Q rl rs p => qa _ _ _ _ _ _ rl rs (Post.bind p fun x h1 v r1 H1 s1 rl1 rv p1 => hs _ _ _ _ _ _ rl1 rv p1)⟩
theorem se_cmp {op : CmpOp} {r : R2} {f : D → D → Hm → R D} (ho : OpR X (compareOp op) r) (hs : Op2 cs E X.K r f) (ha : SE cs X E a fa) (hb : SE cs X E b fb) (hm : behindInMarks op b = false) : SE cs X E (.Compare a [op] [b] pos) (e2 f fa fb) := by
  obtain ⟨ta, pa, qa⟩ := ha.ex
  obtain ⟨tb, pb, qb⟩ := hb.ex
  exact ⟨_, pe_cmpR ho pa pb hm, fun rho h H env σ Q rl rs p => qa _ _ _ _ _ _ rl rs (Post.bind p fun x h1 v r1 H1 s1 rl1 rv p1 => qb _ _ _ _ _ _ rl1 (rs.mono s1) (Post.bind p1 fun y h2 w r2 H2 s2 rl2 rw p2 => hs _ _ _ _ _ _ _ _ rl2 (RV.mono s2 _ _ rv) rw p2))⟩
theorem se_ix {r : R2} {f : D → D → Hm → R D} (ho : IxR X r) (hs : Op2 cs E X.K r f) (ha : SE cs X E a fa) (hb : SE cs X E b fb) (hm : PlainIx b) : SE cs X E (.Subscript a b pos) (e2 f fa fb) := by
  obtain ⟨ta, pa, qa⟩ := ha.ex
  obtain ⟨tb, pb, qb⟩ := hb.ex
  exact ⟨_, pe_ix ho pa pb hm, fun rho h H env σ Q rl rs p => qa _ _ _ _ _ _ rl rs (Post.bind p fun x h1 v r1 H1 s1 rl1 rv p1 => qb _ _ _ _ _ _ rl1 (rs.mono s1) (Post.bind p1 fun y h2 w r2 H2 s2 rl2 rw p2 => hs _ _ _ _ _ _ _ _ rl2 (RV.mono s2 _ _ rv) rw p2))⟩
theorem sa_nil : SA cs X E [] aNil := ⟨_, pa_nil, fun _ _ _ _ _ _ rl _ p => p.fin rl RVs.nil⟩
theorem sa_cons (ha : SE cs X E a fa) (hr : SA cs X E es fs) (hs : starEach (a :: es) X.env = (false, eval a X.env) :: starEach es X.env := by rfl) : SA cs X E (a :: es) (aCons fa fs) := by
  obtain ⟨ta, pa, qa⟩ := ha.ex
  obtain ⟨tb, pb, qb⟩ := hr.ex
  exact ⟨_, pa_cons pa pb hs, fun rho h H env σ Q rl rs p => qa _ _ _ _ _ _ rl rs (Post.bind p fun x h1 v r1 H1 s1 rl1 rv p1 => qb _ _ _ _ _ _ rl1 (rs.mono s1) (Post.bind p1 fun y h2 w r2 H2 s2 rl2 rw p2 => p2.fin rl2 (RVs.cons (RV.mono s2 _ _ rv) rw)))⟩
theorem se_callB {x : Str} {p : Pos} {id : String} {r : List V → Hp → VK → Prop} {f : List D → Hm → R D} (hc : CallR X (.builtin id) r) (hs : OpN cs E X.K r f) (hg : Gl X x) (hm : X.mg x = none) (hv : bootBuiltins x = some (.builtin id)) (ha : SA cs X E (a :: es) fs)
    (hn : x ≠ "__name__" := by decide) (hdb : (x == ("__debug__" : Str)) = false := by decide) (h1 : starEach (a :: es) X.env = (false, eval a X.env) :: starEach es X.env := by rfl) (h2 : (backTo pos (starEach es X.env)).any (·.1) = false := by rfl) : SE cs X E (.Call (.Name x p) (a :: es) [] pos) (eN f fs) := by
  obtain ⟨ta, pa, qa⟩ := ha.ex
  exact ⟨_, pe_callB hc hg hm hv pa hn hdb h1 h2, fun rho h H env σ Q rl rs p => qa _ _ _ _ _ _ rl rs (Post.bind p fun x h1 v r1 H1 s1 rl1 rv p1 => hs _ _ _ _ _ _ rl1 rv p1)⟩
end
end Wm
end
section
namespace Wm
open PySem PySem.Spec L2
abbrev bitsN (i : Int) : Nat := Builtin.Int.intBits i
def mulOk (i j : Int) : Prop := bitsN i + bitsN j ≤ 134217728
def divOk (j : Int) : Prop := 0 < j ∧ j.natAbs.log2 < 9000
def powOk (i j : Int) : Prop := 0 ≤ j ∧ j ≤ 1000000 ∧ i.natAbs < 2 ^ 64
def shlOk (i j : Int) : Prop := 0 ≤ j ∧ (bitsN i : Int) + j ≤ 2 ^ 27
instance (i j : Int) : Decidable (mulOk i j) := by unfold mulOk; infer_instance
instance (j : Int) : Decidable (divOk j) := by unfold divOk; infer_instance
instance (i j : Int) : Decidable (powOk i j) := by unfold powOk; infer_instance
instance (i j : Int) : Decidable (shlOk i j) := by unfold shlOk; infer_instance
def new (o : Ob) (h : Hm) : R D := .ok (.obj h.length) (h ++ [o])
def szOk (n : Nat) : Prop := n ≤ sizeLine
instance (n : Nat) : Decidable (szOk n) := by unfold szOk; infer_instance
def dAdd : D → D → Hm → R D
  | .int a, .int b, h => .ok (.int (a + b)) h
  | .obj m, .obj n, h => match h[m]?, h[n]? with
    | some (.lst xs), some (.lst ys) => if szOk (xs.length + ys.length) then new (.lst (xs ++ ys)) h else .bad
    | _, _ => .bad
  | .tup (x :: xs), .tup ys, h => if szOk ((x :: xs).length + ys.length) then .ok (.tup ((x :: xs) ++ ys)) h else .bad
  | _, _, _ => .bad
def dSub : D → D → Hm → R D
  | .int a, .int b, h => .ok (.int (a - b)) h
  | _, _, _ => .bad
def dMul : D → D → Hm → R D
  | .int a, .int b, h => if mulOk a b then .ok (.int (a * b)) h else .bad
  | .obj n, .int k, h => match h[n]? with
    | some (.lst xs) => if -(2 ^ 63) ≤ k ∧ k < 2 ^ 63 ∧ szOk (xs.length * k.toNat) then new (.lst (List.replicate k.toNat xs).flatten) h else .bad
    | _ => .bad
  | _, _, _ => .bad
def dDiv : D → D → Hm → R D
  | .int a, .int b, h => if divOk b then .ok (.int (a / b)) h else .bad
  | _, _, _ => .bad
def dMod : D → D → Hm → R D
  | .int a, .int b, h => if 0 < b then .ok (.int (a % b)) h else .bad
  | _, _, _ => .bad
def dPow : D → D → Hm → R D
  | .int a, .int b, h => if powOk a b then .ok (.int (a ^ b.toNat)) h else .bad
  | _, _, _ => .bad
def dShl : D → D → Hm → R D
  | .int a, .int b, h => if shlOk a b then .ok (.int (a * 2 ^ b.toNat)) h else .bad
  | _, _, _ => .bad
def dNeg : D → Hm → R D
  | .int a, h => .ok (.int (-a)) h
  | _, _ => .bad
def dLt : D → D → Hm → R D
  | .int a, .int b, h => .ok (.bl (decide (a < b))) h
  | _, _, _ => .bad
def dLe : D → D → Hm → R D
  | .int a, .int b, h => .ok (.bl (decide (a ≤ b))) h
  | _, _, _ => .bad
def dGt : D → D → Hm → R D
  | .int a, .int b, h => .ok (.bl (decide (b < a))) h
  | _, _, _ => .bad
def dGe : D → D → Hm → R D
  | .int a, .int b, h => .ok (.bl (decide (b ≤ a))) h
  | _, _, _ => .bad
def D.isN : D → Bool
  | .non => true
  | _ => false
def dIs : D → D → Hm → R D
  | x, .non, h => .ok (.bl x.isN) h
  | _, _, _ => .bad
def dIsNot : D → D → Hm → R D
  | x, .non, h => .ok (.bl (!x.isN)) h
  | _, _, _ => .bad
mutual
def D.py : D → Option PyData
  | .non => some .none
  | .bl b => some (.bool b)
  | .int i => some (.int i)
  | .str s => some (.str s)
  | .tup ds => (pys ds).map .tuple
  | .obj _ => none
  | .hld _ => none
def pys : List D → Option (List PyData)
  | [] => some []
  | d :: ds => match D.py d, pys ds with
    | some p, some ps => some (p :: ps)
    | _, _ => none
end
def pyO (h : Hm) : D → Option PyData
  | .obj n => match h[n]? with
    | some (.lst xs) => (pys xs).map .list
    | some (.scr xs) => (pys xs).map .list
    | _ => none
  | d => d.py
def dEq (x y : D) (h : Hm) : R D := match pyO h x, pyO h y with
  | some d, some e => if SeqAt.shaped d = true ∧ SeqAt.shaped e = true then .ok (.bl (PyData.eqv d e)) h else .bad
  | _, _ => .bad
def dNe (x y : D) (h : Hm) : R D := match pyO h x, pyO h y with
  | some d, some e => if SeqAt.shaped d = true ∧ SeqAt.shaped e = true then .ok (.bl (!PyData.eqv d e)) h else .bad
  | _, _ => .bad
def items (h : Hm) : D → Option (List D)
  | .tup xs => some xs
  | .obj n => match h[n]? with
    | some (.lst xs) => some xs
    | some (.scr xs) => some xs
    | _ => none
  | _ => none
def dIx (x y : D) (h : Hm) : R D := match items h x, y with
  | some xs, .int i => match atI xs i with
    | some d => .ok d h
    | none => .bad
  | _, _ => .bad
def dLen : List D → Hm → R D
  | [x], h => match items h x with
    | some xs => .ok (.int xs.length) h
    | none => .bad
  | _, _ => .bad
def dMax : List D → Hm → R D
  | [.int i, .int j], h => .ok (.int (if j > i then j else i)) h
  | _, _ => .bad
def dMin : List D → Hm → R D
  | [.int i, .int j], h => .ok (.int (if j < i then j else i)) h
  | _, _ => .bad
def dInt : List D → Hm → R D
  | [.int i], h => .ok (.int i) h
  | [.bl k], h => .ok (.int (if k then 1 else 0)) h
  | _, _ => .bad
def D.flat : D → Bool
  | .tup _ => false
  | .obj _ => false
  | .hld _ => false
  | _ => true
def D.eqf : D → D → Bool
  | .non, .non => true
  | .bl a, .bl b => a == b
  | .bl a, .int b => (if a then 1 else 0) == b
  | .int a, .bl b => a == (if b then 1 else 0)
  | .int a, .int b => a == b
  | .str a, .str b => a == b
  | _, _ => false
def inD (x : D) (xs : List D) : Bool := xs.any fun y => D.eqf y x
def inDeep (neg : Bool) (x y : D) (h : Hm) : R D := match pyO h x, pyO h y with
  | some d, some (.list ds) => if SeqAt.shaped d = true ∧ SeqAt.shaped (.list ds) = true then .ok (.bl (if neg then !ds.any fun z => PyData.eqv z d else ds.any fun z => PyData.eqv z d)) h else .bad
  | _, _ => .bad
def dNotIn (x y : D) (h : Hm) : R D := match items h y with
  | some xs => if x.flat = true ∧ xs.all D.flat = true then .ok (.bl (!inD x xs)) h else inDeep true x y h
  | none => .bad
section
variable {K : PySem.W.Frag} {cs : Cs} {E : XK} {X : Cx} {rho : List Addr} {H : Hp} {h : Hm}
theorem RV.intE {i : Int} {v : V} (r : RV K rho H (.int i) v) : v = .int i := by simpa [RV] using r
theorem RV.blE {i : Bool} {v : V} (r : RV K rho H (.bl i) v) : v = .bl i := by simpa [RV] using r
theorem RV.strE {i : Str} {v : V} (r : RV K rho H (.str i) v) : v = .str i := by simpa [RV] using r
theorem RV.nonE {v : V} (r : RV K rho H .non v) : v = .non := by simpa [RV] using r
theorem RV.tupE {ds : List D} {v : V} (r : RV K rho H (.tup ds) v) : ∃ a vs, v = .ref a ∧ SqT K H a vs ∧ RVs K rho H ds vs := by simpa [RV] using r
theorem RV.ofInt {i : Int} : RV K rho H (.int i) (.int i) := by simp [RV]
theorem RV.ofBl {i : Bool} : RV K rho H (.bl i) (.bl i) := by simp [RV]
theorem RV.ofStr {i : Str} : RV K rho H (.str i) (.str i) := by simp [RV]
theorem RV.ofNon : RV K rho H .non .non := by simp [RV]
theorem Post.newL {xs : List D} {vs : List V} {Q : VK} (p : Post K cs (RV K) rho H (new (.lst xs) h) Q E) (rl : Rel K cs rho h H) (r : RVs K rho H xs vs) : ∀ a, H a = none → Q (.ref a) (upd H a (.lst vs)) := fun a ha => by
  refine p (.ref a) (rho ++ [a]) _ (St.new ha) (rl.new ha ⟨vs, upd_same, RVs.mono (St.new ha) _ _ r⟩) ?_
  simp only [RV]
  exact ⟨a, by rw [← rl.len]; simp, rfl⟩
theorem Post.newT {xs : List D} {vs : List V} {Q : VK} (p : Post K cs (RV K) rho H (.ok (.tup xs) h) Q E) (rl : Rel K cs rho h H) (r : RVs K rho H xs vs) : ∀ a, H a = none → Q (.ref a) (upd H a (.tup vs)) := fun a ha => by
  refine p (.ref a) rho _ (St.aside ha) (rl.aside ha) ?_
  simp only [RV]
  exact ⟨a, vs, rfl, SqT.of upd_same, RVs.mono (St.aside ha) _ _ r⟩
theorem RVs.rep {xs : List D} {vs : List V} (r : RVs K rho H xs vs) : ∀ n : Nat, RVs K rho H (List.replicate n xs).flatten (List.replicate n vs).flatten
  | 0 => by simp; exact RVs.nil
  | n + 1 => by rw [List.replicate_succ, List.replicate_succ, List.flatten_cons, List.flatten_cons]; exact r.append (RVs.rep r n)
theorem o2_mul : Op2 cs E K (fun x y H Q => rI CMulX (fun i j => .int (i * j)) x y H Q ∨ rRep x y H Q) dMul := fun rho h H x y v w Q rl rv rw_ p => by
  unfold dMul at p
  split at p
  · rename_i a b
    split at p
    · rename_i hc
      exact Or.inl ⟨a, b, rv.intE, rw_.intE, by unfold CMulX; unfold mulOk bitsN at hc; omega, p.fin rl RV.ofInt⟩
    · exact p.elim
  · rename_i n k
    split at p
    · rename_i xs e1
      split at p
      · rename_i hz
        obtain ⟨a, rfl, _, vs, h1, r1⟩ := rl.obj rv e1
        refine Or.inr ⟨a, k, vs, rfl, rw_.intE, h1, hz.1, hz.2.1, ?_, p.newL rl (RVs.rep r1 _)⟩
        rw [r1.length]; exact hz.2.2
      · exact p.elim
    · exact p.elim
  · exact p.elim
theorem o2_sub : Op2 cs E K (rI0 fun i j => .int (i - j)) dSub := fun rho h H x y v w Q rl rv rw_ p => by
  unfold dSub at p
  split at p
  · exact ⟨_, _, rv.intE, rw_.intE, p.fin rl RV.ofInt⟩
  · exact p.elim
theorem o2_div : Op2 cs E K (rI CDivW fun i j => .int (i / j)) dDiv := fun rho h H x y v w Q rl rv rw_ p => by
  unfold dDiv at p
  split at p
  · split at p
    · rename_i hc
      exact ⟨_, _, rv.intE, rw_.intE, hc, p.fin rl RV.ofInt⟩
    · exact p.elim
  · exact p.elim
theorem o2_mod : Op2 cs E K (rI (fun _ j => 0 < j) fun i j => .int (i % j)) dMod := fun rho h H x y v w Q rl rv rw_ p => by
  unfold dMod at p
  split at p
  · split at p
    · rename_i hc
      exact ⟨_, _, rv.intE, rw_.intE, hc, p.fin rl RV.ofInt⟩
    · exact p.elim
  · exact p.elim
theorem o2_pow : Op2 cs E K (rI CPow fun i j => .int (i ^ j.toNat)) dPow := fun rho h H x y v w Q rl rv rw_ p => by
  unfold dPow at p
  split at p
  · split at p
    · rename_i hc
      exact ⟨_, _, rv.intE, rw_.intE, hc, p.fin rl RV.ofInt⟩
    · exact p.elim
  · exact p.elim
theorem o2_shl : Op2 cs E K (rI CShl fun i j => .int (i * 2 ^ j.toNat)) dShl := fun rho h H x y v w Q rl rv rw_ p => by
  unfold dShl at p
  split at p
  · split at p
    · rename_i hc
      exact ⟨_, _, rv.intE, rw_.intE, hc, p.fin rl RV.ofInt⟩
    · exact p.elim
  · exact p.elim
theorem o1_neg : Op1 cs E K (rU fun i => .int (-i)) dNeg := fun rho h H x v Q rl rv p => by
  unfold dNeg at p
  split at p
  · exact ⟨_, rv.intE, p.fin rl RV.ofInt⟩
  · exact p.elim
theorem o2_lt : Op2 cs E K (rI0 fun i j => .bl (decide (i < j))) dLt := fun rho h H x y v w Q rl rv rw_ p => by
  unfold dLt at p
  split at p
  · exact ⟨_, _, rv.intE, rw_.intE, p.fin rl RV.ofBl⟩
  · exact p.elim
theorem o2_le : Op2 cs E K (rI0 fun i j => .bl (decide (i ≤ j))) dLe := fun rho h H x y v w Q rl rv rw_ p => by
  unfold dLe at p
  split at p
  · exact ⟨_, _, rv.intE, rw_.intE, p.fin rl RV.ofBl⟩
  · exact p.elim
theorem o2_gt : Op2 cs E K (rI0 fun i j => .bl (decide (j < i))) dGt := fun rho h H x y v w Q rl rv rw_ p => by
  unfold dGt at p
  split at p
  · exact ⟨_, _, rv.intE, rw_.intE, p.fin rl RV.ofBl⟩
  · exact p.elim
theorem o2_ge : Op2 cs E K (rI0 fun i j => .bl (decide (j ≤ i))) dGe := fun rho h H x y v w Q rl rv rw_ p => by
  unfold dGe at p
  split at p
  · exact ⟨_, _, rv.intE, rw_.intE, p.fin rl RV.ofBl⟩
  · exact p.elim
theorem RV.isN {x : D} {v : V} (r : RV K rho H x v) : decide (v = .non) = x.isN := by
  cases x with
  | non => rw [r.nonE]; rfl
  | bl b => rw [r.blE]; rfl
  | int b => rw [r.intE]; rfl
  | str b => rw [r.strE]; rfl
  | obj n => obtain ⟨a, _, rfl⟩ := r.obj; rfl
  | hld a => rw [show v = .ref a by simpa [RV] using r]; rfl
  | tup n => obtain ⟨a, _, rfl, _⟩ := r.tupE; rfl
theorem o2_is : Op2 cs E K (fun x y H Q => y = .non ∧ Q (.bl (decide (x = .non))) H) dIs := fun rho h H x y v w Q rl rv rw_ p => by
  unfold dIs at p
  split at p
  · refine ⟨rw_.nonE, ?_⟩
    rw [rv.isN]
    exact p.fin rl RV.ofBl
  · exact p.elim
theorem o2_isNot : Op2 cs E K (fun x y H Q => y = .non ∧ Q (.bl (!decide (x = .non))) H) dIsNot := fun rho h H x y v w Q rl rv rw_ p => by
  unfold dIsNot at p
  split at p
  · refine ⟨rw_.nonE, ?_⟩
    rw [rv.isN]
    exact p.fin rl RV.ofBl
  · exact p.elim
theorem items_ok {x : D} {v : V} {xs : List D} (rl : Rel K cs rho h H) (rv : RV K rho H x v) (e : items h x = some xs) : ∃ a vs, v = .ref a ∧ RVs K rho H xs vs ∧ (SqL K H a vs ∨ SqT K H a vs) := by
  unfold items at e
  split at e
  · cases e
    obtain ⟨a, vs, e1, e2, e3⟩ := rv.tupE
    exact ⟨a, vs, e1, e3, Or.inr e2⟩
  · split at e
    · rename_i he
      cases e
      obtain ⟨a, e1, e2, vs, e3, e4⟩ := rl.obj rv he
      exact ⟨a, vs, e1, e4, Or.inl (SqL.of e3)⟩
    · rename_i he
      cases e
      obtain ⟨a, e1, e2, vs, e3, e4⟩ := rl.obj rv he
      exact ⟨a, vs, e1, e4, Or.inl e3.l⟩
    · cases e
  · cases e
theorem atI_RVs {xs : List D} {vs : List V} {i : Int} {d : D} (r : RVs K rho H xs vs) (e : atI xs i = some d) : ∃ v, atI vs i = some v ∧ RV K rho H d v := by
  unfold atI at e ⊢
  rw [r.length]
  cases e1 : ixN xs.length i with
  | none => rw [e1] at e; cases e
  | some j =>
    rw [e1] at e
    exact r.get e
theorem o2_ix : Op2 cs E K (rIx K) dIx := fun rho h H x y v w Q rl rv rw_ p => by
  unfold dIx at p
  split at p
  · rename_i xs i e
    split at p
    · rename_i d e1
      obtain ⟨a, vs, rfl, r, q⟩ := items_ok rl rv e
      obtain ⟨v, e2, r2⟩ := atI_RVs r e1
      rcases q with q | q
      · exact Or.inl ⟨a, vs, i, v, rfl, rw_.intE, q, e2, p.fin rl r2⟩
      · exact Or.inr (Or.inl ⟨a, vs, i, v, rfl, rw_.intE, q, e2, p.fin rl r2⟩)
    · exact p.elim
  · exact p.elim
theorem oN_len : OpN cs E K (fun xs H Q => ∃ x n, xs = [x] ∧ LenV K x H n ∧ Q (.int n) H) dLen := fun rho h H xs vs Q rl rv p => by
  unfold dLen at p
  split at p
  · rename_i x
    split at p
    · rename_i ys e
      obtain ⟨v, rfl, rv1⟩ := rv.one
      obtain ⟨a, ws, rfl, r, q⟩ := items_ok rl rv1 e
      refine ⟨_, ys.length, rfl, ?_, p.fin rl RV.ofInt⟩
      rcases q with q | q
      · exact Or.inl ⟨ws, q, r.length.symm⟩
      · exact Or.inr ⟨ws, q, r.length.symm⟩
    · exact p.elim
  · exact p.elim
theorem oN_max : OpN cs E K (fun xs H Q => ∃ i j, xs = [.int i, .int j] ∧ Q (.int (if j > i then j else i)) H) dMax := fun rho h H xs vs Q rl rv p => by
  unfold dMax at p
  split at p
  · obtain ⟨v, w, rfl, r1, r2⟩ := rv.two
    rw [r1.intE, r2.intE]
    exact ⟨_, _, rfl, p.fin rl RV.ofInt⟩
  · exact p.elim
theorem oN_min : OpN cs E K (fun xs H Q => ∃ i j, xs = [.int i, .int j] ∧ Q (.int (if j < i then j else i)) H) dMin := fun rho h H xs vs Q rl rv p => by
  unfold dMin at p
  split at p
  · obtain ⟨v, w, rfl, r1, r2⟩ := rv.two
    rw [r1.intE, r2.intE]
    exact ⟨_, _, rfl, p.fin rl RV.ofInt⟩
  · exact p.elim
theorem oN_int : OpN cs E K (fun xs H Q => (∃ i, xs = [.int i] ∧ Q (.int i) H) ∨ ∃ k, xs = [.bl k] ∧ Q (.int (if k then 1 else 0)) H) dInt := fun rho h H xs vs Q rl rv p => by
  unfold dInt at p
  split at p
  · obtain ⟨v, rfl, r1⟩ := rv.one
    rw [r1.intE]
    exact Or.inl ⟨_, rfl, p.fin rl RV.ofInt⟩
  · obtain ⟨v, rfl, r1⟩ := rv.one
    rw [r1.blE]
    exact Or.inr ⟨_, rfl, p.fin rl RV.ofInt⟩
  · exact p.elim
theorem o2_add : Op2 cs E K (fun x y H Q => rI0 (fun i j => .int (i + j)) x y H Q ∨ (rCat x y H Q ∨ rCatT K x y H Q)) dAdd := fun rho h H x y v w Q rl rv rw_ p => by
  unfold dAdd at p
  split at p
  · exact Or.inl ⟨_, _, rv.intE, rw_.intE, p.fin rl RV.ofInt⟩
  · rename_i m n
    split at p
    · rename_i xs ys e1 e2
      split at p
      · rename_i hz
        obtain ⟨a, rfl, _, vs, h1, r1⟩ := rl.obj rv e1
        obtain ⟨b, rfl, _, ws, h2, r2⟩ := rl.obj rw_ e2
        refine Or.inr (Or.inl ⟨a, b, vs, ws, rfl, rfl, h1, h2, ?_, p.newL rl (r1.append r2)⟩)
        rw [r1.length, r2.length]; exact hz
      · exact p.elim
    · exact p.elim
  · rename_i x xs ys
    split at p
    · rename_i hz
      obtain ⟨a, vs, rfl, h1, r1⟩ := rv.tupE
      obtain ⟨b, ws, rfl, h2, r2⟩ := rw_.tupE
      refine Or.inr (Or.inr ⟨a, b, vs, ws, rfl, rfl, h1, h2, ?_, ?_, fun e => ?_, fun _ => p.newT rl (r1.append r2)⟩)
      · intro e; subst e; have := r1.length; simp at this
      · rw [r1.length, r2.length]; exact hz
      · subst e
        have e3 : ys = [] := by
          have := r2.length
          exact List.eq_nil_of_length_eq_zero this.symm
        subst e3
        rw [List.append_nil] at p
        exact p.fin rl rv
    · exact p.elim
  · exact p.elim
mutual
theorem py_ok : ∀ (x : D) (v : V) (d : PyData), RV K rho H x v → x.py = some d → Dp K H v d
  | .non, v, d, r, e => by rw [r.nonE]; simp only [D.py] at e; cases e; exact .non
  | .bl b, v, d, r, e => by rw [r.blE]; simp only [D.py] at e; cases e; exact .bl b
  | .int b, v, d, r, e => by rw [r.intE]; simp only [D.py] at e; cases e; exact .int b
  | .str b, v, d, r, e => by rw [r.strE]; simp only [D.py] at e; cases e; exact .str b
  | .obj n, v, d, r, e => by simp only [D.py] at e; cases e
  | .hld n, v, d, r, e => by simp only [D.py] at e; cases e
  | .tup ds, v, d, r, e => by
    obtain ⟨a, vs, rfl, h1, r1⟩ := r.tupE
    simp only [D.py] at e
    cases e1 : pys ds with
    | none => rw [e1] at e; cases e
    | some ps =>
      rw [e1] at e
      cases e
      exact .tup h1 (pys_ok ds vs ps r1 e1)
theorem pys_ok : ∀ (xs : List D) (vs : List V) (ds : List PyData), RVs K rho H xs vs → pys xs = some ds → DpAll K H vs ds
  | [], vs, ds, r, e => by
    simp only [RVs] at r
    simp only [pys] at e
    subst r; cases e
    exact .nil
  | x :: xs, vs, ds, r, e => by
    simp only [RVs] at r
    obtain ⟨v, vs', rfl, r1, r2⟩ := r
    simp only [pys] at e
    split at e
    · rename_i p ps e1 e2
      cases e
      exact .cons (py_ok x v p r1 e1) (pys_ok xs vs' ps r2 e2)
    · cases e
end
theorem pyO_ok {x : D} {v : V} {d : PyData} (rl : Rel K cs rho h H) (rv : RV K rho H x v) (e : pyO h x = some d) : Dp K H v d := by
  unfold pyO at e
  split at e
  · split at e
    · rename_i xs e1
      obtain ⟨a, rfl, _, vs, h1, r1⟩ := rl.obj rv e1
      cases e2 : pys xs with
      | none => rw [e2] at e; cases e
      | some ps =>
        rw [e2] at e; cases e
        exact .lst (SqL.of h1) (pys_ok _ _ _ r1 e2)
    · rename_i xs e1
      obtain ⟨a, rfl, _, vs, h1, r1⟩ := rl.obj rv e1
      cases e2 : pys xs with
      | none => rw [e2] at e; cases e
      | some ps =>
        rw [e2] at e; cases e
        exact .lst h1.l (pys_ok _ _ _ r1 e2)
    · cases e
  · exact py_ok _ _ _ rv e
theorem o2_eq : Op2 cs E K (rEqD K) dEq := fun rho h H x y v w Q rl rv rw_ p => by
  unfold dEq at p
  split at p
  · rename_i d e e1 e2
    split at p
    · rename_i hs
      exact ⟨d, e, pyO_ok rl rv e1, pyO_ok rl rw_ e2, hs.1, hs.2, p.fin rl RV.ofBl⟩
    · exact p.elim
  · exact p.elim
theorem o2_ne : Op2 cs E K (rNeD K) dNe := fun rho h H x y v w Q rl rv rw_ p => by
  unfold dNe at p
  split at p
  · rename_i d e e1 e2
    split at p
    · rename_i hs
      exact ⟨d, e, pyO_ok rl rv e1, pyO_ok rl rw_ e2, hs.1, hs.2, p.fin rl RV.ofBl⟩
    · exact p.elim
  · exact p.elim
theorem flat_ok {x : D} {v : V} (r : RV K rho H x v) (f : x.flat = true) : flatV v = true := by
  cases x with
  | non => rw [r.nonE]; rfl
  | bl b => rw [r.blE]; rfl
  | int b => rw [r.intE]; rfl
  | str b => rw [r.strE]; rfl
  | obj n => simp [D.flat] at f
  | hld n => simp [D.flat] at f
  | tup n => simp [D.flat] at f
theorem eqf_ok {x y : D} {v w : V} (r : RV K rho H x v) (r2 : RV K rho H y w) (f : x.flat = true) (f2 : y.flat = true) : eqV v w = D.eqf x y := by
  cases x <;> first | (simp [D.flat] at f; done) | skip
  all_goals cases y <;> first | (simp [D.flat] at f2; done) | skip
  all_goals first | rw [r.nonE] | rw [r.blE] | rw [r.intE] | rw [r.strE]
  all_goals first | rw [r2.nonE] | rw [r2.blE] | rw [r2.intE] | rw [r2.strE]
  all_goals rfl
theorem flats_ok : ∀ {xs : List D} {vs : List V}, RVs K rho H xs vs → xs.all D.flat = true → vs.all flatV = true
  | [], vs, r, _ => by simp only [RVs] at r; subst r; rfl
  | x :: xs, vs, r, f => by
    simp only [RVs] at r
    obtain ⟨v, vs', rfl, r1, r2⟩ := r
    rw [List.all_cons, Bool.and_eq_true] at f
    rw [List.all_cons, flat_ok r1 f.1, flats_ok r2 f.2]; rfl
theorem in_ok {x : D} {v : V} (r : RV K rho H x v) (f : x.flat = true) : ∀ {xs : List D} {vs : List V}, RVs K rho H xs vs → xs.all D.flat = true → inV v vs = inD x xs
  | [], vs, r, _ => by simp only [RVs] at r; subst r; rfl
  | y :: xs, vs, r2, f2 => by
    simp only [RVs] at r2
    obtain ⟨w, vs', rfl, r3, r4⟩ := r2
    rw [List.all_cons, Bool.and_eq_true] at f2
    have ih := in_ok r f r4 f2.2
    unfold inV inD at ih ⊢
    rw [List.any_cons, List.any_cons, eqf_ok r3 r f2.1 f, ih]
theorem o2_notIn : Op2 cs E K (fun x y H Q => rIn K true x y H Q ∨ rNotInD K x y H Q) dNotIn := fun rho h H x y v w Q rl rv rw_ p => by
  unfold dNotIn at p
  split at p
  · rename_i xs e
    split at p
    · rename_i hf
      obtain ⟨a, vs, rfl, r, q⟩ := items_ok rl rw_ e
      refine Or.inl ⟨a, vs, rfl, q, flat_ok rv hf.1, flats_ok r hf.2, ?_⟩
      have e4 : (if true = true then !inV v vs else inV v vs) = !inD x xs := by rw [if_pos rfl, in_ok rv hf.1 r hf.2]
      rw [e4]
      exact p.fin rl RV.ofBl
    · refine Or.inr ?_
      unfold inDeep at p
      split at p
      · rename_i d ds e1 e2
        split at p
        · rename_i hs
          exact ⟨d, ds, pyO_ok rl rv e1, pyO_ok rl rw_ e2, hs.1, hs.2, p.fin rl RV.ofBl⟩
        · exact p.elim
      · exact p.elim
  · exact p.elim
theorem u65 {k : Nat} {A : Around} (r : L2.Room k A) : A.units + 65 < cLine := by have := r.un; omega
end
end Wm
end
section
namespace Wm
open PySem PySem.Spec L2
def dB : D → Hm → R Bool
  | .bl b, h => .ok b h
  | _, _ => .bad
def asB (f : Env → Hm → R D) : Env → Hm → R Bool := fun env h => (f env h).bind dB
def tAndS (f g : Env → Hm → R Bool) : Env → Hm → R Bool := fun env h => (f env h).bind fun b h1 => match b with
  | true => g env h1
  | false => .ok false h1
def tOrS (f g : Env → Hm → R Bool) : Env → Hm → R Bool := fun env h => (f env h).bind fun b h1 => match b with
  | true => .ok true h1
  | false => g env h1
def tNotS (f : Env → Hm → R Bool) : Env → Hm → R Bool := fun env h => (f env h).bind fun b h1 => .ok (!b) h1
def eIf (t : Env → Hm → R Bool) (f g : Env → Hm → R D) : Env → Hm → R D := fun env h => (t env h).bind fun b h1 => match b with
  | true => f env h1
  | false => g env h1
def eAnd (f g : Env → Hm → R D) : Env → Hm → R D := fun env h => (f env h).bind fun d h1 => match d with
  | .bl true => g env h1
  | .bl false => .ok (.bl false) h1
  | _ => .bad
def eOr (f g : Env → Hm → R D) : Env → Hm → R D := fun env h => (f env h).bind fun d h1 => match d with
  | .bl true => .ok (.bl true) h1
  | .bl false => g env h1
  | _ => .bad
def eNot (f : Env → Hm → R D) : Env → Hm → R D := fun env h => (f env h).bind fun d h1 => match d with
  | .bl b => .ok (.bl (!b)) h1
  | _ => .bad
def dTruth : D → Hm → R Bool
  | .non, h => .ok false h
  | .bl b, h => .ok b h
  | .int i, h => .ok (i != 0) h
  | .tup xs, h => .ok (!xs.isEmpty) h
  | .obj n, h => match h[n]? with
    | some (.lst xs) => .ok (!xs.isEmpty) h
    | some (.scr xs) => .ok (!xs.isEmpty) h
    | _ => .bad
  | _, _ => .bad
def tTruth (f : Env → Hm → R D) : Env → Hm → R Bool := fun env h => (f env h).bind dTruth
def eChain (f f' : D → D → Hm → R D) (a b c : Env → Hm → R D) : Env → Hm → R D := fun env h => (a env h).bind fun x h1 => (b env h1).bind fun y h2 => (f x y h2).bind fun k h3 => match k with
  | .bl true => (c env h3).bind fun z h4 => f' y z h4
  | .bl false => .ok (.bl false) h3
  | _ => .bad
def eTup (f : Env → Hm → R (List D)) : Env → Hm → R D := fun env h => (f env h).bind fun xs h1 => if szOk xs.length then .ok (.tup xs) h1 else .bad
def eLst (f : Env → Hm → R (List D)) : Env → Hm → R D := fun env h => (f env h).bind fun xs h1 => if szOk xs.length then new (.lst xs) h1 else .bad
abbrev OSem := Env → Hm → R (Option Int)
def oNo : OSem := fun _ h => .ok none h
def oSome (f : Env → Hm → R D) : OSem := fun env h => (f env h).bind fun d h1 => match d with
  | .int i => .ok (some i) h1
  | _ => .bad
def cutD (xs : List D) (lo hi : Option Int) : List D := (xs.drop (HT.sIx xs.length 0 lo)).take (HT.sIx xs.length xs.length hi - HT.sIx xs.length 0 lo)
def dSlice (x : D) (lo hi : Option Int) (h : Hm) : R D := match x with
  | .tup xs => if HT.sIx xs.length 0 lo = 0 ∧ HT.sIx xs.length xs.length hi = xs.length then .bad else .ok (.tup (cutD xs lo hi)) h
  | .obj n => match h[n]? with
    | some (.lst xs) => new (.lst (cutD xs lo hi)) h
    | some (.scr xs) => new (.lst (cutD xs lo hi)) h
    | _ => .bad
  | _ => .bad
def eSlice (f : Env → Hm → R D) (lo hi : OSem) : Env → Hm → R D := fun env h => (f env h).bind fun x h1 => (lo env h1).bind fun l h2 => (hi env h2).bind fun u h3 => dSlice x l u h3
def dFld (c i : Nat) : D → Hm → R D := fun x h => match x with
  | .obj n => match h[n]? with
    | some (.ins c' fs) => if c' = c then match fs[i]? with
      | some d => .ok d h
      | none => .bad
      else .bad
    | _ => .bad
  | _ => .bad
def eBits (f : Env → Hm → R D) : Env → Hm → R D := fun env h => (f env h).bind fun d h1 => match d with
  | .int i => .ok (.int (bitsN i)) h1
  | _ => .bad
section
variable {cs : Cs} {X : Cx} {E : XK} {a b c : Expr} {pos : Pos} {fa fb fc : Env → Hm → R D} {es : List Expr} {fs : Env → Hm → R (List D)} {ft fu : Env → Hm → R Bool}
theorem R.bind_assoc {α β γ : Type} (r : R α) (f : α → Hm → R β) (g : β → Hm → R γ) : (r.bind f).bind g = r.bind fun x h => (f x h).bind g := by cases r <;> rfl
theorem asB_ok {K : PySem.W.Frag} {rho : List Addr} {h : Hm} {H : Hp} {x : D} {v : V} {Q : Bool → Hp → Prop} (rl : Rel K cs rho h H) (rv : RV K rho H x v) (p : Post K cs relB rho H (dB x h) Q E) : ∃ k, v = .bl k ∧ Q k H := by
  cases x <;> first | exact p.elim | skip
  rename_i b
  exact ⟨b, rv.blE, p.fin rl rfl⟩
theorem st_cmp {op : CmpOp} {r : R2} {f : D → D → Hm → R D} (ho : OpR X (compareOp op) r) (hs : Op2 cs E X.K r f) (ha : SE cs X E a fa) (hb : SE cs X E b fb) (hm : behindInMarks op b = false) : ST cs X E (.Compare a [op] [b] pos) (asB (e2 f fa fb)) := by
  obtain ⟨ta, pa, qa⟩ := ha.ex
  obtain ⟨tb, pb, qb⟩ := hb.ex
  refine ⟨_, pt_cmpR ho pa pb hm, fun rho h H env σ Q rl rs p => ?_⟩
  unfold asB e2 at p
  rw [R.bind_assoc] at p
  refine qa _ _ _ _ _ _ rl rs (Post.bind p fun x h1 v r1 H1 s1 rl1 rv p1 => ?_)
  rw [R.bind_assoc] at p1
  refine qb _ _ _ _ _ _ rl1 (rs.mono s1) (Post.bind p1 fun y h2 w r2 H2 s2 rl2 rw_ p2 => ?_)
  exact hs _ _ _ _ _ _ _ _ rl2 (RV.mono s2 _ _ rv) rw_ (Post.bind p2 fun k h3 u r3 H3 s3 rl3 ru p3 => asB_ok rl3 ru p3)
theorem st_val {f : Env → Hm → R D} (h : SE cs X E a f) (he : ∀ whole, isTrue a X.env whole = (do let v ← whole; standAt a.pos; holding [v] (truthy v)) := by intro _; rfl) : ST cs X E a (asB f) := by
  obtain ⟨ta, pa, qa⟩ := h.ex
  exact ⟨_, pt_val pa he, fun rho h H env σ Q rl rs p => qa _ _ _ _ _ _ rl rs (Post.bind p fun x h1 v r1 H1 s1 rl1 rv p1 => asB_ok rl1 rv p1)⟩
theorem st_truth {f : Env → Hm → R D} (h : SE cs X E a f) (he : ∀ whole, isTrue a X.env whole = (do let v ← whole; standAt a.pos; holding [v] (truthy v)) := by intro _; rfl) : ST cs X E a (tTruth f) := by
  obtain ⟨ta, pa, qa⟩ := h.ex
  refine ⟨_, pt_truth pa he, fun rho h H env σ Q rl rs p => qa _ _ _ _ _ _ rl rs (Post.bind p fun x h1 v r1 H1 s1 rl1 rv p1 => ?_)⟩
  unfold dTruth at p1
  split at p1
  · rw [rv.nonE]; exact ⟨_, rfl, p1.fin rl1 rfl⟩
  · rw [rv.blE]; exact ⟨_, rfl, p1.fin rl1 rfl⟩
  · rw [rv.intE]; exact ⟨_, rfl, p1.fin rl1 rfl⟩
  · rename_i xs
    obtain ⟨a, vs, rfl, e2, e3⟩ := rv.tupE
    have e : (!vs.isEmpty) = !xs.isEmpty := by
      have := e3.length
      cases vs <;> cases xs <;> simp_all
    exact ⟨_, Or.inr (Or.inl ⟨vs, e2, e.symm⟩), p1.fin rl1 rfl⟩
  · split at p1
    · rename_i xs e1
      obtain ⟨a, rfl, _, vs, h1, r1⟩ := rl1.obj rv e1
      have e : (!vs.isEmpty) = !xs.isEmpty := by
        have := r1.length
        cases vs <;> cases xs <;> simp_all
      exact ⟨_, Or.inl ⟨vs, SqL.of h1, e.symm⟩, p1.fin rl1 rfl⟩
    · rename_i xs e1
      obtain ⟨a, rfl, _, vs, h1, r1⟩ := rl1.obj rv e1
      have e : (!vs.isEmpty) = !xs.isEmpty := by
        have := r1.length
        cases vs <;> cases xs <;> simp_all
      exact ⟨_, Or.inl ⟨vs, h1.l, e.symm⟩, p1.fin rl1 rfl⟩
    · exact p1.elim
  · exact p1.elim
theorem SW.st (h : SW cs X E a ft) : ST cs X E a ft := by
  obtain ⟨t, p, q⟩ := h.ex
  exact ⟨t, p.pt, q⟩
theorem sw_and1 (ha : ST cs X E a ft) : SW cs X E (.BoolOp .And [a] pos) ft := by
  obtain ⟨t, p, q⟩ := ha.ex
  exact ⟨t, pw_and1 p, q⟩
theorem sw_or1 (ha : ST cs X E a ft) : SW cs X E (.BoolOp .Or [a] pos) ft := by
  obtain ⟨t, p, q⟩ := ha.ex
  exact ⟨t, pw_or1 p, q⟩
theorem sw_and {rest : List Expr} (ha : ST cs X E a ft) (hb : SW cs X E (.BoolOp .And (b :: rest) pos) fu) : SW cs X E (.BoolOp .And (a :: b :: rest) pos) (tAndS ft fu) := by
  obtain ⟨t, p, q⟩ := ha.ex
  obtain ⟨t2, p2, q2⟩ := hb.ex
  refine ⟨_, pw_and p p2, fun rho h H env σ Q rl rs pp => q _ _ _ _ _ _ rl rs (Post.bind pp fun x h1 v r1 H1 s1 rl1 rv p1 => ?_)⟩
  have rv' : x = v := rv
  subst rv'
  cases x with
  | true => exact iteT (q2 _ _ _ _ _ _ rl1 (rs.mono s1) p1)
  | false => exact iteF (p1.fin rl1 rfl)
theorem sw_or {rest : List Expr} (ha : ST cs X E a ft) (hb : SW cs X E (.BoolOp .Or (b :: rest) pos) fu) : SW cs X E (.BoolOp .Or (a :: b :: rest) pos) (tOrS ft fu) := by
  obtain ⟨t, p, q⟩ := ha.ex
  obtain ⟨t2, p2, q2⟩ := hb.ex
  refine ⟨_, pw_or p p2, fun rho h H env σ Q rl rs pp => q _ _ _ _ _ _ rl rs (Post.bind pp fun x h1 v r1 H1 s1 rl1 rv p1 => ?_)⟩
  have rv' : x = v := rv
  subst rv'
  cases x with
  | true => exact iteT (p1.fin rl1 rfl)
  | false => exact iteF (q2 _ _ _ _ _ _ rl1 (rs.mono s1) p1)
theorem st_not (ha : ST cs X E a ft) : ST cs X E (.UnaryOp .Not a pos) (tNotS ft) := by
  obtain ⟨t, p, q⟩ := ha.ex
  refine ⟨_, pt_not p, fun rho h H env σ Q rl rs pp => q _ _ _ _ _ _ rl rs (Post.bind pp fun x h1 v r1 H1 s1 rl1 rv p1 => ?_)⟩
  have rv' : x = v := rv
  subst rv'
  exact p1.fin rl1 rfl
theorem se_if (hc : ST cs X E c ft) (ha : SE cs X E a fa) (hb : SE cs X E b fb) : SE cs X E (.IfExp c a b pos) (eIf ft fa fb) := by
  obtain ⟨t, p, q⟩ := hc.ex
  obtain ⟨ta, pa, qa⟩ := ha.ex
  obtain ⟨tb, pb, qb⟩ := hb.ex
  refine ⟨_, pe_ifExp p pa pb, fun rho h H env σ Q rl rs pp => q _ _ _ _ _ _ rl rs (Post.bind pp fun x h1 v r1 H1 s1 rl1 rv p1 => ?_)⟩
  have rv' : x = v := rv
  subst rv'
  cases x with
  | true => exact iteT (qa _ _ _ _ _ _ rl1 (rs.mono s1) p1)
  | false => exact iteF (qb _ _ _ _ _ _ rl1 (rs.mono s1) p1)
theorem se_one {op} (h : SE cs X E a fa) : SE cs X E (.BoolOp op [a] pos) fa := by
  obtain ⟨t, p, q⟩ := h.ex
  exact ⟨t, pe_one p, q⟩
theorem se_and {rest : List Expr} (ha : SE cs X E a fa) (hb : SE cs X E (.BoolOp .And (b :: rest) pos) fb) : SE cs X E (.BoolOp .And (a :: b :: rest) pos) (eAnd fa fb) := by
  obtain ⟨ta, pa, qa⟩ := ha.ex
  obtain ⟨tb, pb, qb⟩ := hb.ex
  refine ⟨_, pe_and pa pb, fun rho h H env σ Q rl rs pp => qa _ _ _ _ _ _ rl rs (Post.bind pp fun x h1 v r1 H1 s1 rl1 rv p1 => ?_)⟩
  split at p1
  · exact ⟨true, rv.blE, iteT (qb _ _ _ _ _ _ rl1 (rs.mono s1) p1)⟩
  · exact ⟨false, rv.blE, iteF (p1.fin rl1 RV.ofBl)⟩
  · exact p1.elim
theorem se_not (ha : SE cs X E a fa) : SE cs X E (.UnaryOp .Not a pos) (eNot fa) := by
  obtain ⟨ta, pa, qa⟩ := ha.ex
  refine ⟨_, pe_not pa, fun rho h H env σ Q rl rs pp => qa _ _ _ _ _ _ rl rs (Post.bind pp fun x h1 v r1 H1 s1 rl1 rv p1 => ?_)⟩
  split at p1
  · exact ⟨_, rv.blE, p1.fin rl1 RV.ofBl⟩
  · exact p1.elim
theorem se_chain {op op' : CmpOp} {r r' : R2} {f f' : D → D → Hm → R D} (ho : OpR X (compareOp op) r) (hs : Op2 cs E X.K r f) (ho' : OpR X (compareOp op') r') (hs' : Op2 cs E X.K r' f') (ha : SE cs X E a fa) (hb : SE cs X E b fb) (hc : SE cs X E c fc)
    (hm : lastMarks [op, op'] [b, c] = false := by with_unfolding_all rfl) : SE cs X E (.Compare a [op, op'] [b, c] pos) (eChain f f' fa fb fc) := by
  obtain ⟨ta, pa, qa⟩ := ha.ex
  obtain ⟨tb, pb, qb⟩ := hb.ex
  obtain ⟨tc, pc, qc⟩ := hc.ex
  refine ⟨_, pe_chain ho ho' pa pb pc hm, fun rho h H env σ Q rl rs p => qa _ _ _ _ _ _ rl rs (Post.bind p fun x h1 v r1 H1 s1 rl1 rv p1 => qb _ _ _ _ _ _ rl1 (rs.mono s1) (Post.bind p1 fun y h2 w r2 H2 s2 rl2 rw_ p2 =>
    hs _ _ _ _ _ _ _ _ rl2 (RV.mono s2 _ _ rv) rw_ (Post.bind p2 fun k h3 u r3 H3 s3 rl3 ru p3 => ?_)))⟩
  split at p3
  · exact ⟨true, ru.blE, iteT (qc _ _ _ _ _ _ rl3 (rs.mono ((s1.trans s2).trans s3)) (Post.bind p3 fun z h4 u4 r4 H4 s4 rl4 rv4 p4 => hs' _ _ _ _ _ _ _ _ rl4 (RV.mono (s3.trans s4) _ _ rw_) rv4 p4))⟩
  · exact ⟨false, ru.blE, iteF (p3.fin rl3 RV.ofBl)⟩
  · exact p3.elim
theorem st_chain {op op' : CmpOp} {r r' : R2} {f f' : D → D → Hm → R D} (ho : OpR X (compareOp op) r) (hs : Op2 cs E X.K r f) (ho' : OpR X (compareOp op') r') (hs' : Op2 cs E X.K r' f') (ha : SE cs X E a fa) (hb : SE cs X E b fb) (hc : SE cs X E c fc)
    (hm : lastMarks [op, op'] [b, c] = false := by with_unfolding_all rfl) : ST cs X E (.Compare a [op, op'] [b, c] pos) (asB (eChain f f' fa fb fc)) := by
  obtain ⟨ta, pa, qa⟩ := ha.ex
  obtain ⟨tb, pb, qb⟩ := hb.ex
  obtain ⟨tc, pc, qc⟩ := hc.ex
  refine ⟨_, pt_chain ho ho' pa pb pc hm, fun rho h H env σ Q rl rs p => ?_⟩
  unfold asB eChain at p
  rw [R.bind_assoc] at p
  refine qa _ _ _ _ _ _ rl rs (Post.bind p fun x h1 v r1 H1 s1 rl1 rv p1 => ?_)
  rw [R.bind_assoc] at p1
  refine qb _ _ _ _ _ _ rl1 (rs.mono s1) (Post.bind p1 fun y h2 w r2 H2 s2 rl2 rw_ p2 => ?_)
  rw [R.bind_assoc] at p2
  refine hs _ _ _ _ _ _ _ _ rl2 (RV.mono s2 _ _ rv) rw_ (Post.bind p2 fun k h3 u r3 H3 s3 rl3 ru p3 => ?_)
  split at p3
  · rw [R.bind_assoc] at p3
    exact ⟨true, ru.blE, iteT (qc _ _ _ _ _ _ rl3 (rs.mono ((s1.trans s2).trans s3)) (Post.bind p3 fun z h4 u4 r4 H4 s4 rl4 rv4 p4 => hs' _ _ _ _ _ _ _ _ rl4 (RV.mono (s3.trans s4) _ _ rw_) rv4 (Post.bind p4 fun z5 h5 v5 r5 H5 s5 rl5 rv5 p5 => asB_ok rl5 rv5 p5)))⟩
  · exact ⟨false, ru.blE, iteF ⟨false, rfl, p3.fin rl3 rfl⟩⟩
  · exact p3.elim
theorem se_tup {x1} (h : SA cs X E es fs) : SE cs X E (.Tuple es x1 pos) (eTup fs) := by
  obtain ⟨t, p, q⟩ := h.ex
  refine ⟨_, pe_tup p, fun rho h H env σ Q rl rs pp => q _ _ _ _ _ _ rl rs (Post.bind pp fun x h1 v r1 H1 s1 rl1 rv p1 => ?_)⟩
  split at p1
  · rename_i hz
    exact ⟨by rw [rv.length]; exact hz, p1.newT rl1 rv⟩
  · exact p1.elim
theorem se_lst (h : SA cs X E es fs) : SE cs X E (.List es pos) (eLst fs) := by
  obtain ⟨t, p, q⟩ := h.ex
  refine ⟨_, pe_lst p, fun rho h H env σ Q rl rs pp => q _ _ _ _ _ _ rl rs (Post.bind pp fun x h1 v r1 H1 s1 rl1 rv p1 => ?_)⟩
  split at p1
  · rename_i hz
    exact ⟨by rw [rv.length]; exact hz, p1.newL rl1 rv⟩
  · exact p1.elim
variable (cs X E) in
structure SO (e : Option Expr) (f : OSem) : Prop where
  ex : ∃ t : TO, PO X e t ∧ ∀ rho h H env σ (Q : Option Int → Hp → Prop), Rel X.K cs rho h H → RS X.K rho H env σ → Post X.K cs (fun _ _ a b => a = b) rho H (f env h) Q E → t σ H Q
theorem so_some (h : SE cs X E a fa) : SO cs X E (some a) (oSome fa) := by
  obtain ⟨ta, pa, qa⟩ := h.ex
  refine ⟨_, po_some pa, fun rho h H env σ Q rl rs p => qa _ _ _ _ _ _ rl rs (Post.bind p fun x h1 v r1 H1 s1 rl1 rv p1 => ?_)⟩
  split at p1
  · exact ⟨_, rv.intE, p1.fin rl1 rfl⟩
  · exact p1.elim
theorem cut_RVs {K : PySem.W.Frag} {rho : List Addr} {H : Hp} {xs : List D} {vs : List V} (lo hi : Option Int) (r : RVs K rho H xs vs) : RVs K rho H (cutD xs lo hi) (cutV vs lo hi) := by
  unfold cutD cutV
  rw [r.length]
  exact RVs.take _ (RVs.drop _ r)
theorem se_slice {lo hi : Option Expr} {fl fh : OSem} {p2 : Pos} (ha : SE cs X E a fa) (hl : SO cs X E lo fl) (hh : SO cs X E hi fh) : SE cs X E (.Subscript a (.Slice lo hi none p2) pos) (eSlice fa fl fh) := by
  obtain ⟨ta, pa, qa⟩ := ha.ex
  obtain ⟨tl, pl, ql⟩ := hl.ex
  obtain ⟨th, ph, qh⟩ := hh.ex
  refine ⟨_, pe_slice (SlR.or sl_list sl_tup) pa pl ph, fun rho h H env σ Q rl rs p => qa _ _ _ _ _ _ rl rs (Post.bind p fun x h1 v r1 H1 s1 rl1 rv p1 => ql _ _ _ _ _ _ rl1 (rs.mono s1) (Post.bind p1 fun l h2 w r2 H2 s2 rl2 rw_ p2 =>
    qh _ _ _ _ _ _ rl2 (rs.mono (s1.trans s2)) (Post.bind p2 fun u h3 w3 r3 H3 s3 rl3 rw3 p3 => ?_)))⟩
  have e1 : l = w := rw_
  have e2 : u = w3 := rw3
  subst e1; subst e2
  have rv3 := RV.mono (s2.trans s3) _ _ rv
  unfold dSlice at p3
  split at p3
  · split at p3
    · exact p3.elim
    · rename_i hw
      obtain ⟨a, vs, rfl, e2, e3⟩ := rv3.tupE
      refine Or.inr ⟨a, vs, rfl, e2, ?_, p3.newT rl3 (cut_RVs _ _ e3)⟩
      rw [e3.length]; exact hw
  · split at p3
    · rename_i xs e1
      obtain ⟨a, rfl, _, vs, h1, r1⟩ := rl3.obj rv3 e1
      exact Or.inl ⟨a, vs, rfl, SqL.of h1, p3.newL rl3 (cut_RVs _ _ r1)⟩
    · rename_i xs e1
      obtain ⟨a, rfl, _, vs, h1, r1⟩ := rl3.obj rv3 e1
      exact Or.inl ⟨a, vs, rfl, h1.l, p3.newL rl3 (cut_RVs _ _ r1)⟩
    · exact p3.elim
  · exact p3.elim
theorem lookup_zip {n : Str} : ∀ {ns : List Str} {vs : List V} {i : Nat} {v : V}, ns.Nodup → ns[i]? = some n → vs[i]? = some v → (ns.zip vs).lookup n = some v
  | [], _, _, _, _, h, _ => by simp at h
  | m :: ns, [], _, _, _, _, h => by simp at h
  | m :: ns, w :: vs, i, v, nd, h1, h2 => by
    rw [List.nodup_cons] at nd
    rw [List.zip_cons_cons, List.lookup_cons]
    cases i with
    | zero => simp at h1 h2; subst h1; subst h2; simp
    | succ i =>
      simp only [List.getElem?_cons_succ] at h1 h2
      have hne : (n == m) = false := by
        rw [beq_eq_false_iff_ne]
        intro e; subst e
        exact nd.1 (List.mem_of_getElem? h1)
      rw [hne]
      exact lookup_zip nd.2 h1 h2
theorem lookup_zip_none {n : Str} : ∀ {ns : List Str} {vs : List V}, n ∉ ns → (ns.zip vs).lookup n = none
  | [], _, _ => rfl
  | m :: ns, [], _ => rfl
  | m :: ns, w :: vs, h => by
    rw [List.zip_cons_cons, List.lookup_cons]
    have hne : (n == m) = false := by
      rw [beq_eq_false_iff_ne]
      intro e; subst e
      exact h List.mem_cons_self
    rw [hne]
    exact lookup_zip_none fun z => h (List.mem_cons_of_mem _ z)
structure FldOk (cs : Cs) (K : PySem.W.Frag) (c i : Nat) (f : Str) : Prop where
  cl : Cls K (cs.ad c)
  na : NoAttr K (cs.ad c) f
  nd : (cs.nm c).Nodup
  ix : (cs.nm c)[i]? = some f
  sz : (cs.nm c).length < 1000
theorem se_fld {ci i : Nat} {f : Str} (F : FldOk cs X.K ci i f) (ha : SE cs X E a fa) (hb : attributeBase a f X.env (eval a X.env) = eval a X.env := by rfl) : SE cs X E (.Attribute a f pos) (e1 (dFld ci i) fa) := by
  obtain ⟨ta, pa, qa⟩ := ha.ex
  refine ⟨_, pe_fld pa hb, fun rho h H env σ Q rl rs p => qa _ _ _ _ _ _ rl rs (Post.bind p fun x h1 v r1 H1 s1 rl1 rv p1 => ?_)⟩
  unfold dFld at p1
  split at p1
  · split at p1
    · rename_i c' fs e1
      split at p1
      · rename_i hc
        subst hc
        split at p1
        · rename_i d e3
          obtain ⟨a, rfl, _, dx, vs, h1, hl, r1⟩ := rl1.obj rv e1
          obtain ⟨v, e4, r4⟩ := r1.get e3
          exact ⟨a, _, dx, _, v, rfl, h1, F.cl, F.na, lookup_zip F.nd F.ix e4, p1.fin rl1 r4⟩
        · exact p1.elim
      · exact p1.elim
    · exact p1.elim
  · exact p1.elim
theorem se_bits {apos : Pos} (ha : SE cs X E a fa) (hbase : attributeBase a "bit_length" X.env (eval a X.env) = eval a X.env := by rfl) (hline : (apos.endLine == pos.line) = true := by rfl) : SE cs X E (.Call (.Attribute a "bit_length" apos) [] [] pos) (eBits fa) := by
  obtain ⟨ta, pa, qa⟩ := ha.ex
  refine ⟨_, pe_bits pa hbase hline, fun rho h H env σ Q rl rs p => qa _ _ _ _ _ _ rl rs (Post.bind p fun x h1 v r1 H1 s1 rl1 rv p1 => ?_)⟩
  split at p1
  · exact ⟨_, rv.intE, p1.fin rl1 RV.ofInt⟩
  · exact p1.elim
theorem se_callTy {x : Str} {p : Pos} {T : String} {r : List V → Hp → VK → Prop} {f : List D → Hm → R D} (hc : CallR X (.type T) r) (hs : OpN cs E X.K r f) (hg : Gl X x) (hm : X.mg x = none) (hv : bootBuiltins x = some (.type T)) (ha : SA cs X E (a :: es) fs)
    (hn : x ≠ "__name__" := by decide) (hdb : (x == ("__debug__" : Str)) = false := by decide) (h1 : starEach (a :: es) X.env = (false, eval a X.env) :: starEach es X.env := by rfl) (h2 : (backTo pos (starEach es X.env)).any (·.1) = false := by rfl) : SE cs X E (.Call (.Name x p) (a :: es) [] pos) (eN f fs) := by
  obtain ⟨ta, pa, qa⟩ := ha.ex
  exact ⟨_, pe_callTy hc hg hm hv pa hn hdb h1 h2, fun rho h H env σ Q rl rs p => qa _ _ _ _ _ _ rl rs (Post.bind p fun x h1 v r1 H1 s1 rl1 rv p1 => hs _ _ _ _ _ _ rl1 rv p1)⟩
end
end Wm
end
section
namespace Wm
open PySem PySem.Spec L2
def gN (i : Nat) : D → Env → Option Env := fun d env => some (env.set i (some d))
def gAll : List (D → Env → Option Env) → List D → Env → Option Env
  | [], [], env => some env
  | g :: gs, d :: ds, env => (g d env).bind (gAll gs ds)
  | _, _, _ => none
def gT (gs : List (D → Env → Option Env)) : D → Env → Option Env := fun d env => match d with
  | .tup ds => gAll gs ds env
  | _ => none
section
variable (cs : Cs) (X : Cx) (E : XK)
structure SG (tg : Expr) (g : D → Env → Option Env) : Prop where
  ex : ∃ t : TG, PG X tg t ∧ ∀ rho h H env σ d v env' (N : L2.St → Hp → Prop), Rel X.K cs rho h H → RS X.K rho H env σ → RV X.K rho H d v → g d env = some env' → (∀ σ', RS X.K rho H env' σ' → N σ' H) → t v σ H N
structure SGs (tgs : List Expr) (gs : List (D → Env → Option Env)) : Prop where
  ex : ∃ t : TGs, PGs X tgs t ∧ tgs.length = gs.length ∧ ∀ rho h H env σ ds vs env' (N : L2.St → Hp → Prop), Rel X.K cs rho h H → RS X.K rho H env σ → RVs X.K rho H ds vs → gAll gs ds env = some env' → (∀ σ', RS X.K rho H env' σ' → N σ' H) → t vs σ H N
end
section
variable {cs : Cs} {X : Cx} {E : XK} {a b c : Expr} {pos : Pos} {fa fb fc : Env → Hm → R D} {es : List Expr} {fs : Env → Hm → R (List D)} {ft fu : Env → Hm → R Bool}
theorem sg_name {i : Nat} {x : Str} (hN : X.N.Nodup) (hi : X.N[i]? = some x) (hx : Loc X.env.scope x) (hf : X.fn x = true ∨ X.env.scope.names.lookup x = some .local := by first | exact .inl rfl | exact .inr rfl | assumption) : SG cs X (.Name x pos) (gN i) :=
  ⟨_, pg_name hN hi hx hf, fun rho h H env σ d v env' N rl rs rv e k => by
    simp only [gN] at e; cases e
    exact k _ (rs.set rv)⟩
theorem sgs_nil : SGs cs X [] [] := ⟨_, pgs_nil, rfl, fun rho h H env σ ds vs env' N rl rs rv e k => by
  cases ds with
  | nil =>
    simp only [gAll] at e; cases e
    simp only [RVs] at rv; subst rv
    exact ⟨rfl, k _ rs⟩
  | cons d ds => simp only [gAll] at e; cases e⟩
theorem sgs_cons {g : D → Env → Option Env} {gs : List (D → Env → Option Env)} (h1 : SG cs X a g) (h2 : SGs cs X es gs) (hs : (assignEach (a :: es) X.env).map (·.2) = assign a X.env :: (assignEach es X.env).map (·.2) := by rfl) : SGs cs X (a :: es) (g :: gs) := by
  obtain ⟨t, p, q⟩ := h1.ex
  obtain ⟨t2, p2, l2, q2⟩ := h2.ex
  refine ⟨_, pgs_cons p p2 hs, by simp [l2], fun rho h H env σ ds vs env' N rl rs rv e k => ?_⟩
  cases ds with
  | nil => simp only [gAll] at e; cases e
  | cons d ds =>
    simp only [RVs] at rv
    obtain ⟨v, vs', rfl, r1, r2⟩ := rv
    simp only [gAll] at e
    cases e1 : g d env with
    | none => rw [e1] at e; cases e
    | some env1 =>
      rw [e1] at e
      exact ⟨v, vs', rfl, q _ _ _ _ _ _ _ _ _ rl rs r1 e1 fun σ1 rs1 => q2 _ _ _ _ _ _ _ _ _ rl rs1 r2 e k⟩
theorem gAll_len : ∀ {gs : List (D → Env → Option Env)} {ds : List D} {env env' : Env}, gAll gs ds env = some env' → ds.length = gs.length
  | [], [], _, _, _ => rfl
  | [], _ :: _, _, _, e => by simp only [gAll] at e; cases e
  | _ :: _, [], _, _, e => by simp only [gAll] at e; cases e
  | g :: gs, d :: ds, env, env', e => by
    simp only [gAll] at e
    cases e1 : g d env with
    | none => rw [e1] at e; cases e
    | some env1 => rw [e1] at e; simp [gAll_len (show gAll gs ds env1 = some env' from e)]
theorem sg_tup {gs : List (D → Env → Option Env)} {k : Nat} (hc : X.calm = true) (h : SGs cs X es gs) (hn : (assignEach es X.env).length = gs.length := by rfl) (hst : (assignEach es X.env).findIdx? (·.1) = none := by rfl) : SG cs X (.Tuple es k pos) (gT gs) := by
  obtain ⟨t, p, l, q⟩ := h.ex
  refine ⟨_, pg_tup hc p hn hst, fun rho h H env σ d v env' N rl rs rv e k => ?_⟩
  cases d <;> first | (simp only [gT] at e; cases e; done) | skip
  rename_i ds
  simp only [gT] at e
  obtain ⟨a, vs, rfl, e2, e3⟩ := rv.tupE
  exact ⟨a, vs, rfl, e2, by rw [e3.length]; exact gAll_len e, q _ _ _ _ _ _ _ _ _ rl rs e3 e k⟩
def sAsg (g : D → Env → Option Env) (f : Env → Hm → R D) : Env → Hm → O := fun env h => (f env h).bindO fun d h1 => match g d env with
  | some env' => .nx env' h1
  | none => .bad
def sSet (i : Nat) (f : Env → Hm → R D) : Env → Hm → O := fun env h => (f env h).bindO fun d h1 => .nx (env.set i (some d)) h1
def sDrop (f : Env → Hm → R D) : Env → Hm → O := fun env h => (f env h).bindO fun _ h1 => .nx env h1
def sRet (f : Env → Hm → R D) : Env → Hm → O := fun env h => (f env h).bindO fun d h1 => .rt d h1
def sRetN : Env → Hm → O := fun _ h => .rt .non h
def sPass : Env → Hm → O := fun env h => .nx env h
def sBrk : Env → Hm → O := fun env h => .bk env h
def sCnt : Env → Hm → O := fun env h => .ct env h
def sBad : Env → Hm → O := fun _ _ => .bad
def sIf (t : Env → Hm → R Bool) (f g : Env → Hm → O) : Env → Hm → O := fun env h => (t env h).bindO fun b h1 => match b with
  | true => f env h1
  | false => g env h1
def sSeq (f g : Env → Hm → O) : Env → Hm → O := fun env h => (f env h).seq g
def sPar (i j : Nat) (f g : Env → Hm → R D) : Env → Hm → O := fun env h => (f env h).bindO fun x h1 => (g env h1).bindO fun y h2 => .nx ((env.set i (some x)).set j (some y)) h2
def dSetIx (o k v : D) (h : Hm) : Option Hm := match o, k with
  | .obj n, .int i => match h[n]? with
    | some (.lst xs) => (ixN xs.length i).map fun j => h.set n (.lst (xs.set j v))
    | _ => none
  | _, _ => none
def sSub (f fo fi : Env → Hm → R D) : Env → Hm → O := fun env h => (f env h).bindO fun v h1 => (fo env h1).bindO fun o h2 => (fi env h2).bindO fun k h3 => match dSetIx o k v h3 with
  | some h4 => .nx env h4
  | none => .bad
def dSetF (c i : Nat) (o v : D) (h : Hm) : Option Hm := match o with
  | .obj n => match h[n]? with
    | some (.ins c' fs) => if c' = c then (if i < fs.length then some (h.set n (.ins c (fs.set i v))) else if i = fs.length then some (h.set n (.ins c (fs ++ [v]))) else none) else none
    | _ => none
  | _ => none
def sFldS (c i : Nat) (fo f : Env → Hm → R D) : Env → Hm → O := fun env h => (f env h).bindO fun v h1 => (fo env h1).bindO fun o h2 => match dSetF c i o v h2 with
  | some h3 => .nx env h3
  | none => .bad
def isL : D → Hm → Bool
  | .obj n, h => match h[n]? with
    | some (.lst _) => true
    | some (.scr _) => true
    | _ => false
  | _, _ => false
def eLM (f : D → List D → Hm → R D) (fo : Env → Hm → R D) (fa : Env → Hm → R (List D)) : Env → Hm → R D := fun env h => (fo env h).bind fun o h1 => if isL o h1 = true then (fa env h1).bind fun xs h2 => f o xs h2 else .bad
def dApp : D → List D → Hm → R D
  | .obj n, [v], h => match h[n]? with
    | some (.lst xs) => if xs.length < sizeLine then .ok .non (h.set n (.lst (xs ++ [v]))) else .bad
    | _ => .bad
  | _, _, _ => .bad
theorem ss_set {i : Nat} {x : Str} {pos' : Pos} (hN : X.N.Nodup) (hi : X.N[i]? = some x) (hx : Loc X.env.scope x) (ha : SE cs X E a fa) (hs : swapsWith a (some (.Name x pos')) pos.line X.env = pure false := by rfl) (hf : X.fn x = true ∨ X.env.scope.names.lookup x = some .local := by first | exact .inl rfl | exact .inr rfl | assumption) :
    SS cs X E (.Assign [.Name x pos'] a pos) (sSet i fa) := by
  obtain ⟨t, p, q⟩ := ha.ex
  exact ⟨_, ps_set hN hi hx p hs hf, fun rho h H env σ Dn rl rs pp => q _ _ _ _ _ _ rl rs (Post.bindO pp fun d h1 v r1 H1 s1 rl1 rv p1 => p1 _ _ _ St.refl rl1 ((rs.mono s1).set rv))⟩
theorem ss_asg {tg : Expr} {g : D → Env → Option Env} (ha : SE cs X E a fa) (hg : SG cs X tg g) (hs : swapsWithSole [tg] a pos.line X.env = pure false := by rfl) (hw : swappedStores [tg] a X.env = pure none := by rfl)
    (h1 : (assignEach [tg] X.env).map (·.2) = [assign tg X.env] := by rfl) : SS cs X E (.Assign [tg] a pos) (sAsg g fa) := by
  obtain ⟨t, p, q⟩ := ha.ex
  obtain ⟨tg', pg, qg⟩ := hg.ex
  refine ⟨_, ps_asg p pg hs hw h1, fun rho h H env σ Dn rl rs pp => q _ _ _ _ _ _ rl rs (Post.bindO pp fun d h1 v r1 H1 s1 rl1 rv p1 => ?_)⟩
  split at p1
  · rename_i env' e
    exact qg _ _ _ _ _ _ _ _ _ rl1 (rs.mono s1) rv e fun σ' rs' => p1 _ _ _ St.refl rl1 rs'
  · exact p1.elim
theorem ss_expr (ha : SE cs X E a fa) (hs : swapsWith a none pos.line X.env = pure false := by rfl) : SS cs X E (.Expr a pos) (sDrop fa) := by
  obtain ⟨t, p, q⟩ := ha.ex
  exact ⟨_, ps_expr p hs, fun rho h H env σ Dn rl rs pp => q _ _ _ _ _ _ rl rs (Post.bindO pp fun d h1 v r1 H1 s1 rl1 rv p1 => p1 _ _ _ St.refl rl1 (rs.mono s1))⟩
theorem ss_ret (ha : SE cs X E a fa) : SS cs X E (.Return (some a) pos) (sRet fa) := by
  obtain ⟨t, p, q⟩ := ha.ex
  exact ⟨_, ps_ret p, fun rho h H env σ Dn rl rs pp => q _ _ _ _ _ _ rl rs (Post.bindO pp fun d h1 v r1 H1 s1 rl1 rv p1 => p1 _ _ _ St.refl rl1 rv)⟩
theorem ss_bad {st : Stmt} : SS cs X E st sBad := ⟨_, ps_never, fun rho h H env σ Dn rl rs pp => pp.elim⟩
theorem sb_nil : SB cs X E [] sPass := ⟨_, pss_nil, fun rho h H env σ Dn rl rs pp => pp _ _ _ St.refl rl rs⟩
theorem sb_one {st : Stmt} {f : Env → Hm → O} (h : SS cs X E st f) : SB cs X E [st] f := by
  obtain ⟨t, p, q⟩ := h.ex
  exact ⟨t, pss_one p, q⟩
theorem sb_cons {st : Stmt} {sts : List Stmt} {f g : Env → Hm → O} (h1 : SS cs X E st f) (h2 : SB cs X E sts g) : SB cs X E (st :: sts) (sSeq f g) := by
  obtain ⟨t, p, q⟩ := h1.ex
  obtain ⟨t2, p2, q2⟩ := h2.ex
  refine ⟨_, pss_cons p p2, fun rho h H env σ Dn rl rs pp => q _ _ _ _ _ _ rl rs (PostS.seq pp fun env1 h1 σ1 r1 H1 s1 rl1 rs1 p1 => q2 _ _ _ _ _ _ rl1 rs1 p1)⟩
theorem ss_if {xs ys : List Stmt} {f g : Env → Hm → O} (hc : ST cs X E c ft) (ha : SB cs X E xs f) (hb : SB cs X E ys g) : SS cs X E (.If c xs ys pos) (sIf ft f g) := by
  obtain ⟨t, p, q⟩ := hc.ex
  obtain ⟨ta, pa, qa⟩ := ha.ex
  obtain ⟨tb, pb, qb⟩ := hb.ex
  refine ⟨_, ps_if p pa pb, fun rho h H env σ Dn rl rs pp => q _ _ _ _ _ _ rl rs (Post.bindO pp fun x h1 v r1 H1 s1 rl1 rv p1 => ?_)⟩
  have rv' : x = v := rv
  subst rv'
  cases x with
  | true => exact iteT (qa _ _ _ _ _ _ rl1 (rs.mono s1) p1)
  | false => exact iteF (qb _ _ _ _ _ _ rl1 (rs.mono s1) p1)
theorem ss_par {i j : Nat} {x y : Str} {px py pt : Pos} {kt k2 pt2} (hc : X.calm = true) (hN : X.N.Nodup) (hi : X.N[i]? = some x) (hj : X.N[j]? = some y) (hij : i ≠ j)
    (hx : X.env.scope.names.lookup x = some .local) (hy : X.env.scope.names.lookup y = some .local) (ha : SE cs X E a fa) (hb : SE cs X E b fb)
    (hw : swappedStores [.Tuple [.Name x px, .Name y py] kt pt] (.Tuple [a, b] k2 pt2) X.env = pure (some [x, y]))
    (hs : swapsWithSole [.Tuple [.Name x px, .Name y py] kt pt] (.Tuple [a, b] k2 pt2) pos.line X.env = pure false := by rfl)
    (h1 : starEach [a, b] X.env = (false, eval a X.env) :: starEach [b] X.env := by rfl) (h2 : starEach [b] X.env = (false, eval b X.env) :: starEach [] X.env := by rfl) :
    SS cs X E (.Assign [.Tuple [.Name x px, .Name y py] kt pt] (.Tuple [a, b] k2 pt2) pos) (sPar i j fa fb) := by
  obtain ⟨ta, pa, qa⟩ := ha.ex
  obtain ⟨tb, pb, qb⟩ := hb.ex
  refine ⟨_, ps_par hc hN hi hj hij hx hy (pa_cons pa (pa_cons pb pa_nil h2) h1) hw hs, fun rho h H env σ Dn rl rs pp => qa _ _ _ _ _ _ rl rs (Post.bindO pp fun d h1 v r1 H1 s1 rl1 rv p1 => qb _ _ _ _ _ _ rl1 (rs.mono s1) (Post.bindO p1 fun d2 h2 w r2 H2 s2 rl2 rw_ p2 =>
    ⟨v, w, rfl, p2 _ _ _ St.refl rl2 ((((rs.mono (s1.trans s2)).set (RV.mono s2 _ _ rv))).set rw_)⟩))⟩
theorem ss_sub {o i : Expr} {fo fi : Env → Hm → R D} {tpos : Pos} (ha : SE cs X E a fa) (ho : SE cs X E o fo) (hi : SE cs X E i fi)
    (hs : swapsWithSole [.Subscript o i tpos] a pos.line X.env = pure false := by rfl) (hw : swappedStores [.Subscript o i tpos] a X.env = pure none := by rfl)
    (h1 : (assignEach [.Subscript o i tpos] X.env).map (·.2) = [assign (.Subscript o i tpos) X.env] := by rfl)
    (h2 : ∀ v, assign (.Subscript o i tpos) X.env v = (do let ov ← holding [v] (eval o X.env); let iv ← holding [v, ov] (eval i X.env); standAt tpos; holding [v, ov, iv] (setItem ov iv v); release [v, ov, iv] []) := by intro _; rfl) :
    SS cs X E (.Assign [.Subscript o i tpos] a pos) (sSub fa fo fi) := by
  obtain ⟨ta, pa, qa⟩ := ha.ex
  obtain ⟨to, po, qo⟩ := ho.ex
  obtain ⟨ti, pi, qi⟩ := hi.ex
  refine ⟨_, ps_asg pa (pg_sub po pi set_list h2) hs hw h1, fun rho h H env σ Dn rl rs pp => qa _ _ _ _ _ _ rl rs (Post.bindO pp fun d h1 v r1 H1 s1 rl1 rv p1 => qo _ _ _ _ _ _ rl1 (rs.mono s1) (Post.bindO p1 fun d2 h2 w r2 H2 s2 rl2 rw_ p2 =>
    qi _ _ _ _ _ _ rl2 (rs.mono (s1.trans s2)) (Post.bindO p2 fun d3 h3 u r3 H3 s3 rl3 ru p3 => ?_)))⟩
  split at p3
  · rename_i h4 e
    unfold dSetIx at e
    split at e
    · rename_i n k
      split at e
      · rename_i xs e1
        cases e2 : ixN xs.length k with
        | none => rw [e2] at e; cases e
        | some j =>
          rw [e2] at e; cases e
          obtain ⟨p, rfl, hp, vs, e3, r3'⟩ := rl3.obj (RV.mono s3 _ _ rw_) e1
          have rv3 := RV.mono (s2.trans s3) _ _ rv
          refine ⟨p, vs, k, j, rfl, ru.intE, e3, by rw [r3'.length]; exact e2, ?_⟩
          have st := St.put (K := X.K) (o := .lst (vs.set j v)) (rl3.pos e1 rfl) hp e3 trivial
          exact p3 _ _ _ st (rl3.put hp e1 rfl rfl ⟨_, upd_same, RVs.mono st _ _ (RVs.set rv3 j r3')⟩) (rs.mono (((s1.trans s2).trans s3).trans st))
      · cases e
    · cases e
  · exact p3.elim
theorem putF_zip_set {n : Str} {v : V} : ∀ {ns : List Str} {vs : List V} {i : Nat}, ns.Nodup → ns[i]? = some n → i < vs.length → putF n v (ns.zip vs) = ns.zip (vs.set i v)
  | [], _, _, _, h, _ => by simp at h
  | m :: ns, [], _, _, _, h => by simp at h
  | m :: ns, w :: vs, i, nd, h1, h2 => by
    rw [List.nodup_cons] at nd
    cases i with
    | zero =>
      simp at h1; subst h1
      show (if m = m then _ else _) = _
      rw [if_pos rfl]; rfl
    | succ i =>
      simp only [List.getElem?_cons_succ] at h1
      have hne : ¬ m = n := by intro e; subst e; exact nd.1 (List.mem_of_getElem? h1)
      show (if m = n then _ else _) = _
      rw [if_neg hne]
      simp only [List.length_cons, Nat.add_lt_add_iff_right] at h2
      exact congrArg (List.cons (m, w)) (putF_zip_set nd.2 h1 h2)
theorem putF_zip_new {n : Str} {v : V} : ∀ {ns : List Str} {vs : List V} {i : Nat}, ns.Nodup → ns[i]? = some n → i = vs.length → putF n v (ns.zip vs) = ns.zip (vs ++ [v])
  | [], _, _, _, h, _ => by simp at h
  | m :: ns, [], i, _, h1, h => by
    simp at h; subst h
    simp at h1; subst h1; simp [putF]
  | m :: ns, w :: vs, i, nd, h1, h2 => by
    rw [List.nodup_cons] at nd
    cases i with
    | zero => simp at h2
    | succ i =>
      simp only [List.getElem?_cons_succ] at h1
      have hne : ¬ m = n := by intro e; subst e; exact nd.1 (List.mem_of_getElem? h1)
      show (if m = n then _ else _) = _
      rw [if_neg hne]
      simp only [List.length_cons, Nat.add_right_cancel_iff] at h2
      exact congrArg (List.cons (m, w)) (putF_zip_new nd.2 h1 h2)
theorem ss_fld {ci i : Nat} {f : Str} {o : Expr} {fo : Env → Hm → R D} {pos' : Pos} (F : FldOk cs X.K ci i f) (ho : SE cs X E o fo) (ha : SE cs X E a fa) (hs : swapsWith a (some (.Attribute o f pos')) pos.line X.env = pure false := by rfl) :
    SS cs X E (.Assign [.Attribute o f pos'] a pos) (sFldS ci i fo fa) := by
  obtain ⟨ta, pa, qa⟩ := ha.ex
  obtain ⟨to, po, qo⟩ := ho.ex
  refine ⟨_, ps_fld po pa hs, fun rho h H env σ Dn rl rs pp => qa _ _ _ _ _ _ rl rs (Post.bindO pp fun d h1 v r1 H1 s1 rl1 rv p1 => qo _ _ _ _ _ _ rl1 (rs.mono s1) (Post.bindO p1 fun d2 h2 w r2 H2 s2 rl2 rw_ p2 => ?_))⟩
  split at p2
  · rename_i h3 e
    unfold dSetF at e
    split at e
    · rename_i n
      split at e
      · rename_i c' fs e1
        split at e
        · rename_i hc
          subst hc
          obtain ⟨p, rfl, hp, dx, vs, e3, hl, r3⟩ := rl2.obj rw_ e1
          have rv2 := RV.mono s2 _ _ rv
          have hz1 : ((cs.nm c').zip vs).length < 1000 := by
            have := F.sz
            rw [List.length_zip]; omega
          have hix := (List.getElem?_eq_some_iff.mp F.ix).1
          split at e
          · rename_i hi
            cases e
            refine ⟨p, _, dx, _, rfl, e3, F.cl, F.na, hz1, ?_⟩
            rw [putF_zip_set F.nd F.ix (by rw [r3.length]; exact hi)]
            have st := St.put (K := X.K) (o := .ins (cs.ad c') dx ((cs.nm c').zip (vs.set i v))) (rl2.pos e1 rfl) hp e3 trivial
            exact p2 _ _ _ st (rl2.put hp e1 rfl rfl ⟨dx, _, upd_same, by simpa using hl, RVs.mono st _ _ (RVs.set rv2 i r3)⟩) (rs.mono ((s1.trans s2).trans st))
          · split at e
            · rename_i hi
              cases e
              refine ⟨p, _, dx, _, rfl, e3, F.cl, F.na, hz1, ?_⟩
              rw [putF_zip_new F.nd F.ix (by rw [r3.length]; exact hi)]
              have st := St.put (K := X.K) (o := .ins (cs.ad c') dx ((cs.nm c').zip (vs ++ [v]))) (rl2.pos e1 rfl) hp e3 trivial
              exact p2 _ _ _ st (rl2.put hp e1 rfl rfl ⟨dx, _, upd_same, by rw [List.length_append, r3.length, ← hi]; simp only [List.length_cons, List.length_nil]; omega, RVs.mono st _ _ (RVs.append r3 (RVs.cons rv2 RVs.nil))⟩) (rs.mono ((s1.trans s2).trans st))
            · cases e
        · cases e
      · cases e
    · cases e
  · exact p2.elim
end
end Wm
end
section
namespace Wm
open PySem PySem.Spec PyProof.Rows L2
open Classical in
noncomputable def gcR (h : Hm) (r : R D) : R D := match r with
  | .ok d h' => if h.length ≤ h'.length ∧ d.lows h.length = true ∧ ∀ i o, i < h.length → h'[i]? = some o → (h[i]? = some o ∨ o.lows h.length = true) then .ok d (h'.take h.length) else .ok d h'
  | .exc c fs h' => .exc c fs h'
  | .bad => .bad
section
variable {K : PySem.W.Frag} {cs : Cs} {rho rho1 : List Addr} {H H1 : Hp} {h : Hm} {E : XK}
theorem ObR.lows {a : Addr} {o : Ob} (r : ObR K cs rho H a o) : o.lows rho.length = true := by
  cases o with
  | lst xs => obtain ⟨vs, _, r⟩ := r; exact RVs.lows _ _ r
  | scr xs => obtain ⟨vs, _, r⟩ := r; exact RVs.lows _ _ r
  | ins c fs => obtain ⟨dx, vs, _, _, r⟩ := r; exact RVs.lows _ _ r
  | dct ks vs => obtain ⟨xs, _, _, r, r2⟩ := r; simp only [Ob.lows, RVs.lows _ _ r, RVs.lows _ _ r2, Bool.and_self]
  | dcl ks vs => obtain ⟨xs, od, _, _, r, r2⟩ := r; simp only [Ob.lows, RVs.lows _ _ r, RVs.lows _ _ r2, Bool.and_self]
theorem ObR.cut {more : List Addr} {a : Addr} {o : Ob} (l : o.lows rho.length = true) (r : ObR K cs (rho ++ more) H a o) : ObR K cs rho H a o := by
  cases o with
  | lst xs => obtain ⟨vs, e, r⟩ := r; exact ⟨vs, e, RVs.cut _ _ l r⟩
  | scr xs => obtain ⟨vs, e, r⟩ := r; exact ⟨vs, e, RVs.cut _ _ l r⟩
  | ins c fs => obtain ⟨dx, vs, e, z, r⟩ := r; exact ⟨dx, vs, e, z, RVs.cut _ _ l r⟩
  | dct ks vs =>
    obtain ⟨xs, e, z, r, r2⟩ := r
    simp only [Ob.lows, Bool.and_eq_true] at l
    exact ⟨xs, e, z, RVs.cut _ _ l.1 r, RVs.cut _ _ l.2 r2⟩
  | dcl ks vs =>
    obtain ⟨xs, od, e, z, r, r2⟩ := r
    simp only [Ob.lows, Bool.and_eq_true] at l
    exact ⟨xs, od, e, z, RVs.cut _ _ l.1 r, RVs.cut _ _ l.2 r2⟩
theorem Post.gc {r : R D} {Q : VK} (rl : Rel K cs rho h H) (p : Post K cs (RV K) rho H (gcR h r) Q E) : Post K cs (RV K) rho H r Q E := by
  cases r with
  | exc c fs h => exact p
  | bad => exact p
  | ok d h' =>
    unfold gcR at p
    simp only at p
    split at p
    · rename_i hc
      obtain ⟨c1, c2, c3⟩ := hc
      intro v r1 H1 s1 rl1 rv
      obtain ⟨more, rfl, fr⟩ := s1.pre
      have st : St K rho H rho H1 := ⟨⟨[], by simp, by simp⟩, s1.tup, s1.frm, s1.trk, s1.frz⟩
      have len := rl.len
      refine p v rho H1 st ⟨by simp [rl.len, c1], fun n o a e1 e2 => ?_, fun n m o o' a e1 m1 e2 m2 a1 a2 => ?_, ?_, fun i o' i0 e1 => rl1.zm i o' i0 (by rw [List.getElem?_take] at e1; split at e1; exact e1; cases e1), fun e he => (rl.exs e he).mono st, fun t ht => (rl1.tbs t ht).cut⟩ (RV.cut _ _ (by rw [len]; exact c2) rv)
      · have hn : n < h.length := by rw [← len]; exact (List.getElem?_eq_some_iff.mp e2).1
        rw [List.getElem?_take_of_lt hn] at e1
        have q := rl1.ob n o a e1 (by rw [List.getElem?_append_left (by rw [len]; exact hn)]; exact e2)
        refine ObR.cut ?_ q
        rcases c3 n o hn e1 with z | z
        · exact (rl.ob n o a z e2).lows
        · rw [len]; exact z
      · have hn : n < h.length := by rw [← len]; exact (List.getElem?_eq_some_iff.mp a1).1
        have hm : m < h.length := by rw [← len]; exact (List.getElem?_eq_some_iff.mp a2).1
        rw [List.getElem?_take_of_lt hn] at e1
        rw [List.getElem?_take_of_lt hm] at e2
        exact rl1.inj n m o o' a e1 m1 e2 m2 (by rw [List.getElem?_append_left (by rw [len]; exact hn)]; exact a1) (by rw [List.getElem?_append_left (by rw [len]; exact hm)]; exact a2)
      · obtain ⟨xs, e⟩ := rl1.z
        obtain ⟨ys, e0⟩ := rl.z
        have l0 := (List.getElem?_eq_some_iff.mp e0).1
        exact ⟨xs, by rw [List.getElem?_take_of_lt l0]; exact e⟩
    · exact p
end
theorem gc_keep {h g : Hm} {d : D} (l : d.lows h.length = true) : gcR h (.ok d (h ++ g)) = .ok d h := by
  unfold gcR
  simp only
  rw [if_pos]
  · simp
  · refine ⟨by simp, l, fun i o hi e => Or.inl ?_⟩
    rwa [List.getElem?_append_left hi] at e
theorem gc_put {h g : Hm} {d : D} {n : Nat} {o : Ob} (l : d.lows h.length = true) (lo : o.lows h.length = true) : gcR h (.ok d (h.set n o ++ g)) = .ok d (h.set n o) := by
  unfold gcR
  simp only
  rw [if_pos]
  · have e : (h.set n o).length = h.length := by simp
    rw [← e]; simp
  · refine ⟨by simp, l, fun i o' hi e => ?_⟩
    rw [List.getElem?_append_left (by simpa using hi)] at e
    by_cases hin : i = n
    · subst hin
      rw [List.getElem?_set_self hi] at e
      cases e; exact Or.inr lo
    · rw [List.getElem?_set_ne (Ne.symm hin)] at e
      exact Or.inl e
abbrev FS := List D → Hm → R D
def spF (K : PySem.W.Frag) (cs : Cs) (f : FS) (n : Nat) : Sp := fun vs H Q E => ∃ rho h ds, Rel K cs rho h H ∧ RVs K rho H ds vs ∧ vs.length = n ∧ Post K cs (RV K) rho H (f ds h) Q E
def envOf (N : Nat) (ds : List D) : Env := ds.map some ++ List.replicate (N - ds.length) none
def fnS (N : Nat) (b : Env → Hm → O) : FS := fun ds h => match b (envOf N ds) h with
  | .rt d h => .ok d h
  | .nx _ h => .ok .non h
  | .exc c fs h => .exc c fs h
  | _ => .bad
theorem RS.start {K : PySem.W.Frag} {rho : List Addr} {H : Hp} {N : List Str} {ds : List D} {vs : List V} (r : RVs K rho H ds vs) : RS K rho H (envOf N.length ds) (L2.start N vs) := by
  unfold envOf L2.start
  refine ⟨by simp [r.length], fun i d e => ?_⟩
  by_cases hi : i < ds.length
  · rw [List.getElem?_append_left (by simpa using hi), List.getElem?_map] at e
    cases e1 : ds[i]? with
    | none => rw [e1] at e; cases e
    | some d' =>
      rw [e1] at e
      simp at e; subst e
      obtain ⟨v, e2, e3⟩ := r.get e1
      refine ⟨v, ?_, e3⟩
      rw [List.getElem?_append_left (by rw [List.length_map, r.length]; exact hi), List.getElem?_map, e2]; rfl
  · rw [List.getElem?_append_right (by simpa using hi)] at e
    have := List.mem_of_getElem? e
    simp [List.mem_replicate] at this
section
variable {P : Program} {w : World} {K : PySem.W.Frag} {mg : Str → Option Value} {base : Heap} {cs : Cs}
theorem fn_ok0 {x qual : Str} {st : Stmt} {f : Addr} {fd : FuncData} {N ps : List Str} {k : Nat} {b : Env → Hm → O} {nv : Nat} (F : Fun K x qual st f fd) (S : FnScope N ps (defScope st)) (hn : N.length = nv)
    (hb : ∀ (cdv : Value) (A : Around) (outer : List _root_.PySem.Env) (s : Shared) (H : Hp) (E : XK), Room k (A.deeper (envOfC qual (defScope st) s.heap.objs.size f cdv)) →
      SB cs (cxOf CX0 P w K mg base N qual (defScope st) f cdv A outer s H E).nox E (defBody st) b) : FnOk P w K mg base CX0 (k + 1) f fd ps (spF K cs (fnS nv b) ps.length) := by
  subst hn
  refine F.ok S (fun vs H Q E h => ?_) (fun cdv A outer s H vs Q E hr h => ?_)
  · obtain ⟨_, _, _, _, _, l, _⟩ := h
    exact l
  · obtain ⟨rho, h, ds, rl, rv, l, p⟩ := h
    obtain ⟨t, p1, q1⟩ := (hb cdv A outer s H E hr).ex
    refine ⟨t, p1, q1 _ _ _ _ _ _ rl (RS.start rv) ?_⟩
    unfold fnS at p
    cases e : b (envOf N.length ds) h with
    | nx env h => rw [e] at p; exact fun σ r' H' s' rl' rs' => p _ _ _ s' rl' RV.ofNon
    | rt d h => rw [e] at p; exact p
    | bk env h => rw [e] at p; exact p.elim
    | ct env h => rw [e] at p; exact p.elim
    | exc c fs h => rw [e] at p; exact p
    | bad => rw [e] at p; exact p.elim
end
noncomputable def eCall (f : FS) (fa : Env → Hm → R (List D)) : Env → Hm → R D := fun env h => (fa env h).bind fun ds h1 => gcR h1 (f ds h1)
def isIns (c : Nat) : D → Hm → Bool
  | .obj n, h => match h[n]? with
    | some (.ins c' _) => c' == c
    | _ => false
  | _, _ => false
noncomputable def eMeth (c : Nat) (f : FS) (fo : Env → Hm → R D) (fa : Env → Hm → R (List D)) : Env → Hm → R D := fun env h => (fo env h).bind fun o h1 => if isIns c o h1 = true then (fa env h1).bind fun ds h2 => gcR h2 (f (o :: ds) h2) else .bad
noncomputable def eMake (c : Nat) (f : FS) (fa : Env → Hm → R (List D)) : Env → Hm → R D := fun env h => (fa env h).bind fun ds h1 => (gcR (h1 ++ [.ins c []]) (f (.obj h1.length :: ds) (h1 ++ [.ins c []]))).bind fun d h2 => match d with
  | .non => .ok (.obj h1.length) h2
  | _ => .bad
section
variable {cs : Cs} {X : Cx} {E : XK} {CX : CXT} {k : Nat} {f C : Addr} {fd : FuncData} {ps : List Str} {x m : Str} {p pos apos : Pos} {a o : Expr} {es : List Expr} {fo : Env → Hm → R D} {fa : Env → Hm → R (List D)} {F : FS} {n ci : Nat}
theorem se_call (G : FnOk X.prog X.w X.K X.mg X.base CX k f fd ps (spF X.K cs F n)) (hr : Room k X.A) (hg : Gl X x) (hm : X.mg x = some (.ref f)) (hk : PySem.W.keepIn X.K (.ref f) = true) (hb : Binds X.K fd ps []) (hx : Passes CX X E) (ha : SA cs X E (a :: es) fa) (hl : ∀ env h ds h', fa env h = .ok ds h' → ds.length = n)
    (hdb : (x == ("__debug__" : Str)) = false := by decide) (he : starEach (a :: es) X.env = (false, eval a X.env) :: starEach es X.env := by rfl) (hpl : (backTo pos (starEach es X.env)).any (·.1) = false := by rfl) :
    SE cs X E (.Call (.Name x p) (a :: es) [] pos) (eCall F fa) := by
  obtain ⟨ta, pa, qa⟩ := ha.ex
  refine ⟨_, pe_call G hr hg hm hk hb .nil hx pa hdb he hpl, fun rho h H env σ Q rl rs pp => ?_⟩
  cases e : fa env h with
  | exc c fs h1 =>
    refine qa _ _ _ _ _ _ rl rs ?_
    unfold eCall at pp
    rw [e] at pp ⊢; exact pp
  | bad => unfold eCall at pp; rw [e] at pp; exact pp.elim
  | ok ds h1 =>
    refine qa _ _ _ _ _ _ rl rs ?_
    unfold eCall at pp
    rw [e] at pp ⊢
    intro vs r1 H1 s1 rl1 rv
    refine ⟨r1, h1, ds, rl1, by rw [List.append_nil]; exact rv, by rw [List.append_nil, rv.length]; exact hl _ _ _ _ e, ?_⟩
    exact Post.gc rl1 (Post.mono s1 pp)
structure MethOk (cs : Cs) (K : PySem.W.Frag) (c : Nat) (m : Str) (f : Addr) : Prop where
  cl : Cls K (cs.ad c)
  me : Meth K (cs.ad c) m f
  no : m ∉ cs.nm c
theorem isIns_ok {K : PySem.W.Frag} {rho : List Addr} {h : Hm} {H : Hp} {d : D} {v : V} (rl : Rel K cs rho h H) (rv : RV K rho H d v) (e : isIns ci d h = true) : ∃ a dx vs, v = .ref a ∧ H a = some (.ins (cs.ad ci) dx ((cs.nm ci).zip vs)) := by
  unfold isIns at e
  split at e
  · split at e
    · rename_i c' fs e1
      have hc : c' = ci := by simpa using e
      subst hc
      obtain ⟨p, rfl, hp, dx, vs, e3, _⟩ := rl.obj rv e1
      exact ⟨p, dx, vs, rfl, e3⟩
    · cases e
  · cases e
theorem se_meth {pl : Sem Bool} (M : MethOk cs X.K ci m f) (G : FnOk X.prog X.w X.K X.mg X.base CX k f fd ps (spF X.K cs F n)) (hr : Room k X.A) (hb : Binds X.K fd ps []) (hx : Passes CX X E) (ho : SE cs X E o fo) (ha : SA cs X E (a :: es) fa) (hl : ∀ env h ds h', fa env h = .ok ds h' → ds.length + 1 = n)
    (hst : starEach (a :: es) X.env = (false, eval a X.env) :: starEach es X.env := by rfl) (hpl : (backTo pos (starEach es X.env)).any (·.1) = false := by rfl)
    (ht : eval (.Call (.Attribute o m apos) (a :: es) [] pos) X.env = (do
      let ov ← eval o X.env
      standAt apos.atName
      let (f, first) ← holding [ov] (getMethod ov m pl)
      callWith pos f first (backTo pos (starEach (a :: es) X.env)) (backToKw pos (keywordEach [] X.env))) := by rfl) :
    SE cs X E (.Call (.Attribute o m apos) (a :: es) [] pos) (eMeth ci F fo fa) := by
  obtain ⟨ta, pa, qa⟩ := ha.ex
  obtain ⟨to, po, qo⟩ := ho.ex
  refine ⟨_, pe_meth po M.cl M.me G hr hb .nil hx pa hst hpl ht, fun rho h H env σ Q rl rs pp => qo _ _ _ _ _ _ rl rs (Post.bind pp fun d h1 v r1 H1 s1 rl1 rv p1 => ?_)⟩
  split at p1
  · rename_i hi
    obtain ⟨q, dx, vs, rfl, e3⟩ := isIns_ok rl1 rv hi
    refine ⟨q, dx, _, rfl, e3, lookup_zip_none M.no, ?_⟩
    cases e : fa env h1 with
    | exc c fs h2 =>
      refine qa _ _ _ _ _ _ rl1 (rs.mono s1) ?_
      rw [e] at p1 ⊢; exact p1
    | bad => rw [e] at p1; exact p1.elim
    | ok ds h2 =>
      refine qa _ _ _ _ _ _ rl1 (rs.mono s1) ?_
      rw [e] at p1 ⊢
      intro ws r2 H2 s2 rl2 rv2
      refine ⟨r2, h2, d :: ds, rl2, by rw [List.append_nil]; exact RVs.cons (RV.mono s2 _ _ rv) rv2, by rw [List.append_nil, List.length_cons, rv2.length]; exact hl _ _ _ _ e, ?_⟩
      exact Post.gc rl2 (Post.mono s2 p1)
  · exact p1.elim
theorem se_meth0 {pl : Sem Bool} (M : MethOk cs X.K ci m f) (G : FnOk X.prog X.w X.K X.mg X.base CX k f fd ps (spF X.K cs F 1)) (hr : Room k X.A) (hb : Binds X.K fd ps []) (hx : Passes CX X E) (ho : SE cs X E o fo)
    (ht : eval (.Call (.Attribute o m apos) [] [] pos) X.env = (do
      let ov ← eval o X.env
      standAt apos.atName
      let (f, first) ← holding [ov] (getMethod ov m pl)
      callWith pos f first (backTo pos (starEach [] X.env)) (backToKw pos (keywordEach [] X.env))) := by rfl) :
    SE cs X E (.Call (.Attribute o m apos) [] [] pos) (eMeth ci F fo aNil) := by
  obtain ⟨to, po, qo⟩ := ho.ex
  refine ⟨_, pe_meth0 po M.cl M.me G hr hb .nil hx ht, fun rho h H env σ Q rl rs pp => qo _ _ _ _ _ _ rl rs (Post.bind pp fun d h1 v r1 H1 s1 rl1 rv p1 => ?_)⟩
  split at p1
  · rename_i hi
    obtain ⟨q, dx, vs, rfl, e3⟩ := isIns_ok rl1 rv hi
    refine ⟨q, dx, _, rfl, e3, lookup_zip_none M.no, ?_⟩
    exact ⟨r1, h1, [d], rl1, RVs.cons rv RVs.nil, rfl, Post.gc rl1 p1⟩
  · exact p1.elim
theorem se_make (M : Mk X.K (cs.ad ci) f) (G : FnOk X.prog X.w X.K X.mg X.base CX k f fd ps (spF X.K cs F n)) (hr : Room (k + 1) X.A) (hg : Gl X x) (hm : X.mg x = some (.ref (cs.ad ci))) (hb : Binds X.K fd ps []) (hx : Passes CX X E) (ha : SA cs X E (a :: es) fa) (hl : ∀ env h ds h', fa env h = .ok ds h' → ds.length + 1 = n)
    (hdb : (x == ("__debug__" : Str)) = false := by decide) (he : starEach (a :: es) X.env = (false, eval a X.env) :: starEach es X.env := by rfl) (hpl : (backTo pos (starEach es X.env)).any (·.1) = false := by rfl) :
    SE cs X E (.Call (.Name x p) (a :: es) [] pos) (eMake ci F fa) := by
  obtain ⟨ta, pa, qa⟩ := ha.ex
  refine ⟨_, pe_make M G hr hg hm hb .nil hx pa hdb he hpl, fun rho h H env σ Q rl rs pp => ?_⟩
  cases e : fa env h with
  | exc c fs h1 =>
    refine qa _ _ _ _ _ _ rl rs ?_
    unfold eMake at pp
    rw [e] at pp ⊢; exact pp
  | bad => unfold eMake at pp; rw [e] at pp; exact pp.elim
  | ok ds h1 =>
    refine qa _ _ _ _ _ _ rl rs ?_
    unfold eMake at pp
    rw [e] at pp ⊢
    intro vs r1 H1 s1 rl1 rv xa dx hxa hdx hne
    have nx : upd H1 dx (.own xa) xa = none := by rw [upd_ne (Ne.symm hne)]; exact hxa
    have st1 : St X.K r1 H1 r1 (upd H1 dx (.own xa)) := St.aside hdx
    have st2 : St X.K r1 (upd H1 dx (.own xa)) (r1 ++ [xa]) (upd (upd H1 dx (.own xa)) xa (.ins (cs.ad ci) dx [])) := St.new nx
    have st := st1.trans st2
    have rl2 : Rel X.K cs (r1 ++ [xa]) (h1 ++ [.ins ci []]) (upd (upd H1 dx (.own xa)) xa (.ins (cs.ad ci) dx [])) := (rl1.aside hdx).new nx ⟨dx, [], by rw [upd_same]; simp, Nat.zero_le _, RVs.nil⟩
    have ex : RV X.K (r1 ++ [xa]) (upd (upd H1 dx (.own xa)) xa (.ins (cs.ad ci) dx [])) (.obj h1.length) (.ref xa) := by
      simp only [RV]
      exact ⟨xa, by rw [← rl1.len]; simp, rfl⟩
    refine ⟨_, _, .obj h1.length :: ds, rl2, by rw [List.append_nil]; exact RVs.cons ex (RVs.mono st _ _ rv), by rw [List.append_nil, List.length_cons, rv.length]; exact hl _ _ _ _ e, Post.gc rl2 (Post.bind (Post.mono (s1.trans st) pp) fun d h3 v r3 H3 s3 rl3 rv3 p3 => ?_)⟩
    split at p3
    · exact ⟨rv3.nonE, p3.fin rl3 (RV.mono s3 _ _ ex)⟩
    · exact p3.elim
end
end Wm
end
section
namespace Wm
open PySem PySem.Spec PyProof.Rows L2
theorem turn_long {P : Program} {w : World} {K : PySem.W.Frag} {tg : Expr} (it : Addr) (lo : Int) (n : Nat) : Turn P w K tg (Itr lo n) [it] it (fun i h => IsLongIter h it (lo + (i : Nat) * 1) ((n : Int) - (i : Nat)) 1) where
  mem := by simp
  obj := fun i h st b hb => by
    have e : b = it := by simpa using hb
    subst e
    exact ⟨_, st, fun v z => by
      have z' : Data.fields _ = Data.cell v := z
      cases z'⟩
  keep := fun i h h' st k => k it (by simp) _ st
  item := by
    intro X hP hw hK hc i pins s σ H E I hf st hg
    subst hP hw hK
    obtain ⟨f0, f1, f2, f3, f4, f5⟩ := hf it (by simp)
    have W := Walks.longrange (prog := X.prog) (w := X.w) (I.ok.hd hc) it lo 1 n
    refine W.item i s _ _ hg st fun v h' tk hv st' kk => ?_
    obtain ⟨t, rfl⟩ := hv
    have I1 : Inv X pins σ H { s with heap := h', toks := tk } := I.turned (fun b o hb e => kk b o (by simpa using hb) e) f0 f1 f3 f4 f5
    refine ⟨_, rfl, go_of (s := { s with heap := h', toks := tk }) (n := "longrange_iterator") st' rfl rfl (by decide) ⟨.int (lo + i), H, I1, ⟨t, ?_⟩, ⟨rfl, rfl⟩, st', fun b hb => (hf b hb).1⟩⟩
    rw [Int.mul_one]
  done := by
    intro X hP hw hK hc i pins s σ H E I hf st hg
    subst hP hw hK
    obtain ⟨f0, f1, f2, f3, f4, f5⟩ := hf it (by simp)
    exact wpAny_pyNext_long_end (I.ok.hd hc) st (by have : n ≤ i := hg; omega) fun h' eb => ⟨rfl, I.turned (t' := s.toks) (fun b o hb e => eb b o hb e) f0 f1 f3 f4 f5⟩
  self := fun _ _ _ _ _ st h => wpAny_pyIter_longiter st h
section
variable {X : Cx} {tg : Expr}
theorem range_itW {pins : List (Addr × Obj)} {σ : L2.St} {H : Hp} {s : Shared} {R : It → Hp → Prop} {E : Value → Shared → Prop} {lo hi : Int} {t u v : Tok} {tk : Nat} (I : Inv X pins σ H s)
    (q : R (Itr lo (hi - lo).toNat) H) : wpAny (model X.prog X.w) X.A (pyIter (.ref s.heap.objs.size)) (PIE X pins σ tg R) E { s with heap := s.heap.push { cls := .type "range", data := .fields #[.int lo t, .int hi u, .int 1 v] }, toks := tk } := by
  have I1 : Inv X pins σ H { s with heap := s.heap.push { cls := .type "range", data := .fields #[.int lo t, .int hi u, .int 1 v] }, toks := tk } := I.kept fun b o e => Heap.get?_push_of_some _ e
  have e1 : lo + ((0 : Nat) : Int) * 1 = lo := by simp
  have e2 : (((hi - lo).toNat : Nat) : Int) - ((0 : Nat) : Int) = Builtin.Range.rangeSize lo hi 1 := by rw [rangeSize_one]; split <;> omega
  by_cases hs : Builtin.Range.small lo hi 1 = true
  · refine wpAny_pyIter_range (IsRange.new ..) hs ?_
    refine ⟨(s.heap.push { cls := .type "range", data := .fields #[.int lo t, .int hi u, .int 1 v] }).objs.size, [(s.heap.push { cls := .type "range", data := .fields #[.int lo t, .int hi u, .int 1 v] }).objs.size], _, _, H, rfl,
      I1.kept (t' := tk) fun b o e => Heap.get?_push_of_some _ e, turn_range _ lo (hi - lo).toNat, ?_, fun b hb => ?_, q⟩
    · show IsRangeIter _ _ (lo + ((0 : Nat) : Int) * 1) ((((hi - lo).toNat : Nat) : Int) - ((0 : Nat) : Int)) 1
      rw [e1, e2]
      exact Heap.get?_push_size _ rfl
    · have e : b = (s.heap.push { cls := .type "range", data := .fields #[.int lo t, .int hi u, .int 1 v] }).objs.size := by simpa using hb
      subst e
      exact I1.fpOk (Nat.le_refl _) (I1.hok.fresh (Nat.le_refl _))
  · refine wpAny_pyIter_longrange (IsRange.new ..) (by simpa using hs) ?_
    refine ⟨(s.heap.push { cls := .type "range", data := .fields #[.int lo t, .int hi u, .int 1 v] }).objs.size, [(s.heap.push { cls := .type "range", data := .fields #[.int lo t, .int hi u, .int 1 v] }).objs.size], _, _, H, rfl,
      I1.kept (t' := tk) fun b o e => Heap.get?_push_of_some _ e, turn_long _ lo (hi - lo).toNat, ?_, fun b hb => ?_, q⟩
    · show IsLongIter _ _ (lo + ((0 : Nat) : Int) * 1) ((((hi - lo).toNat : Nat) : Int) - ((0 : Nat) : Int)) 1
      rw [e1, e2]
      exact Heap.get?_push_size _ rfl
    · have e : b = (s.heap.push { cls := .type "range", data := .fields #[.int lo t, .int hi u, .int 1 v] }).objs.size := by simpa using hb
      subst e
      exact I1.fpOk (Nat.le_refl _) (I1.hok.fresh (Nat.le_refl _))
def iRngW1 (ta : TA) : TI := fun σ H R => ta σ H fun vs H1 => ∃ j : Int, vs = [.int j] ∧ R (Itr 0 j.toNat) H1
theorem pi_rangeW1 {a : Expr} {ta : TA} {p pos : Pos} (hg : Gl X "range") (hm : X.mg "range" = none) (ha : PA X [a] ta) (hs : starEach [a] X.env = [(false, eval a X.env)] := by rfl) : PI X tg (.Call (.Name "range" p) [a] [] pos) (iRngW1 ta) := by
  refine ⟨fun pins s σ H R I h => ?_⟩
  refine Call_ (ld_blt I hg hm boot_range (PyProof.Rows.callWith_type1 (thn (ha.run pos pins s σ H _ I h) fun us s1 ⟨vs, H1, I1, r1, q1⟩ => ?_) hs rfl))
  obtain ⟨j, e, q⟩ := q1
  subst e
  cases r1 with
  | cons r rr =>
    cases rr
    obtain ⟨t, rfl⟩ := r
    exact call_range_1 (range_itW I1 (by simpa using q))
end
end Wm
end
section
namespace Wm
open PySem PySem.Spec PyProof.Rows L2
def iterW (c : Env → Hm → R Bool) (b : Env → Hm → O) : Nat → Env → Hm → Option O
  | 0, _, _ => none
  | n + 1, env, h => match c env h with
    | .ok true h1 => match b env h1 with
      | .nx e2 h2 => iterW c b n e2 h2
      | .ct e2 h2 => iterW c b n e2 h2
      | .bk e2 h2 => some (.nx e2 h2)
      | .rt d h => some (.rt d h)
      | .exc k fs h => some (.exc k fs h)
      | .bad => some .bad
    | .ok false h1 => some (.nx env h1)
    | .exc k fs h => some (.exc k fs h)
    | .bad => some .bad
open Classical in
noncomputable def sWhile (c : Env → Hm → R Bool) (b : Env → Hm → O) : Env → Hm → O := fun env h =>
  if p : ∃ o n, iterW c b n env h = some o then p.choose else .bad
theorem iterW_mono {c : Env → Hm → R Bool} {b : Env → Hm → O} : ∀ {n m : Nat} {env : Env} {h : Hm} {o : O}, iterW c b n env h = some o → n ≤ m → iterW c b m env h = some o
  | 0, _, _, _, _, e, _ => by simp [iterW] at e
  | n + 1, 0, _, _, _, _, l => by omega
  | n + 1, m + 1, env, h, o, e, l => by
    unfold iterW at e ⊢
    split
    · rename_i h1 e1
      rw [e1] at e
      simp only at e ⊢
      split
      · rename_i e2 h2 e3
        rw [e3] at e
        exact iterW_mono e (by omega)
      · rename_i e2 h2 e3
        rw [e3] at e
        exact iterW_mono e (by omega)
      all_goals (rename_i e3; rw [e3] at e; exact e)
    all_goals (rename_i e1; rw [e1] at e; exact e)
theorem iterW_det {c : Env → Hm → R Bool} {b : Env → Hm → O} {n m : Nat} {env : Env} {h : Hm} {o o' : O} (e : iterW c b n env h = some o) (e' : iterW c b m env h = some o') : o = o' := by
  have a := iterW_mono e (Nat.le_max_left n m)
  have b := iterW_mono e' (Nat.le_max_right n m)
  rw [a] at b
  exact Option.some.inj b
theorem while_of {c : Env → Hm → R Bool} {b : Env → Hm → O} {n : Nat} {env : Env} {h : Hm} {o : O} (e : iterW c b n env h = some o) : sWhile c b env h = o := by
  unfold sWhile
  have p : ∃ o n, iterW c b n env h = some o := ⟨o, n, e⟩
  rw [dif_pos p]
  obtain ⟨m, e'⟩ := p.choose_spec
  exact iterW_det e' e
theorem while_next {c : Env → Hm → R Bool} {b : Env → Hm → O} {env e2 : Env} {h h1 h2 : Hm} (hc : c env h = .ok true h1) (hb : b env h1 = .nx e2 h2) : sWhile c b env h = sWhile c b e2 h2 := by
  have key : ∀ n, iterW c b (n + 1) env h = iterW c b n e2 h2 := fun n => by
    conv => lhs; unfold iterW
    rw [hc]
    simp only
    rw [hb]
  unfold sWhile
  by_cases p : ∃ o n, iterW c b n e2 h2 = some o
  · have q : ∃ o n, iterW c b n env h = some o := by
      obtain ⟨o, n, e⟩ := p
      exact ⟨o, n + 1, by rw [key]; exact e⟩
    rw [dif_pos p, dif_pos q]
    obtain ⟨n, e⟩ := p.choose_spec
    obtain ⟨m, e'⟩ := q.choose_spec
    refine iterW_det e' (m := n + 1) ?_
    rw [key]; exact e
  · have q : ¬ ∃ o n, iterW c b n env h = some o := by
      rintro ⟨o, n, e⟩
      cases n with
      | zero => simp [iterW] at e
      | succ n => exact p ⟨o, n, by rw [← key]; exact e⟩
    rw [dif_neg p, dif_neg q]
theorem while_end {c : Env → Hm → R Bool} {b : Env → Hm → O} {env : Env} {h h1 : Hm} (hc : c env h = .ok false h1) : sWhile c b env h = .nx env h1 := by
  refine while_of (n := 1) ?_
  unfold iterW
  rw [hc]
theorem while_ret {c : Env → Hm → R Bool} {b : Env → Hm → O} {env : Env} {h h1 h2 : Hm} {d : D} (hc : c env h = .ok true h1) (hb : b env h1 = .rt d h2) : sWhile c b env h = .rt d h2 := by
  refine while_of (n := 1) ?_
  unfold iterW
  rw [hc]
  simp only
  rw [hb]
section
variable {cs : Cs} {X : Cx} {E : XK} {c : Expr} {pos : Pos} {body : List Stmt} {ft : Env → Hm → R Bool} {fb : Env → Hm → O}
theorem ss_while (hp : PassesOwn (model X.prog X.w) X.A X.env X.xe) (hc : ST cs X E c ft) (hb : SB cs X E body fb) : SS cs X E (.While c body [] pos) (sWhile ft fb) := by
  obtain ⟨t, p, q⟩ := hc.ex
  obtain ⟨tb, pb, qb⟩ := hb.ex
  refine ⟨_, ps_while hp p pb, fun rho h H env σ Dn rl rs pp => ?_⟩
  have ex : ∃ o n, iterW ft fb n env h = some o := by
    unfold sWhile at pp
    split at pp
    · assumption
    · exact pp.elim
  obtain ⟨o, n, e⟩ := ex
  rw [while_of e] at pp
  refine ⟨fun m σ H => ∃ rho h env, Rel X.K cs rho h H ∧ RS X.K rho H env σ ∧ iterW ft fb m env h = some o ∧ PostS X.K cs rho H o Dn E, ⟨n, rho, h, env, rl, rs, e, pp⟩, ?_⟩
  rintro m σ H ⟨rho, h, env, rl, rs, e, pp⟩
  cases m with
  | zero => simp [iterW] at e
  | succ m =>
    unfold iterW at e
    cases e1 : ft env h with
    | exc k fs h1 =>
      rw [e1] at e
      cases e
      refine q _ _ _ _ _ _ rl rs ?_
      rw [e1]; exact pp
    | bad => rw [e1] at e; cases e; exact pp.elim
    | ok b h1 =>
      rw [e1] at e
      refine q _ _ _ _ _ _ rl rs ?_
      rw [e1]
      intro b' r1 H1 s1 rl1 rb
      have rb' : b = b' := rb
      subst rb'
      have pp1 := PostS.mono s1 pp
      cases b with
      | false =>
        simp only at e
        cases e
        exact iteF (pp1 _ _ _ St.refl rl1 (rs.mono s1))
      | true =>
        refine iteT ⟨fun σ' H' => ∃ m', m' < m + 1 ∧ ∃ rho h env, Rel X.K cs rho h H' ∧ RS X.K rho H' env σ' ∧ iterW ft fb m' env h = some o ∧ PostS X.K cs rho H' o Dn E, fun _ _ z => z, ?_⟩
        refine qb _ _ _ _ _ _ rl1 (rs.mono s1) ?_
        simp only at e
        cases e2 : fb env h1 with
        | nx en h2 =>
          rw [e2] at e
          exact fun σ2 r2 H2 s2 rl2 rs2 => ⟨m, by omega, r2, h2, en, rl2, rs2, e, PostS.mono s2 pp1⟩
        | ct en h2 =>
          rw [e2] at e
          exact fun σ2 r2 H2 s2 rl2 rs2 => ⟨m, by omega, r2, h2, en, rl2, rs2, e, PostS.mono s2 pp1⟩
        | bk en h2 => rw [e2] at e; cases e; exact pp1
        | rt d h2 => rw [e2] at e; cases e; exact pp1
        | exc k fs h2 => rw [e2] at e; cases e; exact pp1
        | bad => rw [e2] at e; cases e; exact pp1.elim
end
structure Its where
  xs : List D
  chk : Hm → Prop
open Classical in
noncomputable def forS (chk : Hm → Prop) (g : D → Env → Option Env) (b : Env → Hm → O) : List D → Env → Hm → O
  | [], env, h => if chk h then .nx env h else .bad
  | x :: xs, env, h => if chk h then (match g x env with
    | none => .bad
    | some e1 => match b e1 h with
      | .nx e2 h2 => forS chk g b xs e2 h2
      | .ct e2 h2 => forS chk g b xs e2 h2
      | .bk e2 h2 => .nx e2 h2
      | .rt d h => .rt d h
      | .exc c fs h => .exc c fs h
      | .bad => .bad) else .bad
noncomputable def sFor (w : Env → Hm → R Its) (g : D → Env → Option Env) (b : Env → Hm → O) : Env → Hm → O := fun env h => (w env h).bindO fun it h1 => forS it.chk g b it.xs env h1
def JOk (K : PySem.W.Frag) (cs : Cs) (rho0 : List Addr) (H0 : Hp) (it : Its) (J : It) : Prop :=
  ∀ i rho h H, St K rho0 H0 rho H → Rel K cs rho h H → it.chk h → (∀ d, it.xs[i]? = some d → J.go i H ∧ ∀ x H', J.yld i H x H' → St K rho H rho H' ∧ Rel K cs rho h H' ∧ RV K rho H' d x) ∧ (it.xs.length ≤ i → J.stop i H)
theorem JOk.mono {K : PySem.W.Frag} {cs : Cs} {rho0 rho1 : List Addr} {H0 H1 : Hp} {it : Its} {J : It} (s : St K rho0 H0 rho1 H1) (j : JOk K cs rho0 H0 it J) : JOk K cs rho1 H1 it J := fun i rho h H s' => j i rho h H (s.trans s')
section
variable (cs : Cs) (X : Cx) (E : XK)
structure SI (tg iter : Expr) (w : Env → Hm → R Its) : Prop where
  ex : ∃ t : TI, PI X tg iter t ∧ ∀ rho h H env σ (Rr : It → Hp → Prop), Rel X.K cs rho h H → RS X.K rho H env σ → Post X.K cs (JOk X.K cs) rho H (w env h) Rr E → t σ H Rr
end
def wSeq (f : Env → Hm → R D) : Env → Hm → R Its := fun env h => (f env h).bind fun d h1 => match d with
  | .tup xs => .ok ⟨xs, fun _ => True⟩ h1
  | .obj n => match h1[n]? with
    | some (.lst xs) => .ok ⟨xs, fun h2 => h2[n]? = some (.lst xs)⟩ h1
    | some (.scr xs) => .ok ⟨xs, fun h2 => h2[n]? = some (.scr xs)⟩ h1
    | _ => .bad
  | _ => .bad
def rngD (lo hi : Int) : List D := (List.range (hi - lo).toNat).map fun k => .int (lo + (k : Nat))
def wRng1 (f : Env → Hm → R D) : Env → Hm → R Its := fun env h => (f env h).bind fun d h1 => match d with
  | .int j => .ok ⟨rngD 0 j, fun _ => True⟩ h1
  | _ => .bad
def iSeq (K : PySem.W.Frag) (tl : TE) : TI := fun σ H R => tl σ H fun x H1 => ∃ a, x = .ref a ∧ (((∃ xs, SqL K H1 a xs) ∧ R (Itl K a) H1) ∨ ((∃ xs, SqT K H1 a xs) ∧ R (Itt K a) H1))
theorem pi_seq {X : Cx} {tg l : Expr} {tl : TE} (hl : PE X l tl) : PI X tg l (iSeq X.K tl) := by
  refine ⟨fun pins s σ H R I h => ?_⟩
  refine thn (hl.run pins s σ H _ I h) fun v s1 ⟨x, H1, I1, r1, q1⟩ => ?_
  obtain ⟨a, e, q | q⟩ := q1
  · obtain ⟨⟨xs, hq⟩, q⟩ := q
    subst e
    cases r1
    obtain ⟨its, rv, p, hz⟩ := I1.list hq
    refine wpAny_pyIter_list p.isList ?_
    refine ⟨s1.heap.objs.size, [s1.heap.objs.size], _, _, H1, rfl, I1.kept (t' := s1.toks) fun b o e => Heap.get?_push_of_some _ e, turn_list a _, ⟨_, Heap.get?_push_size _ rfl, rfl, rfl⟩, fun b hb => ?_, q⟩
    have e : b = s1.heap.objs.size := by simpa using hb
    subst e
    exact I1.fpOk (Nat.le_refl _) (I1.hok.fresh (Nat.le_refl _))
  · obtain ⟨⟨xs, hq⟩, q⟩ := q
    subst e
    cases r1
    obtain ⟨its, rv, p, hz⟩ := I1.tuple hq
    refine wpAny_pyIter_tuple (show s1.heap.IsTuple a its.toArray from p) ?_
    refine ⟨s1.heap.objs.size, [s1.heap.objs.size], _, _, H1, rfl, I1.kept (t' := s1.toks) fun b o e => Heap.get?_push_of_some _ e, turn_tuple a _, ⟨_, Heap.get?_push_size _ rfl, rfl, rfl⟩, fun b hb => ?_, q⟩
    have e : b = s1.heap.objs.size := by simpa using hb
    subst e
    exact I1.fpOk (Nat.le_refl _) (I1.hok.fresh (Nat.le_refl _))
section
variable {cs : Cs} {X : Cx} {E : XK} {tg iter a b : Expr} {pos : Pos} {body : List Stmt} {fa fb' : Env → Hm → R D} {fb : Env → Hm → O} {w : Env → Hm → R Its} {g : D → Env → Option Env}
theorem ss_for (hp : PassesOwn (model X.prog X.w) X.A X.env X.xe) (hc : X.calm = true) (hi : SI cs X E tg iter w) (hg : SG cs X tg g) (hb : SB cs X E body fb) (hs : ∀ x, foldedSetIterable iter X.env x = pure x := by intro _; rfl) : SS cs X E (.For tg iter body [] pos) (sFor w g fb) := by
  obtain ⟨t, p, q⟩ := hi.ex
  obtain ⟨t2, pg, qg⟩ := hg.ex
  obtain ⟨tb, pb, qb⟩ := hb.ex
  refine ⟨_, ps_for hp hc p pg pb hs, fun rho h H env σ Dn rl rs pp => q _ _ _ _ _ _ rl rs (Post.bindO pp fun it h1 J r1 H1 s1 rl1 jo p1 => ?_)⟩
  refine ⟨fun i m σ H => i ≤ it.xs.length ∧ m = it.xs.length - i ∧ ∃ rho h env, St X.K r1 H1 rho H ∧ Rel X.K cs rho h H ∧ RS X.K rho H env σ ∧ PostS X.K cs rho H (forS it.chk g fb (it.xs.drop i) env h) Dn E, ⟨it.xs.length, Nat.zero_le _, rfl, r1, h1, env, St.refl, rl1, rs.mono s1, p1⟩, ?_⟩
  rintro i m σ' H' ⟨hi, rfl, rho', h', env', s', rl', rs', p'⟩
  by_cases hl : i = it.xs.length
  · rw [List.drop_eq_nil_of_le (by omega)] at p'
    unfold forS at p'
    split at p'
    · rename_i hk
      exact Or.inl ⟨(jo i _ _ _ s' rl' hk).2 (by omega), p' _ _ _ St.refl rl' rs'⟩
    · exact p'.elim
  · have hlt : i < it.xs.length := by omega
    rw [List.drop_eq_getElem_cons hlt] at p'
    unfold forS at p'
    split at p'
    · rename_i hk
      obtain ⟨go, yl⟩ := (jo i _ _ _ s' rl' hk).1 _ (List.getElem?_eq_getElem hlt)
      refine Or.inr ⟨go, fun σ2 H2 => ∃ m', m' < it.xs.length - i ∧ (i + 1 ≤ it.xs.length ∧ m' = it.xs.length - (i + 1) ∧ ∃ rho h env, St X.K r1 H1 rho H2 ∧ Rel X.K cs rho h H2 ∧ RS X.K rho H2 env σ2 ∧ PostS X.K cs rho H2 (forS it.chk g fb (it.xs.drop (i + 1)) env h) Dn E), fun _ _ z => z, fun x H2 hy => ?_⟩
      obtain ⟨s2, rl2, rv2⟩ := yl x H2 hy
      split at p'
      · exact p'.elim
      · rename_i e1 eg
        refine qg _ _ _ _ _ _ _ _ _ rl2 (rs'.mono s2) rv2 eg fun σ3 rs3 => qb _ _ _ _ _ _ rl2 rs3 ?_
        have p2 := PostS.mono s2 p'
        cases eb : fb e1 h' with
        | nx e2 h2 =>
          rw [eb] at p2
          exact fun σ4 r4 H4 s4 rl4 rs4 => ⟨_, by omega, hlt, rfl, r4, h2, e2, (s'.trans s2).trans s4, rl4, rs4, PostS.mono s4 p2⟩
        | ct e2 h2 =>
          rw [eb] at p2
          exact fun σ4 r4 H4 s4 rl4 rs4 => ⟨_, by omega, hlt, rfl, r4, h2, e2, (s'.trans s2).trans s4, rl4, rs4, PostS.mono s4 p2⟩
        | bk e2 h2 => rw [eb] at p2; exact p2
        | rt d h2 => rw [eb] at p2; exact p2
        | exc k fs h2 => rw [eb] at p2; exact p2
        | bad => rw [eb] at p2; exact p2.elim
    · exact p'.elim
theorem jok_list {K : PySem.W.Frag} {rho : List Addr} {H : Hp} {n : Nat} {p : Addr} {xs : List D} {o : Ob} (hp : rho[n]? = some p) (ho : o = .lst xs ∨ o = .scr xs) : JOk K cs rho H ⟨xs, fun h2 => h2[n]? = some o⟩ (Itl K p) := by
  intro i r1 h1 H1 s1 rl1 hk
  have hp1 := s1.at hp
  have key : ∃ vs, SqL K H1 p vs ∧ RVs K r1 H1 xs vs := by
    rcases ho with rfl | rfl
    · obtain ⟨vs, e, r⟩ := rl1.ob n _ p hk hp1
      exact ⟨vs, SqL.of e, r⟩
    · obtain ⟨vs, e, r⟩ := rl1.ob n _ p hk hp1
      exact ⟨vs, e.l, r⟩
  obtain ⟨vs, e, r⟩ := key
  refine ⟨fun d hd => ?_, fun hl => ⟨vs, e, by rw [r.length]; exact hl⟩⟩
  obtain ⟨v, e1, e2⟩ := r.get hd
  refine ⟨⟨vs, v, e, e1⟩, fun x H' ⟨hh, hx⟩ => ?_⟩
  subst hh
  have := hx vs e
  rw [e1] at this
  cases this
  exact ⟨St.refl, rl1, e2⟩
theorem jok_tup {K : PySem.W.Frag} {rho : List Addr} {H : Hp} {p : Addr} {vs : List V} {xs : List D} (ht : SqT K H p vs) (r : RVs K rho H xs vs) : JOk K cs rho H ⟨xs, fun _ => True⟩ (Itt K p) := by
  intro i r1 h1 H1 s1 rl1 hk
  have e := s1.tup _ _ ht
  have r' := RVs.mono s1 _ _ r
  refine ⟨fun d hd => ?_, fun hl => ⟨vs, e, by rw [r.length]; exact hl⟩⟩
  obtain ⟨v, e1, e2⟩ := r'.get hd
  refine ⟨⟨vs, v, e, e1⟩, fun x H' ⟨hh, hx⟩ => ?_⟩
  subst hh
  have := hx vs e
  rw [e1] at this
  cases this
  exact ⟨St.refl, rl1, e2⟩
theorem jok_rng {K : PySem.W.Frag} {rho : List Addr} {H : Hp} {lo hi : Int} : JOk K cs rho H ⟨rngD lo hi, fun _ => True⟩ (Itr lo (hi - lo).toNat) := by
  intro i r1 h1 H1 s1 rl1 hk
  have hlen : (rngD lo hi).length = (hi - lo).toNat := by simp [rngD]
  refine ⟨fun d hd => ?_, fun hl => by show (hi - lo).toNat ≤ i; rw [← hlen]; exact hl⟩
  have hlt : i < (hi - lo).toNat := by rw [← hlen]; exact (List.getElem?_eq_some_iff.mp hd).1
  refine ⟨hlt, fun x H' ⟨hh, hx⟩ => ?_⟩
  subst hh; subst hx
  unfold rngD at hd
  rw [List.getElem?_map, List.getElem?_range hlt] at hd
  cases hd
  exact ⟨St.refl, rl1, RV.ofInt⟩
theorem si_seq (ha : SE cs X E a fa) : SI cs X E tg a (wSeq fa) := by
  obtain ⟨ta, pa, qa⟩ := ha.ex
  refine ⟨_, pi_seq pa, fun rho h H env σ Rr rl rs pp => qa _ _ _ _ _ _ rl rs (Post.bind pp fun d h1 v r1 H1 s1 rl1 rv p1 => ?_)⟩
  split at p1
  · rename_i xs
    obtain ⟨q, vs, rfl, e2, e3⟩ := rv.tupE
    exact ⟨q, rfl, Or.inr ⟨⟨vs, e2⟩, p1.fin rl1 (jok_tup e2 e3)⟩⟩
  · rename_i n
    split at p1
    · rename_i xs e1
      obtain ⟨q, rfl, hp, vs, e3, r3⟩ := rl1.obj rv e1
      exact ⟨q, rfl, Or.inl ⟨⟨vs, SqL.of e3⟩, p1.fin rl1 (jok_list hp (Or.inl rfl))⟩⟩
    · rename_i xs e1
      obtain ⟨q, rfl, hp, vs, e3, r3⟩ := rl1.obj rv e1
      exact ⟨q, rfl, Or.inl ⟨⟨vs, e3.l⟩, p1.fin rl1 (jok_list hp (Or.inr rfl))⟩⟩
    · exact p1.elim
  · exact p1.elim
theorem si_rng1 {p : Pos} (hg : Gl X "range") (hm : X.mg "range" = none) (ha : SE cs X E a fa) (hs : starEach [a] X.env = [(false, eval a X.env)] := by rfl) : SI cs X E tg (.Call (.Name "range" p) [a] [] pos) (wRng1 fa) := by
  obtain ⟨ta, pa, qa⟩ := ha.ex
  refine ⟨_, pi_rangeW1 hg hm (pa_cons pa pa_nil hs) hs, fun rho h H env σ Rr rl rs pp => qa _ _ _ _ _ _ rl rs (Post.bind pp fun d h1 v r1 H1 s1 rl1 rv p1 => ?_)⟩
  split at p1
  · rename_i j
    refine ⟨j, by rw [rv.intE], ?_⟩
    have e := jok_rng (cs := cs) (K := X.K) (rho := r1) (H := H1) (lo := 0) (hi := j)
    rw [Int.sub_zero] at e
    exact p1.fin rl1 e
  · exact p1.elim
end
end Wm
end
section
namespace Wm
open PySem PySem.Spec PyProof.Rows L2
inductive Ty where
  | non | bl | int | str | tup | lst
  deriving DecidableEq
def Ty.nm : Ty → String
  | .non => "NoneType" | .bl => "bool" | .int => "int" | .str => "str" | .tup => "tuple" | .lst => "list"
def Ty.is (a b : Ty) : Bool := match a, b with
  | .bl, .int => true
  | .bl, .bl => true
  | .int, .int => true
  | .str, .str => true
  | .tup, .tup => true
  | .lst, .lst => true
  | _, _ => false
def D.ty : D → Hm → Option Ty
  | .non, _ => some .non
  | .bl _, _ => some .bl
  | .int _, _ => some .int
  | .str _, _ => some .str
  | .tup _, _ => some .tup
  | .hld _, _ => none
  | .obj n, h => match h[n]? with
    | some (.lst _) => some .lst
    | some (.scr _) => some .lst
    | _ => none
def dIsi (t : Ty) (x : D) (h : Hm) : R D := match x.ty h with
  | some a => .ok (.bl (a.is t)) h
  | none => .bad
theorem kit_is (a b : Ty) (hb : b ≠ .non) : kitB a.nm b.nm = some (a.is b) := by
  cases a <;> cases b <;> first | exact absurd rfl hb | decide +kernel
section
variable {K : PySem.W.Frag} {cs : Cs} {X : Cx} {E : XK} {rho : List Addr} {H : Hp} {h : Hm}
theorem ty_ok {x : D} {v : V} {t : Ty} (rl : Rel K cs rho h H) (rv : RV K rho H x v) (e : x.ty h = some t) : TyX K H v (.type t.nm) := by
  cases x with
  | non => cases e; rw [rv.nonE]; exact .base .non
  | bl b => cases e; rw [rv.blE]; exact .base (.bl b)
  | int b => cases e; rw [rv.intE]; exact .base (.int b)
  | str b => cases e; rw [rv.strE]; exact .base (.str b)
  | hld a => cases e
  | tup ds =>
    cases e
    obtain ⟨a, vs, rfl, q, _⟩ := rv.tupE
    rcases q with (q | ⟨o, q⟩) | ⟨o, its, n, q1, q2, _⟩
    · exact .base (.tup q)
    · exact .fTuple q
    · exact .kTuple q1 q2
  | obj n =>
    simp only [D.ty] at e
    split at e
    · rename_i xs e1
      cases e
      obtain ⟨a, rfl, _, vs, q, _⟩ := rl.obj rv e1
      exact .base (.lst q)
    · rename_i xs e1
      cases e
      obtain ⟨a, rfl, _, vs, q, _⟩ := rl.obj rv e1
      rcases q with ⟨o, q⟩ | ⟨o, its, n, q1, q2, _⟩
      · exact .base (.frz q)
      · exact .kList q1 q2
    · cases e
theorem se_isi {a b : Expr} {fa : Env → Hm → R D} {p pos : Pos} (t : Ty) (ht : t ≠ .non) (hg : Gl X "isinstance") (hm : X.mg "isinstance" = none) (ha : SE cs X E a fa) (hb : PE X b (tC (.ty t.nm)))
    (h1 : starEach [a, b] X.env = (false, eval a X.env) :: starEach [b] X.env := by rfl) (h2 : starEach [b] X.env = (false, eval b X.env) :: starEach [] X.env := by rfl) (h3 : (backTo pos (starEach [b] X.env)).any (·.1) = false := by rfl) :
    SE cs X E (.Call (.Name "isinstance" p) [a, b] [] pos) (e1 (dIsi t) fa) := by
  obtain ⟨ta, pa, qa⟩ := ha.ex
  refine ⟨_, pe_callB call_isi hg hm (by decide +kernel) (pa_cons pa (pa_cons hb pa_nil h2) h1) (by decide) (by decide) h1 h3, fun rho h H env σ Q rl rs p => qa _ _ _ _ _ _ rl rs (Post.bind p fun x h1 v r1 H1 s1 rl1 rv p1 => ?_)⟩
  unfold dIsi at p1
  split at p1
  · rename_i t2 e
    exact ⟨v, .ty t.nm, .type t2.nm, .type t.nm, t2.is t, rfl, .ty _, ty_ok rl1 rv e, kit_ty (kit_is _ _ ht), p1.fin rl1 RV.ofBl⟩
  · exact p1.elim
end
end Wm
end
section
namespace Wm
open PySem PySem.Spec PyProof.Rows L2
theorem len_nil : ∀ (env : Env) (h : Hm) (ds : List D) (h' : Hm), aNil env h = .ok ds h' → ds.length = 0 := fun env h ds h' e => by
  unfold aNil at e; cases e; rfl
theorem len_cons {f : Env → Hm → R D} {g : Env → Hm → R (List D)} {n : Nat} (ih : ∀ (env : Env) (h : Hm) (ds : List D) (h' : Hm), g env h = .ok ds h' → ds.length = n) : ∀ (env : Env) (h : Hm) (ds : List D) (h' : Hm), aCons f g env h = .ok ds h' → ds.length = n + 1 := fun env h ds h' e => by
  unfold aCons at e
  cases e1 : f env h with
  | ok x h1 =>
    rw [e1] at e
    simp only [R.bind] at e
    cases e2 : g env h1 with
    | ok xs h2 =>
      rw [e2] at e
      simp only at e
      cases e
      simp [ih _ _ _ _ e2]
    | exc c fs h => rw [e2] at e; cases e
    | bad => rw [e2] at e; cases e
  | exc c fs h => rw [e1] at e; cases e
  | bad => rw [e1] at e; cases e
theorem len1 {g : Env → Hm → R (List D)} {n : Nat} (ih : ∀ (env : Env) (h : Hm) (ds : List D) (h' : Hm), g env h = .ok ds h' → ds.length = n) : ∀ (env : Env) (h : Hm) (ds : List D) (h' : Hm), g env h = .ok ds h' → ds.length + 1 = n + 1 := fun env h ds h' e => by rw [ih _ _ _ _ e]
theorem passA {X : Cx} {E : XK} : Passes CX0 X E := fun _ _ _ _ _ _ _ h => h.elim
section
variable {cs : Cs} {X : Cx} {E : XK}
theorem se_globI {x : Str} {i : Int} {pos : Pos} (hg : Gl X x) (hm : ∃ t, X.mg x = some (.int i t)) (hd : (x == ("__debug__" : Str)) = false := by decide) : SE cs X E (.Name x pos) (eC (.int i)) := by
  obtain ⟨t, hm⟩ := hm
  exact ⟨_, pe_glob hg hm (v := .int i) ⟨t, rfl⟩ hd, fun rho h H env σ Q rl rs p => p.fin rl RV.ofInt⟩
theorem se_globT {x : Str} {ds : List D} {pos : Pos} (hg : Gl X x) (hm : ∃ a, X.mg x = some (.ref a) ∧ ∃ vs, SqT X.K (fun _ => none) a vs ∧ RVs X.K [] (fun _ => none) ds vs) (hd : (x == ("__debug__" : Str)) = false := by decide) : SE cs X E (.Name x pos) (eC (.tup ds)) := by
  obtain ⟨a, hm, vs, q, r⟩ := hm
  refine ⟨_, pe_glob hg hm (v := .ref a) rfl hd, fun rho h H env σ Q rl rs p => p.fin rl ?_⟩
  simp only [RV]
  have st : St X.K [] (fun _ => none) rho H := {
    pre := ⟨rho, rfl, fun _ _ => rfl⟩
    tup := fun a xs h => SqT.keep h fun u hu _ => nomatch hu
    frm := fun a o h _ _ => nomatch h
    trk := fun a _ => rfl
    frz := fun a o u h => nomatch h }
  exact ⟨a, vs, rfl, st.tup _ _ q, RVs.mono st _ _ r⟩
end
theorem RVs.ints {K : PySem.W.Frag} {rho : List Addr} {H : Hp} : ∀ (ns : List Int), RVs K rho H (ns.map D.int) (ns.map V.int)
  | [] => RVs.nil
  | n :: ns => RVs.cons RV.ofInt (RVs.ints ns)
end Wm
end
section
namespace Wm
open PySem PySem.Spec PyProof.Rows L2
def eChain3 (f f' f'' : D → D → Hm → R D) (a b c d : Env → Hm → R D) : Env → Hm → R D := fun env h => (a env h).bind fun x h1 => (b env h1).bind fun y h2 => (f x y h2).bind fun k h3 => match k with
  | .bl true => (c env h3).bind fun z h4 => (f' y z h4).bind fun k2 h5 => match k2 with
    | .bl true => (d env h5).bind fun w h6 => f'' z w h6
    | .bl false => .ok (.bl false) h5
    | _ => .bad
  | .bl false => .ok (.bl false) h3
  | _ => .bad
section
variable {X : Cx} {a b c d : Expr} {ta tb tc td : TE} {pos : Pos}
end
section
variable {cs : Cs} {X : Cx} {E : XK} {a b c d : Expr} {pos : Pos} {fa fb fc fd : Env → Hm → R D} {es : List Expr} {fs : Env → Hm → R (List D)}
end
def sPar3 (i j l : Nat) (f g k : Env → Hm → R D) : Env → Hm → O := fun env h => (f env h).bindO fun x h1 => (g env h1).bindO fun y h2 => (k env h2).bindO fun z h3 => .nx (((env.set i (some x)).set j (some y)).set l (some z)) h3
section
variable {cs : Cs} {X : Cx} {E : XK} {a b c : Expr} {pos : Pos} {fa fb fc : Env → Hm → R D}
end
def dMax3 : List D → Hm → R D
  | [.int a, .int b, .int c], h => .ok (.int (if b > a then (if c > b then c else b) else (if c > a then c else a))) h
  | _, _ => .bad
def dMin3 : List D → Hm → R D
  | [.int a, .int b, .int c], h => .ok (.int (if b < a then (if c < b then c else b) else (if c < a then c else a))) h
  | _, _ => .bad
section
variable {K : PySem.W.Frag} {cs : Cs} {E : XK} {X : Cx} {rho : List Addr} {H : Hp} {h : Hm}
theorem vals3 {x y z : V} {us : List Value} (r : Vals [x, y, z] us) : ∃ u v w, us = [u, v, w] ∧ RelV x u ∧ RelV y v ∧ RelV z w := by
  cases r with
  | cons r1 t =>
    cases t with
    | cons r2 t =>
      cases t with
      | cons r3 t => cases t; exact ⟨_, _, _, rfl, r1, r2, r3⟩
theorem call_max3 (hc : X.calm = true) : CallR X (.builtin "max") (fun xs H Q => ∃ a b c, xs = [.int a, .int b, .int c] ∧ Q (.int (if b > a then (if c > b then c else b) else (if c > a then c else a))) H) := by
  intro pins s σ H xs us Q I r h
  obtain ⟨a, b, c, rfl, q⟩ := h
  obtain ⟨u, v, w, rfl, ⟨t, rfl⟩, ⟨t', rfl⟩, ⟨t2, rfl⟩⟩ := vals3 r
  refine max_three_ints (I.ok.hd hc) fun h' tk k => ⟨_, H, I.kept k, ?_, q⟩
  split <;> split <;> exact ⟨_, rfl⟩
theorem RVs.three {d e f : D} {vs : List V} (h : RVs K rho H [d, e, f] vs) : ∃ v w u, vs = [v, w, u] ∧ RV K rho H d v ∧ RV K rho H e w ∧ RV K rho H f u := by
  simp only [RVs] at h
  obtain ⟨v, vs', rfl, h2, w, vs2, rfl, h3, u, vs3, rfl, h4, rfl⟩ := h
  exact ⟨v, w, u, rfl, h2, h3, h4⟩
theorem oN_max3 : OpN cs E K (fun xs H Q => ∃ a b c, xs = [.int a, .int b, .int c] ∧ Q (.int (if b > a then (if c > b then c else b) else (if c > a then c else a))) H) dMax3 := fun rho h H xs vs Q rl rv p => by
  unfold dMax3 at p
  split at p
  · obtain ⟨v, w, u, rfl, r1, r2, r3⟩ := rv.three
    rw [r1.intE, r2.intE, r3.intE]
    exact ⟨_, _, _, rfl, p.fin rl RV.ofInt⟩
  · exact p.elim
end
def gI {α : Type} (idx : List Nat) (us ws : List α) : List α := idx.filterMap fun i => (us ++ ws)[i]?
noncomputable def eCallK (f : FS) (idx : List Nat) (fa fk : Env → Hm → R (List D)) : Env → Hm → R D := fun env h => (fa env h).bind fun ds h1 => (fk env h1).bind fun zs h2 => gcR h2 (f (gI idx ds zs) h2)
noncomputable def eMethK (c : Nat) (f : FS) (idx : List Nat) (fo : Env → Hm → R D) (fa fk : Env → Hm → R (List D)) : Env → Hm → R D := fun env h => (fo env h).bind fun o h1 => if isIns c o h1 = true then (fa env h1).bind fun ds h2 => (fk env h2).bind fun zs h3 => gcR h3 (f (gI idx (o :: ds) zs) h3) else .bad
section
variable (cs : Cs) (X : Cx) (E : XK)
structure SK (kws : List Keyword) (f : Env → Hm → R (List D)) : Prop where
  ex : ∃ t : TA, PK X kws t ∧ ∀ rho h H env σ (Q : List V → Hp → Prop), Rel X.K cs rho h H → RS X.K rho H env σ → Post X.K cs (RVs X.K) rho H (f env h) Q E → t σ H Q
end
section
variable {cs : Cs} {X : Cx} {E : XK} {CX : CXT} {k : Nat} {f C : Addr} {fd : FuncData} {ps ks : List Str} {x m : Str} {p pos apos kpos : Pos} {a o : Expr} {es : List Expr} {kws : List Keyword} {fo fx : Env → Hm → R D} {fa fk : Env → Hm → R (List D)} {F : FS} {n np ci : Nat} {idx : List Nat} {nm : Option Str}
end
end Wm
end
section
namespace Wm
open PySem PySem.Spec PyProof.Rows L2
section
variable (cs : Cs) (X : Cx) (E : XK)
structure SQ (ifs : List Expr) (f : Env → Hm → R Bool) : Prop where
  ex : ∃ t : TT, PTs X ifs t ∧ ∀ rho h H env σ (Q : Bool → Hp → Prop), Rel X.K cs rho h H → RS X.K rho H env σ → Post X.K cs relB rho H (f env h) Q E → t σ H Q
structure SGc (ws : List Nat) (tg : Expr) (g : D → Env → Option Env) : Prop where
  ex : ∃ t : TG, PG X tg t ∧ ∀ rho h H env σ d v env' (N : L2.St → Hp → Prop), Rel X.K cs rho h H → RS X.K rho H env σ → RV X.K rho H d v → g d env = some env' → (∀ σ', RS X.K rho H env' σ' → wipe σ' ws = wipe σ ws → N σ' H) → t v σ H N
structure SGsc (ws : List Nat) (tgs : List Expr) (gs : List (D → Env → Option Env)) : Prop where
  ex : ∃ t : TGs, PGs X tgs t ∧ tgs.length = gs.length ∧ ∀ rho h H env σ ds vs env' (N : L2.St → Hp → Prop), Rel X.K cs rho h H → RS X.K rho H env σ → RVs X.K rho H ds vs → gAll gs ds env = some env' → (∀ σ', RS X.K rho H env' σ' → wipe σ' ws = wipe σ ws → N σ' H) → t vs σ H N
end
def tYesS : Env → Hm → R Bool := fun _ h => .ok true h
def wipeE (env : Env) : List Nat → Env
  | [] => env
  | v :: vs => (wipeE env vs).set v none
open Classical in
noncomputable def compS (chk : Hm → Prop) (g : D → Env → Option Env) (t : Env → Hm → R Bool) (e : Env → Hm → R D) : List D → Env → Hm → R (List D)
  | [], _, h => if chk h then .ok [] h else .bad
  | x :: xs, env, h => if chk h then (match g x env with
    | none => .bad
    | some e1 => (t e1 h).bind fun b h1 => if b = true then (e e1 h1).bind fun y h2 => (compS chk g t e xs env h2).bind fun ys h3 => .ok (y :: ys) h3 else compS chk g t e xs env h1) else .bad
noncomputable def eLc (w : Env → Hm → R Its) (g : D → Env → Option Env) (t : Env → Hm → R Bool) (e : Env → Hm → R D) (ws : List Nat) : Env → Hm → R D := fun env h => (w env h).bind fun it h1 => if szOk it.xs.length then (compS it.chk g t e it.xs (wipeE env ws) h1).bind fun ys h2 => new (.lst ys) h2 else .bad
theorem RS.wipe {K : PySem.W.Frag} {rho : List Addr} {H : Hp} {env : Env} {σ : L2.St} (r : RS K rho H env σ) : ∀ ws : List Nat, RS K rho H (wipeE env ws) (L2.wipe σ ws)
  | [] => r
  | v :: vs => by
    obtain ⟨l, k⟩ := RS.wipe r vs
    refine ⟨by unfold wipeE L2.wipe; simp [l], fun i d h => ?_⟩
    unfold wipeE at h
    unfold L2.wipe
    by_cases e : v = i
    · subst e
      by_cases hv : v < (wipeE env vs).length
      · rw [List.getElem?_set_self hv] at h; cases h
      · rw [List.getElem?_eq_none (by simpa using hv)] at h; cases h
    · rw [List.getElem?_set_ne e] at h ⊢
      exact k i d h
section
variable {cs : Cs} {X : Cx} {E : XK} {tg iter a b c : Expr} {pos : Pos} {fa fb fc : Env → Hm → R D} {ft : Env → Hm → R Bool} {ws : List Nat}
structure Bk where
  s : Shared
  H : Hp
  C : Addr
  cl : List (Str × Addr)
  fp : List Addr
abbrev Cx.bk (X : Cx) (scope : Scope) (b : Bk) : Cx := X.blk b.s b.H scope (compEnvC scope b.cl b.C X.env) b.fp
theorem St.nin {K : PySem.W.Frag} {rho rho1 : List Addr} {H H1 : Hp} {p : Addr} {o : HO} (s : St K rho H rho1 H1) (n : Nin rho p) (hp : H p = some o) : Nin rho1 p := fun i i0 hi => by
  obtain ⟨more, rfl, e6⟩ := s.pre
  by_cases l : i < rho.length
  · rw [List.getElem?_append_left l] at hi; exact n i i0 hi
  · rw [List.getElem?_append_right (by omega)] at hi
    rw [e6 p (List.mem_of_getElem? hi)] at hp; cases hp
theorem SqT.over {K : PySem.W.Frag} {H : Hp} {a p : Addr} {xs acc acc2 : List V} (h : SqT K H a xs) (hp : H p = some (.lst acc)) : SqT K (upd H p (.lst acc2)) a xs := by
  refine SqT.keep h fun u hu nm => ?_
  rw [upd_ne]
  · exact hu
  · intro e; subst e; rw [hp] at hu; cases hu; exact nm trivial
mutual
theorem RV.over {K : PySem.W.Frag} {rho : List Addr} {H : Hp} {p : Addr} {acc acc2 : List V} (hp : H p = some (.lst acc)) : ∀ (d : D) (v : V), RV K rho H d v → RV K rho (upd H p (.lst acc2)) d v
  | .non, _, h => by simpa [RV] using h
  | .bl _, _, h => by simpa [RV] using h
  | .int _, _, h => by simpa [RV] using h
  | .str _, _, h => by simpa [RV] using h
  | .hld _, _, h => by simpa [RV] using h
  | .obj n, v, h => by simpa [RV] using h
  | .tup ds, v, h => by
    simp only [RV] at h ⊢
    obtain ⟨a, vs, h1, h2, h3⟩ := h
    exact ⟨a, vs, h1, SqT.over h2 hp, RVs.over hp ds vs h3⟩
theorem RVs.over {K : PySem.W.Frag} {rho : List Addr} {H : Hp} {p : Addr} {acc acc2 : List V} (hp : H p = some (.lst acc)) : ∀ (ds : List D) (vs : List V), RVs K rho H ds vs → RVs K rho (upd H p (.lst acc2)) ds vs
  | [], vs, h => by simpa [RVs] using h
  | d :: ds, vs, h => by
    simp only [RVs] at h ⊢
    obtain ⟨v, vs', h1, h2, h3⟩ := h
    exact ⟨v, vs', h1, RV.over hp d v h2, RVs.over hp ds vs' h3⟩
end
theorem Rel.over {K : PySem.W.Frag} {rho : List Addr} {h : Hm} {H : Hp} {p : Addr} {acc acc2 : List V} (r : Rel K cs rho h H) (hn : Nin rho p) (hp : H p = some (.lst acc)) : Rel K cs rho h (upd H p (.lst acc2)) := by
  have held : ∀ e ∈ cs.ex, ExR K rho (upd H p (.lst acc2)) e := fun e he => by
    obtain ⟨n1, us, at_e, l1, rv1⟩ := r.exs e he
    have ne : e.1 ≠ p := fun z => by
      rw [z, hp] at at_e
      have z2 : HO.lst acc = HO.xd (e.2.1.zip us) := Option.some.inj at_e
      cases z2
    exact ⟨n1, us, by rw [upd_ne ne]; exact at_e, l1, RVs.over hp _ _ rv1⟩
  refine ⟨r.len, fun n o a h1 h2 => ?_, r.inj, r.z, r.zm, held, fun t ht => (r.tbs t ht).over hp⟩
  have q := r.ob n o a h1 h2
  by_cases n0 : n = 0
  · subst n0
    obtain ⟨ys, z⟩ := r.z
    rw [h1] at z; cases z
    obtain ⟨vs, e, rv⟩ := q
    refine ⟨vs, e.keep fun o' q' => ?_, RVs.over hp _ _ rv⟩
    rw [upd_ne]
    · exact q'
    · intro ea; subst ea; rw [hp] at q'; cases q'
  have ne : a ≠ p := fun e => hn n (by omega) (by rw [← e]; exact h2)
  cases o with
  | lst xs =>
    obtain ⟨vs, e, rv⟩ := q
    exact ⟨vs, by rw [upd_ne ne]; exact e, RVs.over hp _ _ rv⟩
  | scr xs =>
    obtain ⟨vs, e, rv⟩ := q
    exact ⟨vs, e.keep fun o' q' => by rw [upd_ne ne]; exact q', RVs.over hp _ _ rv⟩
  | ins c fs =>
    obtain ⟨dx, vs, e, l, rv⟩ := q
    exact ⟨dx, vs, by rw [upd_ne ne]; exact e, l, RVs.over hp _ _ rv⟩
  | dct ks vs =>
    obtain ⟨xs, e, l, rv, rv2⟩ := q
    exact ⟨xs, e, by rw [upd_ne ne]; exact l, RVs.over hp _ _ rv, RVs.over hp _ _ rv2⟩
  | dcl ks vs =>
    obtain ⟨xs, od, e, l, rv, rv2⟩ := q
    exact ⟨xs, od, e, by rw [upd_ne ne]; exact l, RVs.over hp _ _ rv, RVs.over hp _ _ rv2⟩
theorem St.over {K : PySem.W.Frag} {rho rho1 : List Addr} {H H1 : Hp} {p : Addr} {acc acc2 : List V} (s : St K rho H rho1 H1) (h0 : H p = none) (hp : H1 p = some (.lst acc)) : St K rho H rho1 (upd H1 p (.lst acc2)) :=
  ⟨s.pre, fun a xs h => SqT.over (s.tup a xs h) hp, fun a o h nt hn => by rw [upd_ne (ne_of_none h h0)]; exact s.frm a o h nt hn, fun a h => by
    by_cases e : a = p
    · subst e; exact h0
    · rw [upd_ne e] at h; exact s.trk a h, fun a o u h => by rw [upd_ne (ne_of_none h h0)]; exact s.frz a o u h⟩
mutual
theorem RV.grow {K : PySem.W.Frag} {rho m : List Addr} {H : Hp} : ∀ (d : D) (v : V), RV K rho H d v → RV K (rho ++ m) H d v
  | .non, _, h => by simpa [RV] using h
  | .bl _, _, h => by simpa [RV] using h
  | .int _, _, h => by simpa [RV] using h
  | .str _, _, h => by simpa [RV] using h
  | .hld _, _, h => by simpa [RV] using h
  | .obj n, v, h => by
    simp only [RV] at h ⊢
    obtain ⟨a, h1, h2⟩ := h
    exact ⟨a, by rw [List.getElem?_append_left (List.getElem?_eq_some_iff.mp h1).1]; exact h1, h2⟩
  | .tup ds, v, h => by
    simp only [RV] at h ⊢
    obtain ⟨a, vs, h1, h2, h3⟩ := h
    exact ⟨a, vs, h1, h2, RVs.grow ds vs h3⟩
theorem RVs.grow {K : PySem.W.Frag} {rho m : List Addr} {H : Hp} : ∀ (ds : List D) (vs : List V), RVs K rho H ds vs → RVs K (rho ++ m) H ds vs
  | [], vs, h => by simpa [RVs] using h
  | d :: ds, vs, h => by
    simp only [RVs] at h ⊢
    obtain ⟨v, vs', h1, h2, h3⟩ := h
    exact ⟨v, vs', h1, RV.grow d v h2, RVs.grow ds vs' h3⟩
end
theorem ObR.grow {K : PySem.W.Frag} {rho m : List Addr} {H : Hp} {a : Addr} {o : Ob} (h : ObR K cs rho H a o) : ObR K cs (rho ++ m) H a o := by
  cases o with
  | lst xs => obtain ⟨vs, h, r⟩ := h; exact ⟨vs, h, RVs.grow _ _ r⟩
  | scr xs => obtain ⟨vs, h, r⟩ := h; exact ⟨vs, h, RVs.grow _ _ r⟩
  | ins c fs => obtain ⟨dx, vs, h, l, r⟩ := h; exact ⟨dx, vs, h, l, RVs.grow _ _ r⟩
  | dct ks vs => obtain ⟨xs, e, h, r, r2⟩ := h; exact ⟨xs, e, h, RVs.grow _ _ r, RVs.grow _ _ r2⟩
  | dcl ks vs => obtain ⟨xs, od, e, h, r, r2⟩ := h; exact ⟨xs, od, e, h, RVs.grow _ _ r, RVs.grow _ _ r2⟩
end
end Wm
end
section
namespace WmL
open PySem Sem
section
variable {prog : Program} {w : World} {A : Around} {E : Value → Shared → Prop} {s : Shared}
end
end WmL
namespace Wm
open PySem PySem.Spec PyProof.Rows L2
section
variable {cs : Cs} {X : Cx} {E : XK} {a b e : Expr} {fa fb : Env → Hm → R D} {te : L2.St → Hp → (Int → Int → Hp → Prop) → Prop}
def lstR (i j : Int) (h : Hm) : R D := if (j - i).toNat ≤ 16777216 then new (.lst (rngD i j)) h else .bad
def eLstR1 (fa : Env → Hm → R D) : Env → Hm → R D := fun env h => (fa env h).bind fun x h1 => match x with
  | .int j => lstR 0 j h1
  | _ => .bad
def eLstR2 (fa fb : Env → Hm → R D) : Env → Hm → R D := fun env h => (fa env h).bind fun x h1 => (fb env h1).bind fun y h2 => match x, y with
  | .int i, .int j => lstR i j h2
  | _, _ => .bad
theorem RVs.ofRng {K : PySem.W.Frag} {rho : List Addr} {H : Hp} {i j : Int} : RVs K rho H (rngD i j) (rgV i j) := by
  unfold rngD rgV
  induction List.range (j - i).toNat with
  | nil => exact RVs.nil
  | cons x xs ih => exact RVs.cons RV.ofInt ih
theorem Post.lstR {K : PySem.W.Frag} {rho : List Addr} {h : Hm} {H : Hp} {i j : Int} {Q : VK} (p : Post K cs (RV K) rho H (lstR i j h) Q E) (rl : Rel K cs rho h H) : (j - i).toNat ≤ 2 ^ 24 ∧ ∀ q, H q = none → Q (.ref q) (upd H q (.lst (rgV i j))) := by
  unfold Wm.lstR at p
  split at p
  · rename_i c
    exact ⟨c, p.newL rl RVs.ofRng⟩
  · exact p.elim
end
end Wm
end
section
namespace Wm
open PySem PySem.Spec PyProof.Rows L2
def dDivmod : List D → Hm → R D
  | [.int a, .int b], h => if 0 < b ∧ Builtin.divisionGoesByPylong a b = false then .ok (.tup [.int (a / b), .int (a % b)]) h else .bad
  | _, _ => .bad
def sSet2 (i j : Nat) (f : Env → Hm → R D) : Env → Hm → O := fun env h => (f env h).bindO fun d h1 => .nx ((env.set i (some d)).set j (some d)) h1
section
variable {K : PySem.W.Frag} {cs : Cs} {E : XK} {X : Cx} {rho : List Addr} {H : Hp} {h : Hm} {a : Expr} {fa : Env → Hm → R D} {pos : Pos}
theorem oN_divmod : OpN cs E K (fun xs H Q => ∃ i j, xs = [.int i, .int j] ∧ CDivP i j ∧ ∀ p, H p = none → Q (.ref p) (upd H p (.tup [.int (i / j), .int (i % j)]))) dDivmod := fun rho h H xs vs Q rl rv p => by
  unfold dDivmod at p
  split at p
  · obtain ⟨v, w, rfl, r1, r2⟩ := rv.two
    rw [r1.intE, r2.intE]
    split at p
    · rename_i c
      exact ⟨_, _, rfl, c, p.newT rl (RVs.cons RV.ofInt (RVs.cons RV.ofInt RVs.nil))⟩
    · exact p.elim
  · exact p.elim
theorem ss_set2 {i j : Nat} {x y : Str} {px py : Pos} (hN : X.N.Nodup) (hi : X.N[i]? = some x) (hj : X.N[j]? = some y) (hx : Loc X.env.scope x) (hy : Loc X.env.scope y) (ha : SE cs X E a fa)
    (hf : X.fn x = true ∨ X.env.scope.names.lookup x = some .local := by first | exact .inl rfl | exact .inr rfl | assumption) (hf2 : X.fn y = true ∨ X.env.scope.names.lookup y = some .local := by first | exact .inl rfl | exact .inr rfl | assumption)
    (has : (assignEach [.Name x px, .Name y py] X.env).map (·.2) = [assign (.Name x px) X.env, assign (.Name y py) X.env] := by rfl) (hw : swappedStores [.Name x px, .Name y py] a X.env = pure none := by rfl) : SS cs X E (.Assign [.Name x px, .Name y py] a pos) (sSet2 i j fa) := by
  obtain ⟨t, p, q⟩ := ha.ex
  refine ⟨_, ps_asg2 p (pg_name hN hi hx hf) (pg_name hN hj hy hf2) has hw, fun rho h H env σ Dn rl rs pp => q _ _ _ _ _ _ rl rs (Post.bindO pp fun d h1 v r1 H1 s1 rl1 rv p1 => ?_)⟩
  exact p1 _ _ _ St.refl rl1 (((rs.mono s1).set rv).set rv)
end
end Wm
end
section
namespace Sh
open PySem L2 Wm
noncomputable def b_is_whole : Wm.BSem :=
  (sRet (eAnd (e1 (dIsi .int) (eVar 0)) (eNot (e1 (dIsi .bl) (eVar 0)))))
noncomputable def F_is_whole : FS := fnS 1 b_is_whole
noncomputable def b_root_of : Wm.BSem :=
  (sSeq (sIf (asB (e2 dLt (eVar 0) (eC (.int 2))))
  (sRet (eVar 0))
  sPass)
  (sSeq (sSet 1 (e2 dShl (eC (.int 1)) (e2 dDiv (e2 dAdd (eBits (eVar 0)) (eC (.int 1))) (eC (.int 2)))))
  (sWhile (asB (eC (.bl true)))
  (sSeq (sSet 2 (e2 dDiv (e2 dAdd (eVar 1) (e2 dDiv (eVar 0) (eVar 1))) (eC (.int 2))))
  (sSeq (sIf (asB (e2 dGe (eVar 2) (eVar 1)))
  (sRet (eVar 1))
  sPass)
  (sSet 1 (eVar 2)))))))
noncomputable def F_root_of : FS := fnS 3 b_root_of
noncomputable def b_Drum_init : Wm.BSem :=
  (sSeq (sIf (tOrS (tNotS (tTruth (eCall F_is_whole (aCons (eVar 1) aNil)))) (tNotS (asB (eChain dLe dLt (eC (.int 1)) (eVar 1) (eC (.int 1000000000000000))))))
  sBad
  sPass)
  (sSeq (sIf (tOrS (tNotS (tTruth (eCall F_is_whole (aCons (eVar 2) aNil)))) (tNotS (asB (eChain dLe dLt (eC (.int 0)) (eVar 2) (eC (.int 1000000000000000))))))
  sBad
  sPass)
  (sSeq (sFldS 0 0 (eVar 0) (eVar 1))
  (sFldS 0 1 (eVar 0) (eVar 2)))))
noncomputable def F_Drum_init : FS := fnS 3 b_Drum_init
noncomputable def b_Drum_begins : Wm.BSem :=
  (sSeq (sIf (tOrS (tNotS (tTruth (eCall F_is_whole (aCons (eVar 1) aNil)))) (asB (e2 dLt (eVar 1) (eC (.int 0)))))
  sBad
  sPass)
  (sRet (e2 dAdd (e2 dMul (eVar 1) (e1 (dFld 0 0) (eVar 0))) (e2 dMul (e1 (dFld 0 1) (eVar 0)) (e2 dDiv (e2 dMul (eVar 1) (e2 dSub (eVar 1) (eC (.int 1)))) (eC (.int 2)))))))
noncomputable def F_Drum_begins : FS := fnS 2 b_Drum_begins
noncomputable def b_Drum_size : Wm.BSem :=
  (sSeq (sIf (tOrS (tNotS (tTruth (eCall F_is_whole (aCons (eVar 1) aNil)))) (asB (e2 dLt (eVar 1) (eC (.int 0)))))
  sBad
  sPass)
  (sRet (e2 dAdd (e1 (dFld 0 0) (eVar 0)) (e2 dMul (eVar 1) (e1 (dFld 0 1) (eVar 0))))))
noncomputable def F_Drum_size : FS := fnS 2 b_Drum_size
noncomputable def b_Drum_turn_of : Wm.BSem :=
  (sSeq (sIf (asB (e2 dEq (e1 (dFld 0 1) (eVar 0)) (eC (.int 0))))
  (sRet (e2 dDiv (eVar 1) (e1 (dFld 0 0) (eVar 0))))
  sPass)
  (sSeq (sSet 2 (e2 dSub (e2 dMul (eC (.int 2)) (e1 (dFld 0 0) (eVar 0))) (e1 (dFld 0 1) (eVar 0))))
  (sSeq (sSet 3 (eN dMax (aCons (eC (.int 0)) (aCons (e2 dDiv (e2 dSub (eCall F_root_of (aCons (e2 dAdd (e2 dMul (eVar 2) (eVar 2)) (e2 dMul (e2 dMul (eC (.int 8)) (e1 (dFld 0 1) (eVar 0))) (eVar 1))) aNil)) (eVar 2)) (e2 dMul (eC (.int 2)) (e1 (dFld 0 1) (eVar 0)))) aNil))))
  (sSeq (sWhile (asB (e2 dGt (eMeth 0 F_Drum_begins (eVar 0) (aCons (eVar 3) aNil)) (eVar 1)))
  (sSet 3 (e2 dSub (eVar 3) (eC (.int 1)))))
  (sSeq (sWhile (asB (e2 dLe (eMeth 0 F_Drum_begins (eVar 0) (aCons (e2 dAdd (eVar 3) (eC (.int 1))) aNil)) (eVar 1)))
  (sSet 3 (e2 dAdd (eVar 3) (eC (.int 1)))))
  (sRet (eVar 3)))))))
noncomputable def F_Drum_turn_of : FS := fnS 4 b_Drum_turn_of
noncomputable def b_Drum_where : Wm.BSem :=
  (sSeq (sIf (tOrS (tNotS (tTruth (eCall F_is_whole (aCons (eVar 1) aNil)))) (asB (e2 dLt (eVar 1) (eC (.int 0)))))
  sBad
  sPass)
  (sSeq (sSet 2 (eMeth 0 F_Drum_turn_of (eVar 0) (aCons (eVar 1) aNil)))
  (sRet (eTup (aCons (eVar 2) (aCons (e2 dSub (eVar 1) (eMeth 0 F_Drum_begins (eVar 0) (aCons (eVar 2) aNil))) (aCons (eMeth 0 F_Drum_size (eVar 0) (aCons (eVar 2) aNil)) aNil)))))))
noncomputable def F_Drum_where : FS := fnS 3 b_Drum_where
noncomputable def b_law_cell_at : Wm.BSem :=
  (sSeq (sIf (asB (e2 dLt (eVar 1) (eN dLen (aCons (eVar 0) aNil))))
  (sRet (e2 dIx (eVar 0) (eVar 1)))
  sPass)
  (sRet (eC (.int 0))))
noncomputable def F_law_cell_at : FS := fnS 2 b_law_cell_at
noncomputable def b_law_source_of : Wm.BSem :=
  (sRet (eLst (aCons (e2 dMul (eVar 0) (eN dInt (aCons (e2 dGe (eVar 0) (e2 dPow (eC (.int 10)) (eC (.int 18)))) aNil))) (aCons (e2 dMod (eVar 0) (eC (.int 2147483647))) (aCons (eC (.int 0)) aNil)))))
noncomputable def F_law_source_of : FS := fnS 1 b_law_source_of
noncomputable def b_law_next : Wm.BSem :=
  (sSeq (sIf (asB (e2 dGt (e2 dIx (eVar 0) (eC (.int 0))) (eC (.int 0))))
  (sSeq (sSet 2 (e2 dMod (e2 dIx (eVar 0) (eC (.int 0))) (eVar 1)))
  (sSeq (sSub (e2 dDiv (e2 dIx (eVar 0) (eC (.int 0))) (eVar 1)) (eVar 0) (eC (.int 0)))
  (sRet (eVar 2))))
  sPass)
  (sSeq (sSub (e2 dAdd (e2 dIx (eVar 0) (eC (.int 2))) (eC (.int 1))) (eVar 0) (eC (.int 2)))
  (sSeq (sSet 3 (e2 dIx (eLst (aCons (eC (.int 2147483647)) (aCons (eC (.int 2147483629)) (aCons (eC (.int 2147483587)) (aCons (eC (.int 2147483579)) (aCons (eC (.int 2147483563)) (aCons (eC (.int 2147483549)) (aCons (eC (.int 2147483543)) aNil)))))))) (e2 dMod (e2 dIx (eVar 0) (eC (.int 2))) (eC (.int 7)))))
  (sSeq (sSet 4 (e2 dMod (e2 dPow (e2 dAdd (e2 dAdd (e2 dIx (eVar 0) (eC (.int 1))) (e2 dMul (eC (.int 7919)) (e2 dIx (eVar 0) (eC (.int 2))))) (eC (.int 1))) (eC (.int 5))) (eVar 3)))
  (sSeq (sSet 4 (e2 dMod (e2 dMul (e2 dAdd (eVar 4) (e2 dIx (eVar 0) (eC (.int 2)))) (e2 dAdd (e2 dDiv (eVar 4) (eC (.int 1009))) (eC (.int 69621)))) (eVar 3)))
  (sRet (e2 dMod (e2 dDiv (eVar 4) (eC (.int 7))) (eVar 1))))))))
noncomputable def F_law_next : FS := fnS 5 b_law_next
noncomputable def b_law_one : Wm.BSem :=
  (sRet (e2 dIx (eVar 1) (eCall F_law_next (aCons (eVar 0) (aCons (eN dLen (aCons (eVar 1) aNil)) aNil)))))
noncomputable def F_law_one : FS := fnS 2 b_law_one
end Sh
end
section
namespace Wm
open PySem L2
def bd (k : Nat) (i : Int) : Prop := i.natAbs < 2 ^ k
theorem bd_mono {a b : Nat} {x : Int} (h : bd a x) (l : a ≤ b) : bd b x := Nat.lt_of_lt_of_le h (Nat.pow_le_pow_right (by decide) l)
theorem bd_mul {a b n : Nat} {x y : Int} (hx : bd a x) (hy : bd b y) (l : a + b ≤ n) : bd n (x * y) := bd_mono (by
  unfold bd at *
  rw [Int.natAbs_mul, Nat.pow_add]
  exact Nat.mul_lt_mul'' hx hy) l
theorem bd_add {a n : Nat} {x y : Int} (hx : bd a x) (hy : bd a y) (l : a + 1 ≤ n) : bd n (x + y) := bd_mono (by
  unfold bd at *
  have := Int.natAbs_add_le x y
  rw [Nat.pow_succ]; omega) l
theorem bd_sub {a n : Nat} {x y : Int} (hx : bd a x) (hy : bd a y) (l : a + 1 ≤ n) : bd n (x - y) := bd_mono (by
  unfold bd at *
  have := Int.natAbs_sub_le x y
  rw [Nat.pow_succ]; omega) l
theorem bd_div {n : Nat} {x y : Int} (hx : bd n x) : bd n (x / y) := Nat.lt_of_le_of_lt (Int.natAbs_ediv_le_natAbs x y) hx
theorem bd_le {n : Nat} {x y : Int} (hy : bd n y) (h0 : 0 ≤ x) (h : x ≤ y) : bd n x := by unfold bd at *; omega
theorem bd_neg {n : Nat} {x : Int} (hx : bd n x) : bd n (-x) := by unfold bd at *; omega
theorem bits_le {k : Nat} {x : Int} (h : bd k x) : bitsN x ≤ k := by
  unfold bitsN Builtin.Int.intBits
  unfold bd at h
  split
  · omega
  · rename_i h0
    have h1 : x ≠ 0 := by simpa using h0
    have := (Nat.log2_lt (by omega : x.natAbs ≠ 0)).mpr h
    omega
theorem mulOk_of {a b : Nat} {x y : Int} (hx : bd a x) (hy : bd b y) (l : a + b ≤ 134217728) : mulOk x y := by
  unfold mulOk
  have := bits_le hx
  have := bits_le hy
  omega
theorem divOk_of {y : Int} (h0 : 0 < y) (hy : bd 9000 y) : divOk y := ⟨h0, PySem.Flt.log2_lt_of (by decide) hy⟩
theorem bd_mulE {a b : Nat} {x y : Int} (hx : bd a x) (hy : bd b y) : bd (a + b) (x * y) := bd_mul hx hy (Nat.le_refl _)
theorem bd_addE {a b : Nat} {x y : Int} (hx : bd a x) (hy : bd b y) : bd (max a b + 1) (x + y) := bd_add (bd_mono hx (Nat.le_max_left a b)) (bd_mono hy (Nat.le_max_right a b)) (Nat.le_refl _)
theorem bd_subE {a b : Nat} {x y : Int} (hx : bd a x) (hy : bd b y) : bd (max a b + 1) (x - y) := bd_sub (bd_mono hx (Nat.le_max_left a b)) (bd_mono hy (Nat.le_max_right a b)) (Nat.le_refl _)
theorem bd_litE {x : Int} (l : x.natAbs < 2 ^ 64) : bd 64 x := l
theorem dMul_ok {a b : Int} {h : Hm} (m : mulOk a b) : dMul (.int a) (.int b) h = .ok (.int (a * b)) h := if_pos m
theorem dDiv_ok {a b : Int} {h : Hm} (m : divOk b) : dDiv (.int a) (.int b) h = .ok (.int (a / b)) h := if_pos m
theorem dMod_ok {a b : Int} {h : Hm} (m : 0 < b) : dMod (.int a) (.int b) h = .ok (.int (a % b)) h := if_pos m
theorem dPow_ok {a b : Int} {h : Hm} (m : powOk a b) : dPow (.int a) (.int b) h = .ok (.int (a ^ b.toNat)) h := if_pos m
theorem dShl_ok {a b : Int} {h : Hm} (m : shlOk a b) : dShl (.int a) (.int b) h = .ok (.int (a * 2 ^ b.toNat)) h := if_pos m
theorem szOk_of {n : Nat} (h : n ≤ 100000) : szOk n := Nat.le_trans h (by decide)
def Good (o : O) (N : Env → Hm → Prop) (Rt : D → Hm → Prop) : Prop := match o with
  | .nx e h => N e h
  | .rt d h => Rt d h
  | _ => False
theorem Good.mono {o : O} {N M : Env → Hm → Prop} {Rt : D → Hm → Prop} (g : Good o N Rt) (k : ∀ e h, N e h → M e h) : Good o M Rt := by
  cases o with
  | nx e h => exact k _ _ g
  | rt d h => exact g
  | bk e h => exact g
  | ct e h => exact g
  | exc c fs h => exact g
  | bad => exact g
section
variable {f g : BSem} {env env' : Env} {h h1 : Hm} {N : Env → Hm → Prop} {Rt : D → Hm → Prop} {e : Env → Hm → R D} {t : Env → Hm → R Bool} {d : D} {i : Nat} {b : Bool} {w : Env → Hm → R Its} {it : Its}
theorem wp_seq (k : Good (f env h) (fun e h => Good (g e h) N Rt) Rt) : Good (sSeq f g env h) N Rt := by
  unfold sSeq
  cases e : f env h with
  | nx e' h' => rw [e] at k; exact k
  | rt d h' => rw [e] at k; exact k
  | bk e' h' => rw [e] at k; exact k.elim
  | ct e' h' => rw [e] at k; exact k.elim
  | exc c fs h' => rw [e] at k; exact k.elim
  | bad => rw [e] at k; exact k.elim
theorem wp_set (he : e env h = .ok d h1) (k : N (env.set i (some d)) h1) : Good (sSet i e env h) N Rt := by
  unfold sSet; rw [he]; exact k
theorem wp_asg {tg : D → Env → Option Env} (he : e env h = .ok d h1) (hg : tg d env = some env') (k : N env' h1) : Good (sAsg tg e env h) N Rt := by
  unfold sAsg; rw [he]; simp only [R.bindO]; rw [hg]; exact k
theorem wp_if (ht : t env h = .ok b h1) (k1 : b = true → Good (f env h1) N Rt) (k2 : b = false → Good (g env h1) N Rt) : Good (sIf t f g env h) N Rt := by
  unfold sIf; rw [ht]
  cases b with
  | true => exact k1 rfl
  | false => exact k2 rfl
theorem wp_skip (ht : t env h = .ok false h1) (k : N env h1) : Good (sIf t f sPass env h) N Rt := by
  unfold sIf; rw [ht]; exact k
theorem wp_ret (he : e env h = .ok d h1) (k : Rt d h1) : Good (sRet e env h) N Rt := by
  unfold sRet; rw [he]; exact k
theorem wp_forS {chk : Hm → Prop} {tg : D → Env → Option Env} : ∀ (xs : List D) (P : List D → Env → Hm → Prop) (env : Env) (h : Hm) (h0 : P xs env h) (hc : ∀ ys e h, P ys e h → chk h)
    (hs : ∀ y ys e h, P (y :: ys) e h → ∃ e1, tg y e = some e1 ∧ Good (f e1 h) (P ys) Rt) (hd : ∀ e h, P [] e h → N e h), Good (forS chk tg f xs env h) N Rt
  | [], P, env, h, h0, hc, hs, hd => by
    unfold forS
    rw [if_pos (hc _ _ _ h0)]
    exact hd _ _ h0
  | x :: xs, P, env, h, h0, hc, hs, hd => by
    unfold forS
    rw [if_pos (hc _ _ _ h0)]
    obtain ⟨e1, h1, h2⟩ := hs _ _ _ _ h0
    rw [h1]
    simp only
    cases e : f e1 h with
    | nx e' h' => rw [e] at h2; exact wp_forS xs P e' h' h2 hc hs hd
    | rt d h' => rw [e] at h2; exact h2
    | bk e' h' => rw [e] at h2; exact h2.elim
    | ct e' h' => rw [e] at h2; exact h2.elim
    | exc c fs h' => rw [e] at h2; exact h2.elim
    | bad => rw [e] at h2; exact h2.elim
theorem wp_for {tg : D → Env → Option Env} (hw : w env h = .ok it h1) (P : List D → Env → Hm → Prop) (h0 : P it.xs env h1) (hc : ∀ ys e h, P ys e h → it.chk h)
    (hs : ∀ y ys e h, P (y :: ys) e h → ∃ e1, tg y e = some e1 ∧ Good (f e1 h) (P ys) Rt) (hd : ∀ e h, P [] e h → N e h) : Good (sFor w tg f env h) N Rt := by
  unfold sFor
  rw [hw]
  exact wp_forS it.xs P env h1 h0 hc hs hd
end
theorem fn_good {n : Nat} {b : BSem} {ds : List D} {h : Hm} {Q : D → Hm → Prop} (g : Good (b (envOf n ds) h) (fun _ h' => Q .non h') Q) : ∃ d h', fnS n b ds h = .ok d h' ∧ Q d h' := by
  unfold fnS
  cases e : b (envOf n ds) h with
  | nx e' h' => rw [e] at g; exact ⟨_, _, rfl, g⟩
  | rt d h' => rw [e] at g; exact ⟨_, _, rfl, g⟩
  | bk e' h' => rw [e] at g; exact g.elim
  | ct e' h' => rw [e] at g; exact g.elim
  | exc c fs h' => rw [e] at g; exact g.elim
  | bad => rw [e] at g; exact g.elim
end Wm
end
open PySem L2 Wm
local macro_rules | `(tactic| simp_arith [$ls,*]) => `(tactic| simp (disch := walk_at "okk") only [fnS, envOf, sSeq, sIf, sSet, sAsg, sDrop, sRet, sRetN, sPass, sBrk, sCnt, sPar, sSub, sFldS, asB, tAndS, tOrS, tNotS, tTruth, eIf, eAnd, eOr, eNot, eChain, eTup, eLst, eSlice, oNo, oSome, eBits, e2, e1, eN, eCall, eMeth, eMake, isIns, aCons, aNil, eVar, eC, R.bind, R.bindO, O.seq, dB, dTruth, dAdd, dSub, dLt, dLe, dGt, dGe, dIs, dIsNot, D.isN, dLen, dMax, dMin, dInt, dIx, items, dFld, dSetF, dSetIx, dIsi, D.ty, Ty.is, gN, gT, gAll, Option.bind, Option.map, new,
  List.map_cons, List.map_nil, List.length_cons, List.length_nil, List.replicate, List.getElem?_cons_zero, List.getElem?_cons_succ, List.cons_append, List.nil_append, List.set_cons_zero, List.set_cons_succ, Nat.reduceAdd, Nat.reduceSub, decide_true, decide_false, if_true, if_false, dMul_ok, dDiv_ok, dMod_ok, dPow_ok, dShl_ok, beq_self_eq_true, Bool.not_true, Bool.not_false, reduceIte, reduceCtorEq, Bool.false_eq_true, $ls,*])
local macro_rules | `(tactic| walk_at "bd") => `(tactic| (focus ((repeat' (first | assumption | exact bd_litE (by decide) | (with_reducible apply bd_mulE) | (with_reducible apply bd_addE) | (with_reducible apply bd_subE) | (with_reducible apply bd_div) | (with_reducible apply bd_neg))); done)))
local macro_rules | `(tactic| walk_at "bnd") => `(tactic| (apply bd_mono; walk_at "bd"; decide))
local macro_rules | `(tactic| walk_at "okk") => `(tactic| first | assumption | (apply mulOk_of; walk_at "bd"; walk_at "bd"; decide) | (apply divOk_of; (focus (first | assumption | omega)); walk_at "bnd") | decide | omega)
section
open PySem L2 Wm
namespace Sh
open PySem L2 Wm
theorem gc_same {h : Hm} {d : D} (l : d.lows h.length = true) : gcR h (.ok d h) = .ok d h := by
  have := gc_keep (h := h) (g := []) l
  rwa [List.append_nil] at this
theorem gc_int {h : Hm} {i : Int} : gcR h (.ok (.int i) h) = .ok (.int i) h := gc_same rfl
theorem gc_bl {h : Hm} {i : Bool} : gcR h (.ok (.bl i) h) = .ok (.bl i) h := gc_same rfl
theorem gc_non {h : Hm} : gcR h (.ok .non h) = .ok .non h := gc_same rfl
theorem gc_t3 {h : Hm} {i j k : Int} : gcR h (.ok (.tup [.int i, .int j, .int k]) h) = .ok (.tup [.int i, .int j, .int k]) h := gc_same rfl
theorem gc_t2 {h : Hm} {i j : Int} : gcR h (.ok (.tup [.int i, .int j]) h) = .ok (.tup [.int i, .int j]) h := gc_same rfl
theorem is_whole_int {i : Int} {h : Hm} : F_is_whole [.int i] h = .ok (.bl true) h := rfl
def beg (f s t : Int) : Int := t * f + s * (t * (t - 1) / 2)
theorem tri_succ (t : Int) : (t + 1) * (t + 1 - 1) / 2 = t * (t - 1) / 2 + t := by
  have e : (t + 1) * (t + 1 - 1) = t * (t - 1) + t * 2 := by grind
  rw [e, Int.add_mul_ediv_right _ _ (by decide)]
theorem beg_succ (f s t : Int) : beg f s (t + 1) = beg f s t + (f + t * s) := by
  unfold beg
  rw [tri_succ]
  grind
theorem beg_zero (f s : Int) : beg f s 0 = 0 := by simp [beg]
theorem beg_ge {f s t : Int} (hf : 1 ≤ f) (hs : 0 ≤ s) (ht : 0 ≤ t) : t ≤ beg f s t := by
  unfold beg
  have h1 : t * 1 ≤ t * f := Int.mul_le_mul_of_nonneg_left hf ht
  have h2 : 0 ≤ t * (t - 1) / 2 := by
    apply Int.ediv_nonneg _ (by decide)
    by_cases h : t = 0
    · subst h; decide
    · exact Int.mul_nonneg ht (by omega)
  have h3 := Int.mul_nonneg hs h2
  omega
structure Dr (h : Hm) (n : Nat) (f s : Int) : Prop where
  at_ : h[n]? = some (.ins 0 [.int f, .int s])
  f1 : 1 ≤ f
  s0 : 0 ≤ s
  bf : bd 300 f
  bs : bd 300 s
theorem begins_ok {h : Hm} {n : Nat} {f s t : Int} (d : Dr h n f s) (ht : 0 ≤ t) (bt : bd 2000 t) : F_Drum_begins [.obj n, .int t] h = .ok (.int (beg f s t)) h := by
  have bf := d.bf
  have bs := d.bs
  have h0 : ¬ t < 0 := by omega
  unfold F_Drum_begins b_Drum_begins
  simp_arith [is_whole_int, gc_bl, h0, d.at_, beg]
theorem begins_okL {h : Hm} {n : Nat} {f s t : Int} (d : Dr h n f s) (ht : 0 ≤ t) (bt : bd 7000 t) : F_Drum_begins [.obj n, .int t] h = .ok (.int (beg f s t)) h := by
  have bf := d.bf
  have bs := d.bs
  have h0 : ¬ t < 0 := by omega
  unfold F_Drum_begins b_Drum_begins
  simp_arith [is_whole_int, gc_bl, h0, d.at_, beg]
theorem size_ok {h : Hm} {n : Nat} {f s t : Int} (d : Dr h n f s) (ht : 0 ≤ t) (bt : bd 2000 t) : F_Drum_size [.obj n, .int t] h = .ok (.int (f + t * s)) h := by
  have bs := d.bs
  have h0 : ¬ t < 0 := by omega
  unfold F_Drum_size b_Drum_size
  simp_arith [is_whole_int, gc_bl, h0, d.at_]
end Sh
end
section
open PySem L2 Wm
namespace Sh
open PySem L2 Wm
theorem while_ind {c : Wm.Env → Hm → R Bool} {b : BSem} (P : Wm.Env → Hm → Prop) (Q : O → Prop) (m : Wm.Env → Nat) (hs : ∀ env h, P env h → (∃ h1, c env h = .ok false h1 ∧ Q (.nx env h1)) ∨ (∃ h1, c env h = .ok true h1 ∧ ((∃ e2 h2, b env h1 = .nx e2 h2 ∧ P e2 h2 ∧ m e2 < m env) ∨ ∃ d h2, b env h1 = .rt d h2 ∧ Q (.rt d h2)))) :
    ∀ (n : Nat) (env : Wm.Env) (h : Hm), m env ≤ n → P env h → Q (sWhile c b env h) := by
  intro n
  induction n with
  | zero =>
    intro env h hm hp
    rcases hs env h hp with ⟨h1, e, q⟩ | ⟨h1, e, ⟨e2, h2, e3, _, l⟩ | ⟨d, h2, e3, q⟩⟩
    · rw [while_end e]; exact q
    · omega
    · rw [while_ret e e3]; exact q
  | succ n ih =>
    intro env h hm hp
    rcases hs env h hp with ⟨h1, e, q⟩ | ⟨h1, e, ⟨e2, h2, e3, p2, l⟩ | ⟨d, h2, e3, q⟩⟩
    · rw [while_end e]; exact q
    · rw [while_next e e3]
      exact ih e2 h2 (by omega) p2
    · rw [while_ret e e3]; exact q
theorem root_ok {h : Hm} {x : Int} (h0 : 0 ≤ x) (bx : bd 6000 x) : ∃ r, 0 ≤ r ∧ bd 6001 r ∧ F_root_of [.int x] h = .ok (.int r) h := by
  by_cases h2 : x < 2
  · refine ⟨x, h0, bd_mono bx (by decide), ?_⟩
    unfold F_root_of b_root_of
    simp_arith [h2]
  · have hb : (bitsN x : Int) ≤ 6000 := by have := bits_le bx; omega
    have hb0 : 0 ≤ (bitsN x : Int) := Int.natCast_nonneg _
    have sh : shlOk 1 (((bitsN x : Int) + 1) / 2) := by
      unfold shlOk
      have : bitsN 1 = 1 := by decide
      rw [this]
      constructor <;> omega
    have dv : divOk 2 := by decide
    -- the loop
    have loop : ∀ (g : Nat), 1 ≤ g → bd 6001 (g : Int) → ∀ v : Option D, ∃ r, 0 ≤ r ∧ bd 6001 r ∧ sWhile (asB (eC (.bl true))) (sSeq (sSet 2 (e2 dDiv (e2 dAdd (eVar 1) (e2 dDiv (eVar 0) (eVar 1))) (eC (.int 2))))
        (sSeq (sIf (asB (e2 dGe (eVar 2) (eVar 1))) (sRet (eVar 1)) sPass) (sSet 1 (eVar 2)))) [some (.int x), some (.int g), v] h = .rt (.int r) h := by
      intro g
      induction g using Nat.strongRecOn with
      | ind g ih =>
        intro hg bg v
        have dg : divOk (g : Int) := divOk_of (by omega) (bd_mono bg (by decide))
        have hc : asB (eC (.bl true)) [some (.int x), some (.int (g : Int)), v] h = .ok true h := rfl
        by_cases hge : (g : Int) ≤ ((g : Int) + x / (g : Int)) / 2
        · refine ⟨g, by omega, bg, ?_⟩
          refine while_ret hc ?_
          simp_arith [dDiv, dv, dg, hge]
        · have hq : 0 ≤ x / (g : Int) := Int.ediv_nonneg h0 (by omega)
          obtain ⟨g', hg'⟩ : ∃ g' : Nat, (g' : Int) = ((g : Int) + x / (g : Int)) / 2 := ⟨(((g : Int) + x / (g : Int)) / 2).toNat, by omega⟩
          have l1 : g' < g := by omega
          have l2 : 1 ≤ g' := by
            have : 2 ≤ g := by
              by_cases e : g = 1
              · subst e
                simp at hge
                omega
              · omega
            omega
          obtain ⟨r, r1, r2, r3⟩ := ih g' l1 l2 (bd_le bg (by omega) (by omega)) (some (.int g'))
          refine ⟨r, r1, r2, ?_⟩
          rw [← r3]
          refine while_next hc ?_
          rw [hg']
          simp_arith [dDiv, dv, dg, hge]
    obtain ⟨g, hg⟩ : ∃ g : Nat, (g : Int) = 1 * 2 ^ (((bitsN x : Int) + 1) / 2).toNat := ⟨2 ^ (((bitsN x : Int) + 1) / 2).toNat, by simp⟩
    have g1 : 1 ≤ g := by
      have : (0 : Int) < 1 * 2 ^ (((bitsN x : Int) + 1) / 2).toNat := by rw [Int.one_mul]; exact Int.pow_pos (by decide)
      omega
    have bg : bd 6001 (g : Int) := by
      unfold bd
      rw [hg, Int.one_mul, Int.natAbs_pow]
      exact Nat.pow_lt_pow_right (by decide) (by omega)
    obtain ⟨r, r1, r2, r3⟩ := loop g g1 bg none
    refine ⟨r, r1, r2, ?_⟩
    rw [hg] at r3
    unfold F_root_of b_root_of
    simp_arith [h2, dDiv, dShl, dv, sh]
    rw [r3]
end Sh
end
section
open PySem L2 Wm
namespace Sh
open PySem L2 Wm
theorem dEq_int {a b : Int} {h : Hm} : dEq (.int a) (.int b) h = .ok (.bl (decide (a = b))) h := rfl
theorem dNe_int {a b : Int} {h : Hm} : dNe (.int a) (.int b) h = .ok (.bl (!decide (a = b))) h := rfl
theorem beg_mono {f s a b : Int} (hf : 1 ≤ f) (hs : 0 ≤ s) (ha : 0 ≤ a) (hab : a ≤ b) : beg f s a ≤ beg f s b := by
  obtain ⟨k, rfl⟩ : ∃ k : Nat, b = a + (k : Int) := ⟨(b - a).toNat, by omega⟩
  clear hab
  induction k with
  | zero => simp
  | succ k ih =>
    have e : a + ((k + 1 : Nat) : Int) = (a + (k : Int)) + 1 := by omega
    rw [e, beg_succ]
    have := Int.mul_nonneg (show 0 ≤ a + (k : Int) by omega) hs
    omega
theorem turn_uniq {f s c t u : Int} (hf : 1 ≤ f) (hs : 0 ≤ s) (ht : 0 ≤ t) (hu : 0 ≤ u) (h1 : beg f s t ≤ c) (h2 : c < beg f s (t + 1)) (h3 : beg f s u ≤ c) (h4 : c < beg f s (u + 1)) : t = u := by
  by_cases l : t < u
  · have := beg_mono hf hs (show 0 ≤ t + 1 by omega) (show t + 1 ≤ u by omega)
    omega
  · by_cases l' : u < t
    · have := beg_mono hf hs (show 0 ≤ u + 1 by omega) (show u + 1 ≤ t by omega)
      omega
    · omega
structure IsTurn (f s c t : Int) : Prop where
  t0 : 0 ≤ t
  lo : beg f s t ≤ c
  hi : c < beg f s (t + 1)
theorem IsTurn.le {f s c t : Int} (T : IsTurn f s c t) (hf : 1 ≤ f) (hs : 0 ≤ s) : t ≤ c := Int.le_trans (beg_ge hf hs T.t0) T.lo
theorem isIns_dr {h : Hm} {n : Nat} {f s : Int} (d : Dr h n f s) : isIns 0 (.obj n) h = true := by simp [isIns, d.at_]
theorem bd_lit {k : Nat} {x : Int} (l : x.natAbs < 2 ^ 64) (h : 64 ≤ k) : bd k x := bd_mono (a := 64) l h
theorem turn_ok {h : Hm} {n : Nat} {f s c : Int} (d : Dr h n f s) (h0 : 0 ≤ c) (bc : bd 1000 c) : ∃ t, IsTurn f s c t ∧ F_Drum_turn_of [.obj n, .int c] h = .ok (.int t) h := by
  have f1 := d.f1
  by_cases hs : s = 0
  · subst hs
    have dv : divOk f := divOk_of (by omega) (bd_mono d.bf (by decide))
    refine ⟨c / f, ⟨Int.ediv_nonneg h0 (by omega), ?_, ?_⟩, ?_⟩
    · simp only [beg, Int.zero_mul, Int.add_zero]
      exact Int.ediv_mul_le c (by omega)
    · simp only [beg, Int.zero_mul, Int.add_zero]
      exact Int.lt_ediv_add_one_mul_self c (by omega)
    · unfold F_Drum_turn_of b_Drum_turn_of
      simp_arith [d.at_, dEq_int, dDiv, dv]
  · have s1 : 0 < s := by have := d.s0; omega
    have bf := d.bf
    have bs := d.bs
    have s0 := d.s0
    have hi := isIns_dr d
    -- the root
    have br : bd 6000 ((2 * f - s) * (2 * f - s) + 8 * s * c) := by walk_at "bnd"
    have r0 : 0 ≤ (2 * f - s) * (2 * f - s) + 8 * s * c := by
      have h1 := Int.mul_nonneg (show 0 ≤ 8 * s by omega) h0
      have h2 : 0 ≤ (2 * f - s) * (2 * f - s) := by
        rcases Int.le_total 0 (2 * f - s) with l | l
        · exact Int.mul_nonneg l l
        · exact Int.mul_nonneg_of_nonpos_of_nonpos l l
      omega
    obtain ⟨r, q0, q1, q2⟩ := root_ok (h := h) r0 br
    have bq : bd 6100 ((r - (2 * f - s)) / (2 * s)) := by walk_at "bnd"
    -- where the loops begin
    obtain ⟨t0, e0, p0, b0⟩ : ∃ t0 : Int, t0 = (if (r - (2 * f - s)) / (2 * s) > 0 then (r - (2 * f - s)) / (2 * s) else 0) ∧ 0 ≤ t0 ∧ bd 6100 t0 := by
      refine ⟨_, rfl, ?_, ?_⟩
      · split <;> omega
      · split
        · exact bq
        · exact bd_lit (by decide) (by decide)
    have beg_b : ∀ t : Int, 0 ≤ t → bd 7000 t → F_Drum_begins [.obj n, .int t] h = .ok (.int (beg f s t)) h := fun t ht bt => begins_okL d ht bt
    -- down
    have down : ∀ (k : Nat) (t : Int), 0 ≤ t → t ≤ k → bd 6100 t → ∃ u, 0 ≤ u ∧ u ≤ t ∧ beg f s u ≤ c ∧ sWhile (asB (e2 dGt (eMeth 0 F_Drum_begins (eVar 0) (aCons (eVar 3) aNil)) (eVar 1))) (sSet 3 (e2 dSub (eVar 3) (eC (.int 1))))
        [some (.obj n), some (.int c), some (.int (2 * f - s)), some (.int t)] h = .nx [some (.obj n), some (.int c), some (.int (2 * f - s)), some (.int u)] h := by
      intro k
      induction k with
      | zero =>
        intro t t0 tk bt
        have e : t = 0 := by omega
        subst e
        refine ⟨0, by omega, by omega, by rw [beg_zero]; exact h0, ?_⟩
        refine while_end (h1 := h) ?_
        have hn : ¬ c < beg f s 0 := by rw [beg_zero]; omega
        simp_arith [d.at_, beg_b 0 (by omega) (bd_lit (by decide) (by decide)), gc_int, hn]
      | succ k ih =>
        intro t t0 tk bt
        by_cases hc : c < beg f s t
        · have tpos : t ≠ 0 := by
            intro e; subst e; rw [beg_zero] at hc; omega
          obtain ⟨u, u1, u2, u3, u4⟩ := ih (t - 1) (by omega) (by omega) (bd_le bt (by omega) (by omega))
          refine ⟨u, u1, by omega, u3, ?_⟩
          rw [← u4]
          refine while_next (h1 := h) ?_ ?_
          · simp_arith [d.at_, beg_b t t0 (bd_mono bt (by decide)), gc_int, hc]
          · simp_arith []
        · refine ⟨t, t0, Int.le_refl _, by omega, ?_⟩
          refine while_end (h1 := h) ?_
          simp_arith [d.at_, beg_b t t0 (bd_mono bt (by decide)), gc_int, hc]
    obtain ⟨u, u1, u2, u3, u4⟩ := down t0.toNat t0 p0 (by omega) b0
    -- up
    have up : ∀ (k : Nat) (t : Int), 0 ≤ t → c - t ≤ k → beg f s t ≤ c → bd 6100 t → ∃ v, IsTurn f s c v ∧ sWhile (asB (e2 dLe (eMeth 0 F_Drum_begins (eVar 0) (aCons (e2 dAdd (eVar 3) (eC (.int 1))) aNil)) (eVar 1))) (sSet 3 (e2 dAdd (eVar 3) (eC (.int 1))))
        [some (.obj n), some (.int c), some (.int (2 * f - s)), some (.int t)] h = .nx [some (.obj n), some (.int c), some (.int (2 * f - s)), some (.int v)] h := by
      intro k
      induction k with
      | zero =>
        intro t t0 tk tc bt
        have l1 := beg_ge f1 s0 (show 0 ≤ t + 1 by omega)
        have hn : ¬ beg f s (t + 1) ≤ c := by omega
        refine ⟨t, ⟨t0, tc, by omega⟩, ?_⟩
        refine while_end (h1 := h) ?_
        simp_arith [d.at_, beg_b (t + 1) (by omega) (by walk_at "bnd"), gc_int, hn]
      | succ k ih =>
        intro t t0 tk tc bt
        by_cases hc : beg f s (t + 1) ≤ c
        · have l1 := beg_ge f1 s0 (show 0 ≤ t + 1 by omega)
          obtain ⟨v, v1, v2⟩ := ih (t + 1) (by omega) (by omega) hc (bd_le (bd_mono bc (by decide)) (by omega) (Int.le_trans l1 hc))
          refine ⟨v, v1, ?_⟩
          rw [← v2]
          refine while_next (h1 := h) ?_ ?_
          · simp_arith [d.at_, beg_b (t + 1) (by omega) (by walk_at "bnd"), gc_int, hc]
          · simp_arith []
        · refine ⟨t, ⟨t0, tc, by omega⟩, ?_⟩
          refine while_end (h1 := h) ?_
          simp_arith [d.at_, beg_b (t + 1) (by omega) (by walk_at "bnd"), gc_int, hc]
    obtain ⟨v, v1, v2⟩ := up (c - u).toNat u u1 (by omega) u3 (bd_le b0 u1 u2)
    refine ⟨v, v1, ?_⟩
    unfold F_Drum_turn_of b_Drum_turn_of
    simp_arith [d.at_, dEq_int, hs, q2, gc_int, ← e0, u4, v2]
end Sh
end
section
open PySem L2 Wm
namespace Sh
open PySem L2 Wm
theorem hset {h : Hm} {m : Nat} {o : Ob} (l : m < h.length) : (h.set m o)[m]? = some o := List.getElem?_set_self l
theorem happ {h g : Hm} {m : Nat} (l : m < h.length) : (h ++ g)[m]? = h[m]? := List.getElem?_append_left l
theorem hnew {h : Hm} {o : Ob} : (h ++ [o])[List.length h]? = some o := by simp
theorem hset_ne {h : Hm} {m n : Nat} {o : Ob} (l : n ≠ m) : (h.set m o)[n]? = h[n]? := List.getElem?_set_ne (Ne.symm l)
theorem hlt {h : Hm} {m : Nat} {o : Ob} (e : h[m]? = some o) : m < h.length := (List.getElem?_eq_some_iff.mp e).1
theorem where_ok {h : Hm} {n : Nat} {f s c : Int} (d : Dr h n f s) (h0 : 0 ≤ c) (bc : bd 1000 c) : ∃ t, IsTurn f s c t ∧ F_Drum_where [.obj n, .int c] h = .ok (.tup [.int t, .int (c - beg f s t), .int (f + t * s)]) h := by
  obtain ⟨t, T, e⟩ := turn_ok d h0 bc
  refine ⟨t, T, ?_⟩
  have bt : bd 1000 t := bd_le bc T.t0 (T.le d.f1 d.s0)
  have hn : ¬ c < 0 := by omega
  unfold F_Drum_where b_Drum_where
  simp_arith [is_whole_int, gc_bl, gc_int, hn, d.at_, e, begins_ok d T.t0 (bd_mono bt (by decide)), size_ok d T.t0 (bd_mono bt (by decide)), if_pos (szOk_of (show 0 + 1 + 1 + 1 ≤ 100000 by decide))]
theorem init_ok {h : Hm} {f s : Int} (f1 : 1 ≤ f) (f2 : f < 1000000000000000) (s0 : 0 ≤ s) (s2 : s < 1000000000000000) :
    gcR (h ++ [.ins 0 []]) (F_Drum_init [.obj (List.length h), .int f, .int s] (h ++ [.ins 0 []])) = .ok .non (h ++ [.ins 0 [.int f, .int s]]) := by
  have e : F_Drum_init [.obj (List.length h), .int f, .int s] (h ++ [.ins 0 []]) = .ok .non (((h ++ [Ob.ins 0 []]).set (List.length h) (.ins 0 [.int f])).set (List.length h) (.ins 0 [.int f, .int s])) := by
    unfold F_Drum_init b_Drum_init
    simp_arith [is_whole_int, gc_bl, f1, f2, s0, s2, hnew, hset (m := List.length h) (h := h ++ [Ob.ins 0 []]) (by simp), Nat.lt_irrefl, Nat.zero_lt_one]
  rw [e]
  have e2 : ((h ++ [Ob.ins 0 []]).set (List.length h) (.ins 0 [.int f])).set (List.length h) (.ins 0 [.int f, .int s]) = (h ++ [Ob.ins 0 []]).set (List.length h) (.ins 0 [.int f, .int s]) ++ [] := by simp
  rw [e2, gc_put rfl rfl]
  simp
theorem dr_of {h : Hm} {f s : Int} (f1 : 1 ≤ f) (f2 : f < 1000000000000000) (s0 : 0 ≤ s) (s2 : s < 1000000000000000) : Dr (h ++ [.ins 0 [.int f, .int s]]) (List.length h) f s :=
  ⟨hnew, f1, s0, bd_lit (by omega) (by decide), bd_lit (by omega) (by decide)⟩
theorem Dr.keep {h h' : Hm} {n : Nat} {f s : Int} (d : Dr h n f s) (e : h'[n]? = h[n]?) : Dr h' n f s := ⟨e.trans d.at_, d.f1, d.s0, d.bf, d.bs⟩
structure Src (h : Hm) (m : Nat) (k : Nat) : Prop where
  ex : ∃ a b c : Int, h[m]? = some (.lst [.int a, .int b, .int c]) ∧ 0 ≤ b ∧ b < 2147483647 ∧ 0 ≤ c ∧ c ≤ k
theorem Src.keep {h h' : Hm} {m k : Nat} (s : Src h m k) (e : h'[m]? = h[m]?) : Src h' m k := by
  obtain ⟨a, b, c, e1, r⟩ := s.ex
  exact ⟨a, b, c, e.trans e1, r⟩
theorem Src.lt {h : Hm} {m k : Nat} (s : Src h m k) : m < h.length := by
  obtain ⟨a, b, c, e1, r⟩ := s.ex
  exact hlt e1
theorem gc_obj {h : Hm} {o : Ob} : gcR h (.ok (.obj (List.length h)) (h ++ [o])) = .ok (.obj (List.length h)) (h ++ [o]) := by
  unfold gcR
  simp only
  rw [if_neg]
  rintro ⟨_, l, _⟩
  simp [D.lows] at l
theorem source_ok {h : Hm} {x : Int} (hx : bitsN x ≤ 1048576) : ∃ o, gcR h (F_law_source_of [.int x] h) = .ok (.obj (List.length h)) (h ++ [o]) ∧ Src (h ++ [o]) (List.length h) 0 := by
  have m1 : mulOk x 1 := by
    unfold mulOk
    have : bitsN 1 = 1 := by decide
    omega
  have m0 : mulOk x 0 := by
    unfold mulOk
    have : bitsN 0 = 0 := by decide
    omega
  have pw : powOk 10 18 := by decide
  have b1 := Int.emod_nonneg x (show (2147483647 : Int) ≠ 0 by decide)
  have b2 := Int.emod_lt_of_pos x (show (0 : Int) < 2147483647 by decide)
  by_cases hc : (10 : Int) ^ (18 : Int).toNat ≤ x
  · refine ⟨.lst [.int (x * 1), .int (x % 2147483647), .int 0], ?_, ⟨_, _, _, hnew, b1, b2, by omega, by omega⟩⟩
    unfold F_law_source_of b_law_source_of
    simp_arith [hc, m1, pw, if_pos (szOk_of (show 0 + 1 + 1 + 1 ≤ 100000 by decide)), gc_obj]
  · refine ⟨.lst [.int (x * 0), .int (x % 2147483647), .int 0], ?_, ⟨_, _, _, hnew, b1, b2, by omega, by omega⟩⟩
    unfold F_law_source_of b_law_source_of
    simp_arith [hc, m0, pw, if_pos (szOk_of (show 0 + 1 + 1 + 1 ≤ 100000 by decide)), gc_obj]
theorem prime_ok {i : Int} (h0 : 0 ≤ i) (h7 : i < 7) : ∃ p : Int, 1000000000 ≤ p ∧ p ≤ 2147483647 ∧ atI [D.int 2147483647, .int 2147483629, .int 2147483587, .int 2147483579, .int 2147483563, .int 2147483549, .int 2147483543] i = some (.int p) := by
  have : i = 0 ∨ i = 1 ∨ i = 2 ∨ i = 3 ∨ i = 4 ∨ i = 5 ∨ i = 6 := by omega
  rcases this with rfl | rfl | rfl | rfl | rfl | rfl | rfl
  all_goals exact ⟨_, by decide, by decide, rfl⟩
theorem next_ok {h : Hm} {m k : Nat} {many : Int} (s : Src h m k) (hk : k < 2 ^ 50) (hm : 0 < many) (bm : bd 8000 many) : ∃ (r : Int) (o : Ob), 0 ≤ r ∧ r < many ∧ gcR h (F_law_next [.obj m, .int many] h) = .ok (.int r) (h.set m o) ∧ Src (h.set m o) m (k + 1) := by
  have hl := s.lt
  obtain ⟨a, b, c, e, b0, b1, c0, c1⟩ := s.ex
  have at0 : atI [D.int a, .int b, .int c] 0 = some (.int a) := rfl
  have at1 : atI [D.int a, .int b, .int c] 1 = some (.int b) := rfl
  have at2 : atI [D.int a, .int b, .int c] 2 = some (.int c) := rfl
  by_cases ha : 0 < a
  · refine ⟨a % many, .lst [.int (a / many), .int b, .int c], Int.emod_nonneg _ (by omega), Int.emod_lt_of_pos _ hm, ?_, ⟨_, _, _, hset hl, b0, b1, c0, by omega⟩⟩
    have ix : ixN 3 0 = some 0 := rfl
    have dv : divOk many := divOk_of hm (bd_mono bm (by decide))
    have e3 : F_law_next [.obj m, .int many] h = .ok (.int (a % many)) (h.set m (.lst [.int (a / many), .int b, .int c]) ++ []) := by
      unfold F_law_next b_law_next
      simp_arith [e, at0, ha, ix, List.append_nil]
    rw [e3, gc_put rfl rfl]
  · have ix : ixN 3 2 = some 2 := rfl
    have c7a := Int.emod_nonneg (c + 1) (show (7 : Int) ≠ 0 by decide)
    have c7b := Int.emod_lt_of_pos (c + 1) (show (0 : Int) < 7 by decide)
    obtain ⟨p, p0, p1, p2⟩ := prime_ok c7a c7b
    have at1' : atI [D.int a, .int b, .int (c + 1)] 1 = some (.int b) := rfl
    have at2' : atI [D.int a, .int b, .int (c + 1)] 2 = some (.int (c + 1)) := rfl
    have pp : 0 < p := by omega
    have pw : powOk (b + 7919 * (c + 1) + 1) 5 := by
      refine ⟨by decide, by decide, ?_⟩
      omega
    have f0 := Int.emod_nonneg ((b + 7919 * (c + 1) + 1) ^ (5 : Int).toNat) (Int.ne_of_gt pp)
    have f1 := Int.emod_lt_of_pos ((b + 7919 * (c + 1) + 1) ^ (5 : Int).toNat) pp
    have bc1 : bd 64 (c + 1) := by unfold bd; omega
    have bfig : bd 64 ((b + 7919 * (c + 1) + 1) ^ (5 : Int).toNat % p) := by unfold bd; omega
    obtain ⟨fig, hfig⟩ : ∃ fig, fig = (b + 7919 * (c + 1) + 1) ^ (5 : Int).toNat % p := ⟨_, rfl⟩
    rw [← hfig] at f0 f1 bfig
    have hl1 : m < (h.set m (.lst [.int a, .int b, .int (c + 1)])).length := by simpa using hl
    refine ⟨((fig + (c + 1)) * (fig / 1009 + 69621) % p) / 7 % many, .lst [.int a, .int b, .int (c + 1)], Int.emod_nonneg _ (by omega), Int.emod_lt_of_pos _ hm, ?_, ⟨_, _, _, hset hl, b0, b1, by omega, by omega⟩⟩
    have e3 : F_law_next [.obj m, .int many] h = .ok (.int (((fig + (c + 1)) * (fig / 1009 + 69621) % p) / 7 % many)) (h.set m (.lst [.int a, .int b, .int (c + 1)]) ++ [.lst [D.int 2147483647, .int 2147483629, .int 2147483587, .int 2147483579, .int 2147483563, .int 2147483549, .int 2147483543]]) := by
      unfold F_law_next b_law_next
      simp_arith [e, at0, at1', at2, at2', ha, ix, hset hl, happ hl1, hnew, p2, ← hfig, if_pos (szOk_of (show 0 + 1 + 1 + 1 + 1 + 1 + 1 + 1 ≤ 100000 by decide))]
    rw [e3, gc_put rfl rfl]
end Sh
end
section
open PySem L2 Wm
namespace Sh
open PySem L2 Wm
structure Hk (m : Nat) (h h' : Hm) : Prop where
  le : h.length ≤ h'.length
  at_ : ∀ i, i < h.length → i ≠ m → h'[i]? = h[i]?
theorem Hk.refl {m : Nat} {h : Hm} : Hk m h h := ⟨Nat.le_refl _, fun _ _ _ => rfl⟩
theorem Hk.trans {m : Nat} {h h1 h2 : Hm} (a : Hk m h h1) (b : Hk m h1 h2) : Hk m h h2 := ⟨Nat.le_trans a.le b.le, fun i l n => (b.at_ i (Nat.lt_of_lt_of_le l a.le) n).trans (a.at_ i l n)⟩
theorem Hk.set {m : Nat} {h : Hm} {o : Ob} : Hk m h (h.set m o) := ⟨by simp, fun i _ n => hset_ne n⟩
theorem Hk.app {m : Nat} {h g : Hm} : Hk m h (h ++ g) := ⟨by simp, fun i l _ => happ l⟩
theorem Hk.dr {m n : Nat} {h h' : Hm} {f s : Int} (k : Hk m h h') (d : Dr h n f s) (ne : n ≠ m) : Dr h' n f s := d.keep (k.at_ n (hlt d.at_) ne)
theorem Dr.app {h g : Hm} {n : Nat} {f s : Int} (d : Dr h n f s) : Dr (h ++ g) n f s := d.keep (happ (hlt d.at_))
theorem Dr.set {h : Hm} {n m : Nat} {o : Ob} {f s : Int} (d : Dr h n f s) (ne : n ≠ m) : Dr (h.set m o) n f s := d.keep (hset_ne ne)
theorem Src.app {h g : Hm} {m k : Nat} (s : Src h m k) : Src (h ++ g) m k := s.keep (happ s.lt)
theorem Src.mono {h : Hm} {m k k' : Nat} (s : Src h m k) (l : k ≤ k') : Src h m k' := by
  obtain ⟨a, b, c, e, b0, b1, c0, c1⟩ := s.ex
  exact ⟨a, b, c, e, b0, b1, c0, by omega⟩
theorem atI_mem {xs : List Int} {i : Int} (h0 : 0 ≤ i) (h1 : i < xs.length) : ∃ v ∈ xs, atI (xs.map D.int) i = some (.int v) := by
  obtain ⟨j, rfl⟩ : ∃ j : Nat, i = (j : Int) := ⟨i.toNat, by omega⟩
  have hj : j < xs.length := by omega
  refine ⟨xs[j], List.getElem_mem hj, atI_nat ?_⟩
  rw [List.getElem?_map, List.getElem?_eq_getElem hj]; rfl
theorem one_ok {h : Hm} {m l k : Nat} {xs : List Int} (s : Src h m k) (hk : k < 2 ^ 50) (e : h[l]? = some (.lst (xs.map .int))) (hx : 0 < xs.length) (hx2 : xs.length ≤ 1000) (ne : l ≠ m) :
    ∃ (v : Int) (o : Ob), v ∈ xs ∧ gcR h (F_law_one [.obj m, .obj l] h) = .ok (.int v) (h.set m o) ∧ Src (h.set m o) m (k + 1) := by
  obtain ⟨r, o, r0, r1, e1, s1⟩ := next_ok (many := (xs.length : Int)) s hk (by omega) (bd_lit (by omega) (by decide))
  obtain ⟨v, v1, v2⟩ := atI_mem r0 r1
  refine ⟨v, o, v1, ?_, s1⟩
  have e3 : F_law_one [.obj m, .obj l] h = .ok (.int v) (h.set m o ++ []) := by
    unfold F_law_one b_law_one
    have lm : ((xs.map D.int).length : Int) = xs.length := by simp
    simp_arith [e, lm, e1, hset_ne ne, v2, List.append_nil]
  obtain ⟨a, b, c, e4, _⟩ := s1.ex
  have e5 : o = .lst [.int a, .int b, .int c] := by
    have := hset (o := o) s.lt
    rw [this] at e4; exact Option.some.inj e4
  rw [e3, e5, gc_put rfl rfl]
theorem cell_ok {h : Hm} {ns : List Int} {k : Nat} (e : h[0]? = some (.scr (ns.map .int))) : gcR h (F_law_cell_at [.obj 0, .int k] h) = .ok (.int (ns.getD k 0)) h := by
  have lm : ((ns.map D.int).length : Int) = ns.length := by simp
  by_cases hk : (k : Int) < ns.length
  · have hk' : k < ns.length := by omega
    have ha : atI (ns.map D.int) (k : Int) = some (.int (ns.getD k 0)) := by
      refine atI_nat ?_
      rw [List.getElem?_map, List.getElem?_eq_getElem hk', List.getD_eq_getElem?_getD, List.getElem?_eq_getElem hk']; rfl
    have e3 : F_law_cell_at [.obj 0, .int k] h = .ok (.int (ns.getD k 0)) h := by
      unfold F_law_cell_at b_law_cell_at
      simp_arith [e, lm, hk, ha]
    rw [e3, gc_int]
  · have e2 : ns.getD k 0 = 0 := by
      rw [List.getD_eq_getElem?_getD, List.getElem?_eq_none (by omega)]; rfl
    have e3 : F_law_cell_at [.obj 0, .int k] h = .ok (.int (ns.getD k 0)) h := by
      unfold F_law_cell_at b_law_cell_at
      simp_arith [e, lm, hk, e2]
    rw [e3, gc_int]
theorem start_ok {ns : List Int} {q : Nat} {env : Wm.Env} (hl : ns.length ≤ 63) (hb : ∀ z ∈ ns, bitsN z ≤ 1048576) :
    ∃ (xs : List Int) (h4 : Hm), (∀ x ∈ xs, bitsN x ≤ 1048576) ∧ xs.length ≤ 64 ∧ h4.length = 4 ∧ h4[3]? = some (.lst (xs.map .int)) ∧ h4[0]? = some (.scr (ns.map .int)) ∧
      wSeq (e2 dAdd (eLst (aCons (eCall F_law_cell_at (aCons (eVar 0) (aCons (eC (.int 0)) aNil))) aNil)) (eSlice (eVar 0) (oSome (eC (.int 1))) (oSome (eC (.int (q : Int)))))) (some (.obj 0) :: env) [.scr (ns.map .int)] =
        .ok ⟨xs.map .int, fun h2 => h2[3]? = some (.lst (xs.map .int))⟩ h4 := by
  have e0 : ([Ob.scr (ns.map .int)] : Hm)[0]? = some (.scr (ns.map .int)) := rfl
  have c0 : gcR [Ob.scr (ns.map .int)] (F_law_cell_at [.obj 0, .int 0] [Ob.scr (ns.map .int)]) = .ok (.int (ns.getD 0 0)) [Ob.scr (ns.map .int)] := cell_ok (k := 0) e0
  have hs : cutD (ns.map .int) (some 1) (some (q : Int)) = (((ns.drop (HT.sIx ns.length 0 (some 1))).take (HT.sIx ns.length ns.length (some (q : Int)) - HT.sIx ns.length 0 (some 1)))).map D.int := by
    unfold cutD
    rw [List.length_map, ← List.map_drop, ← List.map_take]
  obtain ⟨ys, hy⟩ : ∃ ys : List Int, ys = ((ns.drop (HT.sIx ns.length 0 (some 1))).take (HT.sIx ns.length ns.length (some (q : Int)) - HT.sIx ns.length 0 (some 1))) := ⟨_, rfl⟩
  rw [← hy] at hs
  have ysub : ∀ y ∈ ys, y ∈ ns := fun y h => by
    rw [hy] at h
    exact List.mem_of_mem_drop (List.mem_of_mem_take h)
  have ylen : ys.length ≤ 63 := by
    rw [hy]
    have := List.length_take_le (HT.sIx ns.length ns.length (some (q : Int)) - HT.sIx ns.length 0 (some 1)) (ns.drop (HT.sIx ns.length 0 (some 1)))
    have h2 : (ns.drop (HT.sIx ns.length 0 (some 1))).length ≤ ns.length := by simp
    have h3 : ((ns.drop (HT.sIx ns.length 0 (some 1))).take (HT.sIx ns.length ns.length (some (q : Int)) - HT.sIx ns.length 0 (some 1))).length ≤ (ns.drop (HT.sIx ns.length 0 (some 1))).length := by
      rw [List.length_take]; exact Nat.min_le_right _ _
    omega
  refine ⟨ns.getD 0 0 :: ys, [.scr (ns.map .int), .lst [.int (ns.getD 0 0)], .lst (ys.map .int), .lst (.int (ns.getD 0 0) :: ys.map .int)], ?_, by simp; omega, rfl, rfl, rfl, ?_⟩
  · intro x hx
    rcases List.mem_cons.mp hx with rfl | hx
    · cases ns with
      | nil => decide
      | cons n ns => exact hb n List.mem_cons_self
    · exact hb x (ysub x hx)
  · have z1 : szOk 1 := szOk_of (by decide)
    have z2 : szOk (0 + 1 + (ys.map D.int).length) := szOk_of (by simp; omega)
    unfold wSeq
    simp_arith [dSlice, c0, if_pos z1, Nat.zero_add, hs, if_pos z2]
theorem next_k {h : Hm} {m k : Nat} {many : Int} (s : Src h m k) (hk : k < 2 ^ 50) (hm : 0 < many) (bm : bd 8000 many) : ∃ (r : Int) (h' : Hm), 0 ≤ r ∧ r < many ∧ gcR h (F_law_next [.obj m, .int many] h) = .ok (.int r) h' ∧ Src h' m (k + 1) ∧ Hk m h h' ∧ h'.length = h.length := by
  obtain ⟨r, o, r0, r1, e, s1⟩ := next_ok s hk hm bm
  exact ⟨r, h.set m o, r0, r1, e, s1, Hk.set, by simp⟩
theorem one_k {h : Hm} {m l k : Nat} {xs : List Int} (s : Src h m k) (hk : k < 2 ^ 50) (e : h[l]? = some (.lst (xs.map .int))) (hx : 0 < xs.length) (hx2 : xs.length ≤ 1000) (ne : l ≠ m) :
    ∃ (v : Int) (h' : Hm), v ∈ xs ∧ gcR h (F_law_one [.obj m, .obj l] h) = .ok (.int v) h' ∧ Src h' m (k + 1) ∧ Hk m h h' ∧ h'.length = h.length := by
  obtain ⟨v, o, v1, e1, s1⟩ := one_ok s hk e hx hx2 ne
  exact ⟨v, h.set m o, v1, e1, s1, Hk.set, by simp⟩
theorem one_n {h : Hm} {m k : Nat} (xs : List Int) (s : Src h m k) (hk : k < 2 ^ 50) (hx : 0 < xs.length) (hx2 : xs.length ≤ 1000) :
    ∃ (v : Int) (h' : Hm), v ∈ xs ∧ gcR (h ++ [.lst (xs.map .int)]) (F_law_one [.obj m, .obj (List.length h)] (h ++ [.lst (xs.map .int)])) = .ok (.int v) h' ∧ Src h' m (k + 1) ∧ Hk m h h' ∧ h.length ≤ h'.length := by
  obtain ⟨v, h', v1, e1, s1, k1, l1⟩ := one_k (h := h ++ [.lst (xs.map .int)]) (l := List.length h) (xs := xs) s.app hk hnew hx hx2 (Nat.ne_of_gt s.lt)
  exact ⟨v, h', v1, e1, s1, Hk.app.trans k1, by rw [l1]; simp⟩
theorem Hk.three {m : Nat} {h h' : Hm} {o : Ob} (k : Hk m h h') (m3 : 3 < m) (e : h[3]? = some o) : h'[3]? = some o := (k.at_ 3 (hlt e) (by omega)).trans e
end Sh
end
section
open PySem L2 Wm
namespace Sh
open PySem L2 Wm
structure Sx (L : List D) (m k : Nat) (h : Hm) : Prop where
  src : Src h m k
  l3 : h[3]? = some (.lst L)
  m3 : 3 < m
section
variable {L : List D} {m k : Nat} {h h' : Hm}
theorem Sx.hk (s : Sx L m k h) (kk : Hk m h h') (s' : Src h' m k) : Sx L m k h' := ⟨s', kk.three s.m3 s.l3, s.m3⟩
theorem Sx.app (s : Sx L m k h) (g : Hm) : Sx L m k (h ++ g) := ⟨s.src.app, (Hk.app (m := m)).three s.m3 s.l3, s.m3⟩
theorem Sx.lt (s : Sx L m k h) : m < h.length := s.src.lt
theorem src_start {x : Int} (bx : bitsN x ≤ 1048576) (h3 : h[3]? = some (.lst L)) : ∃ (m : Nat) (h' : Hm), gcR h (F_law_source_of [.int x] h) = .ok (.obj m) h' ∧ Sx L m 0 h' := by
  obtain ⟨o, e, s⟩ := source_ok (h := h) bx
  exact ⟨_, _, e, s, (happ (hlt h3)).trans h3, hlt h3⟩
theorem Sx.next (s : Sx L m k h) (many : Int) (hk : k < 2 ^ 50) (hm : 0 < many) (bm : bd 8000 many) : ∃ (r : Int) (h' : Hm), 0 ≤ r ∧ r < many ∧ gcR h (F_law_next [.obj m, .int many] h) = .ok (.int r) h' ∧ Sx L m (k + 1) h' ∧ Hk m h h' := by
  obtain ⟨r, h', r0, r1, e, s1, kk, _⟩ := next_k s.src hk hm bm
  exact ⟨r, h', r0, r1, e, ⟨s1, kk.three s.m3 s.l3, s.m3⟩, kk⟩
theorem Sx.one (s : Sx L m k h) (xs : List Int) (hk : k < 2 ^ 50) (hx : 0 < xs.length) (hx2 : xs.length ≤ 1000) :
    ∃ (v : Int) (h' : Hm), v ∈ xs ∧ gcR (h ++ [.lst (xs.map .int)]) (F_law_one [.obj m, .obj (List.length h)] (h ++ [.lst (xs.map .int)])) = .ok (.int v) h' ∧ Sx L m (k + 1) h' ∧ Hk m h h' := by
  obtain ⟨v, h', v1, e, s1, kk, _⟩ := one_n xs s.src hk hx hx2
  exact ⟨v, h', v1, e, ⟨s1, kk.three s.m3 s.l3, s.m3⟩, kk⟩
theorem Sx.drum (s : Sx L m k h) {f st : Int} (f1 : 1 ≤ f) (f2 : f < 1000000000000000) (s0 : 0 ≤ st) (s2 : st < 1000000000000000) :
    ∃ (n : Nat) (h' : Hm), List.length h = n ∧ gcR (h ++ [.ins 0 []]) (F_Drum_init [.obj n, .int f, .int st] (h ++ [.ins 0 []])) = .ok .non h' ∧ Sx L m k h' ∧ Dr h' n f st ∧ n ≠ m ∧ Hk m h h' :=
  ⟨_, _, rfl, init_ok f1 f2 s0 s2, s.app _, dr_of f1 f2 s0 s2, Nat.ne_of_gt s.lt, Hk.app⟩
end
theorem mem4 {v a b c d : Int} (h : v ∈ [a, b, c, d]) : v = a ∨ v = b ∨ v = c ∨ v = d := by simpa using h
theorem sz2 {α : Type} {a b : α} : (if szOk (0 + 1 + 1) then a else b) = a := if_pos (szOk_of (by decide))
theorem sz3 {α : Type} {a b : α} : (if szOk (0 + 1 + 1 + 1) then a else b) = a := if_pos (szOk_of (by decide))
theorem sz4 {α : Type} {a b : α} : (if szOk (0 + 1 + 1 + 1 + 1) then a else b) = a := if_pos (szOk_of (by decide))
theorem law_loop {B : BSem} {N q : Nat} (ns : List Int) (hl : ns.length ≤ 63) (hb : ∀ z ∈ ns, bitsN z ≤ 1048576)
    (hB : ∀ (L : List D) (x : Int) (h : Hm) (e : List (Option D)), bitsN x ≤ 1048576 → h[3]? = some (.lst L) → e.length = N → Good (B (some (.obj 0) :: some (.int x) :: e) h) (fun e' h' => h'[3]? = some (.lst L) ∧ ∃ e2, e' = some (.obj 0) :: e2 ∧ e2.length = N + 1) (fun d _ => d = .bl true)) :
    ∃ h', fnS (N + 2) (sSeq (sFor (wSeq (e2 dAdd (eLst (aCons (eCall F_law_cell_at (aCons (eVar 0) (aCons (eC (.int 0)) aNil))) aNil)) (eSlice (eVar 0) (oSome (eC (.int 1))) (oSome (eC (.int (q : Int))))))) (gN 1) B) (sRet (eC (.bl true)))) [.obj 0] [.scr (ns.map .int)] = .ok (.bl true) h' := by
  obtain ⟨xs, h4, hx, xl, l4, e3, e0, ew⟩ := start_ok (q := q) (env := List.replicate (N + 1) none) hl hb
  have g : Good ((sSeq (sFor (wSeq (e2 dAdd (eLst (aCons (eCall F_law_cell_at (aCons (eVar 0) (aCons (eC (.int 0)) aNil))) aNil)) (eSlice (eVar 0) (oSome (eC (.int 1))) (oSome (eC (.int (q : Int))))))) (gN 1) B) (sRet (eC (.bl true)))) (envOf (N + 2) [.obj 0]) [.scr (ns.map .int)]) (fun _ h' => (D.non = .bl true)) (fun d h' => d = .bl true) := by
    refine wp_seq ?_
    refine wp_for (it := ⟨xs.map .int, fun h2 => h2[3]? = some (.lst (xs.map .int))⟩) (h1 := h4) ?_ (fun ys e h => (∀ y ∈ ys, ∃ x, y = D.int x ∧ bitsN x ≤ 1048576) ∧ h[3]? = some (.lst (xs.map .int)) ∧ ∃ e2, e = some (.obj 0) :: e2 ∧ e2.length = N + 1) ?_ ?_ ?_ ?_
    · have ee : envOf (N + 2) [.obj 0] = some (.obj 0) :: List.replicate (N + 1) none := by simp [envOf]
      rw [ee]; exact ew
    · refine ⟨fun y hy => ?_, e3, List.replicate (N + 1) none, by simp [envOf], by simp⟩
      obtain ⟨x, hx1, rfl⟩ := List.mem_map.mp hy
      exact ⟨x, rfl, hx x hx1⟩
    · rintro ys e h ⟨_, h3, _⟩; exact h3
    · rintro y ys e h ⟨hys, h3, e2, rfl, l2⟩
      obtain ⟨x, rfl, bx⟩ := hys y List.mem_cons_self
      cases e2 with
      | nil => simp at l2
      | cons v e2 =>
        refine ⟨_, rfl, ?_⟩
        simp only [List.set_cons_succ, List.set_cons_zero]
        exact Good.mono (hB _ x h e2 bx h3 (by simpa using l2)) fun e' h' ⟨a, b⟩ => ⟨fun y hy => hys y (List.mem_cons_of_mem _ hy), a, b⟩
    · rintro e h _
      exact wp_ret (d := .bl true) (h1 := h) rfl rfl
  obtain ⟨d, h', e, rfl⟩ := fn_good (Q := fun d _ => d = .bl true) (n := N + 2) (Good.mono g fun _ _ z => z)
  exact ⟨h', e⟩
theorem tri2 (t : Int) : 2 * (t * (t - 1) / 2) = t * (t - 1) := by
  obtain ⟨k, hk⟩ : ∃ k, t = 2 * k ∨ t = 2 * k + 1 := ⟨t / 2, by omega⟩
  rcases hk with rfl | rfl
  · have e : 2 * k * (2 * k - 1) = 2 * (k * (2 * k - 1)) := by grind
    rw [e, Int.mul_ediv_cancel_left _ (by decide)]
  · have e : (2 * k + 1) * (2 * k + 1 - 1) = 2 * (k * (2 * k + 1)) := by grind
    rw [e, Int.mul_ediv_cancel_left _ (by decide)]
end Sh
end
section
namespace Sh
open PySem L2 Wm
noncomputable def b_Drum_filled : Wm.BSem :=
  (sSeq (sIf (tOrS (tNotS (tTruth (eCall F_is_whole (aCons (eVar 1) aNil)))) (asB (e2 dLt (eVar 1) (eC (.int 1)))))
  sBad
  sPass)
  (sSeq (sAsg (gT [(gN 2), (gN 3), (gN 4)]) (eMeth 0 F_Drum_where (eVar 0) (aCons (e2 dSub (eVar 1) (eC (.int 1))) aNil)))
  (sRet (eTup (aCons (eVar 2) (aCons (e2 dAdd (eVar 3) (eC (.int 1))) aNil))))))
noncomputable def F_Drum_filled : FS := fnS 5 b_Drum_filled
end Sh
open PySem L2 Wm
local macro_rules | `(tactic| simp_arith [$ls,*]) => `(tactic| simp (disch := walk_at "okk") only [fnS, envOf, sSeq, sIf, sSet, sAsg, sDrop, sRet, sRetN, sPass, sBrk, sCnt, sPar, sPar3, sSub, sFldS, eLM, dApp, isL, eCallK, eMethK, eChain3, dMax3, dMin3, asB, tAndS, tOrS, tNotS, tTruth, eIf, eAnd, eOr, eNot, eChain, eTup, eLst, eSlice, oNo, oSome, eBits, e2, e1, eN, eCall, eMeth, eMake, isIns, aCons, aNil, eVar, eC, R.bind, R.bindO, O.seq, dB, dTruth, dAdd, dSub, dLt, dLe, dGt, dGe, dIs, dIsNot, D.isN, dLen, dMax, dMin, dInt, dIx, items, dFld, dSetF, dSetIx, dIsi, D.ty, Ty.is, gN, gT, gAll, Option.bind, Option.map, new,
  List.map_cons, List.map_nil, List.length_cons, List.length_nil, List.replicate, List.getElem?_cons_zero, List.getElem?_cons_succ, List.cons_append, List.nil_append, List.set_cons_zero, List.set_cons_succ, Nat.reduceAdd, Nat.reduceSub, decide_true, decide_false, if_true, if_false, dMul_ok, dDiv_ok, dMod_ok, dPow_ok, dShl_ok, beq_self_eq_true, Bool.not_true, Bool.not_false, reduceIte, reduceCtorEq, Bool.false_eq_true, $ls,*])
local macro_rules | `(tactic| walk_at "bd") => `(tactic| (focus ((repeat' (first | assumption | exact bd_litE (by decide) | (with_reducible apply bd_mulE) | (with_reducible apply bd_addE) | (with_reducible apply bd_subE) | (with_reducible apply bd_div) | (with_reducible apply bd_neg))); done)))
local macro_rules | `(tactic| walk_at "bnd") => `(tactic| (apply bd_mono; walk_at "bd"; decide))
local macro_rules | `(tactic| walk_at "okk") => `(tactic| first | assumption | (apply mulOk_of; walk_at "bd"; walk_at "bd"; decide) | (apply divOk_of; (focus (first | assumption | omega)); walk_at "bnd") | decide | omega)
end
open PySem L2 Wm
local macro_rules | `(tactic| simp_arith [$ls,*]) => `(tactic| simp (disch := walk_at "okk") only [fnS, envOf, sSeq, sIf, sSet, sAsg, sDrop, sRet, sRetN, sPass, sBrk, sCnt, sPar, sPar3, sSub, sFldS, eLM, dApp, isL, eCallK, eMethK, eChain3, dMax3, dMin3, asB, tAndS, tOrS, tNotS, tTruth, eIf, eAnd, eOr, eNot, eChain, eTup, eLst, eSlice, oNo, oSome, eBits, e2, e1, eN, eCall, eMeth, eMake, isIns, aCons, aNil, eVar, eC, R.bind, R.bindO, O.seq, dB, dTruth, dAdd, dSub, dLt, dLe, dGt, dGe, dIs, dIsNot, D.isN, dLen, dMax, dMin, dInt, dIx, items, dFld, dSetF, dSetIx, dIsi, D.ty, Ty.is, gN, gT, gAll, Option.bind, Option.map, new,
  List.map_cons, List.map_nil, List.length_cons, List.length_nil, List.replicate, List.getElem?_cons_zero, List.getElem?_cons_succ, List.cons_append, List.nil_append, List.set_cons_zero, List.set_cons_succ, Nat.reduceAdd, Nat.reduceSub, decide_true, decide_false, if_true, if_false, dMul_ok, dDiv_ok, dMod_ok, dPow_ok, dShl_ok, beq_self_eq_true, Bool.not_true, Bool.not_false, reduceIte, reduceCtorEq, Bool.false_eq_true, $ls,*])
local macro_rules | `(tactic| walk_at "bd") => `(tactic| (focus ((repeat' (first | assumption | exact bd_litE (by decide) | (with_reducible apply bd_mulE) | (with_reducible apply bd_addE) | (with_reducible apply bd_subE) | (with_reducible apply bd_div) | (with_reducible apply bd_neg))); done)))
local macro_rules | `(tactic| walk_at "bnd") => `(tactic| (apply bd_mono; walk_at "bd"; decide))
local macro_rules | `(tactic| walk_at "okk") => `(tactic| first | assumption | (apply mulOk_of; walk_at "bd"; walk_at "bd"; decide) | (apply divOk_of; (focus (first | assumption | omega)); walk_at "bnd") | decide | omega)
section
open PySem L2 Wm
namespace Sh
open PySem L2 Wm
theorem where_at {h : Hm} {n : Nat} {f s c t : Int} (d : Dr h n f s) (T : IsTurn f s c t) (bc : bd 1000 c) : F_Drum_where [.obj n, .int c] h = .ok (.tup [.int t, .int (c - beg f s t), .int (f + t * s)]) h := by
  have := T.le d.f1 d.s0
  have := T.t0
  obtain ⟨u, U, e⟩ := where_ok d (by omega) bc
  rw [turn_uniq d.f1 d.s0 T.t0 U.t0 T.lo T.hi U.lo U.hi]
  exact e
theorem filled_at {h : Hm} {n : Nat} {f s l t : Int} (d : Dr h n f s) (T : IsTurn f s (l - 1) t) (bl : bd 999 l) : F_Drum_filled [.obj n, .int l] h = .ok (.tup [.int t, .int (l - 1 - beg f s t + 1)]) h := by
  have h1 : ¬ l < 1 := by
    have := T.le d.f1 d.s0
    have := T.t0
    omega
  have bl1 : bd 1000 (l - 1) := by walk_at "bnd"
  unfold F_Drum_filled b_Drum_filled
  simp_arith [is_whole_int, gc_bl, gc_t3, d.at_, where_at d T bl1, h1, sz2]
theorem wp_drop {e : Wm.Env → Hm → R D} {env : Wm.Env} {h h1 : Hm} {N : Wm.Env → Hm → Prop} {Rt : D → Hm → Prop} {d : D} (he : e env h = .ok d h1) (k : N env h1) : Good (sDrop e env h) N Rt := by
  unfold sDrop; simp only [he, R.bindO]; exact k
theorem wp_par {i j : Nat} {f g : Wm.Env → Hm → R D} {env : Wm.Env} {h h1 h2 : Hm} {N : Wm.Env → Hm → Prop} {Rt : D → Hm → Prop} {a b : D} (ha : f env h = .ok a h1) (hb : g env h1 = .ok b h2) (k : N ((env.set i (some a)).set j (some b)) h2) : Good (sPar i j f g env h) N Rt := by
  unfold sPar; simp only [ha, hb, R.bindO, R.bind]; exact k
theorem turn_at {f s t p : Int} (ht : 0 ≤ t) (hp : 0 ≤ p) (hp2 : p < f + t * s) : IsTurn f s (beg f s t + p) t := ⟨ht, by omega, by rw [beg_succ]; omega⟩
theorem beg_alt (f s t : Int) : t * f + s * t * (t - 1) / 2 = beg f s t := by
  have e : s * t * (t - 1) = 2 * (s * (t * (t - 1) / 2)) := by have := tri2 t; grind
  unfold beg
  rw [e, Int.mul_ediv_cancel_left _ (by decide)]
theorem beg_nn {f s t : Int} (hf : 1 ≤ f) (hs : 0 ≤ s) (ht : 0 ≤ t) : 0 ≤ beg f s t := Int.le_trans ht (beg_ge hf hs ht)
theorem bd_beg {f s t : Int} {a b n : Nat} (hf : bd a f) (hs : bd a s) (ht : bd b t) (b1 : 1 ≤ b) (l : a + 2 * b + 3 ≤ n) : bd n (beg f s t) := by
  have h1 : bd b 1 := by
    have : 2 ^ 1 ≤ 2 ^ b := Nat.pow_le_pow_right (by decide) b1
    show (1 : Int).natAbs < 2 ^ b
    have e : (1 : Int).natAbs = 1 := rfl
    omega
  have h2 : bd (b + 1) (t - 1) := bd_sub ht h1 (by omega)
  unfold beg
  exact bd_add (a := a + 2 * b + 1) (bd_mul ht hf (by omega)) (bd_mul hs (bd_div (n := 2 * b + 1) (bd_mul (a := b) (b := b + 1) ht h2 (by omega))) (by omega)) (by omega)
structure Dw (m k' : Nat) (h h' : Hm) : Prop where
  src : Src h' m k'
  hk : Hk m h h'
  len : h'.length = h.length
theorem Dw.trans {m k k' : Nat} {h h1 h2 : Hm} (a : Dw m k h h1) (b : Dw m k' h1 h2) : Dw m k' h h2 := ⟨b.src, a.hk.trans b.hk, b.len.trans a.len⟩
theorem Src.nx {h : Hm} {m k : Nat} (s : Src h m k) (many : Int) (hk : k < 2 ^ 50) (hm : 0 < many) (bm : bd 8000 many) : ∃ (r : Int) (h' : Hm), 0 ≤ r ∧ r < many ∧ gcR h (F_law_next [.obj m, .int many] h) = .ok (.int r) h' ∧ Dw m (k + 1) h h' := by
  obtain ⟨r, h', r0, r1, e, s1, kk, l⟩ := next_k s hk hm bm
  exact ⟨r, h', r0, r1, e, s1, kk, l⟩
theorem gc_len {h h' : Hm} {d : D} (l : h'.length = h.length) : gcR h (.ok d h') = .ok d h' := by
  unfold gcR
  simp only
  split
  · rw [← l, List.take_length]
  · rfl
theorem Sx.dw {L : List D} {m k k' : Nat} {h h' : Hm} (s : Sx L m k h) (w : Dw m k' h h') : Sx L m k' h' := ⟨w.src, w.hk.three s.m3 s.l3, s.m3⟩
end Sh
end
section
namespace Sh
open PySem L2 Wm
noncomputable def b_Drum_step : Wm.BSem :=
  (sRet (e1 (dFld 0 1) (eVar 0)))
noncomputable def F_Drum_step : FS := fnS 1 b_Drum_step
noncomputable def b_check_length : Wm.BSem :=
  (sIf (tOrS (tNotS (tTruth (eCall F_is_whole (aCons (eVar 0) aNil)))) (asB (e2 dLt (eVar 0) (eC (.int 1)))))
  sBad
  sPass)
noncomputable def F_check_length : FS := fnS 1 b_check_length
noncomputable def b_law_great : Wm.BSem :=
  (sSeq (sSet 2 (eC (.int 0)))
  (sSeq (sFor (wRng1 (eC (.int 3))) (gN 3)
  (sSet 2 (e2 dAdd (e2 dMul (eVar 2) (e2 dPow (eC (.int 10)) (eC (.int 9)))) (eCall F_law_next (aCons (eVar 0) (aCons (e2 dPow (eC (.int 10)) (eC (.int 9))) aNil))))))
  (sRet (e2 dMod (eVar 2) (eVar 1)))))
noncomputable def F_law_great : FS := fnS 4 b_law_great
noncomputable def b_law_drum : Wm.BSem :=
  (sSeq (sSet 1 (eCall F_law_next (aCons (eVar 0) (aCons (eC (.int 6)) aNil))))
  (sSeq (sIf (asB (e2 dEq (eVar 1) (eC (.int 0))))
  (sRet (eTup (aCons (e2 dAdd (eC (.int 1)) (eCall F_law_next (aCons (eVar 0) (aCons (eC (.int 9)) aNil)))) (aCons (eCall F_law_next (aCons (eVar 0) (aCons (eC (.int 9)) aNil))) aNil))))
  sPass)
  (sSeq (sIf (asB (e2 dEq (eVar 1) (eC (.int 5))))
  (sRet (eTup (aCons (e2 dAdd (eC (.int 1)) (eCall F_law_next (aCons (eVar 0) (aCons (eC (.int 60)) aNil)))) (aCons (eCall F_law_next (aCons (eVar 0) (aCons (eC (.int 60)) aNil))) aNil))))
  sPass)
  (sSeq (sIf (asB (e2 dEq (eVar 1) (eC (.int 1))))
  (sRet (eTup (aCons (e2 dAdd (eC (.int 1)) (eCall F_law_next (aCons (eVar 0) (aCons (eC (.int 60)) aNil)))) (aCons (eC (.int 0)) aNil))))
  sPass)
  (sSeq (sIf (asB (e2 dEq (eVar 1) (eC (.int 2))))
  (sSeq (sSet 2 (e2 dAdd (eC (.int 1)) (eCall F_law_next (aCons (eVar 0) (aCons (e2 dPow (eC (.int 10)) (eC (.int 6))) aNil)))))
  (sRet (eTup (aCons (e2 dMul (eVar 2) (e2 dAdd (eC (.int 1)) (eCall F_law_next (aCons (eVar 0) (aCons (eC (.int 9)) aNil))))) (aCons (e2 dMul (eVar 2) (eCall F_law_next (aCons (eVar 0) (aCons (eC (.int 9)) aNil)))) aNil)))))
  sPass)
  (sSeq (sIf (asB (e2 dEq (eVar 1) (eC (.int 3))))
  (sRet (eTup (aCons (e2 dAdd (eC (.int 1)) (eCall F_law_great (aCons (eVar 0) (aCons (e2 dPow (eC (.int 10)) (eC (.int 14))) aNil)))) (aCons (eCall F_law_next (aCons (eVar 0) (aCons (eC (.int 9)) aNil))) aNil))))
  sPass)
  (sRet (eTup (aCons (e2 dAdd (eC (.int 1)) (eCall F_law_next (aCons (eVar 0) (aCons (eC (.int 9)) aNil)))) (aCons (eCall F_law_great (aCons (eVar 0) (aCons (e2 dPow (eC (.int 10)) (eC (.int 14))) aNil))) aNil))))))))))
noncomputable def F_law_drum : FS := fnS 3 b_law_drum
noncomputable def b_law_begins : Wm.BSem :=
  (sRet (e2 dAdd (e2 dMul (eVar 2) (eVar 0)) (e2 dDiv (e2 dMul (e2 dMul (eVar 1) (eVar 2)) (e2 dSub (eVar 2) (eC (.int 1)))) (eC (.int 2)))))
noncomputable def F_law_begins : FS := fnS 3 b_law_begins
noncomputable def b_beneath : Wm.BSem :=
  (sSeq (sAsg (gT [(gN 2), (gN 3), (gN 4)]) (eMeth 0 F_Drum_where (eVar 0) (aCons (eVar 1) aNil)))
  (sSeq (sIf (asB (e2 dEq (eVar 2) (eC (.int 0))))
  (sRet (eC .non))
  sPass)
  (sSeq (sSet 5 (e2 dSub (eVar 4) (eMeth 0 F_Drum_step (eVar 0) aNil)))
  (sSeq (sSet 6 (eMeth 0 F_Drum_begins (eVar 0) (aCons (e2 dSub (eVar 2) (eC (.int 1))) aNil)))
  (sRet (eTup (aCons (e2 dAdd (eVar 6) (e2 dDiv (e2 dMul (eVar 3) (eVar 5)) (eVar 4))) (aCons (e2 dAdd (eVar 6) (e2 dDiv (e2 dSub (e2 dMul (e2 dAdd (eVar 3) (eC (.int 1))) (eVar 5)) (eC (.int 1))) (eVar 4))) aNil))))))))
noncomputable def F_beneath : FS := fnS 7 b_beneath
noncomputable def b_law_common : Wm.BSem :=
  (sSeq (sWhile (asB (e2 dGt (eVar 1) (eC (.int 0))))
  (sPar 0 1 (eVar 1) (e2 dMod (eVar 0) (eVar 1))))
  (sRet (eVar 0)))
noncomputable def F_law_common : FS := fnS 2 b_law_common
noncomputable def b_Drum_first : Wm.BSem :=
  (sRet (e1 (dFld 0 0) (eVar 0)))
noncomputable def F_Drum_first : FS := fnS 1 b_Drum_first
end Sh
open PySem L2 Wm
local macro_rules | `(tactic| simp_arith [$ls,*]) => `(tactic| simp (disch := walk_at "okk") only [fnS, envOf, sSeq, sIf, sSet, sAsg, sDrop, sRet, sRetN, sPass, sBrk, sCnt, sPar, sPar3, sSub, sFldS, eLM, dApp, isL, eCallK, eMethK, eChain3, dMax3, dMin3, asB, tAndS, tOrS, tNotS, tTruth, eIf, eAnd, eOr, eNot, eChain, eTup, eLst, eSlice, oNo, oSome, eBits, e2, e1, eN, eCall, eMeth, eMake, isIns, aCons, aNil, eVar, eC, R.bind, R.bindO, O.seq, dB, dTruth, dAdd, dSub, dLt, dLe, dGt, dGe, dIs, dIsNot, D.isN, dLen, dMax, dMin, dInt, dIx, items, dFld, dSetF, dSetIx, dIsi, D.ty, Ty.is, gN, gT, gAll, Option.bind, Option.map, new,
  List.map_cons, List.map_nil, List.length_cons, List.length_nil, List.replicate, List.getElem?_cons_zero, List.getElem?_cons_succ, List.cons_append, List.nil_append, List.set_cons_zero, List.set_cons_succ, Nat.reduceAdd, Nat.reduceSub, decide_true, decide_false, if_true, if_false, dMul_ok, dDiv_ok, dMod_ok, dPow_ok, dShl_ok, beq_self_eq_true, Int.reduceEq, Int.reduceLT, Int.reduceLE, Bool.not_true, Bool.not_false, reduceIte, reduceCtorEq, Bool.false_eq_true, $ls,*])
local macro_rules | `(tactic| walk_at "bd") => `(tactic| (focus ((repeat' (first | assumption | exact bd_litE (by decide) | (with_reducible apply bd_mulE) | (with_reducible apply bd_addE) | (with_reducible apply bd_subE) | (with_reducible apply bd_div) | (with_reducible apply bd_neg))); done)))
local macro_rules | `(tactic| walk_at "bnd") => `(tactic| (apply bd_mono; walk_at "bd"; decide))
local macro_rules | `(tactic| walk_at "okk") => `(tactic| first | assumption | (apply mulOk_of; walk_at "bd"; walk_at "bd"; decide) | (apply divOk_of; (focus (first | assumption | omega)); walk_at "bnd") | decide | omega)
end
open PySem L2 Wm
local macro_rules | `(tactic| simp_arith [$ls,*]) => `(tactic| simp (disch := walk_at "okk") only [fnS, envOf, sSeq, sIf, sSet, sAsg, sDrop, sRet, sRetN, sPass, sBrk, sCnt, sPar, sPar3, sSub, sFldS, eLM, dApp, isL, eCallK, eMethK, eChain3, dMax3, dMin3, asB, tAndS, tOrS, tNotS, tTruth, eIf, eAnd, eOr, eNot, eChain, eTup, eLst, eSlice, oNo, oSome, eBits, e2, e1, eN, eCall, eMeth, eMake, isIns, aCons, aNil, eVar, eC, R.bind, R.bindO, O.seq, dB, dTruth, dAdd, dSub, dLt, dLe, dGt, dGe, dIs, dIsNot, D.isN, dLen, dMax, dMin, dInt, dIx, items, dFld, dSetF, dSetIx, dIsi, D.ty, Ty.is, gN, gT, gAll, Option.bind, Option.map, new,
  List.map_cons, List.map_nil, List.length_cons, List.length_nil, List.replicate, List.getElem?_cons_zero, List.getElem?_cons_succ, List.cons_append, List.nil_append, List.set_cons_zero, List.set_cons_succ, Nat.reduceAdd, Nat.reduceSub, decide_true, decide_false, if_true, if_false, dMul_ok, dDiv_ok, dMod_ok, dPow_ok, dShl_ok, beq_self_eq_true, Int.reduceEq, Int.reduceLT, Int.reduceLE, Bool.not_true, Bool.not_false, reduceIte, reduceCtorEq, Bool.false_eq_true, $ls,*])
local macro_rules | `(tactic| walk_at "bd") => `(tactic| (focus ((repeat' (first | assumption | exact bd_litE (by decide) | (with_reducible apply bd_mulE) | (with_reducible apply bd_addE) | (with_reducible apply bd_subE) | (with_reducible apply bd_div) | (with_reducible apply bd_neg))); done)))
local macro_rules | `(tactic| walk_at "bnd") => `(tactic| (apply bd_mono; walk_at "bd"; decide))
local macro_rules | `(tactic| walk_at "okk") => `(tactic| first | assumption | (apply mulOk_of; walk_at "bd"; walk_at "bd"; decide) | (apply divOk_of; (focus (first | assumption | omega)); walk_at "bnd") | decide | omega)
section
open PySem L2 Wm
namespace Sh
open PySem L2 Wm
theorem Good.imp {o : O} {N N' : Wm.Env → Hm → Prop} {Rt Rt' : D → Hm → Prop} (g : Good o N Rt) (k : ∀ e h, N e h → N' e h) (k' : ∀ d h, Rt d h → Rt' d h) : Good o N' Rt' := by
  cases o with
  | nx e h => exact k _ _ g
  | rt d h => exact k' _ _ g
  | bk e h => exact g
  | ct e h => exact g
  | exc c fs h => exact g
  | bad => exact g
theorem Hk.take {m : Nat} {h h' : Hm} (k : Hk m h h') : Hk m h (h'.take h.length) := ⟨by rw [List.length_take]; have := k.le; omega, fun i l n => by rw [List.getElem?_take, if_pos l]; exact k.at_ i l n⟩
theorem Src.lows {h : Hm} {m k : Nat} (s : Src h m k) : ∀ o, h[m]? = some o → ∀ n, o.lows n = true := by
  obtain ⟨a, b, c, e, _⟩ := s.ex
  intro o ho n
  rw [e] at ho
  cases ho
  rfl
theorem gc_drop {m k : Nat} {h h' : Hm} {d : D} (kk : Hk m h h') (s : Src h' m k) (hm : m < h.length) (dl : d.lows h.length = true) : ∃ h2, gcR h (.ok d h') = .ok d h2 ∧ Dw m k h h2 := by
  refine ⟨h'.take h.length, ?_, s.keep (by rw [List.getElem?_take, if_pos hm]), kk.take, by rw [List.length_take]; have := kk.le; omega⟩
  unfold gcR
  simp only
  rw [if_pos]
  refine ⟨kk.le, dl, fun i o hi e => ?_⟩
  by_cases e1 : i = m
  · subst e1; exact Or.inr (s.lows o e _)
  · rw [kk.at_ i hi e1] at e; exact Or.inl e
theorem Dw.refl {m k : Nat} {h : Hm} (s : Src h m k) : Dw m k h h := ⟨s, Hk.refl, rfl⟩
theorem Dw.mono {m k k' : Nat} {h h' : Hm} (w : Dw m k h h') (l : k ≤ k') : Dw m k' h h' := ⟨w.src.mono l, w.hk, w.len⟩
theorem p9e : (10 : Int) ^ (9 : Int).toNat = 1000000000 := by decide
theorem p6e : (10 : Int) ^ (6 : Int).toNat = 1000000 := by decide
theorem p7e : (10 : Int) ^ (7 : Int).toNat = 10000000 := by decide
theorem p14e : (10 : Int) ^ (14 : Int).toNat = 100000000000000 := by decide
theorem pw9 : powOk 10 9 := by decide
theorem pw6 : powOk 10 6 := by decide
theorem pw7 : powOk 10 7 := by decide
theorem pw14 : powOk 10 14 := by decide
theorem rng3 : rngD 0 3 = [.int 0, .int 1, .int 2] := by simp [rngD, List.range, List.range.loop]
theorem great_ok {h : Hm} {m k : Nat} {many : Int} (s : Src h m k) (hk : k < 1000000) (h0 : 0 < many) : ∃ (r : Int) (h' : Hm), 0 ≤ r ∧ r < many ∧ gcR h (F_law_great [.obj m, .int many] h) = .ok (.int r) h' ∧ Dw m (k + 3) h h' := by
  obtain ⟨a, h1, a0, a1, e1, w1⟩ := s.nx 1000000000 (by omega) (by decide) (by unfold bd; decide)
  obtain ⟨b, h2, b0, b1, e2, w2⟩ := w1.src.nx 1000000000 (by omega) (by decide) (by unfold bd; decide)
  obtain ⟨c, h3, c0, c1, e3, w3⟩ := w2.src.nx 1000000000 (by omega) (by decide) (by unfold bd; decide)
  have w := (w1.trans w2).trans w3
  have ba : bd 64 a := bd_lit (by omega) (by decide)
  have bb : bd 64 b := bd_lit (by omega) (by decide)
  have bc : bd 64 c := bd_lit (by omega) (by decide)
  refine ⟨(((0 * 1000000000 + a) * 1000000000 + b) * 1000000000 + c) % many, h3, Int.emod_nonneg _ (by omega), Int.emod_lt_of_pos _ h0, ?_, w⟩
  have e : F_law_great [.obj m, .int many] h = .ok (.int ((((0 * 1000000000 + a) * 1000000000 + b) * 1000000000 + c) % many)) h3 := by
    unfold F_law_great b_law_great
    simp_arith [sFor, wRng1, rng3, forS, pw9, p9e, e1, e2, e3]
  rw [e, gc_len w.len]
theorem bg_ok {h : Hm} {f s t : Int} (hf : bd 300 f) (hs : bd 300 s) (ht : bd 1100 t) : F_law_begins [.int f, .int s, .int t] h = .ok (.int (beg f s t)) h := by
  unfold F_law_begins b_law_begins
  simp_arith [beg_alt]
theorem drumG_ok {h : Hm} {m k : Nat} (s : Src h m k) (hk : k < 1000) : ∃ (f st : Int) (h' : Hm), gcR h (F_law_drum [.obj m] h) = .ok (.tup [.int f, .int st]) h' ∧ Dw m (k + 5) h h' ∧ 1 ≤ f ∧ f < 1000000000000000 ∧ 0 ≤ st ∧ st < 1000000000000000 := by
  obtain ⟨kd, h1, kd0, kd1, e1, w1⟩ := s.nx 6 (by omega) (by decide) (by unfold bd; decide)
  have fin : ∀ {h' : Hm} {j : Nat} {f st : Int}, j ≤ k + 5 → Dw m j h h' → F_law_drum [.obj m] h = .ok (.tup [.int f, .int st]) h' → 1 ≤ f → f < 1000000000000000 → 0 ≤ st → st < 1000000000000000 →
      ∃ (f st : Int) (h' : Hm), gcR h (F_law_drum [.obj m] h) = .ok (.tup [.int f, .int st]) h' ∧ Dw m (k + 5) h h' ∧ 1 ≤ f ∧ f < 1000000000000000 ∧ 0 ≤ st ∧ st < 1000000000000000 := by
    intro h' j f st hj w e a b c d
    exact ⟨f, st, h', by rw [e, gc_len w.len], w.mono hj, a, b, c, d⟩
  have two : ∀ (A B : Int), 0 < A → A ≤ 100000000000000 → 0 < B → B ≤ 100000000000000 → ∃ (r q : Int) (h2 h3 : Hm), 0 ≤ r ∧ r < A ∧ 0 ≤ q ∧ q < B ∧ gcR h1 (F_law_next [.obj m, .int A] h1) = .ok (.int r) h2 ∧ gcR h2 (F_law_next [.obj m, .int B] h2) = .ok (.int q) h3 ∧ Dw m (k + 3) h h3 := by
    intro A B a0 a1 b0 b1
    obtain ⟨r, h2, r0, r1, e2, w2⟩ := w1.src.nx A (by omega) a0 (bd_lit (by omega) (by decide))
    obtain ⟨q, h3, q0, q1, e3, w3⟩ := w2.src.nx B (by omega) b0 (bd_lit (by omega) (by decide))
    exact ⟨r, q, h2, h3, r0, r1, q0, q1, e2, e3, (w1.trans w2).trans w3⟩
  by_cases k0 : kd = 0
  · obtain ⟨r, q, h2, h3, r0, r1, q0, q1, e2, e3, w⟩ := two 9 9 (by decide) (by decide) (by decide) (by decide)
    refine fin (f := 1 + r) (st := q) (by omega) w ?_ (by omega) (by omega) (by omega) (by omega)
    unfold F_law_drum b_law_drum
    simp_arith [e1, e2, e3, dEq_int, k0, sz2]
  by_cases k5 : kd = 5
  · obtain ⟨r, q, h2, h3, r0, r1, q0, q1, e2, e3, w⟩ := two 60 60 (by decide) (by decide) (by decide) (by decide)
    refine fin (f := 1 + r) (st := q) (by omega) w ?_ (by omega) (by omega) (by omega) (by omega)
    unfold F_law_drum b_law_drum
    simp_arith [e1, e2, e3, dEq_int, k0, k5, sz2]
  by_cases k1 : kd = 1
  · obtain ⟨r, h2, r0, r1, e2, w2⟩ := w1.src.nx 60 (by omega) (by decide) (by unfold bd; decide)
    refine fin (f := 1 + r) (st := 0) (by omega) (w1.trans w2) ?_ (by omega) (by omega) (by omega) (by omega)
    unfold F_law_drum b_law_drum
    simp_arith [e1, e2, dEq_int, k0, k1, k5, sz2]
  by_cases k2 : kd = 2
  · obtain ⟨u', h2, u0, u1, e2, w2⟩ := w1.src.nx 1000000 (by omega) (by decide) (by unfold bd; decide)
    obtain ⟨r, h3, r0, r1, e3, w3⟩ := w2.src.nx 9 (by omega) (by decide) (by unfold bd; decide)
    obtain ⟨q, h4, q0, q1, e4, w4⟩ := w3.src.nx 9 (by omega) (by decide) (by unfold bd; decide)
    have l1 := Int.mul_le_mul (show 1 ≤ 1 + u' by omega) (show 1 ≤ 1 + r by omega) (by decide) (by omega)
    have l2 := Int.mul_le_mul (show 1 + u' ≤ 1000000 by omega) (show 1 + r ≤ 9 by omega) (by omega) (by omega)
    have l3 := Int.mul_nonneg (show 0 ≤ 1 + u' by omega) q0
    have l4 := Int.mul_le_mul (show 1 + u' ≤ 1000000 by omega) (show q ≤ 9 by omega) (by omega) (by omega)
    have b1 : bd 64 (1 + u') := by unfold bd; omega
    have b2 : bd 64 (1 + r) := by unfold bd; omega
    have b3 : bd 64 q := by unfold bd; omega
    refine fin (f := (1 + u') * (1 + r)) (st := (1 + u') * q) (by omega) (((w1.trans w2).trans w3).trans w4) ?_ (by omega) (by omega) (by omega) (by omega)
    unfold F_law_drum b_law_drum
    simp_arith [e1, pw6, p6e, e2, e3, e4, dEq_int, k0, k1, k2, k5, sz2]
  by_cases k3 : kd = 3
  · obtain ⟨r, h2, r0, r1, e2, w2⟩ := great_ok (many := 100000000000000) w1.src (by omega) (by decide)
    obtain ⟨q, h3, q0, q1, e3, w3⟩ := w2.src.nx 9 (by omega) (by decide) (by unfold bd; decide)
    refine fin (f := 1 + r) (st := q) (by omega) ((w1.trans w2).trans w3) ?_ (by omega) (by omega) (by omega) (by omega)
    unfold F_law_drum b_law_drum
    simp_arith [e1, pw14, p14e, e2, e3, dEq_int, k0, k1, k2, k3, k5, sz2]
  · obtain ⟨r, h2, r0, r1, e2, w2⟩ := w1.src.nx 9 (by omega) (by decide) (by unfold bd; decide)
    obtain ⟨q, h3, q0, q1, e3, w3⟩ := great_ok (many := 100000000000000) w2.src (by omega) (by decide)
    refine fin (f := 1 + r) (st := q) (by omega) ((w1.trans w2).trans w3) ?_ (by omega) (by omega) (by omega) (by omega)
    unfold F_law_drum b_law_drum
    simp_arith [e1, pw14, p14e, e2, e3, dEq_int, k0, k1, k2, k3, k5, sz2]
theorem step_ok {h : Hm} {n : Nat} {f s : Int} (d : Dr h n f s) : F_Drum_step [.obj n] h = .ok (.int s) h := by
  unfold F_Drum_step b_Drum_step
  simp_arith [d.at_]
theorem first_ok {h : Hm} {n : Nat} {f s : Int} (d : Dr h n f s) : F_Drum_first [.obj n] h = .ok (.int f) h := by
  unfold F_Drum_first b_Drum_first
  simp_arith [d.at_]
theorem length_ok {h : Hm} {l : Int} (l1 : 1 ≤ l) : F_check_length [.int l] h = .ok .non h := by
  have : ¬ l < 1 := by omega
  unfold F_check_length b_check_length
  simp_arith [is_whole_int, gc_bl, this]
def bnLo (f s t p : Int) : Int := beg f s (t - 1) + p * (f + t * s - s) / (f + t * s)
def bnHi (f s t p : Int) : Int := beg f s (t - 1) + ((p + 1) * (f + t * s - s) - 1) / (f + t * s)
theorem beneath_ok {h : Hm} {n : Nat} {f s c t : Int} (d : Dr h n f s) (T : IsTurn f s c t) (bc : bd 1000 c) (t0 : t ≠ 0) : F_beneath [.obj n, .int c] h = .ok (.tup [.int (bnLo f s t (c - beg f s t)), .int (bnHi f s t (c - beg f s t))]) h := by
  have c0 : 0 ≤ c := Int.le_trans T.t0 (T.le d.f1 d.s0)
  have bt : bd 1000 t := bd_le bc T.t0 (T.le d.f1 d.s0)
  have bt1 : bd 1000 (t - 1) := bd_le bt (by have := T.t0; omega) (by omega)
  have bp : bd 1000 (c - beg f s t) := bd_le bc (by have := T.lo; omega) (by have := beg_nn d.f1 d.s0 T.t0; omega)
  have ts := Int.mul_nonneg T.t0 d.s0
  have pz : 0 < f + t * s := by have := d.f1; omega
  have bf := d.bf
  have bs := d.bs
  have eb := begins_ok (t := t - 1) d (by have := T.t0; omega) (bd_mono bt1 (by decide))
  have dv : divOk (f + t * s) := divOk_of pz (by walk_at "bnd")
  unfold F_beneath b_beneath
  simp_arith [d.at_, where_at d T bc, gc_t3, gc_int, dEq_int, t0, step_ok d, eb, sz2, bnLo, bnHi]
theorem gcd_step (x y : Int) : Int.gcd y (x % y) = Int.gcd x y := by
  have e : x % y = x + y * (-(x / y)) := by rw [Int.emod_def]; grind
  rw [e, Int.gcd_comm x y]
  simp
theorem common_ok {h : Hm} {a b : Int} (a0 : 0 ≤ a) (b0 : 0 ≤ b) : F_law_common [.int a, .int b] h = .ok (.int (Int.gcd a b)) h := by
  have e : sWhile (asB (e2 dGt (eVar 1) (eC (.int 0)))) (sPar 0 1 (eVar 1) (e2 dMod (eVar 0) (eVar 1))) [some (.int a), some (.int b)] h = .nx [some (.int (Int.gcd a b)), some (.int 0)] h := by
    refine while_ind (fun e h' => h' = h ∧ ∃ x y : Int, 0 ≤ x ∧ 0 ≤ y ∧ Int.gcd x y = Int.gcd a b ∧ e = [some (.int x), some (.int y)])
      (fun o => o = .nx [some (.int (Int.gcd a b)), some (.int 0)] h) (fun e => match e with | [_, some (.int y)] => y.toNat | _ => 0) ?_ _ _ _ (Nat.le_refl _) ⟨rfl, a, b, a0, b0, rfl, rfl⟩
    rintro env h' ⟨rfl, x, y, x0, y0, g, rfl⟩
    by_cases q : 0 < y
    · have m0 := Int.emod_nonneg x (show y ≠ 0 by omega)
      have m1 := Int.emod_lt_of_pos x q
      refine Or.inr ⟨h', by simp_arith [q], Or.inl ⟨_, h', by simp_arith [], ⟨rfl, y, x % y, y0, m0, ?_, rfl⟩, ?_⟩⟩
      · rw [← g]; exact gcd_step x y
      · show (x % y).toNat < y.toNat
        omega
    · have : y = 0 := by omega
      subst this
      refine Or.inl ⟨h', by simp_arith [], ?_⟩
      have : Int.gcd x 0 = x.natAbs := Int.gcd_zero_right x
      rw [← g, this]
      have : (x.natAbs : Int) = x := by omega
      rw [this]
  unfold F_law_common b_law_common
  simp_arith [e]
end Sh
end
section
open PySem L2 Wm
namespace Sh
open PySem L2 Wm
theorem div_le_iff {a b p : Int} (b0 : 0 < b) : a / b ≤ p ↔ a < (p + 1) * b := by
  have := @Int.ediv_lt_iff_lt_mul a (p + 1) b b0
  omega
theorem le_div_iff {a b p : Int} (b0 : 0 < b) : p ≤ a / b ↔ p * b ≤ a := Int.le_ediv_iff_mul_le b0
theorem beneath_at {h : Hm} {n : Nat} {f s t p : Int} (d : Dr h n f s) (bf : bd 64 f) (bs : bd 64 s) (t0 : 0 ≤ t) (bt : bd 400 t) (p0 : 0 ≤ p) (p1 : p < f + t * s + s) :
    F_beneath [.obj n, .int (beg f s (t + 1) + p)] h = .ok (.tup [.int (beg f s t + p * (f + t * s) / (f + t * s + s)), .int (beg f s t + ((p + 1) * (f + t * s) - 1) / (f + t * s + s))]) h := by
  have e1 : f + (t + 1) * s = f + t * s + s := by grind
  have T := turn_at (f := f) (s := s) (t := t + 1) (by omega) p0 (by rw [e1]; exact p1)
  have be : bd 501 (f + t * s + s) := by walk_at "bnd"
  have bq : bd 501 p := bd_le be p0 (by omega)
  have bc : bd 1000 (beg f s (t + 1) + p) := bd_add (a := 990) (bd_beg bf bs (show bd 401 (t + 1) by walk_at "bnd") (by decide) (by decide)) (bd_mono bq (by decide)) (by decide)
  have ea := beneath_ok d T bc (by omega)
  rw [show beg f s (t + 1) + p - beg f s (t + 1) = p by omega] at ea
  unfold bnLo bnHi at ea
  rw [e1, show t + 1 - 1 = t by omega, show f + t * s + s - s = f + t * s by omega] at ea
  exact ea
theorem gcd_turn (f s t : Int) : Int.gcd (f + t * s) s = Int.gcd f s := by simp
theorem atI2 {a b : D} : atI [a, b] 1 = some b := rfl
theorem atI1 {a b : D} : atI [a, b] 0 = some a := rfl
end Sh
end
section
namespace Sh
open PySem L2 Wm
noncomputable def b_common : Wm.BSem :=
  (sSeq (sWhile (asB (e2 dGt (eVar 1) (eC (.int 0))))
  (sPar 0 1 (eVar 1) (e2 dMod (eVar 0) (eVar 1))))
  (sRet (eVar 0)))
noncomputable def F_common : FS := fnS 2 b_common
noncomputable def b_parts_of : Wm.BSem :=
  (sRet (eCall F_common (aCons (eMeth 0 F_Drum_first (eVar 0) aNil) (aCons (eMeth 0 F_Drum_step (eVar 0) aNil) aNil))))
noncomputable def F_parts_of : FS := fnS 1 b_parts_of
end Sh
open PySem L2 Wm
local macro_rules | `(tactic| simp_arith [$ls,*]) => `(tactic| simp (disch := walk_at "okk") only [fnS, envOf, sSeq, sIf, sSet, sAsg, sDrop, sRet, sRetN, sPass, sBrk, sCnt, sPar, sPar3, sSub, sFldS, eLM, dApp, isL, eCallK, eMethK, eChain3, dMax3, dMin3, eLc, compS, tYesS, wipeE, asB, tAndS, tOrS, tNotS, tTruth, eIf, eAnd, eOr, eNot, eChain, eTup, eLst, eSlice, oNo, oSome, eBits, e2, e1, eN, eCall, eMeth, eMake, isIns, aCons, aNil, eVar, eC, R.bind, R.bindO, O.seq, dB, dTruth, dAdd, dSub, dLt, dLe, dGt, dGe, dIs, dIsNot, D.isN, dLen, dMax, dMin, dInt, dIx, items, dFld, dSetF, dSetIx, dIsi, D.ty, Ty.is, gN, gT, gAll, Option.bind, Option.map, new,
  List.map_cons, List.map_nil, List.length_cons, List.length_nil, List.replicate, List.getElem?_cons_zero, List.getElem?_cons_succ, List.cons_append, List.nil_append, List.set_cons_zero, List.set_cons_succ, Nat.reduceAdd, Nat.reduceSub, decide_true, decide_false, if_true, if_false, dMul_ok, dDiv_ok, dMod_ok, dPow_ok, dShl_ok, beq_self_eq_true, Int.reduceEq, Int.reduceLT, Int.reduceLE, Bool.not_true, Bool.not_false, reduceIte, reduceCtorEq, Bool.false_eq_true, $ls,*])
local macro_rules | `(tactic| walk_at "bd") => `(tactic| (focus ((repeat' (first | assumption | exact bd_litE (by decide) | (with_reducible apply bd_mulE) | (with_reducible apply bd_addE) | (with_reducible apply bd_subE) | (with_reducible apply bd_div) | (with_reducible apply bd_neg))); done)))
local macro_rules | `(tactic| walk_at "bnd") => `(tactic| (apply bd_mono; walk_at "bd"; decide))
local macro_rules | `(tactic| walk_at "okk") => `(tactic| first | assumption | (apply mulOk_of; walk_at "bd"; walk_at "bd"; decide) | (apply divOk_of; (focus (first | assumption | omega)); walk_at "bnd") | decide | omega)
end
open PySem L2 Wm
local macro_rules | `(tactic| simp_arith [$ls,*]) => `(tactic| simp (disch := walk_at "okk") only [fnS, envOf, sSeq, sIf, sSet, sAsg, sDrop, sRet, sRetN, sPass, sBrk, sCnt, sPar, sPar3, sSub, sFldS, eLM, dApp, isL, eCallK, eMethK, eChain3, dMax3, dMin3, eLc, compS, tYesS, wipeE, asB, tAndS, tOrS, tNotS, tTruth, eIf, eAnd, eOr, eNot, eChain, eTup, eLst, eSlice, oNo, oSome, eBits, e2, e1, eN, eCall, eMeth, eMake, isIns, aCons, aNil, eVar, eC, R.bind, R.bindO, O.seq, dB, dTruth, dAdd, dSub, dLt, dLe, dGt, dGe, dIs, dIsNot, D.isN, dLen, dMax, dMin, dInt, dIx, items, dFld, dSetF, dSetIx, dIsi, D.ty, Ty.is, gN, gT, gAll, Option.bind, Option.map, new,
  List.map_cons, List.map_nil, List.length_cons, List.length_nil, List.replicate, List.getElem?_cons_zero, List.getElem?_cons_succ, List.cons_append, List.nil_append, List.set_cons_zero, List.set_cons_succ, Nat.reduceAdd, Nat.reduceSub, decide_true, decide_false, if_true, if_false, dMul_ok, dDiv_ok, dMod_ok, dPow_ok, dShl_ok, beq_self_eq_true, Int.reduceEq, Int.reduceLT, Int.reduceLE, Bool.not_true, Bool.not_false, reduceIte, reduceCtorEq, Bool.false_eq_true, $ls,*])
local macro_rules | `(tactic| walk_at "bd") => `(tactic| (focus ((repeat' (first | assumption | exact bd_litE (by decide) | (with_reducible apply bd_mulE) | (with_reducible apply bd_addE) | (with_reducible apply bd_subE) | (with_reducible apply bd_div) | (with_reducible apply bd_neg))); done)))
local macro_rules | `(tactic| walk_at "bnd") => `(tactic| (apply bd_mono; walk_at "bd"; decide))
local macro_rules | `(tactic| walk_at "okk") => `(tactic| first | assumption | (apply mulOk_of; walk_at "bd"; walk_at "bd"; decide) | (apply divOk_of; (focus (first | assumption | omega)); walk_at "bnd") | decide | omega)
section
open PySem L2 Wm
namespace Sh
open PySem L2 Wm
theorem gcommon_ok {h : Hm} {a b : Int} (a0 : 0 ≤ a) (b0 : 0 ≤ b) : F_common [.int a, .int b] h = .ok (.int (Int.gcd a b)) h := common_ok a0 b0
theorem parts_ok {h : Hm} {n : Nat} {f s : Int} (d : Dr h n f s) : F_parts_of [.obj n] h = .ok (.int (Int.gcd f s)) h := by
  unfold F_parts_of b_parts_of
  simp_arith [d.at_, first_ok d, step_ok d, gc_int, gcommon_ok (show 0 ≤ f by have := d.f1; omega) d.s0]
theorem size_times (g a b t : Int) : g * a + t * (g * b) = g * (a + t * b) := by grind
theorem lesser {f s : Int} (f1 : 1 ≤ f) : ∃ g a b : Int, g = (Int.gcd f s : Int) ∧ 1 ≤ g ∧ f = g * a ∧ s = g * b ∧ Int.gcd a b = 1 ∧ f / g = a ∧ s / g = b ∧ 1 ≤ a ∧ a ≤ f ∧ g ≤ f := by
  have g0 : 0 < Int.gcd f s := Int.gcd_pos_of_ne_zero_left s (by omega)
  have cop : Int.gcd (f / (Int.gcd f s : Int)) (s / (Int.gcd f s : Int)) = 1 := Int.gcd_ediv_gcd_ediv_gcd g0
  have d1 : (Int.gcd f s : Int) ∣ f := Int.gcd_dvd_left ..
  have d2 : (Int.gcd f s : Int) ∣ s := Int.gcd_dvd_right ..
  obtain ⟨g, hg⟩ : ∃ g : Int, g = (Int.gcd f s : Int) := ⟨_, rfl⟩
  rw [← hg] at d1 d2 cop
  obtain ⟨a, ha⟩ := d1
  obtain ⟨b, hb⟩ := d2
  have gp : 1 ≤ g := by omega
  have e1 : f / g = a := by rw [ha]; exact Int.mul_ediv_cancel_left _ (by omega)
  have e2 : s / g = b := by rw [hb]; exact Int.mul_ediv_cancel_left _ (by omega)
  rw [e1, e2] at cop
  have a1 : 1 ≤ a := by
    have : g * 0 < g * a := by omega
    have := Int.lt_of_mul_lt_mul_left this (by omega)
    omega
  refine ⟨g, a, b, hg, gp, ha, hb, cop, e1, e2, a1, ?_, ?_⟩
  · have := Int.mul_le_mul_of_nonneg_right gp (show 0 ≤ a by omega)
    omega
  · have := Int.mul_le_mul_of_nonneg_left a1 (show 0 ≤ g by omega)
    omega
theorem dInt_bl {k : Bool} {h : Hm} : dInt [.bl k] h = .ok (.int (if k then 1 else 0)) h := rfl
end Sh
end
section
namespace Sh
open PySem L2 Wm
noncomputable def b_law_roll : Wm.BSem :=
  (sSeq (sSet 3 (e2 dAdd (eC (.int 1)) (eCall F_law_next (aCons (eVar 0) (aCons (eCall F_law_one (aCons (eVar 0) (aCons (eLst (aCons (eC (.int 4)) (aCons (eC (.int 4)) (aCons (eC (.int 1000)) (aCons (e2 dPow (eC (.int 10)) (eC (.int 7))) aNil))))) aNil))) aNil)))))
  (sSeq (sSet 4 (e2 dAdd (eVar 1) (e2 dMul (eVar 3) (eVar 2))))
  (sSeq (sSet 5 (e2 dDiv (eVar 4) (eCall F_law_common (aCons (eVar 1) (aCons (eVar 2) aNil)))))
  (sSeq (sSet 6 (eLst (aCons (eC (.int 1)) (aCons (eVar 4) (aCons (e2 dAdd (eC (.int 1)) (eCall F_law_great (aCons (eVar 0) (aCons (eVar 4) aNil)))) (aCons (e2 dAdd (eC (.int 1)) (eCall F_law_great (aCons (eVar 0) (aCons (eVar 5) aNil)))) (aCons (eVar 5) (aCons (eN dMin (aCons (eVar 4) (aCons (e2 dAdd (eVar 5) (eC (.int 1))) aNil))) aNil))))))))
  (sSeq (sSet 7 (eCall F_law_one (aCons (eVar 0) (aCons (eVar 6) aNil))))
  (sRet (eTup (aCons (eVar 3) (aCons (eVar 7) (aCons (e2 dAdd (eCall F_law_begins (aCons (eVar 1) (aCons (eVar 2) (aCons (eVar 3) aNil)))) (eVar 7)) aNil))))))))))
noncomputable def F_law_roll : FS := fnS 8 b_law_roll
end Sh
open PySem L2 Wm
local macro_rules | `(tactic| simp_arith [$ls,*]) => `(tactic| simp (disch := walk_at "okk") only [fnS, envOf, sSeq, sIf, sSet, sAsg, sDrop, sRet, sRetN, sPass, sBrk, sCnt, sPar, sPar3, sSub, sFldS, eLM, dApp, isL, eCallK, eMethK, eChain3, dMax3, dMin3, eLc, compS, tYesS, wipeE, asB, tAndS, tOrS, tNotS, tTruth, eIf, eAnd, eOr, eNot, eChain, eTup, eLst, eSlice, oNo, oSome, eBits, e2, e1, eN, eCall, eMeth, eMake, isIns, aCons, aNil, eVar, eC, R.bind, R.bindO, O.seq, dB, dTruth, dAdd, dSub, dLt, dLe, dGt, dGe, dIs, dIsNot, D.isN, dLen, dMax, dMin, dInt, dIx, items, dFld, dSetF, dSetIx, dIsi, D.ty, Ty.is, gN, gT, gAll, Option.bind, Option.map, new,
  List.map_cons, List.map_nil, List.length_cons, List.length_nil, List.replicate, List.getElem?_cons_zero, List.getElem?_cons_succ, List.cons_append, List.nil_append, List.set_cons_zero, List.set_cons_succ, Nat.reduceAdd, Nat.reduceSub, decide_true, decide_false, if_true, if_false, dMul_ok, dDiv_ok, dMod_ok, dPow_ok, dShl_ok, beq_self_eq_true, Int.reduceEq, Int.reduceLT, Int.reduceLE, Bool.not_true, Bool.not_false, reduceIte, reduceCtorEq, Bool.false_eq_true, $ls,*])
local macro_rules | `(tactic| walk_at "bd") => `(tactic| (focus ((repeat' (first | assumption | exact bd_litE (by decide) | (with_reducible apply bd_mulE) | (with_reducible apply bd_addE) | (with_reducible apply bd_subE) | (with_reducible apply bd_div) | (with_reducible apply bd_neg))); done)))
local macro_rules | `(tactic| walk_at "bnd") => `(tactic| (apply bd_mono; walk_at "bd"; decide))
local macro_rules | `(tactic| walk_at "okk") => `(tactic| first | assumption | (apply mulOk_of; walk_at "bd"; walk_at "bd"; decide) | (apply divOk_of; (focus (first | assumption | omega)); walk_at "bnd") | decide | omega)
end
section
open PySem L2 Wm
namespace Sh
open PySem L2 Wm
def cdiv (a b : Int) : Int := 0 - (0 - a) / b
theorem cdiv_lo {a b : Int} (b0 : 0 < b) : a ≤ cdiv a b * b := by
  have := Int.ediv_mul_le (0 - a) (show b ≠ 0 by omega)
  unfold cdiv
  have e : (0 - (0 - a) / b) * b = -((0 - a) / b * b) := by grind
  omega
theorem cdiv_hi {a b : Int} (b0 : 0 < b) : (cdiv a b - 1) * b < a := by
  have := Int.lt_ediv_add_one_mul_self (0 - a) b0
  unfold cdiv
  have e : (0 - (0 - a) / b - 1) * b = -(((0 - a) / b + 1) * b) := by grind
  omega
theorem cdiv_le {a b q : Int} (b0 : 0 < b) (h : a ≤ q * b) : cdiv a b ≤ q := by
  have h1 := cdiv_hi (a := a) b0
  have : (cdiv a b - 1) * b < q * b := by omega
  have := Int.lt_of_mul_lt_mul_right this (by omega)
  omega
theorem cdiv_ge {a b q : Int} (b0 : 0 < b) (h : (q - 1) * b < a) : q ≤ cdiv a b := by
  have h1 := cdiv_lo (a := a) b0
  have : (q - 1) * b < cdiv a b * b := by omega
  have := Int.lt_of_mul_lt_mul_right this (by omega)
  omega
theorem cdiv_eq {a b q : Int} (b0 : 0 < b) (h1 : (q - 1) * b < a) (h2 : a ≤ q * b) : cdiv a b = q := by
  have := cdiv_le b0 h2
  have := cdiv_ge b0 h1
  omega
theorem cdiv_mono {a c b : Int} (b0 : 0 < b) (h : a ≤ c) : cdiv a b ≤ cdiv c b := cdiv_le b0 (Int.le_trans h (cdiv_lo b0))
theorem roll_ok {h : Hm} {m k : Nat} {f st : Int} (s : Src h m k) (hk : k < 1000) (f1 : 1 ≤ f) (f2 : f < 1000000000000000) (s0 : 0 ≤ st) (s2 : st < 1000000000000000) :
    ∃ (t p : Int) (h' : Hm), gcR h (F_law_roll [.obj m, .int f, .int st] h) = .ok (.tup [.int t, .int p, .int (beg f st t + p)]) h' ∧ Dw m (k + 9) h h' ∧ 1 ≤ t ∧ t < 10001000 ∧ 1 ≤ p ∧ p ≤ f + t * st := by
  obtain ⟨v, h1, v0, e1, s1, k1, l1'⟩ := one_n [4, 4, 1000, 10000000] s (by omega) (by simp) (by simp)
  simp only [List.map_cons, List.map_nil] at e1
  have v1 : 0 < v ∧ v ≤ 10000000 := by rcases mem4 v0 with rfl | rfl | rfl | rfl <;> decide
  obtain ⟨t', h2, t0, t1, e2, w2⟩ := s1.nx v (by omega) v1.1 (bd_lit (by omega) (by decide))
  obtain ⟨t, ht⟩ : ∃ t, t = 1 + t' := ⟨_, rfl⟩
  have ts := Int.mul_nonneg (show 0 ≤ t by omega) s0
  obtain ⟨g, a, b, hg, g1, hfa, hsb, cop, efg, esg, a1, af, gf⟩ := lesser (s := st) f1
  have ecm := common_ok (h := h2) (show 0 ≤ f by omega) s0
  rw [← hg] at ecm
  have b0 : 0 ≤ b := by rw [← esg]; exact Int.ediv_nonneg s0 (by omega)
  have tb := Int.mul_nonneg (show 0 ≤ t by omega) b0
  have esz : f + t * st = g * (a + t * b) := by rw [hfa, hsb, size_times]
  have ewd : (f + t * st) / g = a + t * b := by rw [esz]; exact Int.mul_ediv_cancel_left _ (by omega)
  have wz : a + t * b ≤ f + t * st := by rw [← ewd]; exact Int.ediv_le_self _ (by omega)
  have dg : divOk g := divOk_of (by omega) (bd_lit (by omega) (by decide))
  obtain ⟨w, hw⟩ : ∃ w, w = a + t * b := ⟨_, rfl⟩
  rw [← hw] at ewd wz
  obtain ⟨x, h3, x0, x1, e3, w3⟩ := great_ok (many := f + t * st) w2.src (by omega) (by omega)
  obtain ⟨y, h4, y0, y1, e4, w4⟩ := great_ok (many := w) w3.src (by omega) (by omega)
  obtain ⟨p, h5, p0, e5, s5, k5, l5⟩ := one_n [1, f + t * st, 1 + x, 1 + y, w, if w + 1 < f + t * st then w + 1 else f + t * st] w4.src (by omega) (by simp) (by simp)
  simp only [List.map_cons, List.map_nil] at e5
  have p1 : 1 ≤ p ∧ p ≤ f + t * st := by
    simp only [List.mem_cons, List.not_mem_nil, or_false] at p0
    rcases p0 with rfl | rfl | rfl | rfl | rfl | rfl
    all_goals omega
  have bf : bd 64 f := bd_lit (by omega) (by decide)
  have bs : bd 64 st := bd_lit (by omega) (by decide)
  have bt : bd 64 t := bd_lit (by omega) (by decide)
  have kk : Hk m h h5 := (((k1.trans w2.hk).trans w3.hk).trans w4.hk).trans k5
  have eb := bg_ok (h := h5) (bd_mono bf (show 64 ≤ 300 by decide)) (bd_mono bs (show 64 ≤ 300 by decide)) (bd_mono bt (show 64 ≤ 1100 by decide))
  have z6 : szOk (0 + 1 + 1 + 1 + 1 + 1 + 1) := szOk_of (by decide)
  obtain ⟨h6, e6, w6⟩ := gc_drop (d := .tup [.int t, .int p, .int (beg f st t + p)]) kk s5 s.lt rfl
  refine ⟨t, p, h6, ?_, w6.mono (by omega), by omega, by omega, p1.1, p1.2⟩
  rw [← e6]
  refine congrArg (gcR h) ?_
  unfold F_law_roll b_law_roll
  simp_arith [pw7, p7e, sz4, e1, e2, ← ht, ecm, gc_int, dDiv, dg, ewd, e3, e4, if_pos z6, e5, eb, sz3]
end Sh
end
section
open PySem L2 Wm
namespace Sh
open PySem L2 Wm
structure Dq (h : Hm) (n : Nat) (g a b : Int) : Prop where
  dr : Dr h n (g * a) (g * b)
  hg : g = (Int.gcd (g * a) (g * b) : Int)
  g1 : 1 ≤ g
  a1 : 1 ≤ a
  b0 : 0 ≤ b
  cop : Int.gcd a b = 1
  bg : bd 64 g
  ba : bd 64 a
  bb : bd 64 b
  bf : bd 64 (g * a)
  bs : bd 64 (g * b)
theorem Dq.keep {h h' : Hm} {n : Nat} {g a b : Int} (d : Dq h n g a b) (e : h'[n]? = h[n]?) : Dq h' n g a b := { d with dr := d.dr.keep e }
theorem Dq.app {h k : Hm} {n : Nat} {g a b : Int} (d : Dq h n g a b) : Dq (h ++ k) n g a b := { d with dr := d.dr.app }
theorem Hk.dq {m n : Nat} {h h' : Hm} {g a b : Int} (k : Hk m h h') (d : Dq h n g a b) (ne : n ≠ m) : Dq h' n g a b := { d with dr := k.dr d.dr ne }
theorem Dr.dq {h : Hm} {n : Nat} {f s : Int} (d : Dr h n f s) (f2 : f < 1000000000000000) (s2 : s < 1000000000000000) : ∃ g a b, f = g * a ∧ s = g * b ∧ f / g = a ∧ s / g = b ∧ Dq h n g a b := by
  have f1 := d.f1
  have s0 := d.s0
  obtain ⟨g, a, b, hg, g1, hfa, hsb, cop, efg, esg, a1, af, gf⟩ := lesser (s := s) f1
  have b0 : 0 ≤ b := by rw [← esg]; exact Int.ediv_nonneg s0 (by omega)
  have bs : b ≤ s := by rw [← esg]; exact Int.ediv_le_self _ s0
  refine ⟨g, a, b, hfa, hsb, efg, esg, ?_, ?_, g1, a1, b0, cop, bd_lit (by omega) (by decide), bd_lit (by omega) (by decide), bd_lit (by omega) (by decide), ?_, ?_⟩
  · rw [← hfa, ← hsb]; exact d
  · rw [← hfa, ← hsb]; exact hg
  · rw [← hfa]; exact bd_lit (by omega) (by decide)
  · rw [← hsb]; exact bd_lit (by omega) (by decide)
def wd (a b t : Int) : Int := a + t * b
theorem wd_pos {a b t : Int} (a1 : 1 ≤ a) (b0 : 0 ≤ b) (t0 : 0 ≤ t) : 1 ≤ wd a b t := by
  have := Int.mul_nonneg t0 b0
  unfold wd; omega
theorem wd_succ (a b t : Int) : wd a b (t + 1) = wd a b t + b := by unfold wd; grind
theorem gwd (g a b t : Int) : g * a + t * (g * b) = g * wd a b t := size_times g a b t
def cel (g a b t k w : Int) : Int := beg (g * a) (g * b) t + (k * wd a b t + w)
theorem in_sector {g E k w : Int} (E1 : 1 ≤ E) (k0 : 0 ≤ k) (k1 : k < g) (w0 : 0 ≤ w) (w1 : w < E) : 0 ≤ k * E + w ∧ k * E + w < g * E ∧ 0 ≤ k * E ∧ k * E + E ≤ g * E := by
  have h1 := Int.mul_nonneg k0 (show 0 ≤ E by omega)
  have h2 : (k + 1) * E ≤ g * E := Int.mul_le_mul_of_nonneg_right (by omega) (by omega)
  have h3 : (k + 1) * E = k * E + E := by grind
  omega
section
variable {h : Hm} {n : Nat} {g a b t k w : Int}
theorem turn_cel (g1 : 1 ≤ g) (a1 : 1 ≤ a) (b0 : 0 ≤ b) (t0 : 0 ≤ t) (k0 : 0 ≤ k) (k1 : k < g) (w0 : 0 ≤ w) (w1 : w < wd a b t) : IsTurn (g * a) (g * b) (cel g a b t k w) t := by
  obtain ⟨p0, p1, _, _⟩ := in_sector (wd_pos a1 b0 t0) k0 k1 w0 w1
  exact turn_at t0 p0 (by rw [gwd]; exact p1)
theorem bd_wd (ba : bd 64 a) (bb : bd 64 b) (bt : bd 100 t) : bd 170 (wd a b t) := by unfold wd; walk_at "bnd"
theorem bd_cel (d : Dq h n g a b) (bt : bd 100 t) (k0 : 0 ≤ k) (k1 : k < g) (t0 : 0 ≤ t) (w0 : 0 ≤ w) (w1 : w < wd a b t) : bd 600 (cel g a b t k w) := by
  obtain ⟨p0, p1, _, _⟩ := in_sector (wd_pos d.a1 d.b0 t0) k0 k1 w0 w1
  have h1 := bd_wd d.ba d.bb bt
  have h2 : bd 240 (k * wd a b t + w) := bd_le (y := g * wd a b t) (bd_mul d.bg h1 (by decide)) p0 (by omega)
  unfold cel
  exact bd_add (a := 590) (bd_beg d.bf d.bs bt (by decide) (by decide)) (bd_mono h2 (by decide)) (by decide)
theorem where_cel (d : Dq h n g a b) (t0 : 0 ≤ t) (bt : bd 100 t) (k0 : 0 ≤ k) (k1 : k < g) (w0 : 0 ≤ w) (w1 : w < wd a b t) : F_Drum_where [.obj n, .int (cel g a b t k w)] h = .ok (.tup [.int t, .int (k * wd a b t + w), .int (g * wd a b t)]) h := by
  have e := where_at d.dr (turn_cel d.g1 d.a1 d.b0 t0 k0 k1 w0 w1) (bd_mono (bd_cel d bt k0 k1 t0 w0 w1) (by decide))
  rw [gwd] at e
  rw [e]
  unfold cel
  rw [show beg (g * a) (g * b) t + (k * wd a b t + w) - beg (g * a) (g * b) t = k * wd a b t + w by omega]
theorem cel_of {c : Int} (g1 : 1 ≤ g) (a1 : 1 ≤ a) (b0 : 0 ≤ b) (T : IsTurn (g * a) (g * b) c t) : ∃ k w, 0 ≤ k ∧ k < g ∧ 0 ≤ w ∧ w < wd a b t ∧ c = cel g a b t k w := by
  have E1 := wd_pos a1 b0 T.t0
  have lo := T.lo
  have hi := T.hi
  rw [beg_succ, gwd] at hi
  obtain ⟨p, hp⟩ : ∃ p, p = c - beg (g * a) (g * b) t := ⟨_, rfl⟩
  refine ⟨p / wd a b t, p % wd a b t, Int.ediv_nonneg (by omega) (by omega), (Int.ediv_lt_iff_lt_mul (by omega)).mpr (by omega), Int.emod_nonneg _ (by omega), Int.emod_lt_of_pos _ (by omega), ?_⟩
  have := Int.emod_add_mul_ediv p (wd a b t)
  have e : wd a b t * (p / wd a b t) = p / wd a b t * wd a b t := Int.mul_comm _ _
  unfold cel
  omega
theorem fl_cd {X E : Int} (g1 : 1 ≤ g) (E0 : 0 < E) : (g * X - 1) / (g * E) = cdiv X E - 1 := by
  have gE : 0 < g * E := Int.mul_pos (by omega) E0
  have h1 := cdiv_lo (a := X) E0
  have h2 := cdiv_hi (a := X) E0
  have l1 : (g * X - 1) / (g * E) ≤ cdiv X E - 1 := (div_le_iff gE).mpr (by
    have := Int.mul_le_mul_of_nonneg_left h1 (show 0 ≤ g by omega)
    have e : g * (cdiv X E * E) = (cdiv X E - 1 + 1) * (g * E) := by grind
    omega)
  have l2 : cdiv X E - 1 ≤ (g * X - 1) / (g * E) := (le_div_iff gE).mpr (by
    have := Int.mul_le_mul_of_nonneg_left (show (cdiv X E - 1) * E + 1 ≤ X by omega) (show 0 ≤ g by omega)
    have e : g * ((cdiv X E - 1) * E + 1) = (cdiv X E - 1) * (g * E) + g := by grind
    omega)
  omega
theorem cd_shift {k Z X E : Int} (E0 : 0 < E) : cdiv (k * E * Z + X) E = k * Z + cdiv X E := by
  have h1 := cdiv_lo (a := X) E0
  have h2 := cdiv_hi (a := X) E0
  refine cdiv_eq E0 ?_ ?_
  · have e : (k * Z + cdiv X E - 1) * E = k * E * Z + (cdiv X E - 1) * E := by grind
    omega
  · have e : (k * Z + cdiv X E) * E = k * E * Z + cdiv X E * E := by grind
    omega
theorem beneath_cel (d : Dq h n g a b) (t0 : 0 ≤ t) (bt : bd 99 t) (k0 : 0 ≤ k) (k1 : k < g) (w0 : 0 ≤ w) (w1 : w < wd a b (t + 1)) :
    F_beneath [.obj n, .int (cel g a b (t + 1) k w)] h = .ok (.tup [.int (cel g a b t k (w * wd a b t / wd a b (t + 1))), .int (cel g a b t k (cdiv ((w + 1) * wd a b t) (wd a b (t + 1)) - 1))]) h := by
  have E1 := wd_pos d.a1 d.b0 t0
  have Z1 := wd_pos d.a1 d.b0 (show 0 ≤ t + 1 by omega)
  obtain ⟨p0, p1, _, _⟩ := in_sector Z1 k0 k1 w0 w1
  have eZ : g * a + t * (g * b) + g * b = g * wd a b (t + 1) := by rw [gwd, wd_succ]; grind
  have e := beneath_at (p := k * wd a b (t + 1) + w) d.dr d.bf d.bs t0 (bd_mono bt (by decide)) p0 (by rw [eZ]; exact p1)
  rw [eZ, gwd] at e
  obtain ⟨E, hE⟩ : ∃ E, E = wd a b t := ⟨_, rfl⟩
  obtain ⟨Z, hZ⟩ : ∃ Z, Z = wd a b (t + 1) := ⟨_, rfl⟩
  unfold cel
  rw [← hE, ← hZ] at e ⊢
  rw [← hE] at E1
  rw [← hZ] at Z1
  have g1 := d.g1
  have e1 : (k * Z + w) * (g * E) / (g * Z) = k * E + w * E / Z := by
    have c : (k * Z + w) * (g * E) = g * (w * E + k * E * Z) := by grind
    rw [c, Int.mul_ediv_mul_of_pos _ _ (by omega), Int.add_mul_ediv_right _ _ (by omega), Int.add_comm]
  have e2 : ((k * Z + w + 1) * (g * E) - 1) / (g * Z) = k * E + (cdiv ((w + 1) * E) Z - 1) := by
    have c : (k * Z + w + 1) * (g * E) = g * (k * Z * E + (w + 1) * E) := by grind
    rw [c, fl_cd g1 (by omega), cd_shift (by omega)]
    omega
  rw [e, e1, e2]
def lenM (a b v y t k : Int) : Int := if t + 1 < v then wd a b (t + 1) else if t + 1 = v then (if y - k * wd a b (t + 1) < wd a b (t + 1) then y - k * wd a b (t + 1) else wd a b (t + 1)) else 0
theorem lenM_le {v y : Int} (a1 : 1 ≤ a) (b0 : 0 ≤ b) (t0 : 0 ≤ t) : lenM a b v y t k ≤ wd a b (t + 1) := by
  have Z1 := wd_pos a1 b0 (show 0 ≤ t + 1 by omega)
  unfold lenM
  split
  · omega
  · split
    · split <;> omega
    · omega
end
end Sh
end
section
namespace Sh
open PySem L2 Wm
noncomputable def b_check_face : Wm.BSem :=
  (sSeq (sIf (tOrS (tNotS (tTruth (e1 (dIsi .tup) (eVar 1)))) (tOrS (asB (e2 dNe (eN dLen (aCons (eVar 1) aNil)) (eC (.int 2)))) (tOrS (tNotS (tTruth (eCall F_is_whole (aCons (e2 dIx (eVar 1) (eC (.int 0))) aNil)))) (tNotS (asB (eChain dLe dLt (eC (.int 0)) (e2 dIx (eVar 1) (eC (.int 0))) (eVar 0)))))))
  sBad
  sPass)
  (sIf (tOrS (tNotS (tTruth (e1 (dIsi .str) (e2 dIx (eVar 1) (eC (.int 1)))))) (asB (e2 dNotIn (e2 dIx (eVar 1) (eC (.int 1))) (eC (.tup [.str "in", .str "out"])))))
  sBad
  sPass))
noncomputable def F_check_face : FS := fnS 2 b_check_face
noncomputable def b_check_roll : Wm.BSem :=
  (sSeq (sDrop (eCall F_check_length (aCons (eVar 0) aNil)))
  (sFor (wSeq (eVar 1)) (gN 2)
  (sDrop (eCall F_check_face (aCons (eVar 0) (aCons (eVar 2) aNil))))))
noncomputable def F_check_roll : FS := fnS 3 b_check_roll
noncomputable def b_Gap_init : Wm.BSem :=
  (sSeq (sAsg (gT [(gN 4), (gN 5)]) (eVar 3))
  (sSeq (sAsg (gT [(gN 6), (gN 7), (gN 8)]) (eMeth 0 F_Drum_where (eVar 1) (aCons (eVar 4) aNil)))
  (sSeq (sFldS 1 0 (eVar 0) (eIf (asB (e2 dEq (eVar 5) (eC (.str "out")))) (eVar 6) (e2 dSub (eVar 6) (eC (.int 1)))))
  (sSeq (sAsg (gT [(gN 9), (gN 10)]) (eMeth 0 F_Drum_filled (eVar 1) (aCons (eVar 2) aNil)))
  (sSeq (sFldS 1 1 (eVar 0) (eMeth 0 F_Drum_size (eVar 1) (aCons (eN dMax (aCons (eC (.int 0)) (aCons (e1 (dFld 1 0) (eVar 0)) aNil))) aNil)))
  (sSeq (sFldS 1 2 (eVar 0) (eMeth 0 F_Drum_size (eVar 1) (aCons (e2 dAdd (e1 (dFld 1 0) (eVar 0)) (eC (.int 1))) aNil)))
  (sSeq (sFldS 1 3 (eVar 0) (eMeth 0 F_Drum_begins (eVar 1) (aCons (eN dMax (aCons (eC (.int 0)) (aCons (e1 (dFld 1 0) (eVar 0)) aNil))) aNil)))
  (sSeq (sFldS 1 4 (eVar 0) (eMeth 0 F_Drum_begins (eVar 1) (aCons (e2 dAdd (e1 (dFld 1 0) (eVar 0)) (eC (.int 1))) aNil)))
  (sSeq (sFldS 1 5 (eVar 0) (eIf (asB (e2 dLt (e2 dAdd (e1 (dFld 1 0) (eVar 0)) (eC (.int 1))) (eVar 9))) (e1 (dFld 1 2) (eVar 0)) (e2 dMul (eVar 10) (eN dInt (aCons (e2 dEq (e2 dAdd (e1 (dFld 1 0) (eVar 0)) (eC (.int 1))) (eVar 9)) aNil)))))
  (sSeq (sFldS 1 6 (eVar 0) (e2 dDiv (e2 dMul (eVar 7) (eCall F_parts_of (aCons (eVar 1) aNil))) (eVar 8)))
  (sFldS 1 7 (eVar 0) (eCall F_parts_of (aCons (eVar 1) aNil)))))))))))))
noncomputable def F_Gap_init : FS := fnS 11 b_Gap_init
noncomputable def b_Gap_uppers : Wm.BSem :=
  (sSeq (sSet 1 (e2 dDiv (e1 (dFld 1 2) (eVar 0)) (e1 (dFld 1 7) (eVar 0))))
  (sSeq (sSet 2 (e2 dMul (e1 (dFld 1 6) (eVar 0)) (eVar 1)))
  (sSeq (sIf (asB (e2 dLe (e1 (dFld 1 5) (eVar 0)) (eVar 2)))
  (sRet (eC .non))
  sPass)
  (sRet (eTup (aCons (eVar 2) (aCons (e2 dSub (eN dMin (aCons (e2 dAdd (eVar 2) (eVar 1)) (aCons (e1 (dFld 1 5) (eVar 0)) aNil))) (eC (.int 1))) aNil)))))))
noncomputable def F_Gap_uppers : FS := fnS 3 b_Gap_uppers
noncomputable def b_Gap_under : Wm.BSem :=
  (sRet (eTup (aCons (e2 dDiv (e2 dMul (eVar 1) (e1 (dFld 1 1) (eVar 0))) (e1 (dFld 1 2) (eVar 0))) (aCons (e2 dDiv (e2 dSub (e2 dMul (e2 dAdd (eVar 1) (eC (.int 1))) (e1 (dFld 1 1) (eVar 0))) (eC (.int 1))) (e1 (dFld 1 2) (eVar 0))) aNil))))
noncomputable def F_Gap_under : FS := fnS 2 b_Gap_under
noncomputable def b_Gap_lowers : Wm.BSem :=
  (sSeq (sSet 1 (e2 dDiv (e1 (dFld 1 1) (eVar 0)) (e1 (dFld 1 7) (eVar 0))))
  (sRet (eTup (aCons (e2 dMul (e1 (dFld 1 6) (eVar 0)) (eVar 1)) (aCons (e2 dIx (eMeth 1 F_Gap_under (eVar 0) (aCons (e2 dIx (eMeth 1 F_Gap_uppers (eVar 0) aNil) (eC (.int 1))) aNil)) (eC (.int 1))) aNil)))))
noncomputable def F_Gap_lowers : FS := fnS 2 b_Gap_lowers
noncomputable def b_piece_places : Wm.BSem :=
  (sSeq (sAsg (gT [(gN 2), (gN 3)]) (eVar 1))
  (sSeq (sSet 4 (eMeth 1 F_Gap_uppers (eVar 0) aNil))
  (sSeq (sIf (asB (e2 dEq (eVar 3) (eC (.str "in"))))
  (sSeq (sSet 5 (e2 dSub (eVar 2) (e1 (dFld 1 4) (eVar 0))))
  (sRet (eIf (asB (e2 dLt (e1 (dFld 1 0) (eVar 0)) (eC (.int 0)))) (eTup (aCons (eC .non) (aCons (eTup (aCons (eVar 5) (aCons (eVar 5) aNil))) aNil))) (eTup (aCons (eMeth 1 F_Gap_lowers (eVar 0) aNil) (aCons (eVar 4) aNil))))))
  sPass)
  (sSeq (sSet 5 (e2 dSub (eVar 2) (e1 (dFld 1 3) (eVar 0))))
  (sSeq (sIf (tOrS (asB (e2 dIs (eVar 4) (eC .non))) (asB (e2 dGt (eVar 5) (e2 dIx (eMeth 1 F_Gap_lowers (eVar 0) aNil) (eC (.int 1))))))
  (sRet (eTup (aCons (eTup (aCons (eVar 5) (aCons (eVar 5) aNil))) (aCons (eC .non) aNil))))
  sPass)
  (sRet (eTup (aCons (eMeth 1 F_Gap_lowers (eVar 0) aNil) (aCons (eVar 4) aNil)))))))))
noncomputable def F_piece_places : FS := fnS 6 b_piece_places
noncomputable def b_at_cells : Wm.BSem :=
  (sRet (eIf (asB (e2 dIs (eVar 1) (eC .non))) (eC .non) (eTup (aCons (e2 dAdd (eVar 0) (e2 dIx (eVar 1) (eC (.int 0)))) (aCons (e2 dAdd (eVar 0) (e2 dIx (eVar 1) (eC (.int 1)))) aNil)))))
noncomputable def F_at_cells : FS := fnS 2 b_at_cells
noncomputable def b_piece : Wm.BSem :=
  (sSeq (sDrop (eCall F_check_roll (aCons (eVar 1) (aCons (eLst (aCons (eVar 2) aNil)) aNil))))
  (sSeq (sSet 3 (eMake 1 F_Gap_init (aCons (eVar 0) (aCons (eVar 1) (aCons (eVar 2) aNil)))))
  (sSeq (sAsg (gT [(gN 4), (gN 5)]) (eCall F_piece_places (aCons (eVar 3) (aCons (eVar 2) aNil))))
  (sRet (eTup (aCons (eCall F_at_cells (aCons (e1 (dFld 1 3) (eVar 3)) (aCons (eVar 4) aNil))) (aCons (eCall F_at_cells (aCons (e1 (dFld 1 4) (eVar 3)) (aCons (eVar 5) aNil))) aNil)))))))
noncomputable def F_piece : FS := fnS 6 b_piece
noncomputable def b_law_face : Wm.BSem :=
  (sSeq (sAsg (gT [(gN 4), (gN 5), (gN 6)]) (eVar 3))
  (sSeq (sSet 7 (eCall F_law_one (aCons (eVar 0) (aCons (eLst (aCons (eC (.int 0)) (aCons (eC (.int 1)) (aCons (eC (.int 1)) (aCons (eC (.int 2)) (aCons (eCall F_law_next (aCons (eVar 0) (aCons (e2 dAdd (eVar 4) (eC (.int 1))) aNil))) aNil)))))) aNil))))
  (sSeq (sSet 8 (eN dMax (aCons (eC (.int 0)) (aCons (e2 dSub (eVar 4) (eVar 7)) aNil))))
  (sSeq (sSet 9 (e2 dIx (eLst (aCons (e2 dAdd (eVar 1) (e2 dMul (eVar 8) (eVar 2))) (aCons (eVar 5) aNil))) (eN dInt (aCons (e2 dEq (eVar 8) (eVar 4)) aNil))))
  (sSeq (sSet 10 (eCall F_law_one (aCons (eVar 0) (aCons (eLst (aCons (eC (.int 0)) (aCons (e2 dSub (eVar 9) (eC (.int 1))) (aCons (eCall F_law_great (aCons (eVar 0) (aCons (eVar 9) aNil))) (aCons (e2 dDiv (eVar 9) (eC (.int 2))) aNil))))) aNil))))
  (sRet (eTup (aCons (e2 dAdd (eCall F_law_begins (aCons (eVar 1) (aCons (eVar 2) (aCons (eVar 8) aNil)))) (eVar 10)) (aCons (eCall F_law_one (aCons (eVar 0) (aCons (eLst (aCons (eC (.str "in")) (aCons (eC (.str "out")) aNil))) aNil))) aNil)))))))))
noncomputable def F_law_face : FS := fnS 11 b_law_face
end Sh
open PySem L2 Wm
local macro_rules | `(tactic| simp_arith [$ls,*]) => `(tactic| simp (disch := walk_at "okk") only [fnS, envOf, sSeq, sIf, sSet, sAsg, sDrop, sRet, sRetN, sPass, sBrk, sCnt, sPar, sPar3, sSub, sFldS, eLM, dApp, isL, eCallK, eMethK, eChain3, dMax3, dMin3, eLc, compS, tYesS, wipeE, asB, tAndS, tOrS, tNotS, tTruth, eIf, eAnd, eOr, eNot, eChain, eTup, eLst, eSlice, oNo, oSome, eBits, e2, e1, eN, eCall, eMeth, eMake, isIns, aCons, aNil, eVar, eC, R.bind, R.bindO, O.seq, dB, dTruth, dAdd, dSub, dLt, dLe, dGt, dGe, dIs, dIsNot, D.isN, dLen, dMax, dMin, dInt, dIx, items, dFld, dSetF, dSetIx, dIsi, D.ty, Ty.is, gN, gT, gAll, Option.bind, Option.map, new,
  List.map_cons, List.map_nil, List.length_cons, List.length_nil, List.replicate, List.getElem?_cons_zero, List.getElem?_cons_succ, List.cons_append, List.nil_append, List.set_cons_zero, List.set_cons_succ, Nat.reduceAdd, Nat.reduceSub, decide_true, decide_false, if_true, if_false, dMul_ok, dDiv_ok, dMod_ok, dPow_ok, dShl_ok, beq_self_eq_true, Int.reduceEq, Int.reduceLT, Int.reduceLE, Bool.not_true, Bool.not_false, reduceIte, reduceCtorEq, Bool.false_eq_true, $ls,*])
local macro_rules | `(tactic| walk_at "bd") => `(tactic| (focus ((repeat' (first | assumption | exact bd_litE (by decide) | (with_reducible apply bd_mulE) | (with_reducible apply bd_addE) | (with_reducible apply bd_subE) | (with_reducible apply bd_div) | (with_reducible apply bd_neg))); done)))
local macro_rules | `(tactic| walk_at "bnd") => `(tactic| (apply bd_mono; walk_at "bd"; decide))
local macro_rules | `(tactic| walk_at "okk") => `(tactic| first | assumption | (apply mulOk_of; walk_at "bd"; walk_at "bd"; decide) | (apply divOk_of; (focus (first | assumption | omega)); walk_at "bnd") | decide | omega)
end
section
open PySem L2 Wm
namespace Sh
open PySem L2 Wm
theorem set_last {h : Hm} {x y : Ob} : (h ++ [x]).set (List.length h) y = h ++ [y] := by simp
theorem dEq_str {x y : Str} {h : Hm} (sx : SeqAt.shaped (.str x) = true) (sy : SeqAt.shaped (.str y) = true) : dEq (.str x) (.str y) h = .ok (.bl (PyData.eqv (.str x) (.str y))) h := by
  unfold dEq pyO D.py
  simp only
  rw [if_pos ⟨sx, sy⟩]
theorem sh_in : SeqAt.shaped (.str "in") = true := by decide +kernel
theorem sh_out : SeqAt.shaped (.str "out") = true := by decide +kernel
theorem dEq_in_out {h : Hm} : dEq (.str "in") (.str "out") h = .ok (.bl false) h := by rw [dEq_str sh_in sh_out, show PyData.eqv (.str "in") (.str "out") = false by decide +kernel]
theorem dEq_out_out {h : Hm} : dEq (.str "out") (.str "out") h = .ok (.bl true) h := by rw [dEq_str sh_out sh_out, show PyData.eqv (.str "out") (.str "out") = true by decide +kernel]
theorem dEq_in_in {h : Hm} : dEq (.str "in") (.str "in") h = .ok (.bl true) h := by rw [dEq_str sh_in sh_in, show PyData.eqv (.str "in") (.str "in") = true by decide +kernel]
theorem dEq_out_in {h : Hm} : dEq (.str "out") (.str "in") h = .ok (.bl false) h := by rw [dEq_str sh_out sh_in, show PyData.eqv (.str "out") (.str "in") = false by decide +kernel]
structure Rl (g a b v y l : Int) : Prop where
  hl : l = beg (g * a) (g * b) v + y
  y1 : 1 ≤ y
  y2 : y ≤ g * wd a b v
  v0 : 0 ≤ v
  bv : bd 90 v
theorem Rl.turn {g a b v y l : Int} (R : Rl g a b v y l) : IsTurn (g * a) (g * b) (l - 1) v := ⟨R.v0, by have := R.hl; have := R.y1; omega, by rw [beg_succ, gwd]; have := R.hl; have := R.y2; omega⟩
theorem Rl.lb {h : Hm} {n : Nat} {g a b v y l : Int} (R : Rl g a b v y l) (d : Dq h n g a b) : bd 600 l := by
  have h1 := bd_wd (t := v) d.ba d.bb (bd_mono R.bv (by decide))
  have h2 : bd 240 y := bd_le (y := g * wd a b v) (bd_mul d.bg h1 (by decide)) (by have := R.y1; omega) R.y2
  rw [R.hl]
  exact bd_add (a := 590) (bd_beg d.bf d.bs R.bv (by decide) (by decide)) (bd_mono h2 (by decide)) (by decide)
theorem Rl.l1 {h : Hm} {n : Nat} {g a b v y l : Int} (R : Rl g a b v y l) (d : Dq h n g a b) : 1 ≤ l := by
  have := R.hl
  have := R.y1
  have := beg_nn d.dr.f1 d.dr.s0 R.v0
  omega
theorem filled_rl {h : Hm} {n : Nat} {g a b v y l : Int} (d : Dq h n g a b) (R : Rl g a b v y l) : F_Drum_filled [.obj n, .int l] h = .ok (.tup [.int v, .int y]) h := by
  have e := filled_at d.dr R.turn (bd_mono (R.lb d) (by decide))
  rw [show l - 1 - beg (g * a) (g * b) v + 1 = y by have := R.hl; omega] at e
  exact e
def gapF (g a b v y T k : Int) : List D := [.int T, .int (g * wd a b (if T > 0 then T else 0)), .int (g * wd a b (T + 1)), .int (beg (g * a) (g * b) (if T > 0 then T else 0)), .int (beg (g * a) (g * b) (T + 1)),
  .int (if T + 1 < v then g * wd a b (T + 1) else y * (if T + 1 = v then 1 else 0)), .int k, .int g]
section
variable {h : Hm} {n : Nat} {g a b v y l t k w T : Int}
theorem face_in {h : Hm} {l c : Int} (c0 : 0 ≤ c) (cl : c < l) : F_check_face [.int l, .tup [.int c, .str "in"]] h = .ok .non h := by
  have e : dNotIn (.str "in") (.tup [.str "in", .str "out"]) h = .ok (.bl false) h := by rfl
  have e2 : ((List.length [D.int c, D.str "in"] : Nat) : Int) = 2 := rfl
  unfold F_check_face b_check_face
  simp_arith [is_whole_int, gc_bl, atI1, atI2, dNe_int, c0, cl, e, Int.ofNat_eq_natCast]
  rfl
theorem face_out {h : Hm} {l c : Int} (c0 : 0 ≤ c) (cl : c < l) : F_check_face [.int l, .tup [.int c, .str "out"]] h = .ok .non h := by
  have e : dNotIn (.str "out") (.tup [.str "in", .str "out"]) h = .ok (.bl false) h := by rfl
  unfold F_check_face b_check_face
  simp_arith [is_whole_int, gc_bl, atI1, atI2, dNe_int, c0, cl, e, Int.ofNat_eq_natCast]
  rfl
theorem gap_init (d : Dq h n g a b) (R : Rl g a b v y l) (t0 : 0 ≤ t) (bt : bd 90 t) (k0 : 0 ≤ k) (k1 : k < g) (w0 : 0 ≤ w) (w1 : w < wd a b t) (sd : Str) (hs : (sd = "out" ∧ T = t) ∨ (sd = "in" ∧ T = t - 1)) :
    F_Gap_init [.obj (List.length h), .obj n, .int l, .tup [.int (cel g a b t k w), .str sd]] (h ++ [.ins 1 []]) = .ok .non (h ++ [.ins 1 (gapF g a b v y T k)]) := by
  have g1 := d.g1
  have E1 := wd_pos d.a1 d.b0 t0
  have hd : ∀ x, (h ++ [x])[n]? = some (.ins 0 [.int (g * a), .int (g * b)]) := fun x => (Dr.app d.dr).at_
  have ew := fun x => where_cel (Dq.app (k := [x]) d) t0 (bd_mono bt (by decide)) k0 k1 w0 w1
  have ef := fun x => filled_rl (Dq.app (k := [x]) d) R
  have T1 : 0 ≤ T + 1 := by rcases hs with ⟨_, e⟩ | ⟨_, e⟩ <;> omega
  have Tt : T ≤ t := by rcases hs with ⟨_, e⟩ | ⟨_, e⟩ <;> omega
  have bT1 : bd 91 (T + 1) := bd_le (y := t + 1) (by walk_at "bnd") T1 (by omega)
  have L0 : 0 ≤ (if T > 0 then T else 0) := by split <;> omega
  have bL0 : bd 91 (if T > 0 then T else 0) := bd_le (y := t + 1) (by walk_at "bnd") L0 (by split <;> omega)
  have es1 := fun x => size_ok (Dq.app (k := [x]) d).dr L0 (bd_mono bL0 (by decide))
  have es2 := fun x => size_ok (Dq.app (k := [x]) d).dr T1 (bd_mono bT1 (by decide))
  have eb1 := fun x => begins_ok (Dq.app (k := [x]) d).dr L0 (bd_mono bL0 (by decide))
  have eb2 := fun x => begins_ok (Dq.app (k := [x]) d).dr T1 (bd_mono bT1 (by decide))
  have ep := fun x => parts_ok (Dq.app (k := [x]) d).dr
  rw [← d.hg] at ep
  rw [gwd] at es1 es2
  have bg := d.bg
  have gE : 0 < g * wd a b t := Int.mul_pos (by omega) (by omega)
  have bE := bd_wd (t := t) d.ba d.bb (bd_mono bt (by decide))
  have bgE : bd 240 (g * wd a b t) := bd_mul d.bg bE (by decide)
  have dv : divOk (g * wd a b t) := divOk_of gE (bd_mono bgE (by decide))
  obtain ⟨p0, p1, p2, p3⟩ := in_sector E1 k0 k1 w0 w1
  have bp : bd 240 (k * wd a b t + w) := bd_le bgE p0 (by omega)
  have epart : (k * wd a b t + w) * g / (g * wd a b t) = k := by
    rw [Int.mul_comm (k * wd a b t + w) g, Int.mul_ediv_mul_of_pos _ _ (by omega), Int.add_comm, Int.add_mul_ediv_right _ _ (by omega), Int.ediv_eq_zero_of_lt w0 w1, Int.zero_add]
  have by_ : bd 240 y := by
    have h1 := bd_wd (t := v) d.ba d.bb (bd_mono R.bv (by decide))
    exact bd_le (y := g * wd a b v) (bd_mul d.bg h1 (by decide)) (by have := R.y1; omega) R.y2
  have my1 : mulOk y 1 := mulOk_of by_ (bd_litE (x := 1) (by decide)) (by decide)
  have my0 : mulOk y 0 := mulOk_of by_ (bd_litE (x := 0) (by decide)) (by decide)
  unfold gapF
  rcases hs with ⟨rfl, rfl⟩ | ⟨rfl, rfl⟩
  · unfold F_Gap_init b_Gap_init
    by_cases q : T + 1 < v
    · simp_arith [hd, ew, gc_t3, gc_t2, gc_int, dEq_out_out, ef, set_last, hnew, es1, es2, eb1, eb2, ep, q, dEq_int, dDiv, dv, epart, Nat.reduceLT, Nat.lt_irrefl, Nat.reduceEqDiff]
    · by_cases q2 : T + 1 = v
      · subst q2
        simp_arith [hd, ew, gc_t3, gc_t2, gc_int, dEq_out_out, ef, set_last, hnew, es1, es2, eb1, eb2, ep, Int.lt_irrefl, eq_self, dEq_int, dDiv, dv, epart, Nat.reduceLT, Nat.lt_irrefl, Nat.reduceEqDiff]
      · simp_arith [hd, ew, gc_t3, gc_t2, gc_int, dEq_out_out, ef, set_last, hnew, es1, es2, eb1, eb2, ep, q, q2, dEq_int, dDiv, dv, epart, Nat.reduceLT, Nat.lt_irrefl, Nat.reduceEqDiff]
  · unfold F_Gap_init b_Gap_init
    by_cases q : t - 1 + 1 < v
    · simp_arith [hd, ew, gc_t3, gc_t2, gc_int, dEq_in_out, ef, set_last, hnew, es1, es2, eb1, eb2, ep, q, dEq_int, dDiv, dv, epart, Nat.reduceLT, Nat.lt_irrefl, Nat.reduceEqDiff]
    · by_cases q2 : t - 1 + 1 = v
      · subst q2
        simp_arith [hd, ew, gc_t3, gc_t2, gc_int, dEq_in_out, ef, set_last, hnew, es1, es2, eb1, eb2, ep, Int.lt_irrefl, eq_self, dEq_int, dDiv, dv, epart, Nat.reduceLT, Nat.lt_irrefl, Nat.reduceEqDiff]
      · simp_arith [hd, ew, gc_t3, gc_t2, gc_int, dEq_in_out, ef, set_last, hnew, es1, es2, eb1, eb2, ep, q, q2, dEq_int, dDiv, dv, epart, Nat.reduceLT, Nat.lt_irrefl, Nat.reduceEqDiff]
end
end Sh
end
section
open PySem L2 Wm
namespace Sh
open PySem L2 Wm
section
variable {h : Hm} {n m : Nat} {g a b v y l t k w T : Int}
theorem lenM_there {Z : Int} (hZ : Z = wd a b (T + 1)) (g1 : 1 ≤ g) (Z1 : 1 ≤ Z) (k0 : 0 ≤ k) (k1 : k < g) (y1 : 1 ≤ y) :
    ((if T + 1 < v then g * Z else y * (if T + 1 = v then 1 else 0)) ≤ k * Z ↔ lenM a b v y T k ≤ 0) ∧
    (0 < lenM a b v y T k → (if (if T + 1 < v then g * Z else y * (if T + 1 = v then 1 else 0)) < k * Z + Z then (if T + 1 < v then g * Z else y * (if T + 1 = v then 1 else 0)) else k * Z + Z) = k * Z + lenM a b v y T k) := by
  have h1 : (k + 1) * Z ≤ g * Z := Int.mul_le_mul_of_nonneg_right (by omega) (by omega)
  have h2 : (k + 1) * Z = k * Z + Z := by grind
  have h3 := Int.mul_nonneg k0 (show 0 ≤ Z by omega)
  unfold lenM
  rw [← hZ]
  by_cases q : T + 1 < v
  · simp only [if_pos q]
    exact ⟨by omega, fun _ => by rw [if_neg (by omega)]⟩
  · by_cases q2 : T + 1 = v
    · simp only [if_neg q, if_pos q2, Int.mul_one]
      refine ⟨?_, fun _ => ?_⟩
      · split <;> omega
      · by_cases q3 : y - k * Z < Z
        · rw [if_pos q3, if_pos (by omega)]; omega
        · rw [if_neg q3, if_neg (by omega)]
    · simp only [if_neg q, if_neg q2, Int.mul_zero]
      exact ⟨by omega, fun h => by omega⟩
theorem uppers_ok (d : Dq h n g a b) (R : Rl g a b v y l) (k0 : 0 ≤ k) (k1 : k < g) (T1 : 0 ≤ T + 1) (bT : bd 91 (T + 1)) (hm : h[m]? = some (.ins 1 (gapF g a b v y T k))) :
    F_Gap_uppers [.obj m] h = .ok (if lenM a b v y T k ≤ 0 then .non else .tup [.int (k * wd a b (T + 1)), .int (k * wd a b (T + 1) + lenM a b v y T k - 1)]) h := by
  have g1 := d.g1
  obtain ⟨Z, hZ⟩ : ∃ Z, Z = wd a b (T + 1) := ⟨_, rfl⟩
  have Z1 : 1 ≤ Z := by rw [hZ]; exact wd_pos d.a1 d.b0 T1
  have bZ : bd 170 Z := by rw [hZ]; exact bd_wd d.ba d.bb (bd_mono bT (by decide))
  obtain ⟨c1, c2⟩ := lenM_there (v := v) (T := T) hZ g1 Z1 k0 k1 R.y1
  have bg := d.bg
  have bk : bd 64 k := bd_le bg k0 (by omega)
  have dg : divOk g := divOk_of (by omega) (bd_mono bg (by decide))
  have eg : g * Z / g = Z := Int.mul_ediv_cancel_left _ (by omega)
  unfold gapF at hm
  rw [← hZ] at hm ⊢
  obtain ⟨th, hth⟩ : ∃ th, th = (if T + 1 < v then g * Z else y * (if T + 1 = v then 1 else 0)) := ⟨_, rfl⟩
  rw [← hth] at hm c1 c2
  by_cases q : lenM a b v y T k ≤ 0
  · have q' := c1.mpr q
    rw [if_pos q]
    unfold F_Gap_uppers b_Gap_uppers
    simp_arith [hm, dDiv, dg, eg, q']
  · have q' : ¬ th ≤ k * Z := fun x => q (c1.mp x)
    have c3 := c2 (by omega)
    rw [if_neg q]
    unfold F_Gap_uppers b_Gap_uppers
    simp_arith [hm, dDiv, dg, eg, q', c3, sz2]
theorem lowers_ok (d : Dq h n g a b) (R : Rl g a b v y l) (k0 : 0 ≤ k) (k1 : k < g) (T0 : 0 ≤ T) (bT : bd 90 T) (hm : h[m]? = some (.ins 1 (gapF g a b v y T k))) (hM : 0 < lenM a b v y T k) :
    F_Gap_lowers [.obj m] h = .ok (.tup [.int (k * wd a b T), .int (k * wd a b T + (cdiv (lenM a b v y T k * wd a b T) (wd a b (T + 1)) - 1))]) h := by
  have g1 := d.g1
  have eu := uppers_ok d R k0 k1 (by omega) (by walk_at "bnd") hm
  have isin : isIns 1 (.obj m) h = true := by simp [isIns, hm]
  rw [if_neg (by omega)] at eu
  have e0 : (if T > 0 then T else 0) = T := by split <;> omega
  unfold gapF at hm
  rw [e0] at hm
  have Z1' := wd_pos d.a1 d.b0 (show 0 ≤ T + 1 by omega)
  have E1' := wd_pos d.a1 d.b0 T0
  have ML := lenM_le (v := v) (y := y) (k := k) d.a1 d.b0 T0
  have bZ' := bd_wd (t := T + 1) d.ba d.bb (by walk_at "bnd")
  have bE' := bd_wd (t := T) d.ba d.bb (bd_mono bT (by decide))
  obtain ⟨Z, hZ⟩ : ∃ Z, Z = wd a b (T + 1) := ⟨_, rfl⟩
  obtain ⟨E, hE⟩ : ∃ E, E = wd a b T := ⟨_, rfl⟩
  obtain ⟨M, hMM⟩ : ∃ M, M = lenM a b v y T k := ⟨_, rfl⟩
  rw [← hZ] at hm eu Z1' ML bZ' ⊢
  rw [← hE] at hm E1' bE' ⊢
  rw [← hMM] at eu hM ML ⊢
  have bg := d.bg
  have bk : bd 64 k := bd_le bg k0 (by omega)
  have bM : bd 170 M := bd_le bZ' (by omega) ML
  have dg : divOk g := divOk_of (by omega) (bd_mono bg (by decide))
  have gZ : 0 < g * Z := Int.mul_pos (by omega) (by omega)
  have dgZ : divOk (g * Z) := divOk_of gZ (by walk_at "bnd")
  have eg : g * E / g = E := Int.mul_ediv_cancel_left _ (by omega)
  have e2 : ((k * Z + M - 1 + 1) * (g * E) - 1) / (g * Z) = k * E + (cdiv (M * E) Z - 1) := by
    have c : (k * Z + M - 1 + 1) * (g * E) = g * (k * Z * E + M * E) := by grind
    rw [c, fl_cd g1 (by omega), cd_shift (by omega)]
    omega
  have un : F_Gap_under [.obj m, .int (k * Z + M - 1)] h = .ok (.tup [.int ((k * Z + M - 1) * (g * E) / (g * Z)), .int (((k * Z + M - 1 + 1) * (g * E) - 1) / (g * Z))]) h := by
    unfold F_Gap_under b_Gap_under
    simp_arith [hm, dDiv, dgZ, sz2]
  unfold F_Gap_lowers b_Gap_lowers
  simp_arith [hm, dDiv, dg, eg, eu, gc_t2, atI2, un, e2, sz2]
def lowD (g a b v y T k : Int) : D := .tup [.int (cel g a b T k 0), .int (cel g a b T k (cdiv (lenM a b v y T k * wd a b T) (wd a b (T + 1)) - 1))]
def upD (g a b v y T k : Int) : D := .tup [.int (cel g a b (T + 1) k 0), .int (cel g a b (T + 1) k (lenM a b v y T k - 1))]
theorem at_non {B : Int} : F_at_cells [.int B, .non] h = .ok .non h := by
  unfold F_at_cells b_at_cells
  simp_arith []
theorem at_tup {B x z : Int} : F_at_cells [.int B, .tup [.int x, .int z]] h = .ok (.tup [.int (B + x), .int (B + z)]) h := by
  unfold F_at_cells b_at_cells
  simp_arith [atI1, atI2, sz2]
theorem piece_run {face lo up lo2 up2 : D} {sd : Str} {B1 B2 c : Int} {fs : List D} (hf : face = .tup [.int c, .str sd]) (l1 : 1 ≤ l) (hck : ∀ h : Hm, F_check_face [.int l, face] h = .ok .non h)
    (hi : ∀ x, F_Gap_init [.obj (List.length (h ++ [x])), .obj n, .int l, face] (h ++ [x] ++ [.ins 1 []]) = .ok .non (h ++ [x] ++ [.ins 1 fs]))
    (hp : ∀ x, F_piece_places [.obj (List.length (h ++ [x])), face] (h ++ [x] ++ [.ins 1 fs]) = .ok (.tup [lo, up]) (h ++ [x] ++ [.ins 1 fs]))
    (f3 : fs[3]? = some (.int B1)) (f4 : fs[4]? = some (.int B2)) (a1 : ∀ h : Hm, F_at_cells [.int B1, lo] h = .ok lo2 h) (a2 : ∀ h : Hm, F_at_cells [.int B2, up] h = .ok up2 h)
    (z1 : ∀ j, lo.lows j = true) (z2 : ∀ j, up.lows j = true) (z3 : ∀ j, lo2.lows j = true) (z4 : ∀ j, up2.lows j = true) :
    gcR h (F_piece [.obj n, .int l, face] h) = .ok (.tup [lo2, up2]) h := by
  have sz1 : szOk (0 + 1) := szOk_of (by decide)
  have el := fun (h : Hm) => length_ok (h := h) l1
  have er : ∀ (h : Hm) (i : Nat), h[i]? = some (.lst [face]) → F_check_roll [.int l, .obj i] h = .ok .non h := by
    intro h i hi
    have hi' := hi
    unfold F_check_roll b_check_roll
    simp_arith [el, gc_non, sFor, wSeq, hi, forS, hck]
  have gi : ∀ x, gcR (h ++ [x] ++ [.ins 1 []]) (F_Gap_init [.obj (List.length (h ++ [x])), .obj n, .int l, face] (h ++ [x] ++ [.ins 1 []])) = .ok .non (h ++ [x] ++ [.ins 1 fs]) := fun x => by
    rw [hi x, gc_len (by simp)]
  have gp : ∀ H : Hm, ∀ p : D, (∀ j, p.lows j = true) → gcR H (.ok p H) = .ok p H := fun H p z => gc_same (z _)
  have tl : ∀ j, (D.tup [lo, up]).lows j = true := fun j => by simp [D.lows, lowsL, z1 j, z2 j]
  have t2 : ∀ j, (D.tup [lo2, up2]).lows j = true := fun j => by simp [D.lows, lowsL, z3 j, z4 j]
  have main : F_piece [.obj n, .int l, face] h = .ok (.tup [lo2, up2]) (h ++ ([.lst [face]] ++ [.ins 1 fs])) := by
    rw [← List.append_assoc]
    unfold F_piece b_piece
    simp_arith [if_pos sz1, er _ _ hnew, gc_non, gi, hnew, hp, gp _ _ tl, f3, f4, a1, a2, gp _ _ z3, gp _ _ z4, sz2]
  rw [main, gc_keep (t2 _)]
end
end Sh
end
section
open PySem L2 Wm
namespace Sh
open PySem L2 Wm
section
variable {h : Hm} {n m : Nat} {g a b v y l t k w T : Int}
theorem lenM_in (g1 : 1 ≤ g) (a1 : 1 ≤ a) (b0 : 0 ≤ b) (R : Rl g a b v y l) (T1 : 0 ≤ T + 1) (k0 : 0 ≤ k) (w0 : 0 ≤ w) (w1 : w < wd a b (T + 1)) (cl : cel g a b (T + 1) k w < l) : w < lenM a b v y T k := by
  have Z1 := wd_pos a1 b0 T1
  have hl := R.hl
  unfold lenM
  by_cases q : T + 1 < v
  · rw [if_pos q]; exact w1
  · rw [if_neg q]
    by_cases q2 : T + 1 = v
    · rw [if_pos q2]
      rw [← q2] at hl
      unfold cel at cl
      split <;> omega
    · exfalso
      have f1 : 1 ≤ g * a := Int.mul_pos (by omega) (by omega)
      have s0 : 0 ≤ g * b := Int.mul_nonneg (by omega) b0
      have l1 := beg_mono f1 s0 (show 0 ≤ v + 1 by have := R.v0; omega) (show v + 1 ≤ T + 1 by omega)
      rw [beg_succ, gwd] at l1
      have := R.y2
      have := Int.mul_nonneg k0 (show 0 ≤ wd a b (T + 1) by omega)
      unfold cel at cl
      omega
theorem cel_bd0 (d : Dq h n g a b) (t0 : 0 ≤ t) (k0 : 0 ≤ k) (w0 : 0 ≤ w) : 0 ≤ cel g a b t k w := by
  have := beg_nn d.dr.f1 d.dr.s0 t0
  have := Int.mul_nonneg k0 (show 0 ≤ wd a b t by have := wd_pos d.a1 d.b0 t0; omega)
  unfold cel; omega
theorem places_in (d : Dq h n g a b) (R : Rl g a b v y l) (k0 : 0 ≤ k) (k1 : k < g) (T0 : 0 ≤ T) (bT : bd 90 T) {c : Int} (hm : h[m]? = some (.ins 1 (gapF g a b v y T k))) (hM : 0 < lenM a b v y T k) :
    F_piece_places [.obj m, .tup [.int c, .str "in"]] h = .ok (.tup [.tup [.int (k * wd a b T), .int (k * wd a b T + (cdiv (lenM a b v y T k * wd a b T) (wd a b (T + 1)) - 1))], .tup [.int (k * wd a b (T + 1)), .int (k * wd a b (T + 1) + lenM a b v y T k - 1)]]) h := by
  have eu := uppers_ok d R k0 k1 (by omega) (by walk_at "bnd") hm
  have el := lowers_ok d R k0 k1 T0 bT hm hM
  rw [if_neg (by omega)] at eu
  have T0' : ¬ T < 0 := by omega
  unfold gapF at hm
  unfold F_piece_places b_piece_places
  simp_arith [hm, eu, el, gc_t2, dEq_in_in, T0', sz2]
theorem places_in0 (d : Dq h n g a b) (R : Rl g a b v y l) (k0 : 0 ≤ k) (k1 : k < g) {c : Int} (hm : h[m]? = some (.ins 1 (gapF g a b v y (-1) k))) :
    F_piece_places [.obj m, .tup [.int c, .str "in"]] h = .ok (.tup [.non, .tup [.int (c - beg (g * a) (g * b) (-1 + 1)), .int (c - beg (g * a) (g * b) (-1 + 1))]]) h := by
  have eu := uppers_ok (T := -1) d R k0 k1 (by decide) (by unfold bd; decide) hm
  have gz : ∀ p : D, (∀ j, p.lows j = true) → gcR h (.ok p h) = .ok p h := fun p z => gc_same (z _)
  have lw : ∀ j, (if lenM a b v y (-1) k ≤ 0 then D.non else .tup [.int (k * wd a b (-1 + 1)), .int (k * wd a b (-1 + 1) + lenM a b v y (-1) k - 1)]).lows j = true := fun j => by split <;> rfl
  unfold gapF at hm
  unfold F_piece_places b_piece_places
  simp_arith [hm, eu, gz _ lw, dEq_in_in, sz2]
theorem places_out (d : Dq h n g a b) (R : Rl g a b v y l) (k0 : 0 ≤ k) (k1 : k < g) (T0 : 0 ≤ T) (bT : bd 90 T) (w0 : 0 ≤ w) (hm : h[m]? = some (.ins 1 (gapF g a b v y T k))) :
    F_piece_places [.obj m, .tup [.int (cel g a b T k w), .str "out"]] h = .ok (if cdiv (lenM a b v y T k * wd a b T) (wd a b (T + 1)) ≤ w then .tup [.tup [.int (k * wd a b T + w), .int (k * wd a b T + w)], .non] else
      .tup [.tup [.int (k * wd a b T), .int (k * wd a b T + (cdiv (lenM a b v y T k * wd a b T) (wd a b (T + 1)) - 1))], .tup [.int (k * wd a b (T + 1)), .int (k * wd a b (T + 1) + lenM a b v y T k - 1)]]) h := by
  have eu := uppers_ok d R k0 k1 (by omega) (by walk_at "bnd") hm
  have Z1 := wd_pos d.a1 d.b0 (show 0 ≤ T + 1 by omega)
  have E1 := wd_pos d.a1 d.b0 T0
  have ep : cel g a b T k w - beg (g * a) (g * b) T = k * wd a b T + w := by unfold cel; omega
  have e0 : (if T > 0 then T else 0) = T := by split <;> omega
  have hm' := hm
  unfold gapF at hm'
  rw [e0] at hm'
  by_cases q : lenM a b v y T k ≤ 0
  · rw [if_pos q] at eu
    have c0 : cdiv (lenM a b v y T k * wd a b T) (wd a b (T + 1)) ≤ w := by
      have : cdiv (lenM a b v y T k * wd a b T) (wd a b (T + 1)) ≤ 0 := cdiv_le (by omega) (by
        rw [Int.zero_mul]
        exact Int.mul_nonpos_of_nonpos_of_nonneg q (by omega))
      omega
    rw [if_pos c0]
    unfold F_piece_places b_piece_places
    simp_arith [hm', eu, gc_non, gc_t2, dEq_out_in, ep, sz2]
  · rw [if_neg q] at eu
    have el := lowers_ok d R k0 k1 T0 bT hm (by omega)
    by_cases c0 : cdiv (lenM a b v y T k * wd a b T) (wd a b (T + 1)) ≤ w
    · rw [if_pos c0]
      have c1 : k * wd a b T + (cdiv (lenM a b v y T k * wd a b T) (wd a b (T + 1)) - 1) < k * wd a b T + w := by omega
      unfold F_piece_places b_piece_places
      simp_arith [hm', eu, el, gc_non, gc_t2, dEq_out_in, ep, atI2, c1, sz2]
    · rw [if_neg c0]
      have c1 : ¬ k * wd a b T + (cdiv (lenM a b v y T k * wd a b T) (wd a b (T + 1)) - 1) < k * wd a b T + w := by omega
      unfold F_piece_places b_piece_places
      simp_arith [hm', eu, el, gc_non, gc_t2, dEq_out_in, ep, atI2, c1, sz2]
theorem piece_in0 (d : Dq h n g a b) (R : Rl g a b v y l) (k0 : 0 ≤ k) (k1 : k < g) (w0 : 0 ≤ w) (w1 : w < wd a b 0) (cl : cel g a b 0 k w < l) :
    gcR h (F_piece [.obj n, .int l, .tup [.int (cel g a b 0 k w), .str "in"]] h) = .ok (.tup [.non, .tup [.int (cel g a b 0 k w), .int (cel g a b 0 k w)]]) h := by
  have c0 := cel_bd0 (t := 0) d (by decide) k0 w0
  have e1 : beg (g * a) (g * b) (-1 + 1) + (cel g a b 0 k w - beg (g * a) (g * b) (-1 + 1)) = cel g a b 0 k w := by omega
  refine piece_run (c := cel g a b 0 k w) (sd := "in") (fs := gapF g a b v y (-1) k) (lo := .non) (up := .tup [.int (cel g a b 0 k w - beg (g * a) (g * b) (-1 + 1)), .int (cel g a b 0 k w - beg (g * a) (g * b) (-1 + 1))]) rfl (R.l1 d) (fun h => face_in c0 cl)
    (fun x => gap_init (Dq.app d) R (by decide) (by unfold bd; decide) k0 k1 w0 w1 "in" (Or.inr ⟨rfl, rfl⟩)) (fun x => places_in0 (Dq.app (Dq.app d)) R k0 k1 hnew) rfl rfl (fun h => at_non) (fun h => ?_) (fun _ => rfl) (fun _ => rfl) (fun _ => rfl) (fun _ => rfl)
  rw [at_tup, e1]
theorem piece_in (d : Dq h n g a b) (R : Rl g a b v y l) (k0 : 0 ≤ k) (k1 : k < g) (T0 : 0 ≤ T) (bT : bd 89 T) (w0 : 0 ≤ w) (w1 : w < wd a b (T + 1)) (cl : cel g a b (T + 1) k w < l) :
    gcR h (F_piece [.obj n, .int l, .tup [.int (cel g a b (T + 1) k w), .str "in"]] h) = .ok (.tup [lowD g a b v y T k, upD g a b v y T k]) h := by
  have c0 := cel_bd0 (t := T + 1) d (by omega) k0 w0
  have hM := lenM_in d.g1 d.a1 d.b0 R (by omega) k0 w0 w1 cl
  have e0 : (if T > 0 then T else 0) = T := by split <;> omega
  refine piece_run (B1 := beg (g * a) (g * b) T) (B2 := beg (g * a) (g * b) (T + 1)) (c := cel g a b (T + 1) k w) (sd := "in") (fs := gapF g a b v y T k) (lo := .tup [.int (k * wd a b T), .int (k * wd a b T + (cdiv (lenM a b v y T k * wd a b T) (wd a b (T + 1)) - 1))]) (up := .tup [.int (k * wd a b (T + 1)), .int (k * wd a b (T + 1) + lenM a b v y T k - 1)]) rfl (R.l1 d) (fun h => face_in c0 cl)
    (fun x => gap_init (Dq.app d) R (by omega) (by walk_at "bnd") k0 k1 w0 w1 "in" (Or.inr ⟨rfl, by omega⟩)) (fun x => places_in (Dq.app (Dq.app d)) R k0 k1 T0 (bd_mono bT (by decide)) hnew (by omega)) (by unfold gapF; rw [e0]; rfl) rfl (fun h => ?_) (fun h => ?_) (fun _ => rfl) (fun _ => rfl) (fun _ => rfl) (fun _ => rfl)
  · rw [at_tup]; unfold lowD cel; rw [Int.add_zero]
  · rw [at_tup]; unfold upD cel; rw [Int.add_zero, show k * wd a b (T + 1) + (lenM a b v y T k - 1) = k * wd a b (T + 1) + lenM a b v y T k - 1 by omega]
theorem piece_out (d : Dq h n g a b) (R : Rl g a b v y l) (k0 : 0 ≤ k) (k1 : k < g) (T0 : 0 ≤ T) (bT : bd 89 T) (w0 : 0 ≤ w) (w1 : w < wd a b T) (cl : cel g a b T k w < l) :
    gcR h (F_piece [.obj n, .int l, .tup [.int (cel g a b T k w), .str "out"]] h) = .ok (if cdiv (lenM a b v y T k * wd a b T) (wd a b (T + 1)) ≤ w then .tup [.tup [.int (cel g a b T k w), .int (cel g a b T k w)], .non] else .tup [lowD g a b v y T k, upD g a b v y T k]) h := by
  have c0 := cel_bd0 (t := T) d T0 k0 w0
  have e0 : (if T > 0 then T else 0) = T := by split <;> omega
  by_cases q : cdiv (lenM a b v y T k * wd a b T) (wd a b (T + 1)) ≤ w
  · rw [if_pos q]
    refine piece_run (B1 := beg (g * a) (g * b) T) (B2 := beg (g * a) (g * b) (T + 1)) (c := cel g a b T k w) (sd := "out") (fs := gapF g a b v y T k) (lo := .tup [.int (k * wd a b T + w), .int (k * wd a b T + w)]) (up := .non) rfl (R.l1 d) (fun h => face_out c0 cl)
      (fun x => gap_init (Dq.app d) R (by omega) (by walk_at "bnd") k0 k1 w0 w1 "out" (Or.inl ⟨rfl, rfl⟩)) (fun x => (places_out (Dq.app (Dq.app d)) R k0 k1 T0 (bd_mono bT (by decide)) w0 hnew).trans (by rw [if_pos q])) (by unfold gapF; rw [e0]; rfl) rfl (fun h => ?_) (fun h => at_non) (fun _ => rfl) (fun _ => rfl) (fun _ => rfl) (fun _ => rfl)
    rw [at_tup]; unfold cel; rfl
  · rw [if_neg q]
    refine piece_run (B1 := beg (g * a) (g * b) T) (B2 := beg (g * a) (g * b) (T + 1)) (c := cel g a b T k w) (sd := "out") (fs := gapF g a b v y T k) (lo := .tup [.int (k * wd a b T), .int (k * wd a b T + (cdiv (lenM a b v y T k * wd a b T) (wd a b (T + 1)) - 1))]) (up := .tup [.int (k * wd a b (T + 1)), .int (k * wd a b (T + 1) + lenM a b v y T k - 1)]) rfl (R.l1 d) (fun h => face_out c0 cl)
      (fun x => gap_init (Dq.app d) R (by omega) (by walk_at "bnd") k0 k1 w0 w1 "out" (Or.inl ⟨rfl, rfl⟩)) (fun x => (places_out (Dq.app (Dq.app d)) R k0 k1 T0 (bd_mono bT (by decide)) w0 hnew).trans (by rw [if_neg q])) (by unfold gapF; rw [e0]; rfl) rfl (fun h => ?_) (fun h => ?_) (fun _ => rfl) (fun _ => rfl) (fun _ => rfl) (fun _ => rfl)
    · rw [at_tup]; unfold lowD cel; rw [Int.add_zero]
    · rw [at_tup]; unfold upD cel; rw [Int.add_zero, show k * wd a b (T + 1) + (lenM a b v y T k - 1) = k * wd a b (T + 1) + lenM a b v y T k - 1 by omega]
end
theorem atI_memD {xs : List D} {i : Int} (h0 : 0 ≤ i) (h1 : i < xs.length) : ∃ v ∈ xs, atI xs i = some v := by
  obtain ⟨j, rfl⟩ : ∃ j : Nat, i = (j : Int) := ⟨i.toNat, by omega⟩
  have hj : j < xs.length := by omega
  exact ⟨xs[j], List.getElem_mem hj, atI_nat (List.getElem?_eq_getElem hj)⟩
theorem one_d {h : Hm} {m k : Nat} (xs : List D) (s : Src h m k) (hk : k < 2 ^ 50) (hx : 0 < xs.length) (hx2 : xs.length ≤ 1000) (hf : ∀ d ∈ xs, ∀ j, d.lows j = true) :
    ∃ (v : D) (h' : Hm), v ∈ xs ∧ gcR (h ++ [.lst xs]) (F_law_one [.obj m, .obj (List.length h)] (h ++ [.lst xs])) = .ok v h' ∧ Src h' m (k + 1) ∧ Hk m h h' := by
  obtain ⟨r, h', r0, r1, e1, w⟩ := Src.nx (h := h ++ [.lst xs]) s.app (xs.length : Int) hk (by omega) (bd_lit (by omega) (by decide))
  obtain ⟨v, v1, v2⟩ := atI_memD r0 r1
  have el : h'[List.length h]? = some (.lst xs) := (w.hk.at_ _ (hlt hnew) (Nat.ne_of_gt s.lt)).trans hnew
  refine ⟨v, h', v1, ?_, w.src, Hk.app.trans w.hk⟩
  have e3 : F_law_one [.obj m, .obj (List.length h)] (h ++ [.lst xs]) = .ok v h' := by
    unfold F_law_one b_law_one
    simp_arith [hnew, e1, el, v2]
  rw [e3, gc_len w.len]
theorem face_ok {h : Hm} {m k : Nat} {f s t y l : Int} (sr : Src h m k) (hk : k < 1000) (f1 : 1 ≤ f) (f2 : f < 1000000000000000) (s0 : 0 ≤ s) (s2 : s < 1000000000000000) (t1 : 1 ≤ t) (t2 : t < 10001000) (y1 : 1 ≤ y) (y2 : y ≤ f + t * s) :
    ∃ (u p : Int) (sd : Str) (h' : Hm), gcR h (F_law_face [.obj m, .int f, .int s, .tup [.int t, .int y, .int l]] h) = .ok (.tup [.int (beg f s u + p), .str sd]) h' ∧ Dw m (k + 9) h h' ∧ 0 ≤ u ∧ u ≤ t ∧ 0 ≤ p ∧ p < f + u * s ∧ (u = t → p < y) ∧ (sd = "in" ∨ sd = "out") := by
  obtain ⟨r, h1, r0, r1, e1, w1⟩ := sr.nx (t + 1) (by omega) (by omega) (bd_lit (by omega) (by decide))
  obtain ⟨bk, h2, b0, e2, s2', k2, _⟩ := one_n [0, 1, 1, 2, r] w1.src (by omega) (by simp) (by simp)
  simp only [List.map_cons, List.map_nil] at e2
  have bk0 : 0 ≤ bk := by
    simp only [List.mem_cons, List.not_mem_nil, or_false] at b0
    rcases b0 with rfl | rfl | rfl | rfl | rfl <;> omega
  obtain ⟨u, hu⟩ : ∃ u, u = (if t - bk > 0 then t - bk else 0) := ⟨_, rfl⟩
  have u0 : 0 ≤ u ∧ u ≤ t := by rw [hu]; split <;> omega
  have us := Int.mul_nonneg u0.1 s0
  have bt : bd 64 u := bd_lit (by omega) (by decide)
  have bf : bd 64 f := bd_lit (by omega) (by decide)
  have bs : bd 64 s := bd_lit (by omega) (by decide)
  obtain ⟨z, hz⟩ : ∃ z, z = (if u = t then y else f + u * s) := ⟨_, rfl⟩
  have z1 : 1 ≤ z ∧ z ≤ f + u * s := by
    rw [hz]; split
    · rename_i e; rw [e]; exact ⟨y1, y2⟩
    · omega
  -- the heap grows by the list of two
  obtain ⟨h3, hh3⟩ : ∃ h3, h3 = h2 ++ [Ob.lst [.int (f + u * s), .int y]] := ⟨_, rfl⟩
  have s3 : Src h3 m (k + 1 + 1) := by rw [hh3]; exact s2'.app
  have k3 : Hk m h2 h3 := by rw [hh3]; exact Hk.app
  obtain ⟨q, h4, q0, q1, e4, w4⟩ := great_ok (many := z) s3 (by omega) (by omega)
  obtain ⟨p, h5, p0, e5, s5, k5, _⟩ := one_n [0, z - 1, q, z / 2] w4.src (by omega) (by simp) (by simp)
  simp only [List.map_cons, List.map_nil] at e5
  have p1 : 0 ≤ p ∧ p < z := by rcases mem4 p0 with rfl | rfl | rfl | rfl <;> omega
  obtain ⟨sd, h6, sd0, e6, s6, k6⟩ := one_d [.str "in", .str "out"] s5 (by omega) (by simp) (by simp) (by intro d hd j; simp at hd; rcases hd with rfl | rfl <;> rfl)
  obtain ⟨sd', rfl, hsd⟩ : ∃ sd' : Str, sd = .str sd' ∧ (sd' = "in" ∨ sd' = "out") := by
    simp only [List.mem_cons, List.not_mem_nil, or_false] at sd0
    rcases sd0 with rfl | rfl
    · exact ⟨_, rfl, Or.inl rfl⟩
    · exact ⟨_, rfl, Or.inr rfl⟩
  have kk : Hk m h h6 := ((((w1.hk.trans k2).trans k3).trans w4.hk).trans k5).trans k6
  have eb := fun (h : Hm) => bg_ok (h := h) (t := u) (bd_mono bf (show 64 ≤ 300 by decide)) (bd_mono bs (show 64 ≤ 300 by decide)) (bd_mono bt (show 64 ≤ 1100 by decide))
  obtain ⟨h7, e7, w7⟩ := gc_drop (d := .tup [.int (beg f s u + p), .str sd']) kk s6 sr.lt rfl
  refine ⟨u, p, sd', h7, ?_, w7.mono (by omega), u0.1, u0.2, p1.1, by omega, fun e => by rw [hz, if_pos e] at p1; exact p1.2, hsd⟩
  rw [← e7]
  refine congrArg (gcR h) ?_
  have dv2 : divOk 2 := by decide
  have z5 : szOk (0 + 1 + 1 + 1 + 1 + 1) := szOk_of (by decide)
  have ix : atI [D.int (f + u * s), .int y] (if u = t then 1 else 0) = some (.int z) := by
    rw [hz]; split <;> rfl
  have eix : ∀ j : Int, j = (if u = t then 1 else 0) → atI [D.int (f + u * s), .int y] j = some (.int z) := fun j e => by rw [e]; exact ix
  unfold F_law_face b_law_face
  by_cases c : u = t
  · have i1 := eix 1 (by rw [if_pos c])
    subst c
    simp_arith [e1, e2, if_pos z5, ← hu, dEq_int, eq_self, sz2, ← hh3]
    rw [show h3[List.length h2]? = some (.lst [.int (f + u * s), .int y]) by rw [hh3]; exact hnew]
    simp_arith [i1, e4, sz4, e5, eb, gc_int, e6, dDiv, dv2, sz2]
  · have i0 := eix 0 (by rw [if_neg c])
    simp_arith [e1, e2, if_pos z5, ← hu, dEq_int, sz2, ← hh3, c]
    rw [show h3[List.length h2]? = some (.lst [.int (f + u * s), .int y]) by rw [hh3]; exact hnew]
    simp_arith [i0, e4, sz4, e5, eb, gc_int, e6, dDiv, dv2, sz2]
end Sh
end
section
open PySem L2 Wm
namespace Sh
open PySem L2 Wm
section
variable {E Z M w : Int}
theorem sec_lt (Z0 : 0 < Z) : w < cdiv (M * E) Z ↔ w * Z < M * E := by
  constructor
  · intro h
    by_cases c : w * Z < M * E
    · exact c
    · have := cdiv_le Z0 (show M * E ≤ w * Z by omega)
      omega
  · intro h
    have := cdiv_lo (a := M * E) Z0
    have h2 : w * Z < cdiv (M * E) Z * Z := by omega
    exact Int.lt_of_mul_lt_mul_right h2 (by omega)
theorem sec_W1 (E1 : 1 ≤ E) (Z0 : 0 < Z) (M1 : 1 ≤ M) : 1 ≤ cdiv (M * E) Z := by
  have : 0 < cdiv (M * E) Z := (sec_lt Z0).mpr (by rw [Int.zero_mul]; exact Int.mul_pos (by omega) (by omega))
  omega
theorem sec_WE (E1 : 1 ≤ E) (Z0 : 0 < Z) (MZ : M ≤ Z) : cdiv (M * E) Z ≤ E := cdiv_le Z0 (by
  have := Int.mul_le_mul_of_nonneg_right MZ (show 0 ≤ E by omega)
  have e : Z * E = E * Z := Int.mul_comm _ _
  omega)
theorem sec_un {x : Int} (E1 : 1 ≤ E) (Z0 : 0 < Z) (x0 : 0 ≤ x) (xM : x < M) : 0 ≤ x * E / Z ∧ x * E / Z ≤ cdiv ((x + 1) * E) Z - 1 ∧ cdiv ((x + 1) * E) Z - 1 ≤ cdiv (M * E) Z - 1 := by
  refine ⟨Int.ediv_nonneg (Int.mul_nonneg x0 (by omega)) (by omega), ?_, ?_⟩
  · have : x * E / Z + 1 ≤ cdiv ((x + 1) * E) Z := cdiv_ge Z0 (by
      have h1 := Int.ediv_mul_le (x * E) (show Z ≠ 0 by omega)
      have e : (x + 1) * E = x * E + E := by grind
      have e2 : (x * E / Z + 1 - 1) * Z = x * E / Z * Z := by grind
      omega)
    omega
  · have := cdiv_mono (a := (x + 1) * E) (c := M * E) Z0 (Int.mul_le_mul_of_nonneg_right (by omega) (by omega))
    omega
end
theorem wd_cop {a b t : Int} (cop : Int.gcd a b = 1) : Int.gcd (wd a b t) (wd a b (t + 1)) = 1 := by
  rw [wd_succ]
  have h1 : Int.gcd (wd a b t) (wd a b t + b) = Int.gcd (wd a b t) b := by rw [Int.add_comm]; simp
  rw [h1]
  unfold wd
  rw [gcd_turn]
  exact cop
end Sh
end
section
namespace Sh
open PySem L2 Wm
noncomputable def b_between : Wm.BSem :=
  (sRet (eN dMax3 (aCons (eC (.int 0)) (aCons (e2 dSub (e2 dIx (eVar 0) (eC (.int 0))) (e2 dIx (eVar 1) (eC (.int 1)))) (aCons (e2 dSub (e2 dIx (eVar 1) (eC (.int 0))) (e2 dIx (eVar 0) (eC (.int 1)))) aNil)))))
noncomputable def F_between : FS := fnS 2 b_between
noncomputable def b_lows_of : Wm.BSem :=
  (sSeq (sAsg (gT [(gN 2), (gN 3)]) (eVar 1))
  (sSeq (sIf (asB (e2 dEq (eVar 3) (eC (.str "out"))))
  (sRet (eTup (aCons (e2 dSub (eVar 2) (e1 (dFld 1 3) (eVar 0))) (aCons (e2 dSub (eVar 2) (e1 (dFld 1 3) (eVar 0))) aNil))))
  sPass)
  (sRet (eMeth 1 F_Gap_under (eVar 0) (aCons (e2 dSub (eVar 2) (e1 (dFld 1 4) (eVar 0))) aNil)))))
noncomputable def F_lows_of : FS := fnS 4 b_lows_of
noncomputable def b_apart : Wm.BSem :=
  (sSeq (sDrop (eCall F_check_roll (aCons (eVar 1) (aCons (eLst (aCons (eVar 2) (aCons (eVar 3) aNil))) aNil))))
  (sSeq (sIf (asB (e2 dEq (eVar 2) (eVar 3)))
  (sRet (eC (.int 0)))
  sPass)
  (sSeq (sSet 4 (eMake 1 F_Gap_init (aCons (eVar 0) (aCons (eVar 1) (aCons (eVar 2) aNil)))))
  (sSeq (sSet 5 (eMake 1 F_Gap_init (aCons (eVar 0) (aCons (eVar 1) (aCons (eVar 3) aNil)))))
  (sSeq (sIf (tOrS (asB (e2 dNe (e1 (dFld 1 0) (eVar 4)) (e1 (dFld 1 0) (eVar 5)))) (tOrS (asB (e2 dNe (e1 (dFld 1 6) (eVar 4)) (e1 (dFld 1 6) (eVar 5)))) (asB (e2 dNe (eCall F_piece_places (aCons (eVar 4) (aCons (eVar 2) aNil))) (eCall F_piece_places (aCons (eVar 4) (aCons (eVar 3) aNil)))))))
  (sRet (eC .non))
  sPass)
  (sRet (e2 dAdd (e2 dAdd (e2 dMul (eC (.int 2)) (eCall F_between (aCons (eCall F_lows_of (aCons (eVar 4) (aCons (eVar 2) aNil))) (aCons (eCall F_lows_of (aCons (eVar 4) (aCons (eVar 3) aNil))) aNil)))) (eN dInt (aCons (e2 dEq (e2 dIx (eVar 2) (eC (.int 1))) (eC (.str "in"))) aNil))) (eN dInt (aCons (e2 dEq (e2 dIx (eVar 3) (eC (.int 1))) (eC (.str "in"))) aNil)))))))))
noncomputable def F_apart : FS := fnS 6 b_apart
noncomputable def b_joining : Wm.BSem :=
  (sRet (e2 dDiv (e2 dMul (e2 dAdd (eVar 1) (eC (.int 1))) (e1 (dFld 1 2) (eVar 0))) (e1 (dFld 1 1) (eVar 0))))
noncomputable def F_joining : FS := fnS 2 b_joining
noncomputable def b_along : Wm.BSem :=
  (sSeq (sAsg (gT [(gN 4), (gN 5)]) (eN dDivmod (aCons (eVar 3) (aCons (eC (.int 2)) aNil))))
  (sSeq (sIf (asB (e2 dGt (eVar 2) (eVar 1)))
  (sSeq (sIf (asB (e2 dEq (eVar 5) (eC (.int 1))))
  (sRet (eTup (aCons (e2 dAdd (e1 (dFld 1 4) (eVar 0)) (eCall F_joining (aCons (eVar 0) (aCons (e2 dAdd (eVar 1) (eVar 4)) aNil)))) (aCons (eC (.str "in")) aNil))))
  sPass)
  (sRet (eTup (aCons (e2 dAdd (e2 dAdd (e1 (dFld 1 3) (eVar 0)) (eVar 1)) (eVar 4)) (aCons (eC (.str "out")) aNil)))))
  sPass)
  (sSeq (sIf (asB (e2 dEq (eVar 5) (eC (.int 1))))
  (sRet (eTup (aCons (e2 dAdd (e1 (dFld 1 4) (eVar 0)) (eCall F_joining (aCons (eVar 0) (aCons (e2 dSub (e2 dSub (eVar 1) (eVar 4)) (eC (.int 1))) aNil)))) (aCons (eC (.str "in")) aNil))))
  sPass)
  (sRet (eTup (aCons (e2 dSub (e2 dAdd (e1 (dFld 1 3) (eVar 0)) (eVar 1)) (eVar 4)) (aCons (eC (.str "out")) aNil)))))))
noncomputable def F_along : FS := fnS 6 b_along
noncomputable def b_on_way : Wm.BSem :=
  (sSeq (sSet 5 (eCall F_apart (aCons (eVar 0) (aCons (eVar 1) (aCons (eVar 2) (aCons (eVar 3) aNil))))))
  (sSeq (sIf (asB (e2 dIs (eVar 5) (eC .non)))
  (sRet (eC .non))
  sPass)
  (sSeq (sIf (tOrS (tNotS (tTruth (eCall F_is_whole (aCons (eVar 4) aNil)))) (tNotS (asB (eChain dLe dLe (eC (.int 0)) (eVar 4) (eVar 5)))))
  sBad
  sPass)
  (sSeq (sIf (tOrS (asB (e2 dEq (eVar 4) (eC (.int 0)))) (asB (e2 dEq (eVar 4) (eVar 5))))
  (sRet (eIf (asB (e2 dEq (eVar 4) (eC (.int 0)))) (eVar 2) (eVar 3)))
  sPass)
  (sSeq (sSet 6 (eMake 1 F_Gap_init (aCons (eVar 0) (aCons (eVar 1) (aCons (eVar 2) aNil)))))
  (sSeq (sSet 7 (eCall F_lows_of (aCons (eVar 6) (aCons (eVar 2) aNil))))
  (sSeq (sSet 8 (eCall F_lows_of (aCons (eVar 6) (aCons (eVar 3) aNil))))
  (sSeq (sPar 9 10 (e2 dIx (eVar 7) (eC (.int 1))) (e2 dIx (eVar 8) (eC (.int 0))))
  (sSeq (sIf (asB (e2 dLt (e2 dIx (eVar 8) (eC (.int 1))) (e2 dIx (eVar 7) (eC (.int 0)))))
  (sPar 9 10 (e2 dIx (eVar 7) (eC (.int 0))) (e2 dIx (eVar 8) (eC (.int 1))))
  (sIf (asB (e2 dLe (e2 dIx (eVar 8) (eC (.int 0))) (e2 dIx (eVar 7) (eC (.int 1)))))
  (sSet2 9 10 (eN dMax (aCons (e2 dIx (eVar 7) (eC (.int 0))) (aCons (e2 dIx (eVar 8) (eC (.int 0))) aNil))))
  sPass))
  (sRet (eCall F_along (aCons (eVar 6) (aCons (eVar 9) (aCons (eVar 10) (aCons (e2 dSub (eVar 4) (eN dInt (aCons (e2 dEq (e2 dIx (eVar 2) (eC (.int 1))) (eC (.str "in"))) aNil))) aNil)))))))))))))))
noncomputable def F_on_way : FS := fnS 11 b_on_way
end Sh
open PySem L2 Wm
local macro_rules | `(tactic| simp_arith [$ls,*]) => `(tactic| simp (disch := walk_at "okk") only [fnS, envOf, sSeq, sIf, sSet, sAsg, sDrop, sRet, sRetN, sPass, sBrk, sCnt, sPar, sPar3, sSub, sFldS, eLM, dApp, isL, eCallK, eMethK, eChain3, dMax3, dMin3, eLc, eLstR1, eLstR2, compS, tYesS, wipeE, asB, tAndS, tOrS, tNotS, tTruth, eIf, eAnd, eOr, eNot, eChain, eTup, eLst, eSlice, oNo, oSome, eBits, e2, e1, eN, eCall, eMeth, eMake, isIns, aCons, aNil, eVar, eC, R.bind, R.bindO, O.seq, dB, dTruth, dAdd, dSub, dLt, dLe, dGt, dGe, dIs, dIsNot, D.isN, dLen, dMax, dMin, dInt, dIx, items, dFld, dSetF, dSetIx, dIsi, D.ty, Ty.is, gN, gT, gAll, Option.bind, Option.map, new,
  List.map_cons, List.map_nil, List.length_cons, List.length_nil, List.replicate, List.getElem?_cons_zero, List.getElem?_cons_succ, List.cons_append, List.nil_append, List.set_cons_zero, List.set_cons_succ, Nat.reduceAdd, Nat.reduceSub, decide_true, decide_false, if_true, if_false, dMul_ok, dDiv_ok, dMod_ok, dPow_ok, dShl_ok, beq_self_eq_true, Int.reduceEq, Int.reduceLT, Int.reduceLE, Bool.not_true, Bool.not_false, reduceIte, reduceCtorEq, Bool.false_eq_true, $ls,*])
local macro_rules | `(tactic| walk_at "bd") => `(tactic| (focus ((repeat' (first | assumption | exact bd_litE (by decide) | (with_reducible apply bd_mulE) | (with_reducible apply bd_addE) | (with_reducible apply bd_subE) | (with_reducible apply bd_div) | (with_reducible apply bd_neg))); done)))
local macro_rules | `(tactic| walk_at "bnd") => `(tactic| (apply bd_mono; walk_at "bd"; decide))
local macro_rules | `(tactic| walk_at "okk") => `(tactic| first | assumption | (apply mulOk_of; walk_at "bd"; walk_at "bd"; decide) | (apply divOk_of; (focus (first | assumption | omega)); walk_at "bnd") | decide | omega)
end
open PySem L2 Wm
local macro_rules | `(tactic| simp_arith [$ls,*]) => `(tactic| simp (disch := walk_at "okk") only [fnS, envOf, sSeq, sIf, sSet, sAsg, sDrop, sRet, sRetN, sPass, sBrk, sCnt, sPar, sPar3, sSub, sFldS, eLM, dApp, isL, eCallK, eMethK, eChain3, dMax3, dMin3, eLc, eLstR1, eLstR2, compS, tYesS, wipeE, asB, tAndS, tOrS, tNotS, tTruth, eIf, eAnd, eOr, eNot, eChain, eTup, eLst, eSlice, oNo, oSome, eBits, e2, e1, eN, eCall, eMeth, eMake, isIns, aCons, aNil, eVar, eC, R.bind, R.bindO, O.seq, dB, dTruth, dAdd, dSub, dLt, dLe, dGt, dGe, dIs, dIsNot, D.isN, dLen, dMax, dMin, dInt, dIx, items, dFld, dSetF, dSetIx, dIsi, D.ty, Ty.is, gN, gT, gAll, Option.bind, Option.map, new,
  List.map_cons, List.map_nil, List.length_cons, List.length_nil, List.replicate, List.getElem?_cons_zero, List.getElem?_cons_succ, List.cons_append, List.nil_append, List.set_cons_zero, List.set_cons_succ, Nat.reduceAdd, Nat.reduceSub, decide_true, decide_false, if_true, if_false, dMul_ok, dDiv_ok, dMod_ok, dPow_ok, dShl_ok, beq_self_eq_true, Int.reduceEq, Int.reduceLT, Int.reduceLE, Bool.not_true, Bool.not_false, reduceIte, reduceCtorEq, Bool.false_eq_true, $ls,*])
local macro_rules | `(tactic| walk_at "bd") => `(tactic| (focus ((repeat' (first | assumption | exact bd_litE (by decide) | (with_reducible apply bd_mulE) | (with_reducible apply bd_addE) | (with_reducible apply bd_subE) | (with_reducible apply bd_div) | (with_reducible apply bd_neg))); done)))
local macro_rules | `(tactic| walk_at "bnd") => `(tactic| (apply bd_mono; walk_at "bd"; decide))
local macro_rules | `(tactic| walk_at "okk") => `(tactic| first | assumption | (apply mulOk_of; walk_at "bd"; walk_at "bd"; decide) | (apply divOk_of; (focus (first | assumption | omega)); walk_at "bnd") | decide | omega)
section
open PySem L2 Wm
namespace Sh
open PySem L2 Wm
theorem at32 {x y z : D} : atI [x, y, z] 2 = some z := rfl
structure Sc (h : Hm) (n : Nat) (g a b v y l T k : Int) : Prop where
  d : Dq h n g a b
  R : Rl g a b v y l
  k0 : 0 ≤ k
  k1 : k < g
  T0 : 0 ≤ T
  bT : bd 80 T
  M1 : 0 < lenM a b v y T k
section
variable {h : Hm} {n : Nat} {g a b v y l T k w : Int}
theorem Sc.keep {h' : Hm} (s : Sc h n g a b v y l T k) (e : h'[n]? = h[n]?) : Sc h' n g a b v y l T k := { s with d := s.d.keep e }
theorem low_lt (s : Sc h n g a b v y l T k) {k' : Int} (k0 : 0 ≤ k') (k1 : k' < g) (w0 : 0 ≤ w) (w1 : w < wd a b T) : cel g a b T k' w < l := by
  have hi := (turn_cel (t := T) s.d.g1 s.d.a1 s.d.b0 s.T0 k0 k1 w0 w1).hi
  have hl := s.R.hl
  have y1 := s.R.y1
  have v1 : T + 1 ≤ v := by
    have := s.M1
    unfold lenM at this
    by_cases c : T + 1 < v
    · omega
    · rw [if_neg c] at this
      by_cases c2 : T + 1 = v
      · omega
      · rw [if_neg c2] at this; omega
  have := beg_mono s.d.dr.f1 s.d.dr.s0 (show 0 ≤ T + 1 by have := s.T0; omega) v1
  omega
theorem up_lt (s : Sc h n g a b v y l T k) (w0 : 0 ≤ w) (w1 : w < lenM a b v y T k) : cel g a b (T + 1) k w < l := by
  have hl := s.R.hl
  have Z1 := wd_pos s.d.a1 s.d.b0 (show 0 ≤ T + 1 by have := s.T0; omega)
  have ML := lenM_le (v := v) (y := y) (k := k) s.d.a1 s.d.b0 s.T0
  by_cases c : T + 1 < v
  · have hi := (turn_cel (t := T + 1) s.d.g1 s.d.a1 s.d.b0 (by have := s.T0; omega) s.k0 s.k1 w0 (by omega)).hi
    have l1 := beg_mono s.d.dr.f1 s.d.dr.s0 (show 0 ≤ T + 1 + 1 by have := s.T0; omega) (show T + 1 + 1 ≤ v by omega)
    have := s.R.y1
    omega
  · unfold lenM at w1
    rw [if_neg c] at w1
    by_cases c2 : T + 1 = v
    · rw [if_pos c2] at w1
      rw [← c2] at hl
      unfold cel
      split at w1 <;> omega
    · rw [if_neg c2] at w1; omega
theorem cel_le {t w' : Int} (h : w ≤ w') : cel g a b t k w ≤ cel g a b t k w' := by unfold cel; omega
end
def sdS (s : Bool) : Str := if s then "in" else "out"
theorem ok_in : PyData.strOk "in" = true := by decide +kernel
theorem ok_out : PyData.strOk "out" = true := by decide +kernel
theorem sh_face {c : Int} {s : Bool} : SeqAt.shaped (.tuple [.int c, .str (sdS s)]) = true := by
  cases s <;> simp [SeqAt.shaped, PyData.canLay0, PyData.canLayAll0, PyData.depth, PyData.depthAll, sdS, ok_in, ok_out]
theorem eq_sd {s u : Bool} : PyData.eqv (.str (sdS s)) (.str (sdS u)) = (s == u) := by
  cases s <;> cases u <;> decide +kernel
theorem eqv_face {c d : Int} {s u : Bool} : PyData.eqv (.tuple [.int c, .str (sdS s)]) (.tuple [.int d, .str (sdS u)]) = (decide (c = d) && (s == u)) := by
  have h2 : PyData.eqv (.tuple [.int c, .str (sdS s)]) (.tuple [.int d, .str (sdS u)]) = (PyData.eqv (.int c) (.int d) && PyData.eqv (.str (sdS s)) (.str (sdS u))) := by
    rw [Bool.eq_iff_iff]
    simp [PyData.eqv, PyData.eqvAll]
  rw [h2, eq_sd, Bool.eq_iff_iff]
  simp [PyData.eqv]
theorem dEq_face {h : Hm} {c d : Int} {s u : Bool} : dEq (.tup [.int c, .str (sdS s)]) (.tup [.int d, .str (sdS u)]) h = .ok (.bl (decide (c = d) && (s == u))) h := by
  unfold dEq
  have p1 : ∀ (c : Int) (s : Bool), pyO h (.tup [.int c, .str (sdS s)]) = some (.tuple [.int c, .str (sdS s)]) := fun _ _ => rfl
  rw [p1, p1]
  simp only
  rw [if_pos ⟨sh_face, sh_face⟩, eqv_face]
theorem dEq_sd_in {h : Hm} {s : Bool} : dEq (.str (sdS s)) (.str "in") h = .ok (.bl s) h := by
  cases s
  · exact dEq_out_in
  · exact dEq_in_in
theorem dEq_sd_out {h : Hm} {s : Bool} : dEq (.str (sdS s)) (.str "out") h = .ok (.bl (!s)) h := by
  cases s
  · exact dEq_out_out
  · exact dEq_in_out
def fcC (g a b T k : Int) (s : Bool) (w : Int) : Int := if s then cel g a b (T + 1) k w else cel g a b T k w
def fcD (g a b T k : Int) (s : Bool) (w : Int) : D := .tup [.int (fcC g a b T k s w), .str (sdS s)]
def lwA (E Z : Int) (s : Bool) (w : Int) : Int := if s then w * E / Z else w
def lwB (E Z : Int) (s : Bool) (w : Int) : Int := if s then cdiv ((w + 1) * E) Z - 1 else w
def mx3 (b c : Int) : Int := if b > 0 then (if c > b then c else b) else (if c > 0 then c else 0)
def dst (E Z : Int) (s : Bool) (w : Int) (s' : Bool) (w' : Int) : Int :=
  if s = s' ∧ w = w' then 0 else 2 * mx3 (lwA E Z s w - lwB E Z s' w') (lwA E Z s' w' - lwB E Z s w) + (if s then 1 else 0) + (if s' then 1 else 0)
def InP (E Z M : Int) (s : Bool) (w : Int) : Prop := 0 ≤ w ∧ (if s then w < M else w < cdiv (M * E) Z)
end Sh
end
section
open PySem L2 Wm
namespace Sh
open PySem L2 Wm
theorem mx3_nn {x z : Int} : 0 ≤ mx3 x z := by unfold mx3; split <;> split <;> omega
theorem bd_mx3 {x z : Int} {n : Nat} (hx : bd n x) (hz : bd n z) : bd n (mx3 x z) := by
  unfold mx3
  split
  · split
    · exact hz
    · exact hx
  · split
    · exact hz
    · unfold bd; exact Nat.pos_of_ne_zero (by simp)
theorem dNe_pp {h : Hm} {a b c d : Int} : dNe (.tup [.tup [.int a, .int b], .tup [.int c, .int d]]) (.tup [.tup [.int a, .int b], .tup [.int c, .int d]]) h = .ok (.bl false) h := by
  obtain ⟨P, hP⟩ : ∃ P : PyData, P = .tuple [.tuple [.int a, .int b], .tuple [.int c, .int d]] := ⟨_, rfl⟩
  have e : PyData.eqv P P = true := by rw [hP]; simp [PyData.eqv, PyData.eqvAll]
  have s : SeqAt.shaped P = true := by rw [hP]; rfl
  have p1 : pyO h (.tup [.tup [.int a, .int b], .tup [.int c, .int d]]) = some P := by rw [hP]; rfl
  unfold dNe
  rw [p1]
  simp only [e, s]
  rfl
section
variable {h : Hm} {n : Nat} {g a b v y l T k w : Int}
theorem E_pos (s : Sc h n g a b v y l T k) : 1 ≤ wd a b T ∧ 1 ≤ wd a b (T + 1) ∧ lenM a b v y T k ≤ wd a b (T + 1) ∧ cdiv (lenM a b v y T k * wd a b T) (wd a b (T + 1)) ≤ wd a b T := by
  have E1 := wd_pos s.d.a1 s.d.b0 s.T0
  have Z1 := wd_pos s.d.a1 s.d.b0 (show 0 ≤ T + 1 by have := s.T0; omega)
  have ML := lenM_le (v := v) (y := y) (k := k) s.d.a1 s.d.b0 s.T0
  exact ⟨E1, Z1, ML, sec_WE E1 (by omega) ML⟩
theorem in_le (sc : Sc h n g a b v y l T k) {s : Bool} (i : InP (wd a b T) (wd a b (T + 1)) (lenM a b v y T k) s w) : 0 ≤ w ∧ w < (if s then wd a b (T + 1) else wd a b T) := by
  obtain ⟨E1, Z1, ML, WE⟩ := E_pos sc
  obtain ⟨i0, i1⟩ := i
  refine ⟨i0, ?_⟩
  cases s
  · simp only [Bool.false_eq_true, if_false] at i1 ⊢; omega
  · simp only [if_true] at i1 ⊢; omega
theorem fc_lt (sc : Sc h n g a b v y l T k) {s : Bool} (i : InP (wd a b T) (wd a b (T + 1)) (lenM a b v y T k) s w) : 0 ≤ fcC g a b T k s w ∧ fcC g a b T k s w < l := by
  obtain ⟨E1, Z1, ML, WE⟩ := E_pos sc
  have T0 := sc.T0
  obtain ⟨i0, i1⟩ := i
  unfold fcC
  cases s
  · simp only [Bool.false_eq_true, if_false] at i1 ⊢
    exact ⟨cel_bd0 sc.d T0 sc.k0 i0, low_lt sc sc.k0 sc.k1 i0 (by omega)⟩
  · simp only [if_true] at i1 ⊢
    exact ⟨cel_bd0 sc.d (by omega) sc.k0 i0, up_lt sc i0 i1⟩
theorem ck_fc (sc : Sc h n g a b v y l T k) {s : Bool} (i : InP (wd a b T) (wd a b (T + 1)) (lenM a b v y T k) s w) (h' : Hm) : F_check_face [.int l, fcD g a b T k s w] h' = .ok .non h' := by
  obtain ⟨c0, c1⟩ := fc_lt sc i
  unfold fcD
  cases s
  · exact face_out c0 c1
  · exact face_in c0 c1
theorem gap_fc (sc : Sc h n g a b v y l T k) {s : Bool} (i : InP (wd a b T) (wd a b (T + 1)) (lenM a b v y T k) s w) : F_Gap_init [.obj (List.length h), .obj n, .int l, fcD g a b T k s w] (h ++ [.ins 1 []]) = .ok .non (h ++ [.ins 1 (gapF g a b v y T k)]) := by
  obtain ⟨E1, Z1, ML, WE⟩ := E_pos sc
  have T0 := sc.T0
  have bT := sc.bT
  have i2 := in_le sc i
  unfold fcD fcC
  cases s
  · exact gap_init sc.d sc.R T0 (bd_mono bT (by decide)) sc.k0 sc.k1 i2.1 i2.2 "out" (Or.inl ⟨rfl, rfl⟩)
  · exact gap_init sc.d sc.R (by omega) (by walk_at "bnd") sc.k0 sc.k1 i2.1 i2.2 "in" (Or.inr ⟨rfl, by omega⟩)
theorem places_fc (sc : Sc h n g a b v y l T k) {s : Bool} (i : InP (wd a b T) (wd a b (T + 1)) (lenM a b v y T k) s w) {j : Nat} (hm : h[j]? = some (.ins 1 (gapF g a b v y T k))) :
    F_piece_places [.obj j, fcD g a b T k s w] h = .ok (.tup [.tup [.int (k * wd a b T), .int (k * wd a b T + (cdiv (lenM a b v y T k * wd a b T) (wd a b (T + 1)) - 1))], .tup [.int (k * wd a b (T + 1)), .int (k * wd a b (T + 1) + lenM a b v y T k - 1)]]) h := by
  have bT := sc.bT
  obtain ⟨i0, i1⟩ := i
  unfold fcD fcC
  cases s
  · simp only [Bool.false_eq_true, if_false] at i1 ⊢
    have e := places_out sc.d sc.R sc.k0 sc.k1 sc.T0 (bd_mono bT (by decide)) i0 hm
    rw [if_neg (by omega)] at e
    exact e
  · exact places_in sc.d sc.R sc.k0 sc.k1 sc.T0 (bd_mono bT (by decide)) hm sc.M1
theorem under_ok (sc : Sc h n g a b v y l T k) {j : Nat} {x : Int} (hm : h[j]? = some (.ins 1 (gapF g a b v y T k))) (x0 : 0 ≤ x) (x1 : x < wd a b (T + 1)) :
    F_Gap_under [.obj j, .int (k * wd a b (T + 1) + x)] h = .ok (.tup [.int (k * wd a b T + x * wd a b T / wd a b (T + 1)), .int (k * wd a b T + (cdiv ((x + 1) * wd a b T) (wd a b (T + 1)) - 1))]) h := by
  obtain ⟨E1, Z1, _, _⟩ := E_pos sc
  have g1 := sc.d.g1
  have bg := sc.d.bg
  have bT := sc.bT
  have k0 := sc.k0
  have T0 := sc.T0
  have bk : bd 64 k := bd_le bg k0 (by have := sc.k1; omega)
  have bZ := bd_wd (t := T + 1) sc.d.ba sc.d.bb (by walk_at "bnd")
  have bE := bd_wd (t := T) sc.d.ba sc.d.bb (bd_mono bT (by decide))
  have e0 : (if T > 0 then T else 0) = T := by split <;> omega
  unfold gapF at hm
  rw [e0] at hm
  obtain ⟨Z, hZ⟩ : ∃ Z, Z = wd a b (T + 1) := ⟨_, rfl⟩
  obtain ⟨E, hE⟩ : ∃ E, E = wd a b T := ⟨_, rfl⟩
  rw [← hZ] at hm Z1 bZ x1 ⊢
  rw [← hE] at hm E1 bE ⊢
  have bx : bd 170 x := bd_le bZ x0 (by omega)
  have gZ : 0 < g * Z := Int.mul_pos (by omega) (by omega)
  have dgZ : divOk (g * Z) := divOk_of gZ (by walk_at "bnd")
  have e1 : (k * Z + x) * (g * E) / (g * Z) = k * E + x * E / Z := by
    have c : (k * Z + x) * (g * E) = g * (x * E + k * E * Z) := by grind
    rw [c, Int.mul_ediv_mul_of_pos _ _ (by omega), Int.add_mul_ediv_right _ _ (by omega), Int.add_comm]
  have e2 : ((k * Z + x + 1) * (g * E) - 1) / (g * Z) = k * E + (cdiv ((x + 1) * E) Z - 1) := by
    have c : (k * Z + x + 1) * (g * E) = g * (k * Z * E + (x + 1) * E) := by grind
    rw [c, fl_cd g1 (by omega), cd_shift (by omega)]
    omega
  unfold F_Gap_under b_Gap_under
  simp_arith [hm, dDiv, dgZ, e1, e2, sz2]
theorem lows_ok (sc : Sc h n g a b v y l T k) {s : Bool} (i : InP (wd a b T) (wd a b (T + 1)) (lenM a b v y T k) s w) {j : Nat} (hm : h[j]? = some (.ins 1 (gapF g a b v y T k))) :
    F_lows_of [.obj j, fcD g a b T k s w] h = .ok (.tup [.int (k * wd a b T + lwA (wd a b T) (wd a b (T + 1)) s w), .int (k * wd a b T + lwB (wd a b T) (wd a b (T + 1)) s w)]) h := by
  have i2 := in_le sc i
  have T0 := sc.T0
  have e0 : (if T > 0 then T else 0) = T := by split <;> omega
  unfold fcD fcC lwA lwB
  cases s
  · have c : cel g a b T k w - beg (g * a) (g * b) T = k * wd a b T + w := by unfold cel; omega
    unfold gapF at hm
    rw [e0] at hm
    unfold F_lows_of b_lows_of
    simp_arith [hm, dEq_sd_out, sdS, dEq_out_out, c, sz2]
  · have eu := under_ok (x := w) sc hm i2.1 i2.2
    have c : cel g a b (T + 1) k w - beg (g * a) (g * b) (T + 1) = k * wd a b (T + 1) + w := by unfold cel; omega
    unfold gapF at hm
    unfold F_lows_of b_lows_of
    simp_arith [hm, sdS, dEq_in_out, c, eu, gc_t2]
theorem lw_bd (sc : Sc h n g a b v y l T k) {s : Bool} (i : InP (wd a b T) (wd a b (T + 1)) (lenM a b v y T k) s w) : 0 ≤ lwA (wd a b T) (wd a b (T + 1)) s w ∧ lwA (wd a b T) (wd a b (T + 1)) s w ≤ lwB (wd a b T) (wd a b (T + 1)) s w ∧ lwB (wd a b T) (wd a b (T + 1)) s w < cdiv (lenM a b v y T k * wd a b T) (wd a b (T + 1)) := by
  obtain ⟨E1, Z1, ML, WE⟩ := E_pos sc
  obtain ⟨i0, i1⟩ := i
  unfold lwA lwB
  cases s
  · simp only [Bool.false_eq_true, if_false] at i1 ⊢; omega
  · simp only [if_true] at i1 ⊢
    have := sec_un (E := wd a b T) (Z := wd a b (T + 1)) (M := lenM a b v y T k) (x := w) E1 (by omega) i0 i1
    omega
theorem fc_inj (sc : Sc h n g a b v y l T k) {s s' : Bool} {w' : Int} : (decide (fcC g a b T k s w = fcC g a b T k s' w') && (s == s')) = decide (s = s' ∧ w = w') := by
  rw [Bool.eq_iff_iff]
  simp only [Bool.and_eq_true, decide_eq_true_eq, beq_iff_eq]
  constructor
  · rintro ⟨e, rfl⟩
    refine ⟨rfl, ?_⟩
    unfold fcC cel at e
    split at e <;> omega
  · rintro ⟨rfl, rfl⟩
    exact ⟨rfl, rfl⟩
theorem apart_ok (sc : Sc h n g a b v y l T k) {s s' : Bool} {w' : Int} (i : InP (wd a b T) (wd a b (T + 1)) (lenM a b v y T k) s w) (i' : InP (wd a b T) (wd a b (T + 1)) (lenM a b v y T k) s' w') :
    gcR h (F_apart [.obj n, .int l, fcD g a b T k s w, fcD g a b T k s' w'] h) = .ok (.int (dst (wd a b T) (wd a b (T + 1)) s w s' w')) h := by
  have el := fun (h : Hm) => length_ok (h := h) (sc.R.l1 sc.d)
  have er : ∀ (H : Hm) (j : Nat), H[j]? = some (.lst [fcD g a b T k s w, fcD g a b T k s' w']) → F_check_roll [.int l, .obj j] H = .ok .non H := by
    intro H j hj
    have c1 := ck_fc sc i H
    have c2 := ck_fc sc i' H
    unfold F_check_roll b_check_roll
    simp_arith [el, gc_non, sFor, wSeq, hj, forS, c1, c2]
  have ee : ∀ H : Hm, dEq (fcD g a b T k s w) (fcD g a b T k s' w') H = .ok (.bl (decide (s = s' ∧ w = w'))) H := fun H => by
    have := fc_inj sc (s := s) (s' := s') (w := w) (w' := w')
    unfold fcD
    rw [dEq_face, this]
  by_cases q : s = s' ∧ w = w'
  · obtain ⟨rfl, rfl⟩ := q
    have e : F_apart [.obj n, .int l, fcD g a b T k s w, fcD g a b T k s w] h = .ok (.int 0) (h ++ [.lst [fcD g a b T k s w, fcD g a b T k s w]]) := by
      unfold F_apart b_apart
      simp_arith [sz2, er _ _ hnew, gc_non, ee, and_self]
    rw [e, gc_keep rfl]
    unfold dst
    rw [if_pos ⟨rfl, rfl⟩]
  · obtain ⟨h1, hh1⟩ : ∃ h1, h1 = h ++ [Ob.lst [fcD g a b T k s w, fcD g a b T k s' w']] := ⟨_, rfl⟩
    obtain ⟨h2, hh2⟩ : ∃ h2, h2 = h1 ++ [Ob.ins 1 (gapF g a b v y T k)] := ⟨_, rfl⟩
    obtain ⟨h3, hh3⟩ : ∃ h3, h3 = h2 ++ [Ob.ins 1 (gapF g a b v y T k)] := ⟨_, rfl⟩
    have nl := hlt sc.d.dr.at_
    have sc1 : Sc h1 n g a b v y l T k := sc.keep (by rw [hh1]; exact happ nl)
    have sc2 : Sc h2 n g a b v y l T k := sc1.keep (by rw [hh2]; exact happ (hlt sc1.d.dr.at_))
    have sc3 : Sc h3 n g a b v y l T k := sc2.keep (by rw [hh3]; exact happ (hlt sc2.d.dr.at_))
    have g1 := gap_fc sc1 i
    have g2 := gap_fc sc2 i'
    rw [← hh2] at g1
    rw [← hh3] at g2
    have g1' : gcR (h1 ++ [.ins 1 []]) (F_Gap_init [.obj (List.length h1), .obj n, .int l, fcD g a b T k s w] (h1 ++ [.ins 1 []])) = .ok .non h2 := by rw [g1, gc_len (by rw [hh2]; simp)]
    have g2' : gcR (h2 ++ [.ins 1 []]) (F_Gap_init [.obj (List.length h2), .obj n, .int l, fcD g a b T k s' w'] (h2 ++ [.ins 1 []])) = .ok .non h3 := by rw [g2, gc_len (by rw [hh3]; simp)]
    have a1 : h3[List.length h1]? = some (.ins 1 (gapF g a b v y T k)) := by rw [hh3, happ (by rw [hh2]; simp), hh2]; exact hnew
    have a2 : h3[List.length h2]? = some (.ins 1 (gapF g a b v y T k)) := by rw [hh3]; exact hnew
    have p1 := places_fc sc3 i a1
    have p2 := places_fc sc3 i' a1
    have l1 := lows_ok sc3 i a1
    have l2 := lows_ok sc3 i' a1
    have b1 := lw_bd sc i
    have b2 := lw_bd sc i'
    obtain ⟨E1, Z1, ML, WE⟩ := E_pos sc
    have bE := bd_wd (t := T) sc.d.ba sc.d.bb (bd_mono sc.bT (by decide))
    obtain ⟨K, hK⟩ : ∃ K, K = k * wd a b T := ⟨_, rfl⟩
    obtain ⟨A1, hA1⟩ : ∃ A1, A1 = lwA (wd a b T) (wd a b (T + 1)) s w := ⟨_, rfl⟩
    obtain ⟨B1, hB1⟩ : ∃ B1, B1 = lwB (wd a b T) (wd a b (T + 1)) s w := ⟨_, rfl⟩
    obtain ⟨A2, hA2⟩ : ∃ A2, A2 = lwA (wd a b T) (wd a b (T + 1)) s' w' := ⟨_, rfl⟩
    obtain ⟨B2, hB2⟩ : ∃ B2, B2 = lwB (wd a b T) (wd a b (T + 1)) s' w' := ⟨_, rfl⟩
    rw [← hK, ← hA1, ← hB1] at l1
    rw [← hK, ← hA2, ← hB2] at l2
    rw [← hA1, ← hB1] at b1
    rw [← hA2, ← hB2] at b2
    have x1 : K + A1 - (K + B2) = A1 - B2 := by omega
    have x2 : K + A2 - (K + B1) = A2 - B1 := by omega
    have bt : F_between [.tup [.int (K + A1), .int (K + B1)], .tup [.int (K + A2), .int (K + B2)]] h3 = .ok (.int (mx3 (A1 - B2) (A2 - B1))) h3 := by
      unfold F_between b_between
      simp_arith [atI1, atI2, x1, x2]
      rfl
    have bx : bd 171 (mx3 (A1 - B2) (A2 - B1)) := bd_mx3 (by unfold bd at *; omega) (by unfold bd at *; omega)
    have gf0 : ∀ j, h3[j]? = some (.ins 1 (gapF g a b v y T k)) → dFld 1 0 (.obj j) h3 = .ok (.int T) h3 := fun j hj => by unfold dFld; simp only [hj]; rfl
    have gf6 : ∀ j, h3[j]? = some (.ins 1 (gapF g a b v y T k)) → dFld 1 6 (.obj j) h3 = .ok (.int k) h3 := fun j hj => by unfold dFld; simp only [hj]; rfl
    have f0 := gf0 _ a1
    have f0' := gf0 _ a2
    have f6 := gf6 _ a1
    have f6' := gf6 _ a2
    have fx : ∀ (s : Bool) (w : Int) (H : Hm), dIx (fcD g a b T k s w) (.int 1) H = .ok (.str (sdS s)) H := fun s w H => rfl
    have gp : ∀ (H : Hm) (a b c d : Int), gcR H (.ok (.tup [.tup [.int a, .int b], .tup [.int c, .int d]]) H) = .ok (.tup [.tup [.int a, .int b], .tup [.int c, .int d]]) H := fun H a b c d => gc_same rfl
    have er1 := er h1 (List.length h) (by rw [hh1]; exact hnew)
    have hf : (h1 ++ [Ob.ins 1 []])[n]? = some (.ins 0 [.int (g * a), .int (g * b)]) := (happ (hlt sc1.d.dr.at_)).trans sc1.d.dr.at_
    have gd : Good (b_apart (envOf 6 [.obj n, .int l, fcD g a b T k s w, fcD g a b T k s' w']) h) (fun _ _ => False) (fun d h' => d = .int (2 * mx3 (A1 - B2) (A2 - B1) + (if s then 1 else 0) + (if s' then 1 else 0)) ∧ h' = h3) := by
      unfold b_apart
      refine wp_seq (wp_drop (d := .non) (h1 := h1) (by simp_arith [sz2, ← hh1, er1, gc_non]) ?_)
      refine wp_seq (wp_skip (h1 := h1) (by simp_arith [ee, q]) ?_)
      refine wp_seq (wp_set (d := .obj (List.length h1)) (h1 := h2) (by simp_arith [g1']) ?_)
      refine wp_seq (wp_set (d := .obj (List.length h2)) (h1 := h3) (by simp_arith [g2']) ?_)
      refine wp_seq (wp_skip (h1 := h3) ?_ ?_)
      · have a1' := a1
        have a2' := a2
        unfold gapF at a1' a2'
        simp_arith [a1', a2', dNe_int, eq_self, p1, p2, gp, dNe_pp]
      · refine wp_ret (d := .int (2 * mx3 (A1 - B2) (A2 - B1) + (if s then 1 else 0) + (if s' then 1 else 0))) (h1 := h3) ?_ ⟨rfl, rfl⟩
        have m2 : mulOk 2 (mx3 (A1 - B2) (A2 - B1)) := mulOk_of (a := 64) (bd_litE (by decide)) bx (by decide)
        have fx' : ∀ (s : Bool) (w : Int) (H : Hm), dIx (fcD g a b T k s w) (.int 1) H = .ok (.str (sdS s)) H := fx
        simp only [e2, envOf, eVar, eCall, aCons, aNil, eC, eN, List.map_cons, List.map_nil, List.length_cons, List.length_nil, List.replicate, List.getElem?_cons_zero, List.getElem?_cons_succ, List.cons_append, List.nil_append, List.set_cons_zero, List.set_cons_succ, R.bind, l1, l2, gc_t2, bt, gc_int, dMul_ok m2, fx', dEq_sd_in, dInt_bl, dAdd]
    obtain ⟨d, h', e, rfl, rfl⟩ := fn_good (n := 6) (Q := fun d h' => d = .int (2 * mx3 (A1 - B2) (A2 - B1) + (if s then 1 else 0) + (if s' then 1 else 0)) ∧ h' = h3) (Good.imp gd (fun _ _ z => z.elim) (fun _ _ z => z))
    have e' : F_apart [.obj n, .int l, fcD g a b T k s w, fcD g a b T k s' w'] h = .ok (.int (2 * mx3 (A1 - B2) (A2 - B1) + (if s then 1 else 0) + (if s' then 1 else 0))) (h ++ ([Ob.lst [fcD g a b T k s w, fcD g a b T k s' w']] ++ [Ob.ins 1 (gapF g a b v y T k)] ++ [Ob.ins 1 (gapF g a b v y T k)])) := by
      rw [← List.append_assoc, ← List.append_assoc, ← hh1, ← hh2, ← hh3]
      exact e
    rw [e', gc_keep rfl]
    unfold dst
    rw [if_neg q, ← hA1, ← hA2, ← hB1, ← hB2]
end
end Sh
end
section
open PySem L2 Wm
namespace Sh
open PySem L2 Wm
theorem dDivmod_ok {i : Int} {h : Hm} (b : bd 3000 i) : dDivmod [.int i, .int 2] h = .ok (.tup [.int (i / 2), .int (i % 2)]) h := by
  have hb := bits_le b
  unfold bitsN at hb
  obtain ⟨c1, c2⟩ := L2.divp_ok (i := i) (j := 2) (by decide) (by omega)
  have c : (0 : Int) < 2 ∧ Builtin.divisionGoesByPylong i 2 = false := And.intro c1 c2
  show (if (0 : Int) < 2 ∧ Builtin.divisionGoesByPylong i 2 = false then R.ok (D.tup [D.int (i / 2), D.int (i % 2)]) h else .bad) = _
  rw [if_pos c]
def alS (m : Int) : Bool := decide (m % 2 = 1)
def alW (E Z p q m : Int) : Int := if q > p then (if m % 2 = 1 then (p + m / 2 + 1) * Z / E else p + m / 2) else (if m % 2 = 1 then (p - m / 2) * Z / E else p - m / 2)
def wyP (a1 b1 a2 b2 : Int) : Int := if b2 < a1 then a1 else if a2 ≤ b1 then (if a2 > a1 then a2 else a1) else b1
def wyQ (a1 b1 a2 b2 : Int) : Int := if b2 < a1 then b2 else if a2 ≤ b1 then (if a2 > a1 then a2 else a1) else a2
section
variable {h : Hm} {n : Nat} {g a b v y l T k w : Int}
theorem joining_ok (sc : Sc h n g a b v y l T k) {j : Nat} {x : Int} (hm : h[j]? = some (.ins 1 (gapF g a b v y T k))) (bx : bd 200 x) :
    F_joining [.obj j, .int (k * wd a b T + x)] h = .ok (.int (k * wd a b (T + 1) + (x + 1) * wd a b (T + 1) / wd a b T)) h := by
  obtain ⟨E1, Z1, _, _⟩ := E_pos sc
  have g1 := sc.d.g1
  have bg := sc.d.bg
  have bT := sc.bT
  have k0 := sc.k0
  have T0 := sc.T0
  have bk : bd 64 k := bd_le bg k0 (by have := sc.k1; omega)
  have bZ := bd_wd (t := T + 1) sc.d.ba sc.d.bb (by walk_at "bnd")
  have bE := bd_wd (t := T) sc.d.ba sc.d.bb (bd_mono bT (by decide))
  have e0 : (if T > 0 then T else 0) = T := by split <;> omega
  unfold gapF at hm
  rw [e0] at hm
  obtain ⟨Z, hZ⟩ : ∃ Z, Z = wd a b (T + 1) := ⟨_, rfl⟩
  obtain ⟨E, hE⟩ : ∃ E, E = wd a b T := ⟨_, rfl⟩
  rw [← hZ] at hm Z1 bZ ⊢
  rw [← hE] at hm E1 bE ⊢
  have gE : 0 < g * E := Int.mul_pos (by omega) (by omega)
  have dgE : divOk (g * E) := divOk_of gE (by walk_at "bnd")
  have e1 : (k * E + x + 1) * (g * Z) / (g * E) = k * Z + (x + 1) * Z / E := by
    have c : (k * E + x + 1) * (g * Z) = g * ((x + 1) * Z + k * Z * E) := by grind
    rw [c, Int.mul_ediv_mul_of_pos _ _ (by omega), Int.add_mul_ediv_right _ _ (by omega), Int.add_comm]
  unfold F_joining b_joining
  simp_arith [hm, dDiv, dgE, e1]
theorem along_ok (sc : Sc h n g a b v y l T k) {j : Nat} {p q m : Int} (hm : h[j]? = some (.ins 1 (gapF g a b v y T k))) (bp : bd 190 p) (bm : bd 180 m) :
    F_along [.obj j, .int (k * wd a b T + p), .int (k * wd a b T + q), .int m] h = .ok (fcD g a b T k (alS m) (alW (wd a b T) (wd a b (T + 1)) p q m)) h := by
  have T0 := sc.T0
  have ed := dDivmod_ok (h := h) (i := m) (bd_mono bm (by decide))
  have b2 : bd 180 (m / 2) := bd_div bm
  have j1 := joining_ok (x := p + m / 2) sc hm (by walk_at "bnd")
  have j2 := joining_ok (x := p - m / 2 - 1) sc hm (by walk_at "bnd")
  rw [show p - m / 2 - 1 + 1 = p - m / 2 by omega] at j2
  have e0 : (if T > 0 then T else 0) = T := by split <;> omega
  have hm' := hm
  unfold gapF at hm'
  rw [e0] at hm'
  obtain ⟨K, hK⟩ : ∃ K, K = k * wd a b T := ⟨_, rfl⟩
  have fc1 : ∀ x, fcD g a b T k true x = .tup [.int (beg (g * a) (g * b) (T + 1) + (k * wd a b (T + 1) + x)), .str "in"] := fun x => rfl
  have fc2 : ∀ x, fcD g a b T k false x = .tup [.int (beg (g * a) (g * b) T + (K + x)), .str "out"] := fun x => by rw [hK]; rfl
  rw [← hK] at j1 j2 ⊢
  have a1 : K + (p + m / 2) = K + p + m / 2 := by omega
  have a2 : K + (p - m / 2 - 1) = K + p - m / 2 - 1 := by omega
  rw [a1] at j1
  rw [a2] at j2
  unfold alS alW
  by_cases c : m % 2 = 1
  · by_cases c2 : p < q
    · have c2' : K + p < K + q := by omega
      rw [if_pos (show q > p from c2), if_pos c]
      simp only [c, decide_true]
      rw [fc1]
      unfold F_along b_along
      simp_arith [ed, c2', dEq_int, c, hm', j1, gc_int, sz2]
    · have c2' : ¬ K + p < K + q := by omega
      rw [if_neg (show ¬ q > p from c2), if_pos c]
      simp only [c, decide_true]
      rw [fc1]
      unfold F_along b_along
      simp_arith [ed, c2', dEq_int, c, hm', j2, gc_int, sz2]
  · by_cases c2 : p < q
    · have c2' : K + p < K + q := by omega
      rw [if_pos (show q > p from c2), if_neg c]
      simp only [c, decide_false]
      rw [fc2]
      have e3 : beg (g * a) (g * b) T + (K + (p + m / 2)) = beg (g * a) (g * b) T + (K + p) + m / 2 := by omega
      unfold F_along b_along
      simp_arith [ed, c2', dEq_int, c, hm', sz2, e3]
    · have c2' : ¬ K + p < K + q := by omega
      rw [if_neg (show ¬ q > p from c2), if_neg c]
      simp only [c, decide_false]
      rw [fc2]
      have e3 : beg (g * a) (g * b) T + (K + (p - m / 2)) = beg (g * a) (g * b) T + (K + p) - m / 2 := by omega
      unfold F_along b_along
      simp_arith [ed, c2', dEq_int, c, hm', sz2, e3]
def wayD (g a b T k : Int) (s : Bool) (w : Int) (s' : Bool) (w' : Int) (m : Int) : D :=
  let E := wd a b T
  let Z := wd a b (T + 1)
  if m = 0 then fcD g a b T k s w else if m = dst E Z s w s' w' then fcD g a b T k s' w' else
    fcD g a b T k (alS (m - (if s then 1 else 0))) (alW E Z (wyP (lwA E Z s w) (lwB E Z s w) (lwA E Z s' w') (lwB E Z s' w')) (wyQ (lwA E Z s w) (lwB E Z s w) (lwA E Z s' w') (lwB E Z s' w')) (m - (if s then 1 else 0)))
theorem fcD_lows {s : Bool} {j : Nat} : (fcD g a b T k s w).lows j = true := rfl
theorem dst_bd (sc : Sc h n g a b v y l T k) {s s' : Bool} {w' : Int} (i : InP (wd a b T) (wd a b (T + 1)) (lenM a b v y T k) s w) (i' : InP (wd a b T) (wd a b (T + 1)) (lenM a b v y T k) s' w') : 0 ≤ dst (wd a b T) (wd a b (T + 1)) s w s' w' ∧ bd 175 (dst (wd a b T) (wd a b (T + 1)) s w s' w') := by
  have b1 := lw_bd sc i
  have b2 := lw_bd sc i'
  obtain ⟨E1, Z1, ML, WE⟩ := E_pos sc
  have bE := bd_wd (t := T) sc.d.ba sc.d.bb (bd_mono sc.bT (by decide))
  unfold dst
  split
  · exact ⟨by omega, by unfold bd; decide⟩
  · have n1 := mx3_nn (x := lwA (wd a b T) (wd a b (T + 1)) s w - lwB (wd a b T) (wd a b (T + 1)) s' w') (z := lwA (wd a b T) (wd a b (T + 1)) s' w' - lwB (wd a b T) (wd a b (T + 1)) s w)
    have n2 : bd 171 (mx3 (lwA (wd a b T) (wd a b (T + 1)) s w - lwB (wd a b T) (wd a b (T + 1)) s' w') (lwA (wd a b T) (wd a b (T + 1)) s' w' - lwB (wd a b T) (wd a b (T + 1)) s w)) := bd_mx3 (by unfold bd at *; omega) (by unfold bd at *; omega)
    obtain ⟨x, hx⟩ : ∃ x, x = mx3 (lwA (wd a b T) (wd a b (T + 1)) s w - lwB (wd a b T) (wd a b (T + 1)) s' w') (lwA (wd a b T) (wd a b (T + 1)) s' w' - lwB (wd a b T) (wd a b (T + 1)) s w) := ⟨_, rfl⟩
    rw [← hx] at n1 n2 ⊢
    have u1 : (0 : Int) ≤ (if s = true then 1 else 0) ∧ (if s = true then (1 : Int) else 0) ≤ 1 := by split <;> omega
    have u2 : (0 : Int) ≤ (if s' = true then 1 else 0) ∧ (if s' = true then (1 : Int) else 0) ≤ 1 := by split <;> omega
    exact ⟨by omega, by unfold bd at *; omega⟩
theorem way_ok (sc : Sc h n g a b v y l T k) {s s' : Bool} {w' m : Int} (i : InP (wd a b T) (wd a b (T + 1)) (lenM a b v y T k) s w) (i' : InP (wd a b T) (wd a b (T + 1)) (lenM a b v y T k) s' w') (m0 : 0 ≤ m) (m1 : m ≤ dst (wd a b T) (wd a b (T + 1)) s w s' w') :
    gcR h (F_on_way [.obj n, .int l, fcD g a b T k s w, fcD g a b T k s' w', .int m] h) = .ok (wayD g a b T k s w s' w' m) h := by
  have ea := apart_ok sc i i'
  obtain ⟨d0, bd0⟩ := dst_bd sc i i'
  unfold wayD
  simp only
  have b1 := lw_bd sc i
  have b2 := lw_bd sc i'
  obtain ⟨E1, Z1, ML, WE⟩ := E_pos sc
  have bE := bd_wd (t := T) sc.d.ba sc.d.bb (bd_mono sc.bT (by decide))
  obtain ⟨dd, hdd⟩ : ∃ dd, dd = dst (wd a b T) (wd a b (T + 1)) s w s' w' := ⟨_, rfl⟩
  rw [← hdd] at ea d0 bd0 m1 ⊢
  by_cases c0 : m = 0
  · subst c0
    rw [if_pos rfl]
    have e : F_on_way [.obj n, .int l, fcD g a b T k s w, fcD g a b T k s' w', .int 0] h = .ok (fcD g a b T k s w) h := by
      unfold F_on_way b_on_way
      simp_arith [ea, is_whole_int, gc_bl, d0, dEq_int, eq_self]
    rw [e, gc_same rfl]
  · rw [if_neg c0]
    by_cases c1 : m = dd
    · rw [if_pos c1]
      have e : F_on_way [.obj n, .int l, fcD g a b T k s w, fcD g a b T k s' w', .int m] h = .ok (fcD g a b T k s' w') h := by
        rw [c1]
        rw [c1] at c0
        unfold F_on_way b_on_way
        simp_arith [ea, is_whole_int, gc_bl, d0, Int.le_refl, dEq_int, c0, eq_self]
      rw [e, gc_same rfl]
    · rw [if_neg c1]
      obtain ⟨h2, hh2⟩ : ∃ h2, h2 = h ++ [Ob.ins 1 (gapF g a b v y T k)] := ⟨_, rfl⟩
      have sc2 : Sc h2 n g a b v y l T k := sc.keep (by rw [hh2]; exact happ (hlt sc.d.dr.at_))
      have g1 := gap_fc sc i
      rw [← hh2] at g1
      have g1' : gcR (h ++ [.ins 1 []]) (F_Gap_init [.obj (List.length h), .obj n, .int l, fcD g a b T k s w] (h ++ [.ins 1 []])) = .ok .non h2 := by rw [g1, gc_len (by rw [hh2]; simp)]
      have a1 : h2[List.length h]? = some (.ins 1 (gapF g a b v y T k)) := by rw [hh2]; exact hnew
      have l1 := lows_ok sc2 i a1
      have l2 := lows_ok sc2 i' a1
      obtain ⟨A1, hA1⟩ : ∃ A1, A1 = lwA (wd a b T) (wd a b (T + 1)) s w := ⟨_, rfl⟩
      obtain ⟨B1, hB1⟩ : ∃ B1, B1 = lwB (wd a b T) (wd a b (T + 1)) s w := ⟨_, rfl⟩
      obtain ⟨A2, hA2⟩ : ∃ A2, A2 = lwA (wd a b T) (wd a b (T + 1)) s' w' := ⟨_, rfl⟩
      obtain ⟨B2, hB2⟩ : ∃ B2, B2 = lwB (wd a b T) (wd a b (T + 1)) s' w' := ⟨_, rfl⟩
      rw [← hA1, ← hB1] at l1 b1 ⊢
      rw [← hA2, ← hB2] at l2 b2 ⊢
      obtain ⟨u, hu⟩ : ∃ u : Int, u = (if s = true then 1 else 0) := ⟨_, rfl⟩
      have u1 : 0 ≤ u ∧ u ≤ 1 := by rw [hu]; split <;> omega
      rw [← hu]
      have bmu : bd 180 (m - u) := by unfold bd at *; omega
      have bP : bd 190 (wyP A1 B1 A2 B2) := by
        have : 0 ≤ wyP A1 B1 A2 B2 ∧ wyP A1 B1 A2 B2 ≤ wd a b T := by
          unfold wyP
          split
          · omega
          · split
            · split <;> omega
            · omega
        exact bd_le (bd_mono bE (by decide)) this.1 this.2
      have al := along_ok (p := wyP A1 B1 A2 B2) (q := wyQ A1 B1 A2 B2) (m := m - u) sc2 a1 bP bmu
      obtain ⟨K, hK⟩ : ∃ K, K = k * wd a b T := ⟨_, rfl⟩
      rw [← hK] at l1 l2 al
      have fx : ∀ (s : Bool) (w : Int) (H : Hm), dIx (fcD g a b T k s w) (.int 1) H = .ok (.str (sdS s)) H := fun s w H => rfl
      have r5 : ∀ (R : D) (e9 e10 : Int), e9 = K + wyP A1 B1 A2 B2 → e10 = K + wyQ A1 B1 A2 B2 → R = fcD g a b T k (alS (m - u)) (alW (wd a b T) (wd a b (T + 1)) (wyP A1 B1 A2 B2) (wyQ A1 B1 A2 B2) (m - u)) →
          Good (sRet (eCall F_along (aCons (eVar 6) (aCons (eVar 9) (aCons (eVar 10) (aCons (e2 dSub (eVar 4) (eN dInt (aCons (e2 dEq (e2 dIx (eVar 2) (eC (.int 1))) (eC (.str "in"))) aNil))) aNil))))) [some (.obj n), some (.int l), some (fcD g a b T k s w), some (fcD g a b T k s' w'), some (.int m), some (.int dd), some (.obj (List.length h)), some (.tup [.int (K + A1), .int (K + B1)]), some (.tup [.int (K + A2), .int (K + B2)]), some (.int e9), some (.int e10)] h2)
            (fun _ _ => False) (fun d h' => d = R ∧ h' = h2) := by
        rintro R e9 e10 rfl rfl rfl
        refine wp_ret (h1 := h2) ?_ ⟨rfl, rfl⟩
        simp only [e2, envOf, eVar, eCall, aCons, aNil, eC, eN, List.getElem?_cons_zero, List.getElem?_cons_succ, R.bind, fx, dEq_sd_in, dInt_bl, dSub, ← hu, al, gc_same fcD_lows]
      have gd : Good (b_on_way (envOf 11 [.obj n, .int l, fcD g a b T k s w, fcD g a b T k s' w', .int m]) h) (fun _ _ => False) (fun d h' => d = fcD g a b T k (alS (m - u)) (alW (wd a b T) (wd a b (T + 1)) (wyP A1 B1 A2 B2) (wyQ A1 B1 A2 B2) (m - u)) ∧ h' = h2) := by
        unfold b_on_way
        refine wp_seq (wp_set (d := .int dd) (h1 := h) (by simp_arith [ea]) ?_)
        refine wp_seq (wp_skip (h1 := h) (by simp_arith []) ?_)
        refine wp_seq (wp_skip (h1 := h) (by simp_arith [is_whole_int, gc_bl, m0, m1]) ?_)
        refine wp_seq (wp_skip (h1 := h) (by simp_arith [dEq_int, c0, c1]) ?_)
        refine wp_seq (wp_set (d := .obj (List.length h)) (h1 := h2) (by simp_arith [g1']) ?_)
        refine wp_seq (wp_set (d := .tup [.int (K + A1), .int (K + B1)]) (h1 := h2) (by simp_arith [l1, gc_t2]) ?_)
        refine wp_seq (wp_set (d := .tup [.int (K + A2), .int (K + B2)]) (h1 := h2) (by simp_arith [l2, gc_t2]) ?_)
        refine wp_seq (wp_par (a := .int (K + B1)) (b := .int (K + A2)) (h1 := h2) (h2 := h2) (by simp_arith [atI2]) (by simp_arith [atI1]) ?_)
        simp only [envOf, List.map_cons, List.map_nil, List.length_cons, List.length_nil, List.replicate, List.cons_append, List.nil_append, List.set_cons_zero, List.set_cons_succ]
        by_cases q1 : B2 < A1
        · have q1' : K + B2 < K + A1 := by omega
          refine wp_seq (wp_if (b := true) (h1 := h2) (by simp_arith [atI1, atI2, q1']) (fun _ => ?_) (fun z => by cases z))
          refine wp_par (a := .int (K + A1)) (b := .int (K + B2)) (h1 := h2) (h2 := h2) (by simp_arith [atI1]) (by simp_arith [atI2]) ?_
          simp only [List.set_cons_zero, List.set_cons_succ]
          exact r5 _ _ _ (by unfold wyP; rw [if_pos q1]) (by unfold wyQ; rw [if_pos q1]) rfl
        · have q1' : ¬ K + B2 < K + A1 := by omega
          by_cases q2 : A2 ≤ B1
          · have q2' : K + A2 ≤ K + B1 := by omega
            have em : (if K + A2 > K + A1 then K + A2 else K + A1) = K + (if A2 > A1 then A2 else A1) := by
              by_cases z : A2 > A1
              · rw [if_pos z, if_pos (by omega)]
              · rw [if_neg z, if_neg (by omega)]
            refine wp_seq (wp_if (b := false) (h1 := h2) (by simp_arith [atI1, atI2, q1']) (fun z => by cases z) (fun _ => ?_))
            refine wp_if (b := true) (h1 := h2) (by simp_arith [atI1, atI2, q2']) (fun _ => ?_) (fun z => by cases z)
            unfold sSet2 Good
            simp_arith [atI1, em]
            exact r5 _ _ _ (by unfold wyP; rw [if_neg q1, if_pos q2]) (by unfold wyQ; rw [if_neg q1, if_pos q2]) rfl
          · have q2' : ¬ K + A2 ≤ K + B1 := by omega
            refine wp_seq (wp_if (b := false) (h1 := h2) (by simp_arith [atI1, atI2, q1']) (fun z => by cases z) (fun _ => ?_))
            refine wp_skip (h1 := h2) (by simp_arith [atI1, atI2, q2']) ?_
            exact r5 _ _ _ (by unfold wyP; rw [if_neg q1, if_neg q2]) (by unfold wyQ; rw [if_neg q1, if_neg q2]) rfl
      obtain ⟨d, h', e, rfl, rfl⟩ := fn_good (n := 11) (Q := fun d h' => d = fcD g a b T k (alS (m - u)) (alW (wd a b T) (wd a b (T + 1)) (wyP A1 B1 A2 B2) (wyQ A1 B1 A2 B2) (m - u)) ∧ h' = h2) (Good.imp gd (fun _ _ z => z.elim) (fun _ _ z => z))
      have e' : F_on_way [.obj n, .int l, fcD g a b T k s w, fcD g a b T k s' w', .int m] h = .ok (fcD g a b T k (alS (m - u)) (alW (wd a b T) (wd a b (T + 1)) (wyP A1 B1 A2 B2) (wyQ A1 B1 A2 B2) (m - u))) (h ++ [Ob.ins 1 (gapF g a b v y T k)]) := by
        rw [← hh2]; exact e
      rw [e', gc_keep fcD_lows]
end
end Sh
end
section
open PySem L2 Wm
namespace Sh
open PySem L2 Wm
def tch (E Z w x : Int) : Prop := x * E / Z ≤ w ∧ w ≤ cdiv ((x + 1) * E) Z - 1
section
variable {E Z M w x : Int}
theorem tch_iff (Z0 : 0 < Z) : tch E Z w x ↔ (x * E < (w + 1) * Z ∧ w * Z < (x + 1) * E) := by
  unfold tch
  rw [div_le_iff Z0]
  have := sec_lt (E := E) (M := x + 1) (w := w) Z0
  constructor
  · rintro ⟨a, b⟩; exact ⟨a, this.mp (by omega)⟩
  · rintro ⟨a, b⟩; exact ⟨a, by have := this.mpr b; omega⟩
theorem un_two (E1 : 1 ≤ E) (EZ : E ≤ Z) (x0 : 0 ≤ x) : cdiv ((x + 1) * E) Z - 1 ≤ x * E / Z + 1 := by
  have Z0 : 0 < Z := by omega
  have h1 := Int.lt_ediv_add_one_mul_self (x * E) Z0
  have : cdiv ((x + 1) * E) Z ≤ x * E / Z + 2 := cdiv_le Z0 (by
    have e : (x + 1) * E = x * E + E := by grind
    have e2 : (x * E / Z + 2) * Z = (x * E / Z + 1) * Z + Z := by grind
    omega)
  omega
theorem jn_ok (E1 : 1 ≤ E) (EZ : E ≤ Z) (cop : Int.gcd E Z = 1) (w0 : 0 ≤ w) (wE : w + 1 < E) (h : (w + 1) * Z < M * E) :
    0 ≤ (w + 1) * Z / E ∧ (w + 1) * Z / E < M ∧ (w + 1) * Z / E * E / Z = w ∧ cdiv (((w + 1) * Z / E + 1) * E) Z - 1 = w + 1 ∧ ∀ y, tch E Z w y → tch E Z (w + 1) y → y = (w + 1) * Z / E := by
  have Z0 : 0 < Z := by omega
  have nd : ¬ (w + 1) * Z % E = 0 := fun c => by
    have d : E ∣ (w + 1) * Z := Int.dvd_of_emod_eq_zero c
    have d2 : E.natAbs ∣ (w + 1).natAbs * Z.natAbs := by rw [← Int.natAbs_mul]; exact Int.natAbs_dvd_natAbs.mpr d
    have d3 : E.natAbs ∣ (w + 1).natAbs := Nat.Coprime.dvd_of_dvd_mul_right (show Nat.Coprime E.natAbs Z.natAbs from cop) d2
    have := Nat.le_of_dvd (by omega) d3
    omega
  have h1 := Int.emod_add_mul_ediv ((w + 1) * Z) E
  have h2 := Int.emod_nonneg ((w + 1) * Z) (show E ≠ 0 by omega)
  have h3 := Int.emod_lt_of_pos ((w + 1) * Z) (show 0 < E by omega)
  have h4 : 0 ≤ (w + 1) * Z / E := Int.ediv_nonneg (Int.mul_nonneg (by omega) (by omega)) (by omega)
  have h5 : (w + 1) * Z / E < M := (Int.ediv_lt_iff_lt_mul (by omega)).mpr h
  obtain ⟨q, hq⟩ : ∃ q, q = (w + 1) * Z / E := ⟨_, rfl⟩
  rw [← hq] at h1 h4 h5 ⊢
  have e0 : E * q = q * E := Int.mul_comm _ _
  have e1 : (q + 1) * E = q * E + E := by grind
  have e2 : (w + 1 + 1) * Z = (w + 1) * Z + Z := by grind
  have e3 : (w + 1) * Z = w * Z + Z := by grind
  have t1 : tch E Z w q := (tch_iff Z0).mpr ⟨by omega, by omega⟩
  have t2 : tch E Z (w + 1) q := (tch_iff Z0).mpr ⟨by omega, by omega⟩
  have tw := un_two E1 EZ h4
  refine ⟨h4, h5, ?_, ?_, fun y a b => ?_⟩
  · have := t1.1; have := t2.2; omega
  · have := t1.1; have := t2.2; omega
  · have a' := (tch_iff Z0).mp a
    have b' := (tch_iff Z0).mp b
    have l1 : y * E < (q + 1) * E := by omega
    have l2 : q * E < (y + 1) * E := by omega
    have := Int.lt_of_mul_lt_mul_right l1 (by omega)
    have := Int.lt_of_mul_lt_mul_right l2 (by omega)
    omega
end
theorem mx3_eq (x z : Int) : mx3 x z = max 0 (max x z) := by
  unfold mx3
  split <;> split <;> omega
theorem dst_ne {E Z : Int} {s s' : Bool} {w w' : Int} (ne : ¬ (s = s' ∧ w = w')) : dst E Z s w s' w' = 2 * max 0 (max (lwA E Z s w - lwB E Z s' w') (lwA E Z s' w' - lwB E Z s w)) + (if s then 1 else 0) + (if s' then 1 else 0) := by
  unfold dst
  rw [if_neg ne, mx3_eq]
theorem dst_eq {E Z : Int} {s : Bool} {w : Int} : dst E Z s w s w = 0 := by
  unfold dst
  rw [if_pos ⟨rfl, rfl⟩]
theorem lwF {E Z w : Int} : lwA E Z false w = w ∧ lwB E Z false w = w := ⟨rfl, rfl⟩
theorem lwT {E Z w : Int} : lwA E Z true w = w * E / Z ∧ lwB E Z true w = cdiv ((w + 1) * E) Z - 1 := ⟨rfl, rfl⟩
theorem lw_in {E Z M : Int} (E1 : 1 ≤ E) (EZ : E ≤ Z) {s : Bool} {w : Int} (i : InP E Z M s w) : 0 ≤ lwA E Z s w ∧ lwA E Z s w ≤ lwB E Z s w ∧ lwB E Z s w ≤ lwA E Z s w + 1 ∧ lwB E Z s w < cdiv (M * E) Z := by
  obtain ⟨i0, i1⟩ := i
  cases s
  · simp only [Bool.false_eq_true, if_false] at i1
    rw [lwF.1, lwF.2]; omega
  · simp only [if_true] at i1
    have h1 := sec_un (E := E) (Z := Z) (M := M) (x := w) E1 (by omega) i0 i1
    have h2 := un_two E1 EZ i0
    rw [lwT.1, lwT.2]; omega
end Sh
end
section
open PySem L2 Wm
namespace Sh
open PySem L2 Wm
def ps (E Z : Int) (s : Bool) (w : Int) : Int := lwA E Z s w + lwB E Z s w
def hr (E Z : Int) (s : Bool) (w : Int) : Int := (if s then 1 else 0) - (lwB E Z s w - lwA E Z s w)
def spS (p : Int) : Bool := decide (p % 2 = 1)
def spW (E Z p : Int) : Int := if p % 2 = 1 then (p / 2 + 1) * Z / E else p / 2
structure Pc (E Z M : Int) : Prop where
  E1 : 1 ≤ E
  EZ : E ≤ Z
  cop : Int.gcd E Z = 1
  WE : cdiv (M * E) Z ≤ E
section
variable {E Z M w w' p : Int} {s s' : Bool}
theorem ps_rng (P : Pc E Z M) (i : InP E Z M s w) : 0 ≤ ps E Z s w ∧ ps E Z s w ≤ 2 * (cdiv (M * E) Z - 1) ∧ (hr E Z s w = 0 ∨ hr E Z s w = 1) ∧ (s = false → hr E Z s w = 0) := by
  obtain ⟨a, b, c, d⟩ := lw_in P.E1 P.EZ i
  unfold ps hr
  cases s
  · have := lwF (E := E) (Z := Z) (w := w)
    simp only [Bool.false_eq_true, if_false]
    exact ⟨by omega, by omega, by omega, fun _ => by omega⟩
  · simp only [if_true]
    exact ⟨by omega, by omega, by omega, fun z => by cases z⟩
theorem sp_of (P : Pc E Z M) (i : InP E Z M s w) (h : hr E Z s w = 0) : s = spS (ps E Z s w) ∧ w = spW E Z (ps E Z s w) := by
  obtain ⟨a, b, c, d⟩ := lw_in P.E1 P.EZ i
  cases s
  · obtain ⟨e1, e2⟩ := lwF (E := E) (Z := Z) (w := w)
    unfold ps spS spW
    rw [e1, e2]
    rw [if_neg (by omega), decide_eq_false (by omega)]
    exact ⟨rfl, by omega⟩
  · unfold hr at h
    simp only [if_true] at h
    obtain ⟨A, hA⟩ : ∃ A, A = lwA E Z true w := ⟨_, rfl⟩
    obtain ⟨B, hB⟩ : ∃ B, B = lwB E Z true w := ⟨_, rfl⟩
    unfold ps spS spW
    simp only [← hA, ← hB] at h a b c d ⊢
    have : B = A + 1 := by omega
    subst this
    rw [decide_eq_true (by omega), if_pos (by omega)]
    have e : (A + (A + 1)) / 2 = A := by omega
    rw [e]
    have WE := P.WE
    obtain ⟨_, _, _, _, u⟩ := jn_ok (M := M) P.E1 P.EZ P.cop a (by omega) ((sec_lt (E := E) (by have := P.E1; have := P.EZ; omega)).mp d)
    refine ⟨rfl, u w ?_ ?_⟩
    · unfold tch; rw [← lwT.1, ← lwT.2, ← hA, ← hB]; omega
    · unfold tch; rw [← lwT.1, ← lwT.2, ← hA, ← hB]; omega
theorem sp_in (P : Pc E Z M) (p0 : 0 ≤ p) (p1 : p ≤ 2 * (cdiv (M * E) Z - 1)) : InP E Z M (spS p) (spW E Z p) ∧ ps E Z (spS p) (spW E Z p) = p ∧ hr E Z (spS p) (spW E Z p) = 0 := by
  have WE := P.WE
  by_cases c : p % 2 = 1
  · unfold spS spW
    rw [if_pos c, decide_eq_true c]
    obtain ⟨a1, a2, a3, a4, _⟩ := jn_ok (M := M) (w := p / 2) P.E1 P.EZ P.cop (by omega) (by omega) ((sec_lt (E := E) (by have := P.E1; have := P.EZ; omega)).mp (by omega))
    refine ⟨⟨a1, by simp only [if_true]; exact a2⟩, ?_, ?_⟩
    · unfold ps
      rw [lwT.1, lwT.2, a3, a4]; omega
    · unfold hr
      rw [lwT.1, lwT.2, a3, a4]; simp only [if_true]; omega
  · unfold spS spW
    rw [if_neg c, decide_eq_false c]
    refine ⟨⟨by omega, by simp only [Bool.false_eq_true, if_false]; omega⟩, ?_, ?_⟩
    · unfold ps
      rw [lwF.1, lwF.2]; omega
    · unfold hr
      rw [lwF.1, lwF.2]; simp
theorem dst_line (P : Pc E Z M) (i : InP E Z M s w) (i' : InP E Z M s' w') (ne : ¬ (s = s' ∧ w = w')) :
    dst E Z s w s' w' = (if ps E Z s w ≤ ps E Z s' w' then ps E Z s' w' - ps E Z s w else ps E Z s w - ps E Z s' w') + hr E Z s w + hr E Z s' w' := by
  have h1 := sp_of P i
  have h2 := sp_of P i'
  obtain ⟨_, _, q1, _⟩ := ps_rng P i
  obtain ⟨_, _, q2, _⟩ := ps_rng P i'
  have nn : ¬ (hr E Z s w = 0 ∧ hr E Z s' w' = 0 ∧ ps E Z s w = ps E Z s' w') := fun ⟨c1, c2, c3⟩ => by
    obtain ⟨a1, a2⟩ := h1 c1
    obtain ⟨b1, b2⟩ := h2 c2
    rw [← c3] at b1 b2
    exact ne ⟨a1.trans b1.symm, a2.trans b2.symm⟩
  obtain ⟨a, b, c, d⟩ := lw_in P.E1 P.EZ i
  obtain ⟨a', b', c', d'⟩ := lw_in P.E1 P.EZ i'
  rw [dst_ne ne]
  unfold ps hr at *
  cases s <;> cases s' <;> simp only [Bool.false_eq_true, if_false, if_true] at * <;> split <;> omega
def wyS (E Z : Int) (s : Bool) (w : Int) (s' : Bool) (w' m : Int) : Bool := if m = 0 then s else if m = dst E Z s w s' w' then s' else spS (if ps E Z s w ≤ ps E Z s' w' then ps E Z s w + (m - hr E Z s w) else ps E Z s w - (m - hr E Z s w))
def wyW (E Z : Int) (s : Bool) (w : Int) (s' : Bool) (w' m : Int) : Int := if m = 0 then w else if m = dst E Z s w s' w' then w' else spW E Z (if ps E Z s w ≤ ps E Z s' w' then ps E Z s w + (m - hr E Z s w) else ps E Z s w - (m - hr E Z s w))
theorem wy_in (P : Pc E Z M) (i : InP E Z M s w) (i' : InP E Z M s' w') {m : Int} (m0 : 0 ≤ m) (m1 : m ≤ dst E Z s w s' w') : InP E Z M (wyS E Z s w s' w' m) (wyW E Z s w s' w' m) ∧
    dst E Z s w (wyS E Z s w s' w' m) (wyW E Z s w s' w' m) = m ∧ dst E Z (wyS E Z s w s' w' m) (wyW E Z s w s' w' m) s' w' = dst E Z s w s' w' - m ∧
    (m = 0 → wyS E Z s w s' w' m = s ∧ wyW E Z s w s' w' m = w) ∧ (m = dst E Z s w s' w' → wyS E Z s w s' w' m = s' ∧ wyW E Z s w s' w' m = w') := by
  by_cases z : m = 0
  · subst z
    unfold wyS wyW
    rw [if_pos rfl, if_pos rfl]
    refine ⟨i, dst_eq, by omega, fun _ => ⟨rfl, rfl⟩, fun c => ?_⟩
    by_cases e : s = s' ∧ w = w'
    · exact e
    · have h := dst_line P i i' e
      obtain ⟨_, _, q1, _⟩ := ps_rng P i
      obtain ⟨_, _, q2, _⟩ := ps_rng P i'
      have c1 : hr E Z s w = 0 := by split at h <;> omega
      have c2 : hr E Z s' w' = 0 := by split at h <;> omega
      have c3 : ps E Z s w = ps E Z s' w' := by split at h <;> omega
      obtain ⟨a1, a2⟩ := sp_of P i c1
      obtain ⟨b1, b2⟩ := sp_of P i' c2
      rw [← c3] at b1 b2
      exact ⟨a1.trans b1.symm, a2.trans b2.symm⟩
  · by_cases y : m = dst E Z s w s' w'
    · unfold wyS wyW
      rw [if_neg z, if_neg z, if_pos y, if_pos y]
      exact ⟨i', y.symm, by rw [dst_eq]; omega, fun c => (z c).elim, fun _ => ⟨rfl, rfl⟩⟩
    · have e : ¬ (s = s' ∧ w = w') := fun ⟨a, b⟩ => by subst a; subst b; rw [dst_eq] at m1; omega
      have h := dst_line P i i' e
      obtain ⟨r0, r1, r2, r3⟩ := ps_rng P i
      obtain ⟨t0, t1, t2, t3⟩ := ps_rng P i'
      unfold wyS wyW
      rw [if_neg z, if_neg z, if_neg y, if_neg y]
      obtain ⟨q, hq⟩ : ∃ q, q = if ps E Z s w ≤ ps E Z s' w' then ps E Z s w + (m - hr E Z s w) else ps E Z s w - (m - hr E Z s w) := ⟨_, rfl⟩
      rw [← hq]
      have q0 : 0 ≤ q := by split at hq <;> split at h <;> omega
      have q1 : q ≤ 2 * (cdiv (M * E) Z - 1) := by split at hq <;> split at h <;> omega
      obtain ⟨j, jp, jh⟩ := sp_in P q0 q1
      refine ⟨j, ?_, ?_, fun c => (z c).elim, fun c => (y c).elim⟩
      · by_cases e1 : s = spS q ∧ w = spW E Z q
        · exfalso
          rw [← e1.1, ← e1.2] at jp jh
          split at hq <;> split at h <;> omega
        · rw [dst_line P i j e1, jp, jh]
          split at hq <;> split at h <;> split <;> omega
      · by_cases e1 : spS q = s' ∧ spW E Z q = w'
        · exfalso
          rw [e1.1, e1.2] at jp jh
          split at hq <;> split at h <;> omega
        · rw [dst_line P j i' e1, jp, jh]
          split at hq <;> split at h <;> split <;> omega
theorem dst_zero (P : Pc E Z M) (i : InP E Z M s w) (i' : InP E Z M s' w') (h : dst E Z s w s' w' = 0) : s = s' ∧ w = w' := by
  obtain ⟨_, _, _, _, k⟩ := wy_in P i i' (m := 0) (by omega) (by omega)
  obtain ⟨a, b⟩ := k h.symm
  have := (wy_in P i i' (m := 0) (by omega) (by omega)).2.2.2.1 rfl
  exact ⟨this.1.symm.trans a, this.2.symm.trans b⟩
theorem dst_symm {E Z : Int} {s s' : Bool} {w w' : Int} : dst E Z s w s' w' = dst E Z s' w' s w := by
  by_cases c : s = s' ∧ w = w'
  · obtain ⟨rfl, rfl⟩ := c
    rfl
  · rw [dst_ne c, dst_ne (fun x => c ⟨x.1.symm, x.2.symm⟩)]
    omega
theorem way_eq {g a b T k : Int} (P : Pc (wd a b T) (wd a b (T + 1)) M) (i : InP (wd a b T) (wd a b (T + 1)) M s w) (i' : InP (wd a b T) (wd a b (T + 1)) M s' w') {m : Int} (m0 : 0 ≤ m) (m1 : m ≤ dst (wd a b T) (wd a b (T + 1)) s w s' w') :
    wayD g a b T k s w s' w' m = fcD g a b T k (wyS (wd a b T) (wd a b (T + 1)) s w s' w' m) (wyW (wd a b T) (wd a b (T + 1)) s w s' w' m) := by
  unfold wayD wyS wyW
  obtain ⟨E, hE⟩ : ∃ E, E = wd a b T := ⟨_, rfl⟩
  obtain ⟨Z, hZ⟩ : ∃ Z, Z = wd a b (T + 1) := ⟨_, rfl⟩
  simp only [← hE, ← hZ] at P i i' m1 ⊢
  by_cases z : m = 0
  · simp only [if_pos z]
  · by_cases y : m = dst E Z s w s' w'
    · simp only [if_neg z, if_pos y]
    · have e : ¬ (s = s' ∧ w = w') := fun ⟨a, b⟩ => by subst a; subst b; rw [dst_eq] at m1; omega
      have h := dst_line P i i' e
      obtain ⟨r0, r1, r2, r3⟩ := ps_rng P i
      obtain ⟨t0, t1, t2, t3⟩ := ps_rng P i'
      obtain ⟨A0, A1, A2, A3⟩ := lw_in P.E1 P.EZ i
      obtain ⟨B0, B1, B2, B3⟩ := lw_in P.E1 P.EZ i'
      simp only [if_neg z, if_neg y]
      obtain ⟨q, hq⟩ : ∃ q, q = if ps E Z s w ≤ ps E Z s' w' then ps E Z s w + (m - hr E Z s w) else ps E Z s w - (m - hr E Z s w) := ⟨_, rfl⟩
      rw [← hq]
      obtain ⟨x, hx⟩ : ∃ x, x = wyP (lwA E Z s w) (lwB E Z s w) (lwA E Z s' w') (lwB E Z s' w') := ⟨_, rfl⟩
      obtain ⟨u, hu⟩ : ∃ u, u = wyQ (lwA E Z s w) (lwB E Z s w) (lwA E Z s' w') (lwB E Z s' w') := ⟨_, rfl⟩
      obtain ⟨m', hm'⟩ : ∃ m', m' = m - (if s then 1 else 0) := ⟨_, rfl⟩
      rw [← hx, ← hu, ← hm']
      have key : q = if u > x then 2 * x + m' else 2 * x - m' := by
        rw [hq]
        unfold wyP at hx
        unfold wyQ at hu
        unfold ps hr at *
        cases s <;> cases s' <;> simp only [Bool.false_eq_true, if_false, if_true] at * <;> (repeat' split) <;> (repeat' split at hx) <;> (repeat' split at hu) <;> (try (repeat' split at h)) <;> omega
      have e1 : alS m' = spS q := by
        unfold alS spS
        rw [key]
        congr 1
        split <;> (apply propext; omega)
      have e2 : alW E Z x u m' = spW E Z q := by
        unfold alW spW
        rw [key]
        split
        · by_cases c : m' % 2 = 1
          · rw [if_pos c, if_pos (by omega), show (2 * x + m') / 2 = x + m' / 2 by omega]
          · rw [if_neg c, if_neg (by omega)]; omega
        · by_cases c : m' % 2 = 1
          · rw [if_pos c, if_pos (by omega), show (2 * x - m') / 2 + 1 = x - m' / 2 by omega]
          · rw [if_neg c, if_neg (by omega)]; omega
      rw [e1, e2]
end
theorem Sc.pc {h : Hm} {n : Nat} {g a b v y l T k : Int} (sc : Sc h n g a b v y l T k) : Pc (wd a b T) (wd a b (T + 1)) (lenM a b v y T k) := by
  obtain ⟨E1, Z1, ML, WE⟩ := E_pos sc
  exact ⟨E1, by rw [wd_succ]; have := sc.d.b0; omega, wd_cop sc.d.cop, WE⟩
end Sh
end
section
namespace Sh
open PySem L2 Wm
noncomputable def b_law_drawn : Wm.BSem :=
  (sSeq (sSet 3 (e2 dIx (eLst (aCons (eTup (aCons (eVar 1) (aCons (eC (.str "out")) aNil))) (aCons (eTup (aCons (eVar 2) (aCons (eC (.str "in")) aNil))) aNil))) (eCall F_law_next (aCons (eVar 0) (aCons (eC (.int 2)) aNil)))))
  (sSeq (sAsg (gT [(gN 4), (gN 5)]) (e2 dIx (eVar 3) (eC (.int 0))))
  (sSeq (sSet 6 (e2 dAdd (e2 dSub (eVar 5) (eVar 4)) (eC (.int 1))))
  (sSeq (sSet 7 (eCall F_law_one (aCons (eVar 0) (aCons (eLst (aCons (eVar 4) (aCons (eVar 5) (aCons (e2 dAdd (eVar 4) (eCall F_law_great (aCons (eVar 0) (aCons (eVar 6) aNil)))) (aCons (e2 dAdd (eVar 4) (eCall F_law_great (aCons (eVar 0) (aCons (eVar 6) aNil)))) aNil))))) aNil))))
  (sRet (eTup (aCons (eVar 7) (aCons (e2 dIx (eVar 3) (eC (.int 1))) aNil))))))))
noncomputable def F_law_drawn : FS := fnS 8 b_law_drawn
end Sh
end
section
open PySem L2 Wm
namespace Sh
open PySem L2 Wm
section
variable {E Z M : Int} {s0 s1 s2 s s' : Bool} {w0 w1 w2 w w' : Int}
end
def oD : Option (Int × Int) → D
  | none => .non
  | some (x, z) => .tup [.int x, .int z]
def ppD (lo up : Option (Int × Int)) : D := .tup [oD lo, oD up]
theorem oD_low {o : Option (Int × Int)} {j : Nat} : (oD o).lows j = true := by cases o <;> rfl
theorem ppD_low {lo up : Option (Int × Int)} {j : Nat} : (ppD lo up).lows j = true := by simp only [ppD, D.lows, lowsL, oD_low, Bool.and_self]
theorem dNe_ppD {h : Hm} {a b c d : Option (Int × Int)} : dNe (ppD a b) (ppD c d) h = .ok (.bl (!decide (a = c ∧ b = d))) h := by
  cases a <;> cases b <;> cases c <;> cases d <;> simp [dNe, ppD, oD, pyO, D.py, pys, SeqAt.shaped, PyData.canLay0, PyData.canLayAll0, PyData.depth, PyData.depthAll, PyData.eqv, PyData.eqvAll, Prod.ext_iff, -not_and, Bool.and_assoc] <;> rfl
structure An (n : Nat) (g a b v y l : Int) (x : D) (T k : Int) (lo up : Option (Int × Int)) : Prop where
  fc : ∃ c s, x = .tup [.int c, .str (sdS s)]
  ck : ∀ H, F_check_face [.int l, x] H = .ok .non H
  gap : ∀ H, Dq H n g a b → F_Gap_init [.obj (List.length H), .obj n, .int l, x] (H ++ [.ins 1 []]) = .ok .non (H ++ [.ins 1 (gapF g a b v y T k)])
  pl : ∀ H j, Dq H n g a b → H[j]? = some (.ins 1 (gapF g a b v y T k)) → F_piece_places [.obj j, x] H = .ok (ppD lo up) H
section
variable {h : Hm} {n : Nat} {g a b v y l T k w T' k' : Int} {x x' : D} {lo up lo' up' : Option (Int × Int)}
theorem an_pc (sc : Sc h n g a b v y l T k) {s : Bool} (i : InP (wd a b T) (wd a b (T + 1)) (lenM a b v y T k) s w) :
    An n g a b v y l (fcD g a b T k s w) T k (some (k * wd a b T, k * wd a b T + (cdiv (lenM a b v y T k * wd a b T) (wd a b (T + 1)) - 1))) (some (k * wd a b (T + 1), k * wd a b (T + 1) + lenM a b v y T k - 1)) :=
  have mk : ∀ H, Dq H n g a b → Sc H n g a b v y l T k := fun H d => { sc with d := d }
  ⟨⟨_, s, rfl⟩, ck_fc sc i, fun H d => gap_fc (mk H d) i, fun H j d hj => places_fc (mk H d) i hj⟩
theorem an_in0 (d0 : Dq h n g a b) (R : Rl g a b v y l) (k0 : 0 ≤ k) (k1 : k < g) (w0 : 0 ≤ w) (w1 : w < wd a b 0) (cl : cel g a b 0 k w < l) :
    An n g a b v y l (.tup [.int (cel g a b 0 k w), .str "in"]) (-1) k none (some (k * wd a b 0 + w, k * wd a b 0 + w)) :=
  ⟨⟨_, true, rfl⟩, fun H => face_in (cel_bd0 d0 (by decide) k0 w0) cl,
    fun H d => gap_init d R (by decide) (by unfold bd; decide) k0 k1 w0 w1 "in" (Or.inr ⟨rfl, rfl⟩),
    fun H j d hj => (places_in0 d R k0 k1 hj).trans (by
      have e : cel g a b 0 k w - beg (g * a) (g * b) (-1 + 1) = k * wd a b 0 + w := by unfold cel; rw [show (-1 : Int) + 1 = 0 by decide]; omega
      rw [e]; rfl)⟩
theorem an_out (d0 : Dq h n g a b) (R : Rl g a b v y l) (k0 : 0 ≤ k) (k1 : k < g) (T0 : 0 ≤ T) (bT : bd 89 T) (w0 : 0 ≤ w) (w1 : w < wd a b T) (cl : cel g a b T k w < l)
    (q : cdiv (lenM a b v y T k * wd a b T) (wd a b (T + 1)) ≤ w) :
    An n g a b v y l (.tup [.int (cel g a b T k w), .str "out"]) T k (some (k * wd a b T + w, k * wd a b T + w)) none :=
  ⟨⟨_, false, rfl⟩, fun H => face_out (cel_bd0 d0 T0 k0 w0) cl,
    fun H d => gap_init d R T0 (bd_mono bT (by decide)) k0 k1 w0 w1 "out" (Or.inl ⟨rfl, rfl⟩),
    fun H j d hj => (places_out d R k0 k1 T0 (bd_mono bT (by decide)) w0 hj).trans (by rw [if_pos q]; rfl)⟩
theorem faces_ne {c c' : Int} {s s' : Bool} {h : Hm} (ne : D.tup [.int c, .str (sdS s)] ≠ .tup [.int c', .str (sdS s')]) : dEq (.tup [.int c, .str (sdS s)]) (.tup [.int c', .str (sdS s')]) h = .ok (.bl false) h := by
  rw [dEq_face]
  have : (decide (c = c') && (s == s')) = false := by
    rw [Bool.eq_false_iff]
    intro e
    simp only [Bool.and_eq_true, decide_eq_true_eq, beq_iff_eq] at e
    exact ne (by rw [e.1, e.2])
  rw [this]
theorem roll_ck (d : Dq h n g a b) (R : Rl g a b v y l) (xs : List D) (hx : ∀ x ∈ xs, ∀ H, F_check_face [.int l, x] H = .ok .non H) {H : Hm} {j : Nat} (hj : H[j]? = some (.lst xs)) : F_check_roll [.int l, .obj j] H = .ok .non H := by
  have el := fun (h : Hm) => length_ok (h := h) (R.l1 d)
  have lp : ∀ (ys : List D), (∀ x ∈ ys, ∀ H, F_check_face [.int l, x] H = .ok .non H) → ∀ z, ∃ z', forS (fun h2 => h2[j]? = some (.lst xs)) (gN 2) (sDrop (eCall F_check_face (aCons (eVar 0) (aCons (eVar 2) aNil)))) ys [some (.int l), some (.obj j), z] H = .nx [some (.int l), some (.obj j), z'] H := by
    intro ys
    induction ys with
    | nil => intro _ z; exact ⟨z, by unfold forS; rw [if_pos hj]⟩
    | cons x ys ih =>
      intro hy z
      have c := hy x List.mem_cons_self H
      obtain ⟨z', e⟩ := ih (fun x hx => hy x (List.mem_cons_of_mem _ hx)) (some x)
      refine ⟨z', ?_⟩
      unfold forS
      simp only [if_pos hj, gN]
      simp_arith [c, gc_non, e]
  obtain ⟨z', e⟩ := lp xs hx none
  unfold F_check_roll b_check_roll
  simp_arith [el, gc_non, sFor, wSeq, hj, e]
theorem apart_non (d : Dq h n g a b) (R : Rl g a b v y l) (A : An n g a b v y l x T k lo up) (A' : An n g a b v y l x' T' k' lo' up') (c : ¬ (T = T' ∧ k = k' ∧ lo = lo' ∧ up = up')) :
    gcR h (F_apart [.obj n, .int l, x, x'] h) = .ok .non h := by
  obtain ⟨h1, hh1⟩ : ∃ h1, h1 = h ++ [Ob.lst [x, x']] := ⟨_, rfl⟩
  obtain ⟨h2, hh2⟩ : ∃ h2, h2 = h1 ++ [Ob.ins 1 (gapF g a b v y T k)] := ⟨_, rfl⟩
  obtain ⟨h3, hh3⟩ : ∃ h3, h3 = h2 ++ [Ob.ins 1 (gapF g a b v y T' k')] := ⟨_, rfl⟩
  have nl := hlt d.dr.at_
  have d1 : Dq h1 n g a b := d.keep (by rw [hh1]; exact happ nl)
  have d2 : Dq h2 n g a b := d1.keep (by rw [hh2]; exact happ (hlt d1.dr.at_))
  have d3 : Dq h3 n g a b := d2.keep (by rw [hh3]; exact happ (hlt d2.dr.at_))
  have g1 := A.gap h1 d1
  have g2 := A'.gap h2 d2
  rw [← hh2] at g1
  rw [← hh3] at g2
  have g1' : gcR (h1 ++ [.ins 1 []]) (F_Gap_init [.obj (List.length h1), .obj n, .int l, x] (h1 ++ [.ins 1 []])) = .ok .non h2 := by rw [g1, gc_len (by rw [hh2]; simp)]
  have g2' : gcR (h2 ++ [.ins 1 []]) (F_Gap_init [.obj (List.length h2), .obj n, .int l, x'] (h2 ++ [.ins 1 []])) = .ok .non h3 := by rw [g2, gc_len (by rw [hh3]; simp)]
  have a1 : h3[List.length h1]? = some (.ins 1 (gapF g a b v y T k)) := by rw [hh3, happ (by rw [hh2]; simp), hh2]; exact hnew
  have a2 : h3[List.length h2]? = some (.ins 1 (gapF g a b v y T' k')) := by rw [hh3]; exact hnew
  have p1 := A.pl h3 _ d3 a1
  have er1 := roll_ck d R [x, x'] (fun z hz => by
    simp only [List.mem_cons, List.not_mem_nil, or_false] at hz
    rcases hz with rfl | rfl
    · exact A.ck
    · exact A'.ck) (H := h1) (j := List.length h) (by rw [hh1]; exact hnew)
  have gp : ∀ (H : Hm) (lo up : Option (Int × Int)), gcR H (.ok (ppD lo up) H) = .ok (ppD lo up) H := fun H lo up => gc_same ppD_low
  have ne : x ≠ x' := fun e => by
    subst e
    have hl : gapF g a b v y T k = gapF g a b v y T' k' := by
      have q1 := A.gap h d
      rw [A'.gap h d] at q1
      injection q1 with _ q
      have := List.append_cancel_left q
      simpa using this.symm
    have t1 : T = T' := by unfold gapF at hl; simp at hl; exact hl.1
    have t2 : k = k' := by unfold gapF at hl; simp at hl; exact hl.2.2.2.2.2.2
    subst t1; subst t2
    have q := A'.pl h3 _ d3 a1
    rw [p1] at q
    injection q with q1
    unfold ppD at q1
    injection q1 with q1
    simp only [List.cons.injEq, and_true] at q1
    have oi : ∀ {o o' : Option (Int × Int)}, oD o = oD o' → o = o' := fun {o o'} e => by
      cases o <;> cases o' <;> simp [oD] at e ⊢
      exact Prod.ext e.1 e.2
    exact c ⟨rfl, rfl, oi q1.1, oi q1.2⟩
  obtain ⟨c1, s1, rfl⟩ := A.fc
  obtain ⟨c2, s2, rfl⟩ := A'.fc
  have ee : dEq (.tup [.int c1, .str (sdS s1)]) (.tup [.int c2, .str (sdS s2)]) h1 = .ok (.bl false) h1 := faces_ne ne
  have gd : Good (b_apart (envOf 6 [.obj n, .int l, .tup [.int c1, .str (sdS s1)], .tup [.int c2, .str (sdS s2)]]) h) (fun _ _ => False) (fun d h' => d = .non ∧ h' = h3) := by
    unfold b_apart
    refine wp_seq (wp_drop (d := .non) (h1 := h1) (by simp_arith [sz2, ← hh1, er1, gc_non]) ?_)
    refine wp_seq (wp_skip (h1 := h1) (by simp_arith [ee]) ?_)
    refine wp_seq (wp_set (d := .obj (List.length h1)) (h1 := h2) (by simp_arith [g1']) ?_)
    refine wp_seq (wp_set (d := .obj (List.length h2)) (h1 := h3) (by simp_arith [g2']) ?_)
    refine wp_seq (wp_if (b := true) (h1 := h3) ?_ (fun _ => wp_ret (d := .non) (h1 := h3) (by simp_arith []) ⟨rfl, rfl⟩) (fun z => by cases z))
    have a1' := a1
    have a2' := a2
    unfold gapF at a1' a2'
    by_cases t : T = T'
    · subst t
      by_cases u : k = k'
      · subst u
        have p2 := A'.pl h3 _ d3 a1
        have cc : ¬ (lo = lo' ∧ up = up') := fun e => c ⟨rfl, rfl, e.1, e.2⟩
        simp_arith [a1', a2', dNe_int, eq_self, p1, p2, gp, dNe_ppD, cc]
      · simp_arith [a1', a2', dNe_int, eq_self, u]
    · simp_arith [a1', a2', dNe_int, t]
  obtain ⟨d', h', e, rfl, rfl⟩ := fn_good (n := 6) (Q := fun d h' => d = .non ∧ h' = h3) (Good.imp gd (fun _ _ z => z.elim) (fun _ _ z => z))
  have e' : F_apart [.obj n, .int l, .tup [.int c1, .str (sdS s1)], .tup [.int c2, .str (sdS s2)]] h = .ok .non (h ++ ([Ob.lst [.tup [.int c1, .str (sdS s1)], .tup [.int c2, .str (sdS s2)]]] ++ [Ob.ins 1 (gapF g a b v y T k)] ++ [Ob.ins 1 (gapF g a b v y T' k')])) := by
    rw [← List.append_assoc, ← List.append_assoc, ← hh1, ← hh2, ← hh3]
    exact e
  rw [e', gc_keep rfl]
theorem Dq.lst (d : Dq h n g a b) (x : Ob) : Dq (h ++ [x]) n g a b := d.keep (happ (hlt d.dr.at_))
inductive Af (h : Hm) (n : Nat) (g a b v y l : Int) (x : D) : Prop
  | pc (T k : Int) (s : Bool) (w : Int) (e : x = fcD g a b T k s w) (sc : Sc h n g a b v y l T k) (i : InP (wd a b T) (wd a b (T + 1)) (lenM a b v y T k) s w)
  | in0 (k w : Int) (e : x = .tup [.int (cel g a b 0 k w), .str "in"]) (k0 : 0 ≤ k) (k1 : k < g) (w0 : 0 ≤ w) (w1 : w < wd a b 0) (cl : cel g a b 0 k w < l)
  | out (T k w : Int) (e : x = .tup [.int (cel g a b T k w), .str "out"]) (k0 : 0 ≤ k) (k1 : k < g) (T0 : 0 ≤ T) (bT : bd 80 T) (w0 : 0 ≤ w) (w1 : w < wd a b T) (cl : cel g a b T k w < l) (q : cdiv (lenM a b v y T k * wd a b T) (wd a b (T + 1)) ≤ w)
theorem Af.an (d : Dq h n g a b) (R : Rl g a b v y l) (A : Af h n g a b v y l x) : ∃ T k lo up, An n g a b v y l x T k lo up ∧
    ((∃ s w, x = fcD g a b T k s w ∧ Sc h n g a b v y l T k ∧ InP (wd a b T) (wd a b (T + 1)) (lenM a b v y T k) s w ∧ lo = some (k * wd a b T, k * wd a b T + (cdiv (lenM a b v y T k * wd a b T) (wd a b (T + 1)) - 1)) ∧ up = some (k * wd a b (T + 1), k * wd a b (T + 1) + lenM a b v y T k - 1)) ∨ (lo = none ∧ ∃ p, up = some (p, p) ∧ x = .tup [.int (beg (g * a) (g * b) 0 + p), .str "in"]) ∨ (up = none ∧ ∃ p, lo = some (p, p) ∧ x = .tup [.int (beg (g * a) (g * b) T + p), .str "out"])) := by
  cases A with
  | pc T k s w e sc i => subst e; exact ⟨T, k, _, _, an_pc sc i, Or.inl ⟨s, w, rfl, sc, i, rfl, rfl⟩⟩
  | in0 k w e k0 k1 w0 w1 cl => subst e; exact ⟨_, _, _, _, an_in0 d R k0 k1 w0 w1 cl, Or.inr (Or.inl ⟨rfl, _, rfl, rfl⟩)⟩
  | out T k w e k0 k1 T0 bT w0 w1 cl q => subst e; exact ⟨_, _, _, _, an_out d R k0 k1 T0 (bd_mono bT (by decide)) w0 w1 cl q, Or.inr (Or.inr ⟨rfl, _, rfl, rfl⟩)⟩
theorem Af.keep {h' : Hm} (A : Af h n g a b v y l x) (e : h'[n]? = h[n]?) : Af h' n g a b v y l x := by
  cases A with
  | pc T k s w e' sc i => exact .pc T k s w e' (sc.keep e) i
  | in0 k w e k0 k1 w0 w1 cl => exact .in0 k w e k0 k1 w0 w1 cl
  | out T k w e k0 k1 T0 bT w0 w1 cl q => exact .out T k w e k0 k1 T0 bT w0 w1 cl q
theorem Af.apart (d : Dq h n g a b) (R : Rl g a b v y l) (A : Af h n g a b v y l x) (sc : Sc h n g a b v y l T k) :
    (∃ s w, x = fcD g a b T k s w ∧ InP (wd a b T) (wd a b (T + 1)) (lenM a b v y T k) s w) ∨
    ∀ s w, InP (wd a b T) (wd a b (T + 1)) (lenM a b v y T k) s w → ∀ H, Dq H n g a b → gcR H (F_apart [.obj n, .int l, x, fcD g a b T k s w] H) = .ok .non H ∧ gcR H (F_apart [.obj n, .int l, fcD g a b T k s w, x] H) = .ok .non H := by
  obtain ⟨T', k', lo, up, an, c⟩ := A.an d R
  by_cases q : T' = T ∧ k' = k ∧ lo ≠ none ∧ up ≠ none
  · obtain ⟨rfl, rfl, q1, q2⟩ := q
    rcases c with ⟨s, w, e, _, i, _⟩ | ⟨c, _⟩ | ⟨c, _⟩
    · exact Or.inl ⟨s, w, e, i⟩
    · exact (q1 c).elim
    · exact (q2 c).elim
  · refine Or.inr fun s w i H dH => ?_
    have ap := an_pc sc i
    refine ⟨apart_non dH R an ap fun z => q ⟨z.1, z.2.1, ?_, ?_⟩, apart_non dH R ap an fun z => q ⟨z.1.symm, z.2.1.symm, ?_, ?_⟩⟩
    · rw [z.2.2.1]; simp
    · rw [z.2.2.2]; simp
    · rw [← z.2.2.1]; simp
    · rw [← z.2.2.2]; simp
end
end Sh
end
section
open PySem L2 Wm
namespace Sh
open PySem L2 Wm
section
variable {h : Hm} {n : Nat} {g a b v y l T k w : Int}
theorem drawn_ok {m j : Nat} (sr : Src h m j) (hj : j < 400) (sc : Sc h n g a b v y l T k) :
    ∃ (s : Bool) (x : Int) (h' : Hm), gcR h (F_law_drawn [.obj m, lowD g a b v y T k, upD g a b v y T k] h) = .ok (fcD g a b T k s x) h' ∧ Dw m (j + 8) h h' ∧ InP (wd a b T) (wd a b (T + 1)) (lenM a b v y T k) s x := by
  obtain ⟨E1, Z1, ML, WE⟩ := E_pos sc
  have M1 := sc.M1
  have W1 := sec_W1 (E := wd a b T) (Z := wd a b (T + 1)) (M := lenM a b v y T k) E1 (by omega) (by omega)
  obtain ⟨LL, hLL⟩ : ∃ LL : Ob, LL = .lst [.tup [lowD g a b v y T k, .str "out"], .tup [upD g a b v y T k, .str "in"]] := ⟨_, rfl⟩
  obtain ⟨r, h1, r0, r1, e1, w1⟩ := Src.nx (h := h ++ [LL]) sr.app 2 (by omega) (by decide) (by unfold bd; decide)
  have l1 : h1[List.length h]? = some LL := (w1.hk.at_ _ (hlt hnew) (Nat.ne_of_gt sr.lt)).trans hnew
  obtain ⟨s, N, eN, N1, ix⟩ : ∃ (s : Bool) (N : Int), (N = if s then lenM a b v y T k else cdiv (lenM a b v y T k * wd a b T) (wd a b (T + 1))) ∧ 1 ≤ N ∧
      atI [D.tup [lowD g a b v y T k, .str "out"], .tup [upD g a b v y T k, .str "in"]] r = some (.tup [.tup [.int (fcC g a b T k s 0), .int (fcC g a b T k s (N - 1))], .str (sdS s)]) := by
    have : r = 0 ∨ r = 1 := by omega
    rcases this with z | z
    · exact ⟨false, _, rfl, W1, by rw [z]; rfl⟩
    · exact ⟨true, _, rfl, M1, by rw [z]; rfl⟩
  have cz : fcC g a b T k s (N - 1) - fcC g a b T k s 0 + 1 = N := by unfold fcC cel; split <;> omega
  have cp : ∀ z : Int, fcC g a b T k s 0 + z = fcC g a b T k s z := fun z => by unfold fcC cel; split <;> omega
  obtain ⟨p, h2, p0, p1, e2, w2⟩ := great_ok (many := N) w1.src (by omega) (by omega)
  obtain ⟨q, h3, q0, q1, e3, w3⟩ := great_ok (many := N) w2.src (by omega) (by omega)
  obtain ⟨z, h4, z0, e4, s4, k4, _⟩ := one_n [fcC g a b T k s 0, fcC g a b T k s (N - 1), fcC g a b T k s 0 + p, fcC g a b T k s 0 + q] w3.src (by omega) (by simp) (by simp)
  simp only [List.map_cons, List.map_nil] at e4
  obtain ⟨x, hx, x0, x1⟩ : ∃ x, z = fcC g a b T k s x ∧ 0 ≤ x ∧ x < N := by
    rcases mem4 z0 with rfl | rfl | rfl | rfl
    · exact ⟨0, rfl, by omega, by omega⟩
    · exact ⟨N - 1, rfl, by omega, by omega⟩
    · exact ⟨p, cp p, by omega, by omega⟩
    · exact ⟨q, cp q, by omega, by omega⟩
  have kk : Hk m h h4 := (((Hk.app.trans w1.hk).trans w2.hk).trans w3.hk).trans k4
  obtain ⟨hF, eF, wF⟩ := gc_drop (d := fcD g a b T k s x) kk s4 sr.lt rfl
  refine ⟨s, x, hF, ?_, wF.mono (by omega), x0, ?_⟩
  · rw [← eF]
    refine congrArg (gcR h) ?_
    rw [hLL] at l1 e1
    unfold F_law_drawn b_law_drawn
    simp_arith [sz2, e1, l1, ix, atI1, atI2, cz, e2, e3, sz4, e4]
    rw [hx]; rfl
  · rw [eN] at x1
    cases s
    · exact x1
    · exact x1
theorem lenM_pos {T : Int} (dq : Dq h n g a b) (T0 : 0 ≤ T) (w0 : 0 ≤ w) (q : w < cdiv (lenM a b v y T k * wd a b T) (wd a b (T + 1))) : 0 < lenM a b v y T k := by
  have Z1 := wd_pos dq.a1 dq.b0 (show 0 ≤ T + 1 by omega)
  have E1 := wd_pos dq.a1 dq.b0 T0
  have h1 := (sec_lt (E := wd a b T) (M := lenM a b v y T k) (w := w) (show 0 < wd a b (T + 1) by omega)).mp q
  have h2 := Int.mul_nonneg w0 (show 0 ≤ wd a b (T + 1) by omega)
  by_cases c : 0 < lenM a b v y T k
  · exact c
  · have := Int.mul_nonpos_of_nonpos_of_nonneg (show lenM a b v y T k ≤ 0 by omega) (show 0 ≤ wd a b T by omega)
    omega
theorem aface {m j : Nat} {t : Int} (sr : Src h m j) (hj : j < 1000) (dq : Dq h n g a b) (nm : n ≠ m) (f2 : g * a < 1000000000000000) (s2 : g * b < 1000000000000000) (t1 : 1 ≤ t) (t2 : t < 10001000) (y1 : 1 ≤ y) (y2 : y ≤ g * a + t * (g * b)) (hl : l = beg (g * a) (g * b) t + y) :
    ∃ (x : D) (h' : Hm), gcR h (F_law_face [.obj m, .int (g * a), .int (g * b), .tup [.int t, .int y, .int l]] h) = .ok x h' ∧ Dw m (j + 9) h h' ∧ Dq h' n g a b ∧ Af h' n g a b t y l x := by
  obtain ⟨u, p, sd, h', ef, w', u0, ut, p0, p1, pu, hsd⟩ := face_ok (l := l) sr hj dq.dr.f1 f2 dq.dr.s0 s2 t1 t2 y1 y2
  have d' : Dq h' n g a b := dq.keep (w'.hk.at_ n (hlt dq.dr.at_) nm)
  refine ⟨_, h', ef, w', d', ?_⟩
  have g1 := dq.g1
  rw [gwd] at p1
  have y2' : y ≤ g * wd a b t := by rw [gwd] at y2; exact y2
  have R : Rl g a b t y l := ⟨hl, y1, y2', by omega, bd_lit (by omega) (by decide)⟩
  have TT := turn_at (f := g * a) (s := g * b) u0 p0 (by rw [gwd]; exact p1)
  obtain ⟨k, w, k0, k1, w0, w1, hc⟩ := cel_of g1 dq.a1 dq.b0 TT
  have cl : cel g a b u k w < l := by
    rw [← hc, hl]
    by_cases e : u = t
    · have := pu e
      rw [e]; omega
    · have hi := TT.hi
      have := beg_mono dq.dr.f1 dq.dr.s0 (show 0 ≤ u + 1 by omega) (show u + 1 ≤ t by omega)
      omega
  rw [hc]
  have bu : bd 64 u := bd_lit (by omega) (by decide)
  have out : ∀ u, 0 ≤ u → bd 64 u → w < wd a b u → cel g a b u k w < l → Af h' n g a b t y l (.tup [.int (cel g a b u k w), .str "out"]) := fun u u0 bu w1 cl => by
    by_cases q : cdiv (lenM a b t y u k * wd a b u) (wd a b (u + 1)) ≤ w
    · exact .out u k w rfl k0 k1 u0 (bd_mono bu (by decide)) w0 w1 cl q
    · exact .pc u k false w rfl ⟨d', R, k0, k1, u0, bd_mono bu (by decide), lenM_pos d' u0 w0 (by omega)⟩ ⟨w0, by simp only [Bool.false_eq_true, if_false]; omega⟩
  rcases hsd with rfl | rfl
  · by_cases uz : u = 0
    · subst uz
      exact .in0 k w rfl k0 k1 w0 w1 cl
    · obtain ⟨V, rfl⟩ : ∃ V, u = V + 1 := ⟨u - 1, by omega⟩
      have M1 := lenM_in g1 dq.a1 dq.b0 R (show 0 ≤ V + 1 by omega) k0 w0 w1 cl
      have bV : bd 64 V := bd_lit (by omega) (by decide)
      exact .pc V k true w rfl ⟨d', R, k0, k1, by omega, bd_mono bV (by decide), by omega⟩ ⟨w0, by simp only [if_true]; exact M1⟩
  · exact out u u0 bu w1 cl
theorem piece_pc {s : Bool} (sc : Sc h n g a b v y l T k) (i : InP (wd a b T) (wd a b (T + 1)) (lenM a b v y T k) s w) : gcR h (F_piece [.obj n, .int l, fcD g a b T k s w] h) = .ok (.tup [lowD g a b v y T k, upD g a b v y T k]) h := by
  obtain ⟨c0, c1⟩ := fc_lt sc i
  obtain ⟨i0, i1⟩ := i
  obtain ⟨E1, Z1, ML, WE⟩ := E_pos sc
  unfold fcD fcC at *
  cases s
  · simp only [Bool.false_eq_true, if_false] at i1 c1 ⊢
    have po := piece_out sc.d sc.R sc.k0 sc.k1 sc.T0 (bd_mono sc.bT (by decide)) i0 (by omega) c1
    rw [if_neg (by omega)] at po
    exact po
  · simp only [if_true] at i1 c1 ⊢
    exact piece_in sc.d sc.R sc.k0 sc.k1 sc.T0 (bd_mono sc.bT (by decide)) i0 (by omega) c1
def Afp (h : Hm) (n : Nat) (g a b v y l : Int) (x : D) : Prop := ∃ T k s w, x = fcD g a b T k s w ∧ Sc h n g a b v y l T k ∧ InP (wd a b T) (wd a b (T + 1)) (lenM a b v y T k) s w
theorem Af.lone_piece (d : Dq h n g a b) (R : Rl g a b v y l) {x : D} (A : Af h n g a b v y l x) (al : ¬ Afp h n g a b v y l x) :
    ∃ lo up, (lo = .non ∨ up = .non ∧ ∃ p, lo = .tup p) ∧ ((∃ c : Int, x = .tup [.int c, .str "in"] ∧ lo = .non ∧ up = .tup [.int c, .int c]) ∨ (∃ c : Int, x = .tup [.int c, .str "out"] ∧ lo = .tup [.int c, .int c] ∧ up = .non)) ∧ gcR h (F_piece [.obj n, .int l, x] h) = .ok (.tup [lo, up]) h := by
  cases A with
  | pc T k s w e sc i => exact (al ⟨T, k, s, w, e, sc, i⟩).elim
  | in0 k w e k0 k1 w0 w1 cl => subst e; exact ⟨_, _, Or.inl rfl, Or.inl ⟨_, rfl, rfl, rfl⟩, piece_in0 d R k0 k1 w0 w1 cl⟩
  | out T k w e k0 k1 T0 bT w0 w1 cl q =>
    subst e
    have po := piece_out d R k0 k1 T0 (bd_mono bT (by decide)) w0 w1 cl
    rw [if_pos q] at po
    exact ⟨_, _, Or.inr ⟨rfl, _, rfl⟩, Or.inr ⟨_, rfl, rfl, rfl⟩, po⟩
theorem Afp.keep {h' : Hm} {x : D} (e : h'[n]? = h[n]?) (al : Afp h n g a b v y l x) : Afp h' n g a b v y l x := by
  obtain ⟨T, k, s, w, e1, sc, i⟩ := al
  exact ⟨T, k, s, w, e1, sc.keep e, i⟩
theorem Af.mv (d : Dq h n g a b) {x : D} (A : Af h n g a b v y l x) {H : Hm} (dH : Dq H n g a b) : Af H n g a b v y l x := by
  cases A with
  | pc T k s w e sc i => exact .pc T k s w e { sc with d := dH } i
  | in0 k w e k0 k1 w0 w1 cl => exact .in0 k w e k0 k1 w0 w1 cl
  | out T k w e k0 k1 T0 bT w0 w1 cl q => exact .out T k w e k0 k1 T0 bT w0 w1 cl q
theorem Af.ck (d : Dq h n g a b) (R : Rl g a b v y l) {x : D} (A : Af h n g a b v y l x) : ∀ H, F_check_face [.int l, x] H = .ok .non H := by
  obtain ⟨_, _, _, _, an, _⟩ := A.an d R
  exact an.ck
theorem Af.tup (d : Dq h n g a b) (R : Rl g a b v y l) {x : D} (A : Af h n g a b v y l x) : ∃ c s, x = .tup [.int c, .str (sdS s)] := by
  obtain ⟨_, _, _, _, an, _⟩ := A.an d R
  exact an.fc
theorem Af.self (d : Dq h n g a b) (R : Rl g a b v y l) {x : D} (A : Af h n g a b v y l x) : gcR h (F_apart [.obj n, .int l, x, x] h) = .ok (.int 0) h := by
  have c1 := roll_ck d R [x, x] (fun z hz => by
    simp only [List.mem_cons, List.not_mem_nil, or_false, or_self] at hz
    subst hz; exact A.ck d R) (H := h ++ [Ob.lst [x, x]]) (j := List.length h) hnew
  obtain ⟨c, s, rfl⟩ := A.tup d R
  have ee : ∀ H : Hm, dEq (.tup [.int c, .str (sdS s)]) (.tup [.int c, .str (sdS s)]) H = .ok (.bl true) H := fun H => by rw [dEq_face]; simp
  have e : F_apart [.obj n, .int l, .tup [.int c, .str (sdS s)], .tup [.int c, .str (sdS s)]] h = .ok (.int 0) (h ++ [Ob.lst [.tup [.int c, .str (sdS s)], .tup [.int c, .str (sdS s)]]]) := by
    unfold F_apart b_apart
    simp_arith [sz2, c1, gc_non, ee]
  rw [e, gc_keep rfl]
end
end Sh
end
section
namespace Wm
open PySem PySem.Spec PyProof.Rows L2
open PySem.W (dataLe AllAlike Sortable EachIs sorted_data readsAll_each dataLt)
open C8 (InsC call_isC)
section
variable {cs : Cs} {X : Cx} {E : XK} {a : Expr} {fa : Env → Hm → R D} {ci : Nat} {x : Str} {p q pos : Pos}
end
section
variable {X : Cx} {CX : CXT} {n : Nat} {f C : Addr} {fd : FuncData} {ps : List Str} {sp : Sp} {E : XK}
variable {cs : Cs} {F : FS} {ci : Nat}
end
def pyD (d : D) : PyData := (D.py d).getD .none
def srtD (xs : List D) : List D := xs.mergeSort (dataLe false pyD)
def SrtOk (xs : List D) : Prop := ∃ ds, pys xs = some ds ∧ AllAlike ds ∧ Sortable ds ∧ ∀ d ∈ ds, d.depth ≤ 60
theorem pys_map : ∀ {xs : List D} {ds : List PyData}, pys xs = some ds → ds = xs.map pyD
  | [], ds, e => by simp only [pys] at e; cases e; rfl
  | x :: xs, ds, e => by
    simp only [pys] at e
    cases e1 : D.py x with
    | none => rw [e1] at e; simp at e
    | some p =>
      cases e2 : pys xs with
      | none => rw [e1, e2] at e; simp at e
      | some ps =>
        rw [e1, e2] at e
        simp at e
        subst e
        rw [List.map_cons, ← pys_map e2]
        unfold pyD; rw [e1]; rfl
section
variable {X : Cx} {K : PySem.W.Frag} {rho : List Addr} {H : Hp}
theorem each_of {its : List Value} : ∀ {ys : List V} {xs : List D}, Vals ys its → RVs K rho H xs ys → EachIs (fun u d => ∃ y, RelV y u ∧ RV K rho H d y) its xs := by
  induction its with
  | nil =>
    intro ys xs r r2
    cases r
    cases xs with
    | nil => exact .nil
    | cons x xs => simp only [RVs] at r2; obtain ⟨_, _, e, _⟩ := r2; cases e
  | cons u its ih =>
    intro ys xs r r2
    cases r with
    | cons r1 rr =>
      cases xs with
      | nil => simp only [RVs] at r2; cases r2
      | cons x xs =>
        simp only [RVs] at r2
        obtain ⟨v, vs, e, rv, rvs⟩ := r2
        cases e
        exact .cons ⟨_, r1, rv⟩ (ih rr rvs)
theorem of_each : ∀ {out : List Value} {xs : List D}, EachIs (fun u d => ∃ y, RelV y u ∧ RV K rho H d y) out xs → ∃ zs, Vals zs out ∧ RVs K rho H xs zs
  | _, _, .nil => ⟨[], .nil, RVs.nil⟩
  | _, _, .cons ⟨y, r1, r2⟩ r => by
    obtain ⟨zs, q1, q2⟩ := of_each r
    exact ⟨y :: zs, .cons r1 q1, RVs.cons r2 q2⟩
variable {cs : Cs} {E : XK}
end
section
variable {cs : Cs} {X : Cx} {E : XK} {a : Expr} {fa : Env → Hm → R D} {p pos tpos : Pos} {elts : List Expr} {kk : Nat}
end
end Wm
namespace Wm
open PySem PySem.Spec PyProof.Rows L2
section
variable {P : Program} {w : World} {K : PySem.W.Frag} {mg : Str → Option Value} {base : Heap} {cs : Cs} {CX : CXT} {k : Nat} {f : Addr} {fd : FuncData} {ps : List Str} {n : Nat}
end
section
variable {cs : Cs} {X : Cx} {E : XK} {a b : Expr} {fa fb : Env → Hm → R D} {pos : Pos}
end
end Wm
namespace Wm
open PySem PySem.Spec PyProof.Rows L2
section
variable {K : PySem.W.Frag} {cs : Cs} {E : XK}
end
end Wm
end
section
namespace Sh
open PySem L2 Wm
end Sh
end
section
open PySem L2 Wm
namespace Sh
open PySem L2 Wm
def bet (l0 l1 : Int) (li : Bool) (h0 h1 : Int) (hi : Bool) (t b : Int) : Prop :=
  (if li then l0 * b ≤ t * l1 else l0 * b < t * l1) ∧ (if hi then t * h1 ≤ h0 * b else t * h1 < h0 * b)
structure Lb (l0 l1 : Int) (li : Bool) (h0 h1 : Int) (hi : Bool) (t b : Int) : Prop where
  b1 : 1 ≤ b
  t0 : 0 ≤ t
  isb : bet l0 l1 li h0 h1 hi t b
  mn : ∀ t' b', 1 ≤ b' → bet l0 l1 li h0 h1 hi t' b' → b ≤ b' ∧ t ≤ t'
structure Fr2 (l0 l1 h0 h1 : Int) : Prop where
  l00 : 0 ≤ l0
  l11 : 1 ≤ l1
  h11 : 1 ≤ h1
  lt : l0 * h1 < h0 * l1
section
variable {l0 l1 h0 h1 : Int} {li hi : Bool}
end
end Sh
end
section
open PySem L2 Wm
namespace Sh
open PySem L2 Wm
def oth (f s t p : Int) : Prop := p * f / (f + s) ≠ p * f / (f + t) ∨ cdiv ((p + 1) * f) (f + s) ≠ cdiv ((p + 1) * f) (f + t)
structure IsPl (f s t p : Int) : Prop where
  p0 : 0 ≤ p
  ps : p ≤ f + s
  ot : p < f + s → oth f s t p
  mn : ∀ q, 0 ≤ q → q < p → ¬ oth f s t q
section
variable {h : Hm} {n m : Nat} {f s f' s' : Int}
def PtD (f s f' s' : Int) (d : D) : Prop := (f = f' ∧ s = s' ∧ d = .non) ∨ (f ≠ f' ∧ d = .int (if f' < f then f' else f)) ∨ (f = f' ∧ s < s' ∧ ∃ p, IsPl f s s' p ∧ d = .int (f + p)) ∨ (f = f' ∧ s' < s ∧ ∃ p, IsPl f s' s p ∧ d = .int (f + p))
end
end Sh
end
section
namespace Wm
open PySem PySem.Spec PyProof.Rows L2
section
variable {K : PySem.W.Frag} {cs : Cs} {E : XK} {rho : List Addr} {H : Hp} {h : Hm}
end
end Wm
end
section
namespace Sh
open PySem L2 Wm
end Sh
end
section
open PySem L2 Wm
namespace Sh
open PySem L2 Wm
inductive CV where
  | c (j : Int)
  | l (js : List Int)
deriving DecidableEq
def Rp (h : Hm) (m : Nat) : D → CV → Prop
  | .int i, .c j => i = j
  | .obj n, .l js => m < n ∧ h[n]? = some (.lst (js.map .int))
  | _, _ => False
def RpL (h : Hm) (m : Nat) : List D → List CV → Prop
  | [], [] => True
  | d :: ds, v :: vs => Rp h m d v ∧ RpL h m ds vs
  | _, _ => False
theorem Rp.mono {h h' : Hm} {m : Nat} (k : ∀ n o, m < n → h[n]? = some o → h'[n]? = some o) : ∀ {d : D} {v : CV}, Rp h m d v → Rp h' m d v
  | .int i, .c j, r => r
  | .obj n, .l js, r => ⟨r.1, k _ _ r.1 r.2⟩
  | .non, .c _, r => r.elim
  | .bl _, .c _, r => r.elim
  | .str _, .c _, r => r.elim
  | .tup _, .c _, r => r.elim
  | .obj _, .c _, r => r.elim
  | .non, .l _, r => r.elim
  | .bl _, .l _, r => r.elim
  | .str _, .l _, r => r.elim
  | .tup _, .l _, r => r.elim
  | .int _, .l _, r => r.elim
theorem RpL.mono {h h' : Hm} {m : Nat} (k : ∀ n o, m < n → h[n]? = some o → h'[n]? = some o) : ∀ {ds : List D} {vs : List CV}, RpL h m ds vs → RpL h' m ds vs
  | [], [], _ => trivial
  | _ :: _, _ :: _, r => ⟨Rp.mono k r.1, RpL.mono k r.2⟩
  | [], _ :: _, r => r.elim
  | _ :: _, [], r => r.elim
theorem RpL.len {h : Hm} {m : Nat} : ∀ {ds : List D} {vs : List CV}, RpL h m ds vs → ds.length = vs.length
  | [], [], _ => rfl
  | _ :: _, _ :: _, r => by simp [RpL.len r.2]
  | [], _ :: _, r => r.elim
  | _ :: _, [], r => r.elim
theorem RpL.take {h : Hm} {m : Nat} : ∀ (k : Nat) {ds : List D} {vs : List CV}, RpL h m ds vs → RpL h m (ds.take k) (vs.take k)
  | 0, _, _, _ => by simp [RpL]
  | _ + 1, [], [], _ => by simp [RpL]
  | k + 1, _ :: _, _ :: _, r => ⟨r.1, RpL.take k r.2⟩
  | _ + 1, [], _ :: _, r => r.elim
  | _ + 1, _ :: _, [], r => r.elim
theorem RpL.get {h : Hm} {m : Nat} : ∀ {i : Nat} {ds : List D} {vs : List CV} {v : CV}, RpL h m ds vs → vs[i]? = some v → ∃ d, ds[i]? = some d ∧ Rp h m d v
  | _, [], [], _, _, e => by simp at e
  | 0, d :: _, _ :: _, _, r, e => by simp at e; subst e; exact ⟨d, by simp, r.1⟩
  | i + 1, _ :: _, _ :: _, _, r, e => by simp only [List.getElem?_cons_succ] at e ⊢; exact RpL.get r.2 e
  | _, [], _ :: _, _, r, _ => r.elim
  | _, _ :: _, [], _, r, _ => r.elim
def unL (b z y p : Int) : List Int := ((List.range y.toNat).filter fun q : Nat => decide (p * y < ((q : Int) + 1) * z) && decide ((q : Int) * z < (p + 1) * y)).map fun q : Nat => b - y + (q : Int)
def uvR (f s j : Int) (v : CV) : Prop := ∃ t, IsTurn f s j t ∧ v = if t = 0 then CV.c j else CV.l (unL (beg f s t) (f + t * s) (f + t * s - s) (j - beg f s t))
end Sh
end
section
open PySem L2 Wm
namespace Sh
open PySem L2 Wm
def UL (m : Nat) (h : Hm) (n : Nat) (vs : List CV) : Prop := m < n ∧ ∃ ds, h[n]? = some (.lst ds) ∧ RpL h m ds vs
theorem UL.keep {m n : Nat} {h h' : Hm} {vs : List CV} (A : UL m h n vs) (k : Hk m h h') : UL m h' n vs := by
  obtain ⟨l, ds, e, r⟩ := A
  have kk : ∀ i o, m < i → h[i]? = some o → h'[i]? = some o := fun i o li e => (k.at_ i (hlt e) (by omega)).trans e
  exact ⟨l, ds, kk _ _ l e, r.mono kk⟩
theorem UL.at_ {m n : Nat} {h : Hm} {vs : List CV} (A : UL m h n vs) : ∃ ds, h[n]? = some (.lst ds) ∧ RpL h m ds vs := A.2
section
variable {f s f' s' : Int}
structure Fd (f s f' s' d : Int) : Prop where
  d1 : 1 ≤ d
  eq : ∀ j v w, 0 ≤ j → j < d → uvR f s j v → uvR f' s' j w → v = w
  ne : ∀ v w, uvR f s d v → uvR f' s' d w → v ≠ w
theorem Fd.symm {d : Int} (a : Fd f s f' s' d) : Fd f' s' f s d := ⟨a.d1, fun j v w j0 j1 u u' => (a.eq j w v j0 j1 u' u).symm, fun v w u u' => (a.ne w v u' u).symm⟩
theorem PtD.symm {x : D} (a : PtD f s f' s' x) : PtD f' s' f s x := by
  rcases a with ⟨rfl, rfl, rfl⟩ | ⟨a1, rfl⟩ | ⟨rfl, a2, p, P, rfl⟩ | ⟨rfl, a2, p, P, rfl⟩
  · exact Or.inl ⟨rfl, rfl, rfl⟩
  · refine Or.inr (Or.inl ⟨fun z => a1 z.symm, ?_⟩)
    congr 1
    split <;> split <;> omega
  · exact Or.inr (Or.inr (Or.inr ⟨rfl, a2, p, P, rfl⟩))
  · exact Or.inr (Or.inr (Or.inl ⟨rfl, a2, p, P, rfl⟩))
end
end Sh
end
section
namespace Wm
open PySem PySem.Spec PyProof.Rows L2
section
variable {cs : Cs} {X : Cx} {E : XK} {tg iter tg1 iter1 : Expr} {pos : Pos} {ws ws1 : List Nat}
end
section
variable {K : PySem.W.Frag} {cs : Cs} {E : XK} {rho : List Addr} {H : Hp}
end
end Wm
end
section
namespace Sh
open PySem L2 Wm
end Sh
end
section
open PySem L2 Wm
namespace Sh
open PySem L2 Wm
end Sh
end
section
open PySem L2 Wm
namespace Sh
open PySem L2 Wm
theorem atI_nat {xs : List D} {i : Nat} (l : i < xs.length) : atI xs (i : Int) = xs[i]? := by
  unfold atI
  have e : ixN xs.length (i : Int) = some i := by
    unfold ixN
    rw [if_pos (by omega), if_pos (by omega)]
    simp
  rw [e]; rfl
open Classical in
noncomputable def pv (f s f' s' : Int) : D := if h : ∃ x, PtD f s f' s' x then h.choose else .non
end Sh
end
section
namespace PySem
namespace WetX
open PySem.W PySem.Calls PyProof.Rows PySem.HandSPX
abbrev aeMro : List Value := [.type "ArithmeticError", .type "Exception", .type "BaseException", .type "object"]
section
open Builtin Builtin.ObjectAttr
variable {prog : Program} {w : World} {A : Around} {R : Result → Shared → Prop} {hp : Heap} {g : Array GenState} {d : Drawn} {t : Nat} {os : OsState}
theorem field_one {K : W.Frag} {nm : Str} {tok : Tok} {val : Value} {e C : Addr} {arr : Array Value} {cls : ClassData} (kin : K.In hp) (at_e : hp.get? e = some { cls := .ref C, data := .fields arr })
    (hcls : W.clsIn K C = some cls) (over : W.excOver K C aeMro = true) (dic : cls.hasDict = true) (tkr : W.takerIn K C nm = some none)
    (post : ∀ h2 tk2 dx, (∀ b o, b ≠ e → hp.get? b = some o → h2.get? b = some o) → hp.objs.size ≤ dx → dx ≠ e → h2.get? e = some { cls := .ref C, dict := some dx, data := .fields arr } →
      h2.Ns1 dx (fun y => if y = nm then some val else none) → R (.ok (.ret .none)) ⟨h2, g, d, tk2, os⟩) :
    codeAny (model prog w) A (.call (.builtin "object.__setattr__") ⟨[.ref e, .str nm tok, val], []⟩) R ⟨hp, g, d, t, os⟩ := by
  have inst : W.InstAt hp e { cls := .ref C, data := .fields arr } C none := ⟨at_e, rfl, rfl, trivial⟩
  have data : W.Looks (model prog w) hp (classData C) cls := W.looks_clsIn kin hcls
  refine W.osa_openX (od := none) F.store_ArithmeticError kin inst over tkr fun b => ?_
  have far : e ≠ hp.objs.size := Nat.ne_of_lt (Heap.lt_size at_e)
  obtain ⟨c1, c2, c3, c4, c5, hd, c7, c8, c9, c10, c11⟩ := cls
  dsimp only at dic
  subst dic
  show wpAny _ _ (storeInOwnDict (.ref e) (.ref C) (.str nm tok) nm val b) _ _ _
  unfold storeInOwnDict ownDictForStores
  repeat (first | with_reducible refine HandSPX.store_in_new ?_ ?_ | with_reducible refine wpAny_loadPart_at at_e ?_ | with_reducible refine data.at ?_ | wp_step)
  · exact ⟨_, #[], _, (Heap.get?_update_ne _ _ _ _ (Ne.symm far)).trans (Heap.get?_push_at rfl rfl), rfl, fun q hq => absurd hq (by simp), fun _ => rfl⟩
  · intro h2 tk2 ns2 same
    have grown : (hp.push { cls := .type "dict", data := .dict #[] }).get? e = some { cls := .ref C, data := .fields arr } := Heap.get?_push_of_some _ at_e
    refine post h2 tk2 hp.objs.size (fun c o hc ho => ?_) (Nat.le_refl _) (Ne.symm far) ?_ ns2
    · have k1 := same.2 c (Nat.ne_of_lt (Heap.lt_size ho))
      exact k1.trans ((Heap.get?_update_ne _ _ _ _ hc).trans (Heap.get?_push_of_some _ ho))
    · exact (same.2 e far).trans (Heap.get?_update_self _ grown rfl)
theorem field_more {K : W.Frag} {nm : Str} {tok : Tok} {val : Value} {e C dx : Addr} {arr : Array Value} {cls : ClassData} {m0 : Str → Option Value} {names : List Str} (kin : K.In hp) (at_e : hp.get? e = some { cls := .ref C, dict := some dx, data := .fields arr })
    (ns0 : hp.Ns1 dx m0) (win : Within m0 names) (few : names.length ≤ 1000) (hcls : W.clsIn K C = some cls) (over : W.excOver K C aeMro = true) (dic : cls.hasDict = true) (tkr : W.takerIn K C nm = some none)
    (post : ∀ h2 tk2, (∀ b o, b ≠ dx → hp.get? b = some o → h2.get? b = some o) → h2.Ns1 dx (fun y => if y = nm then some val else m0 y) → R (.ok (.ret .none)) ⟨h2, g, d, tk2, os⟩) :
    codeAny (model prog w) A (.call (.builtin "object.__setattr__") ⟨[.ref e, .str nm tok, val], []⟩) R ⟨hp, g, d, t, os⟩ := by
  obtain ⟨od, _, _, at_d, _, _⟩ := ns0.count win
  have inst : W.InstAt hp e { cls := .ref C, dict := some dx, data := .fields arr } C (some od) := ⟨at_e, rfl, rfl, at_d⟩
  have data : W.Looks (model prog w) hp (classData C) cls := W.looks_clsIn kin hcls
  refine W.osa_openX (od := some od) F.store_ArithmeticError kin inst over tkr fun b => ?_
  obtain ⟨c1, c2, c3, c4, c5, hd, c7, c8, c9, c10, c11⟩ := cls
  dsimp only at dic
  subst dic
  show wpAny _ _ (storeInOwnDict (.ref e) (.ref C) (.str nm tok) nm val b) _ _ _
  unfold storeInOwnDict ownDictForStores
  repeat (first | with_reducible refine OEX.store_in_old ns0 win few ?_ | with_reducible refine wpAny_loadPart_at at_e ?_ | with_reducible refine data.at ?_ | wp_step)
  intro h2 tk2 ns2 same
  exact post h2 tk2 (fun c o hc ho => (same.2 c hc).trans ho) ns2
end
end WetX
end PySem
namespace L2
open PySem PySem.Spec PyProof.Rows
open PySem.WetX (aeMro)
structure RefC (K : PySem.W.Frag) (C : Addr) : Prop where
  obj : ∃ nm q N bs bm sn sub ab col dd k0 k1 k2 k3 k5, K.lookup C = some (excClassObj nm q C N bs bm true sn sub ab col dd k0 k1 k2 k3 k5 "ArithmeticError.__new__") ∧ PySem.W.excTail aeMro bm = true
  over : PySem.W.excOver K C aeMro = true
  store : PySem.W.findIn K (.ref C) "__setattr__" = some (some (.builtin "object.__setattr__"))
  isx : PySem.W.subIn K (.ref C) (.type "BaseException") = some true
  ist : PySem.W.typeIn K (.ref C) = some (.type "type")
  keep : PySem.W.keepIn K (.ref C) = true
theorem RefC.data {K : PySem.W.Frag} {C : Addr} (T : RefC K C) : ∃ cd, PySem.W.clsIn K C = some cd ∧ cd.hasDict = true := by
  obtain ⟨nm, q, N, bs, bm, sn, sub, ab, col, dd, k0, k1, k2, k3, k5, look, _⟩ := T.obj
  exact ⟨{ name := nm, bases := bs, mro := .ref C :: bm, ns := N, qualname := q, hasDict := true, slotNames := sn, subclasses := sub, abstract := ab, collection := col, hasDel := false }, by unfold PySem.W.clsIn; rw [look] <;> rfl, rfl⟩
section
variable {X : Cx} {pins : List (Addr × Obj)} {σ : St} {H : Hp} {s : Shared} {z C dz : Addr} {f : Str} {y : V} {u : Value} {fl : List (Str × V)} {Q : Unit → Shared → Prop} {E : Value → Shared → Prop} {A : Around}
theorem put_first (T : RefC X.K C) (I : Inv X pins σ H s) (hz : H z = some (exo z C none)) (tkr : PySem.W.takerIn X.K C f = some none) (ry : RelV y u)
    (next : ∀ d s', H d = none → d ≠ z → Inv X pins σ (upd (upd H d (exd d [(f, y)])) z (exo z C (some d))) s' → Q () s') : wpAny (model X.prog X.w) A (setAttr (.ref z) f u) Q E s := by
  obtain ⟨cd, hcd, dic⟩ := T.data
  obtain ⟨tz, atz⟩ := exo_at I.hok hz
  obtain ⟨hp, gs, dr, tk, os⟩ := s
  refine PySem.W.set_plain I.kIn (ox := { cls := .ref C, dict := none, data := .fields #[.ref tz, .none, .none, .none, .bool false, .none] }) (od := none) ⟨atz, rfl, rfl, trivial⟩ T.store ?_
  refine PySem.WetX.field_one I.kIn atz hcd T.over dic tkr fun h2 tk2 d kp dn dz atz2 nsd => ?_
  have free : H d = none := I.hok.fresh dn
  have old : ∀ {c : Addr} {o : Obj}, hp.get? c = some o → c ≠ d := fun {c o} q => Nat.ne_of_lt (Nat.lt_of_lt_of_le (Heap.lt_size q) dn)
  have notz : ∀ {c : Addr}, H c = none → c ≠ z := fun {c} n w => by
    rw [w, hz] at n
    cases n
  have stay : ∀ {c : Addr} {o : HO}, H c = some o → exo z C none ≠ o → upd (upd H d (exd d [(f, y)])) z (exo z C (some d)) c = some o := fun {c o} q ne => by
    rw [upd_ne (at_ne hz q ne), upd_ne (ne_of_none q free)]
    exact q
  have un : Un X.fs [] H (upd (upd H d (exd d [(f, y)])) z (exo z C (some d))) hp h2 := {
    keep := fun c o q n _ _ => kp c o (notz n) q
    slot := fun c o q n _ _ => ⟨o.slots, kp c o (notz n) q⟩
    free := fun c o q n _ => by
      rw [upd_ne (notz n), upd_ne (old q)]
      exact n
    there := fun c o q _ => by
      by_cases hc : c = z
      · subst hc; exact ⟨_, atz2⟩
      · exact ⟨o, kp c o hc q⟩
    tups := fun c xs q => stay q exo_tup
    frzs := fun c o v q => stay q exo_frz
    tbls := fun c ps q => ⟨#[], by rw [stay q exo_tbl]; simp⟩ }
  refine next d _ free dz (I.un (t' := tk2) un fun c o q => ?_)
  by_cases hc : c = z
  · subst hc
    rw [upd_same] at q
    cases q
    exact exo_ok atz2
  · rw [upd_ne hc] at q
    by_cases hd : c = d
    · subst hd
      rw [upd_same] at q
      cases q
      exact exd_ok nsd (relO_put (fs := []) ry fun _ => True.intro)
    · rw [upd_ne hd] at q
      refine (I.hok c o q).stay (fun c' v hc' w => kp c' v ?_ w) (fun c' hc' => stay hc' exo_own) (fun c' xs hc' => stay hc' exo_tup)
      rcases hc' with rfl | hc'
      · exact hc
      · exact at_ne hz hc' exo_own
theorem put_next (T : RefC X.K C) (I : Inv X pins σ H s) (hz : H z = some (exo z C (some dz))) (hd : H dz = some (exd dz fl)) (few : fl.length ≤ 900) (tkr : PySem.W.takerIn X.K C f = some none) (ry : RelV y u)
    (next : ∀ s', Inv X pins σ (upd H dz (exd dz ((f, y) :: fl))) s' → Q () s') : wpAny (model X.prog X.w) A (setAttr (.ref z) f u) Q E s := by
  obtain ⟨cd, hcd, dic⟩ := T.data
  obtain ⟨tz, atz⟩ := exo_at I.hok hz
  obtain ⟨mA, nsd, rel⟩ := exd_at I.hok hd
  have win := within_of rel
  obtain ⟨hp, gs, dr, tk, os⟩ := s
  obtain ⟨oD, _, _, atd, _, _⟩ := nsd.count win
  refine PySem.W.set_plain I.kIn (ox := { cls := .ref C, dict := some dz, data := .fields #[.ref tz, .none, .none, .none, .bool false, .none] }) (od := some oD) ⟨atz, rfl, rfl, atd⟩ T.store ?_
  refine PySem.WetX.field_more I.kIn atz nsd win (by rw [List.length_map]; omega) hcd T.over dic tkr fun h2 tk2 kp ns2 => ?_
  have there : ∃ o, h2.get? dz = some o := by
    obtain ⟨o, _, _, q, _⟩ := ns2
    exact ⟨o, q⟩
  exact next _ (I.write (t' := tk2) (x := dz) (e := dz) (o := exd dz ((f, y) :: fl)) (by rw [hd]; exact True.intro) (.inl rfl) kp there (exd_ok ns2 (relO_put ry rel)))
theorem base_init {us : List Value} {Q : Value → Shared → Prop} (T : RefC X.K C) (I : Inv X pins σ H s) (hz : H z = some (exo z C none)) (few : us.length ≤ sizeLine) (next : ∀ s', Inv X pins σ H s' → Q .none s') :
    wpAny (model X.prog X.w) A (call (.builtin "ArithmeticError.__init__") (.ref z :: us)) Q E s := by
  obtain ⟨nm, q, N, bs, bm, sn, sub, ab, col, dd, k0, k1, k2, k3, k5, look, tl⟩ := T.obj
  obtain ⟨tz, atz⟩ := exo_at I.hok hz
  obtain ⟨hp, gs, dr, tk, os⟩ := s
  refine wpAny_call (PySem.HandSPX.init_base F.excBase_ArithmeticError (fun Y => PySem.W.excTail_contains Y bm tl) (I.kIn _ _ look) atz few fun h2 t2 kp atz2 => ?_)
  have J := I.write (t' := tk) (x := z) (e := z) (o := exo z C none) (by rw [hz]; exact True.intro) (.inl rfl) kp ⟨_, atz2⟩ (exo_ok atz2)
  have same : upd H z (exo z C none) = H := funext fun c => by
    by_cases hc : c = z
    · rw [hc, upd_same, hz]
    · rw [upd_ne hc]
  rw [same] at J
  exact next _ J
end
end L2
namespace L2
open PySem PySem.Spec PyProof.Rows
def tBaseI (K : PySem.W.Frag) (ta : TA) : TE := fun σ H Q => ta σ H fun vs H1 => ∃ (z C : Addr) (ws : List V), vs = .ref z :: ws ∧ ws.length ≤ 1000 ∧ RefC K C ∧ H1 z = some (exo z C none) ∧ Q .non H1
def tPut (K : PySem.W.Frag) (f : Str) (to te : TE) : TS := fun D σ H => te σ H fun y H1 => to σ H1 fun x H2 => ∃ z C : Addr, x = .ref z ∧ RefC K C ∧ PySem.W.takerIn K C f = some none ∧
  ((H2 z = some (exo z C none) ∧ ∀ d, H2 d = none → d ≠ z → D.nx σ (upd (upd H2 d (exd d [(f, y)])) z (exo z C (some d)))) ∨
    ∃ (d : Addr) (fl : List (Str × V)), H2 z = some (exo z C (some d)) ∧ H2 d = some (exd d fl) ∧ fl.length ≤ 900 ∧ D.nx σ (upd H2 d (exd d ((f, y) :: fl))))
section
variable {X : Cx} {o e : Expr} {es : List Expr} {to te : TE} {ta : TA} {f x : Str} {p p' p1 p2 pos : Pos} {CW : Addr}
theorem ps_put (ho : PE X o to) (he : PE X e te) (hs : swapsWith e (some (.Attribute o f p')) pos.line X.env = pure false := by rfl) : PS X (.Assign [.Attribute o f p'] e pos) (tPut X.K f to te) := by
  constructor
  intro pins s σ H D I h
  refine plainObj_wpAny_Assign_Attribute (thn (he.run pins s σ H _ I h) fun v s1 r => ?_) hs
  obtain ⟨y, H1, I1, ry, q1⟩ := r
  refine thn (ho.run pins s1 σ H1 _ I1 q1) fun w s2 r => ?_
  obtain ⟨x, H2, I2, rx, z, C, ez, T, tkr, q⟩ := r
  subst ez
  obtain rfl : w = Value.ref z := rx
  rcases q with ⟨hz, q⟩ | ⟨d, fl, hz, hd, few, q⟩
  · exact put_first T I2 hz tkr ry fun d s' dn dz J => ⟨σ, _, J, q d dn dz⟩
  · exact put_next T I2 hz hd few tkr ry fun s' J => ⟨σ, _, J, q⟩
theorem pe_baseI {pl : Sem Bool} (hg : Gl X x) (hm : X.mg x = some (.ref CW)) (hr : PySem.W.readsIn X.K CW (.type "type") = true) (hsp : PySem.W.specialIn X.K (.ref CW) "__getattribute__" = some (some (.builtin "type.__getattribute__")))
    (hv : PySem.W.findCls X.K (.ref CW) (.type "type") "__init__" = some (.val (.builtin "ArithmeticError.__init__"))) (ha : PA X (e :: es) ta) (hdb : (x == ("__debug__" : Str)) = false := by decide)
    (hc : eval (.Call (.Attribute (.Name x p1) "__init__" p2) (e :: es) [] pos) X.env = (do
      let ov ← eval (.Name x p1) X.env
      standAt p2.atName
      let (f, first) ← holding [ov] (getMethod ov "__init__" pl)
      callWith pos f first (backTo pos (starEach (e :: es) X.env)) (backToKw pos (keywordEach [] X.env))) := by rfl)
    (he : starEach (e :: es) X.env = (false, eval e X.env) :: starEach es X.env := by rfl) (hpl : (backTo pos (starEach es X.env)).any (·.1) = false := by rfl) :
    PE X (.Call (.Attribute (.Name x p1) "__init__" p2) (e :: es) [] pos) (tBaseI X.K ta) := by
  constructor
  intro pins s σ H Q I h
  refine PySem.W.methodCall_KW (ld_glob I hg hm ?_ hdb) hc
  refine PySem.W.method_cls I.kIn hsp (PySem.W.cls_value I.kIn hr hv (by decide +kernel) ?_)
  refine PyProof.Rows.callWith_method1 (thn (ha.run pos pins _ σ H _ (I.tok _) h) fun us s1 r => ?_) he hpl
  obtain ⟨vs, H1, I1, rv, z, C, ws, ev, few, T, hz, q⟩ := r
  subst ev
  cases rv with
  | @cons _ u0 _ ur ra rw' =>
    obtain rfl : u0 = Value.ref z := ra
    have len : ur.length ≤ sizeLine := by
      rw [← Paired.length rw', sizeLine_eq]
      omega
    exact base_init T I1 hz len fun s' J => ⟨.non, H1, J, rfl, q⟩
end
end L2
namespace L2
open PySem PySem.Spec PyProof.Rows
section
variable {X : Cx} {e : Expr} {es : List Expr} {ta : TA} {p pos : Pos}
theorem pmk_ref {CX : CXT} {x : Str} {C fI : Addr} {k : Nat} {fd : FuncData} {ps : List Str} {sp : Sp} (T : RefC X.K C) (own : PySem.W.findIn X.K (.ref C) "__init__" = some (some (.ref fI))) (isf : PySem.W.typeIn X.K (.ref fI) = some (.type "function"))
    (G : FnOk X.prog X.w X.K X.mg X.base CX k fI fd ps sp) (hr : Room (k + 1) X.A) (hb : Binds X.K fd ps []) (hx : Passes CX X (fun _ _ _ => False)) (hg : Gl X x) (hm : X.mg x = some (.ref C)) (ha : PA X (e :: es) ta)
    (hdb : (x == ("__debug__" : Str)) = false := by decide) (he : starEach (e :: es) X.env = (false, eval e X.env) :: starEach es X.env := by rfl) (hpl : (backTo pos (starEach es X.env)).any (·.1) = false := by rfl) :
    PMk X (.Call (.Name x p) (e :: es) [] pos) (tMkO C sp [] ta) := by
  intro pins s σ H Q I h
  obtain ⟨nm, q, N, bs, bm, sn, sub, ab, col, dd, k0, k1, k2, k3, k5, look, tl⟩ := T.obj
  refine wpAny_Call_Name_kw (ld_glob I hg hm ?_ hdb)
  refine PySem.W.callWith_K (h₀ := X.base) I.ok.mod.kin T.keep (thn (ha.run pos pins s σ H _ I h) fun us s1 r => ?_) he hpl
  obtain ⟨vs, H1, I1, rv, few, q1⟩ := r
  refine ⟨I1.kIn, ?_⟩
  show wpAny _ _ (call (.ref C) us) _ _ _
  obtain ⟨hp, gs, dr, tk, os⟩ := s1
  obtain ⟨h2, hh2⟩ : ∃ h2, h2 = (hp.push (PySem.W.kdv_tup us)).push (PySem.HandSPX.excO C hp.objs.size) := ⟨_, rfl⟩
  obtain ⟨z, hz⟩ : ∃ z, z = hp.objs.size + 1 := ⟨_, rfl⟩
  have zle : hp.objs.size ≤ z := by rw [hz]; exact Nat.le_succ _
  have free : H1 z = none := I1.hok.fresh zle
  have hq := q1 z free
  rw [List.append_nil] at hq
  have kp : ∀ b o, hp.get? b = some o → h2.get? b = some o := fun b o w => by rw [hh2]; exact Heap.get?_push_of_some _ (Heap.get?_push_of_some _ w)
  have atz : h2.get? z = some (PySem.HandSPX.excO C hp.objs.size) := by rw [hh2, hz]; heap_get
  have I2 : Inv X pins σ (upd H1 z (exo z C none)) ⟨h2, gs, dr, tk, os⟩ := I1.laid (t' := tk) (a := z) (o := exo z C none) (h' := h2) kp zle (exo_ok atz)
  have r2 : Vals (V.ref z :: vs) (Value.ref z :: us) := .cons rfl rv
  have len : (Value.ref z :: us).length = ps.length := by
    have w := r2.length
    rw [G.len _ _ _ _ hq] at w
    exact w.symm
  have fit : us.length ≤ sizeLine := by
    rw [← Paired.length rv, sizeLine_eq]
    omega
  refine wpAny_call (PySem.HandSPX.call_own F.excBase_ArithmeticError (fun Y => PySem.W.excTail_contains Y bm tl) (I1.kIn _ _ look) (PySem.W.looks_findIn I1.kIn own) (fun self => PySem.W.bind_fn I1.kIn self isf) fit ?_)
  have bd := hb _ (Value.ref z :: us) I2.kIn (by rw [List.append_nil]; exact len)
  rw [List.append_nil] at bd
  rw [← hh2, ← hz]
  refine codeAny_mono (G.run _ X.stack _ _ ⟨Value.ref z :: us, []⟩ (Value.ref z :: us) _ _ (fun _ _ _ => False) (hr.make C us []) (I2.env0.make C us []) bd r2 hq) fun r s' w => ?_
  cases r with
  | error er => exact hx pins σ _ _ er s' I2 w
  | ok fl =>
    cases fl with
    | ret u =>
      obtain ⟨v, H2, os2, bare2, un2, hok2, rv2, ev, d, fs, ez, ed, hd1, q2⟩ := w
      subst ev
      obtain ⟨h3, g3, d3, t3, os'⟩ := s'
      exact ⟨rv2, mk_end (raises_own T.isx T.ist) I1 zle kp un2 hok2 os2 bare2 ez ed hd1 q2⟩
    | next => exact False.elim w
    | brk => exact False.elim w
    | cont => exact False.elim w
end
end L2
namespace Wm
open PySem PySem.Spec PyProof.Rows L2
def spR (K : PySem.W.Frag) (C : Addr) (fs : List Str) : Sp := fun vs H Q _ => ∃ (z : Addr) (ws : List V), vs = .ref z :: ws ∧ ws.length = fs.length ∧ RefC K C ∧ H z = some (exo z C none) ∧
  ∀ d, H d = none → d ≠ z → Q .non (upd (upd H z (exo z C (some d))) d (exd d (fs.reverse.zip ws.reverse)))
def sRaise (c : Nat) (f : Env → Hm → R (List D)) : Env → Hm → O := fun env h => (f env h).bindO fun ds h1 => .exc c ds.reverse h1
theorem RVs.rev {K : PySem.W.Frag} {rho : List Addr} {H : Hp} : ∀ {ds : List D} {vs : List V}, RVs K rho H ds vs → RVs K rho H ds.reverse vs.reverse
  | [], vs, h => by simp only [RVs] at h; subst h; simp [RVs]
  | d :: ds, vs, h => by
    simp only [RVs] at h
    obtain ⟨v, vs', rfl, h2, h3⟩ := h
    simp only [List.reverse_cons]
    exact RVs.append (RVs.rev h3) (RVs.cons h2 RVs.nil)
section
variable {cs : Cs} {X : Cx} {E : XK} {a : Expr} {es : List Expr} {fa : Env → Hm → R (List D)} {p pos pos2 : Pos}
theorem ss_raise {CX : CXT} {x : Str} {c k : Nat} {fI : Addr} {fd : FuncData} {ps fs : List Str} (T : RefC X.K (cs.ad c)) (own : PySem.W.findIn X.K (.ref (cs.ad c)) "__init__" = some (some (.ref fI))) (isf : PySem.W.typeIn X.K (.ref fI) = some (.type "function"))
    (G : FnOk X.prog X.w X.K X.mg X.base CX k fI fd ps (spR X.K (cs.ad c) fs)) (hnm : cs.nm c = fs.reverse) (hr : Room (k + 1) X.A) (hb : Binds X.K fd ps []) (hx : Passes CX X (fun _ _ _ => False)) (hg : Gl X x) (hm : X.mg x = some (.ref (cs.ad c)))
    (hc : X.calm = true) (tk : Takes X (fun cls d _ H => E cls d H)) (ha : SA cs X E (a :: es) fa) (hl : ∀ env h ds h', fa env h = .ok ds h' → ds.length = fs.length) (few : fs.length ≤ 1000)
    (hdb : (x == ("__debug__" : Str)) = false := by decide) (he : starEach (a :: es) X.env = (false, eval a X.env) :: starEach es X.env := by rfl) (hpl : (backTo pos (starEach es X.env)).any (·.1) = false := by rfl) :
    SS cs X E (.Raise (some (.Call (.Name x p) (a :: es) [] pos)) none pos2) (sRaise c fa) := by
  obtain ⟨ta, pa, qa⟩ := ha.ex
  refine ⟨_, ps_raise hc tk (pmk_ref T own isf G hr hb hx hg hm pa hdb he hpl), fun rho h H env σ Dn rl rs pp => ?_⟩
  unfold sRaise at pp
  refine qa _ _ _ _ _ _ rl rs ?_
  cases ef : fa env h with
  | exc c' fs' h' => rw [ef] at pp; exact pp
  | bad => rw [ef] at pp; exact pp.elim
  | ok ds h1 =>
    rw [ef] at pp
    have len := hl _ _ _ _ ef
    intro vs r1 H1 s1 rl1 rv
    have vl : vs.length = fs.length := by rw [rv.length, len]
    refine ⟨by omega, fun z free => ⟨z, vs, by rw [List.append_nil], vl, T, upd_same .., fun d dn dz => ?_⟩⟩
    have free2 : H1 d = none := by rw [upd_ne dz] at dn; exact dn
    refine ⟨rfl, d, fs.reverse.zip vs.reverse, ?_, upd_same .., free2, ?_⟩
    · rw [upd_ne (Ne.symm dz), upd_same]
    · have same : upd (del (upd (upd (upd H1 z (exo z (cs.ad c) none)) z (exo z (cs.ad c) (some d))) d (exd d (fs.reverse.zip vs.reverse))) z) d (.xd (fs.reverse.zip vs.reverse)) = upd H1 d (.xd (fs.reverse.zip vs.reverse)) := funext fun b => by
        by_cases e1 : b = d
        · rw [e1, upd_same, upd_same]
        · rw [upd_ne e1, upd_ne e1]
          by_cases e2 : b = z
          · rw [e2, del_same, free]
          · rw [del_ne e2, upd_ne e1, upd_ne e2, upd_ne e2]
      rw [same]
      have st : St X.K r1 H1 r1 (upd H1 d (.xd (fs.reverse.zip vs.reverse))) := St.aside free2
      refine pp d vs.reverse r1 _ (s1.trans st) (rl1.aside free2) (by rw [hnm]; exact upd_same ..) (by rw [hnm, List.length_reverse, List.length_reverse, vl]) (RVs.mono st _ _ (RVs.rev rv))
end
end Wm
namespace Wm
open PySem PySem.Spec PyProof.Rows L2
section
variable {P : Program} {w : World} {K : PySem.W.Frag} {mg : Str → Option Value} {base : Heap} {cs : Cs}
theorem fn_okX {x qual : Str} {st : Stmt} {f : Addr} {fd : FuncData} {N ps : List Str} {k : Nat} {b : Env → Hm → O} {nv : Nat} (F : Fun K x qual st f fd) (S : FnScope N ps (defScope st)) (hn : N.length = nv)
    (hb : ∀ (cdv : Value) (A : Around) (outer : List _root_.PySem.Env) (s : Shared) (H : Hp) (E : XK), Room k (A.deeper (envOfC qual (defScope st) s.heap.objs.size f cdv)) →
      SB cs (cxOf (L2.CX P w) P w K mg base N qual (defScope st) f cdv A outer s H E) E (defBody st) b) : FnOk P w K mg base (L2.CX P w) (k + 1) f fd ps (spF K cs (fnS nv b) ps.length) := by
  subst hn
  refine F.okX S (fun vs H Q E h => ?_) (fun cdv A outer s H vs Q E hr h => ?_)
  · obtain ⟨_, _, _, _, _, l, _⟩ := h
    exact l
  · obtain ⟨rho, hm, ds, rl, rv, l, pp⟩ := h
    obtain ⟨t, p1, q1⟩ := (hb cdv A outer s H E hr).ex
    refine ⟨t, p1, q1 _ _ _ _ _ _ rl (RS.start rv) ?_⟩
    unfold fnS at pp
    cases e : b (envOf N.length ds) hm with
    | nx env h => rw [e] at pp; exact fun σ r' H' s' rl' rs' => pp _ _ _ s' rl' RV.ofNon
    | rt d h => rw [e] at pp; exact pp
    | exc c fs h => rw [e] at pp; exact pp
    | bk env h => rw [e] at pp; exact pp.elim
    | ct env h => rw [e] at pp; exact pp.elim
    | bad => rw [e] at pp; exact pp.elim
theorem tk_fn {N : List Str} {qual : Str} {sc : Scope} {f : Addr} {cdv : Value} {A : Around} {outer : List _root_.PySem.Env} {s : Shared} {H : Hp} {E : XK} : Takes (cxOf (L2.CX P w) P w K mg base N qual sc f cdv A outer s H E) (fun cls d _ H => E cls d H) :=
  takes_of (E := E) rfl rfl rfl rfl
end
end Wm
namespace Wm
open PySem PySem.Spec PyProof.Rows L2
section
variable {K : PySem.W.Frag} {C z : Addr} {f f2 msg : Str} {w w2 : V} {H : Hp} {D : Ends}
theorem init_one (T : RefC K C) (k1 : PySem.W.takerIn K C f = some none) (hz : H z = some (exo z C none)) (nx : ∀ d, H d = none → d ≠ z → D.nx [some (.ref z), some w] (upd (upd H z (exo z C (some d))) d (exd d [(f, w)]))) :
    tSeq (tDrop (tBaseI K (tCons (tVar 0) (tCons (tC (.str msg)) tNil)))) (tPut K f (tVar 0) (tVar 1)) D [some (.ref z), some w] H := by
  refine ⟨.ref z, rfl, z, C, [.str msg], rfl, by simp, T, hz, ?_⟩
  refine ⟨w, rfl, .ref z, rfl, z, C, rfl, T, k1, Or.inl ⟨hz, fun d dn dz => ?_⟩⟩
  have sw : upd (upd H d (exd d [(f, w)])) z (exo z C (some d)) = upd (upd H z (exo z C (some d))) d (exd d [(f, w)]) := funext fun b => by
    by_cases e1 : b = z
    · rw [e1, upd_same, upd_ne (Ne.symm dz), upd_same]
    · by_cases e2 : b = d
      · rw [e2, upd_ne dz, upd_same, upd_same]
      · rw [upd_ne e1, upd_ne e2, upd_ne e2, upd_ne e1]
  rw [sw]
  exact nx d dn dz
end
end Wm
namespace Wm
open PySem PySem.Spec PyProof.Rows L2
section
variable {P : Program} {w : World} {K : PySem.W.Frag} {mg : Str → Option Value} {base : Heap} {C : Addr} {fld fld2 msg : Str}
theorem init_fn1 {x qual : Str} {st : Stmt} {fI : Addr} {fd : FuncData} {N ps : List Str} {k : Nat} (F : Fun K x qual st fI fd) (S : FnScope N ps (defScope st)) (hN : N.length = 2) (hp : ps.length = 2) (T : RefC K C) (k1 : PySem.W.takerIn K C fld = some none)
    (hb : ∀ (cdv : Value) (A : Around) (outer : List _root_.PySem.Env) (s : Shared) (H : Hp) (E : XK), Room k (A.deeper (envOfC qual (defScope st) s.heap.objs.size fI cdv)) →
      PSs (cxOf (L2.CX P w) P w K mg base N qual (defScope st) fI cdv A outer s H E) (defBody st) (tSeq (tDrop (tBaseI K (tCons (tVar 0) (tCons (tC (.str msg)) tNil)))) (tPut K fld (tVar 0) (tVar 1)))) :
    FnOk P w K mg base (L2.CX P w) (k + 1) fI fd ps (spR K C [fld]) := by
  refine F.okX S (fun vs H Q E h => ?_) (fun cdv A outer s H vs Q E hr h => ⟨_, hb cdv A outer s H E hr, ?_⟩)
  · obtain ⟨z, ws, rfl, l, _⟩ := h
    simp only [List.length_cons, List.length_nil] at l
    rw [List.length_cons, l, hp]
  · obtain ⟨z, ws, rfl, l, _, hz, nx⟩ := h
    obtain ⟨v, rfl⟩ : ∃ v, ws = [v] := by
      match ws, l with
      | [v], _ => exact ⟨v, rfl⟩
    have st0 : L2.start N [V.ref z, v] = [some (.ref z), some v] := by
      unfold L2.start
      simp [hN]
    rw [st0]
    exact init_one T k1 hz fun d dn dz => nx d dn dz
end
end Wm
namespace L2
open PySem PySem.Spec PyProof.Rows
section
variable {X : Cx} {z C dz : Addr} {oe : Obj} {pn : List (Addr × Obj)}
theorem inst_at {pins : List (Addr × Obj)} {σ : St} {H : Hp} {s : Shared} {fl : List (Str × V)} (I : Inv (X.suite z ((z, oe) :: pn)) pins σ H s) (hz : Zc (.ref C) (some dz) oe) (hf : ∃ vs, oe.data = .fields vs) (hd : H dz = some (.xd fl)) : ∃ od, PySem.W.InstAt s.heap z oe C (some od) := by
  obtain ⟨atz, _⟩ := I.pin (z, oe) (List.mem_append_left _ List.mem_cons_self)
  obtain ⟨vs, dat⟩ := hf
  have ok : ObjOk X.prog X.w H s.heap dz (.xd fl) := I.hok dz _ hd
  obtain ⟨mA, ns, _⟩ := ok
  obtain ⟨od, ho, _⟩ := lookIn_ns ns
  exact ⟨od, atz, hz.1, by unfold PySem.W.notCls; rw [dat] <;> rfl, by rw [hz.2]; exact ho⟩
end
end L2
namespace L2
open PySem PySem.Spec PyProof.Rows
section
variable {X : Cx} {z C dz : Addr} {oe : Obj} {pn : List (Addr × Obj)}
def rIsXt (K : PySem.W.Frag) (C z dz : Addr) (cvs : List Value) : List V → Hp → VK → Prop := fun xs H Q => ∃ (tp : Addr) (cs : List V) (b : Bool) (fl : List (Str × V)), xs = [.ref z, .ref tp] ∧ SqT K H tp cs ∧ (∀ us, Vals cs us → us = cvs) ∧ PySem.W.kitAny K (.ref C) cvs = some b ∧ H dz = some (.xd fl) ∧ Q (.bl b) H
theorem call_isXt {cvs : List Value} (T : ExcC X.K C) (hz : Zc (.ref C) (some dz) oe) (hf : ∃ vs, oe.data = .fields vs) : CallR (X.suite z ((z, oe) :: pn)) (.builtin "isinstance") (rIsXt X.K C z dz cvs) := by
  intro pins s σ H xs us Q I r h
  obtain ⟨tp, cs, b, fl, rfl, tup, hcv, e, hd, q⟩ := h
  obtain ⟨od, J⟩ := inst_at I hz hf hd
  have some_c : (PySem.W.clsIn X.K C).isSome = true := by
    obtain ⟨cd, hcd, _⟩ := PySem.W.any_some T.hd
    rw [hcd]; rfl
  obtain ⟨its, vs, it, _⟩ := I.tuple tup
  have ei := hcv _ vs
  subst ei
  cases r with
  | cons rx rr =>
    cases rr with
    | cons rt rr =>
      cases rr
      cases rx
      cases rt
      obtain ⟨to, att, tc, n, td⟩ := it
      obtain ⟨oc, odd, oda, osl⟩ := to
      dsimp only at tc td
      subst tc td
      exact PySem.W.kia_tup (PySem.W.kitx_exc some_c T.hg T.hk T.hs T.ha T.hn T.ht T.hm) I.kIn J att e (fun w => nomatch w) fun tk => ⟨.bl b, H, I.kept (t' := tk) fun _ _ w => w, rfl, q⟩
end
end L2
end
section
namespace L2
open PySem PySem.Spec PyProof.Rows
abbrev Suite := Addr → Value → Option Addr → TS
def endsOff (D : Ends) (i : Nat) : Ends := { nx := fun τ H => D.nx (τ.set i none) H, rt := D.rt, bk := fun τ H => D.bk (τ.set i none) H, ct := fun τ H => D.ct (τ.set i none) H }
def wMix (K : PySem.W.Frag) (Wout : WX) (D : Ends) : List (Value × Option Nat × Suite) → WX
  | [] => Wout
  | (c, none, ts) :: r => fun cls d σ H => ∃ b, PySem.W.exmOne K cls c = some b ∧ (b = true → ∀ z, H z = none → ts z cls d D σ H) ∧ (b = false → wMix K Wout D r cls d σ H)
  | (c, some i, ts) :: r => fun cls d σ H => ∃ b, PySem.W.exmOne K cls c = some b ∧ (b = true → ∀ z, H z = none → ts z cls d (endsOff D i) (σ.set i (some (.ref z))) H) ∧ (b = false → wMix K Wout D r cls d σ H)
inductive Clauses (X : Cx) : List ExceptHandler → List (Value × Option Nat × Suite) → Prop
  | nil : Clauses X [] []
  | plain {x : Str} {c : Value} {ts : Suite} {st₀ : Stmt} {sts : List Stmt} {np hp : Pos} {hds : List ExceptHandler} {l : List (Value × Option Nat × Suite)} (nms : Names X x c)
      (su : ∀ (z : Addr) (oe : Obj) (cls : Value) (d : Option Addr) (pn : List (Addr × Obj)), Zc cls d oe → (∃ vs, oe.data = .fields vs) → PSs (X.suite z ((z, oe) :: pn)) (st₀ :: sts) (ts z cls d)) (r : Clauses X hds l) :
      Clauses X (.ExceptHandler (some (.Name x np)) none (st₀ :: sts) hp :: hds) ((c, none, ts) :: l)
  | named {x n : Str} {c : Value} {i : Nat} {ts : Suite} {st₀ : Stmt} {sts : List Stmt} {np hp : Pos} {hds : List ExceptHandler} {l : List (Value × Option Nat × Suite)} (nms : Names X x c) (at_i : X.N[i]? = some n) (own : X.env.kindOf n = some .local)
      (su : ∀ (z : Addr) (oe : Obj) (cls : Value) (d : Option Addr) (pn : List (Addr × Obj)), Zc cls d oe → (∃ vs, oe.data = .fields vs) → PSs (X.suite z ((z, oe) :: pn)) (st₀ :: sts) (ts z cls d)) (r : Clauses X hds l) :
      Clauses X (.ExceptHandler (some (.Name x np)) (some n) (st₀ :: sts) hp :: hds) ((c, some i, ts) :: l)
section
variable {X : Cx} {body : List Stmt} {h₀ : ExceptHandler} {hds : List ExceptHandler} {l : List (Value × Option Nat × Suite)} {pos : Pos} {tb : WX → TS} {Wout : WX}
theorem ps_try_mix (stk : X.stack = X.env :: X.outer) (frm : X.env.frame = some X.env.locals) (nd : X.N.Nodup) (tk : Takes X Wout)
    (hb : ∀ (W : WX) (pn : List (Addr × Obj)) (xe : Value → Shared → Prop), Takes (X.tr pn xe) W → PassesOwn (model X.prog X.w) X.A X.env xe → PSs (X.tr pn xe) body (tb W))
    (cl : Clauses X (h₀ :: hds) l) : PS X (.Try body (h₀ :: hds) [] [] pos) (fun D σ H => tb (wMix X.K Wout D l) D σ H) := by
  constructor
  intro pins s σ H D I h
  have ok := I.ok
  have frs' : X.A.frames = some (X.env :: X.outer) := by rw [ok.frames, stk]
  refine wpAny_Try_except ?_
  refine wpAny_mono ((hb (wMix X.K Wout D l) (X.pn ++ pins) (fun e u => wpAny (model X.prog X.w) X.A (noteFrame e X.env) (fun _ u2 => wpAny (model X.prog X.w) X.A (setFlight e none) (fun _ u3 =>
    wpAny (model X.prog X.w) X.A (handleBy e X.env (h₀ :: hds)) (SP X pins D) X.xe u3) X.xe u2) X.xe u) (fun u s' air => ?_) PassesOwn.looking).run [] s σ H D (I.toTry _) h) (fun f s1 sp => ?_) (fun e s1 q => q)
  · obtain ⟨z, B, sI, pins', τ, G, cls, d, rfl, J', nb, up, sky, free, os, ag, wish⟩ := air
    have J : Inv X pins τ G sI := J'.ofTry ok
    rw [stk] at sky
    show wpAny (model X.prog X.w) X.A (noteFrame (.ref z) X.env) _ _ _
    refine Sky.land Zc.steady frs' frm sky fun h3 fl3 up3 => ?_
    have up3' := up.trans up3
    have J3 : Inv X pins τ G { s' with heap := h3 } := J.landed nb fl3.1 up3' os ag
    obtain ⟨oe, vs, atz, zc, dat⟩ := fl3.there
    have nfr : z ∉ frs (X.env :: X.outer) := fun m => by
      obtain ⟨_, o', q', hnf⟩ := fl3.2.2.1.mem m
      rw [atz] at q'; cases q'
      exact hnf _ dat
    have nL : z ≠ X.env.locals := fun e => nfr (List.mem_filterMap.mpr ⟨X.env, List.mem_cons_self, by rw [frm, e]⟩)
    have nF : z ∉ X.fs := fun m => by
      obtain ⟨e, he, q⟩ := List.mem_filterMap.mp m
      exact nfr (List.mem_filterMap.mpr ⟨e, List.mem_cons_of_mem _ he, q⟩)
    have S3 := J3.suite atz dat free nL nF
    have again : ∀ {h4 : Heap}, HandSPX.FlyingZ B (X.env :: X.outer) z (Zc cls d) h4 → h3.UpToSlots h4 → ∃ oe4, Zc cls d oe4 ∧ (∃ vs, oe4.data = .fields vs) ∧ Inv (X.suite z ((z, oe4) :: (X.pn ++ pins))) [] τ G { s' with heap := h4 } := fun {h4} fl4 up4 => by
      obtain ⟨oe4, vs4, at4, zc4, dat4⟩ := fl4.there
      have J4 : Inv X pins τ G { s' with heap := h4 } := J.landed nb fl4.1 (up3'.trans up4) os ag
      exact ⟨oe4, zc4, ⟨_, dat4⟩, J4.suite at4 dat4 free nL nF⟩
    have test : ∀ {x : Str} {c : Value} {np : Pos} {Q : Value → Shared → Prop} {E : Value → Shared → Prop}, Names X x c → Q c { s' with heap := h3 } → wpAny (model X.prog X.w) (X.A.mark (some (.ref z))) (eval (.Name x np) X.env) Q E { s' with heap := h3 } := fun {x c np Q E} nms q => by
      obtain ⟨hg, hdb, hm | ⟨hm, hv, hn⟩⟩ := nms
      · exact ld_glob (X := X.suite z ((z, oe) :: (X.pn ++ pins))) S3 hg hm q hdb
      · exact ld_blt (X := X.suite z ((z, oe) :: (X.pn ++ pins))) S3 hg hm hv q hn hdb
    have typ : PySem.W.Looks (model X.prog X.w) h3 (typeOf (.ref z)) cls := fun A Q E s k q => wpAny_typeOf_ref (k _ _ atz) (by rw [zc.1]; exact q)
    have go : ∀ {hs2 : List ExceptHandler} {l2 : List (Value × Option Nat × Suite)}, Clauses X hs2 l2 → wMix X.K Wout D l2 cls d τ G → wpAny (model X.prog X.w) X.A (handleBy (.ref z) X.env hs2) (SP X pins D) X.xe { s' with heap := h3 } := by
      intro hs2 l2 ck
      induction ck with
      | nil =>
        intro w
        refine wpAny_handleBy_nil ?_
        obtain ⟨_, _, _, o5, v5, t5, _, _, a5, _, d5, one, _⟩ := id fl3
        unfold PySem.passOn
        refine wpAny_bind (wpAny_field a5 d5 one ?_)
        rw [if_neg (show ¬ ((Value.ref t5 == Value.none) = true) from by simp)]
        have fin : wpAny (model X.prog X.w) X.A (setFlight (.ref z) X.env.frame) (fun _ u => wpAny (model X.prog X.w) X.A (throw (.ref z) : Sem Flow) (SP X pins D) X.xe u) X.xe { s' with heap := h3 } := by
          rw [frm]
          refine HandSPX.setFlight_upZ fl3 fun h4 held up4 => wpAny_throw (tk _ _ ?_)
          exact ⟨z, B, sI, pins, τ, G, cls, d, rfl, J, nb, up3'.trans up4, .inr (.inr (by rw [stk]; exact held)), free, os, ag, w⟩
        first
          | exact wpAny_bind (wpAny_pure (wpAny_bind fin))
          | exact wpAny_bind fin
      | @plain x c ts st₀ sts np hp hds3 l3 nms su r ih =>
        intro w
        obtain ⟨b, eb, yes, no⟩ := w
        refine wpAny_handleBy_cons (codeAny_handlers_test ?_) (by intro q; cases q)
        refine test nms ((PySem.W.exm_one (M := model X.prog X.w) J3.kIn typ eb).here ?_)
        cases b with
        | true =>
          refine codeAny_handlers_suite ?_
          refine HandSPX.lands_againZ fl3 fun h4 fl4 up4 => ?_
          obtain ⟨oe4, zc4, dat4, S4⟩ := again fl4 up4
          refine wpAny_mono ((su z oe4 cls d (X.pn ++ pins) zc4 dat4).run [] _ _ G _ S4 (yes rfl z free)) (fun f s6 sp => ?_) (fun _ _ q => False.elim q)
          cases f with
          | ret u =>
            obtain ⟨v6, τ6, G6, S6, r6, q6⟩ := sp
            exact ⟨_, _, _, S6.unsuite ok, r6, q6⟩
          | next => obtain ⟨τ6, G6, S6, q6⟩ := sp; exact ⟨_, _, S6.unsuite ok, q6⟩
          | brk => obtain ⟨τ6, G6, S6, q6⟩ := sp; exact ⟨_, _, S6.unsuite ok, q6⟩
          | cont => obtain ⟨τ6, G6, S6, q6⟩ := sp; exact ⟨_, _, S6.unsuite ok, q6⟩
        | false =>
          show wpAny _ X.A (handleBy (.ref z) X.env hds3) _ _ _
          exact ih (no rfl)
      | @named x n c i ts st₀ sts np hp hds3 l3 nms at_i own su r ih =>
        intro w
        obtain ⟨b, eb, yes, no⟩ := w
        refine wpAny_handleBy_cons (codeAny_handlers_test ?_) (by intro q; cases q)
        refine test nms ((PySem.W.exm_one (M := model X.prog X.w) J3.kIn typ eb).here ?_)
        cases b with
        | true =>
          refine codeAny_handlers_suite_as ?_
          refine HandSPX.lands_againZ fl3 fun h4 fl4 up4 => ?_
          obtain ⟨oe4, zc4, dat4, S4⟩ := again fl4 up4
          refine store_ok (X := X.suite z ((z, oe4) :: (X.pn ++ pins))) (v := .ref z) S4 nd at_i (.inl own) rfl (fun s5 S5 => ?_) (.inr own)
          refine wpAny_mono ((su z oe4 cls d (X.pn ++ pins) zc4 dat4).run [] s5 _ G _ S5 (yes rfl z free)) (fun f s6 sp => ?_) (fun _ _ q => False.elim q)
          have off : ∀ {τ6 : St} {G6 : Hp} {Q : Shared → Prop}, Inv (X.suite z ((z, oe4) :: (X.pn ++ pins))) [] τ6 G6 s6 → (∀ s7, Inv X pins (τ6.set i none) G6 s7 → Q s7) →
              wpAny (model X.prog X.w) X.A (do bindName X.env n .none; unbindBehindTheSuite X.env n hp) (fun _ s7 => Q s7) X.xe s6 := fun {τ6 G6 Q} S6 k => gone_ok (S6.unsuite ok) nd at_i own k
          cases f with
          | ret u =>
            obtain ⟨v6, τ6, G6, S6, r6, q6⟩ := sp
            exact off S6 fun s7 J7 => ⟨_, _, _, J7, r6, q6⟩
          | next => obtain ⟨τ6, G6, S6, q6⟩ := sp; exact off S6 fun s7 J7 => ⟨_, _, J7, q6⟩
          | brk => obtain ⟨τ6, G6, S6, q6⟩ := sp; exact off S6 fun s7 J7 => ⟨_, _, J7, q6⟩
          | cont => obtain ⟨τ6, G6, S6, q6⟩ := sp; exact off S6 fun s7 J7 => ⟨_, _, J7, q6⟩
        | false =>
          show wpAny _ X.A (handleBy (.ref z) X.env hds3) _ _ _
          exact ih (no rfl)
    exact go cl wish
  · cases f with
    | ret u => obtain ⟨v, τ, G, J', r, q⟩ := sp; exact ⟨v, τ, G, J'.ofTry ok, r, q⟩
    | next => obtain ⟨τ, G, J', q⟩ := sp; exact wpAny_execs_nil ⟨τ, G, J'.ofTry ok, q⟩
    | brk => obtain ⟨τ, G, J', q⟩ := sp; exact ⟨τ, G, J'.ofTry ok, q⟩
    | cont => obtain ⟨τ, G, J', q⟩ := sp; exact ⟨τ, G, J'.ofTry ok, q⟩
end
end L2
end
section
namespace Wm
open PySem PySem.Spec PyProof.Rows L2
def exNm : Nat → List Str
  | 8 => ["part"] | 9 => ["at"] | 10 => ["at"] | 11 => ["at"] | 12 => ["at", "part"] | 13 => ["at"] | 14 => ["face"] | 15 => ["beats"] | 16 => ["at"] | 17 => ["part"] | 18 => ["at"] | 19 => ["at"] | 20 => ["many"]
  | _ => []
def isSub (c k : Nat) : Bool := c == k || k == 7
def Cs.hold (cs : Cs) (dd : Addr) (c : Nat) (fs : List D) : Cs := { cs with ex := (dd, cs.nm c, fs) :: cs.ex }
abbrev SuF := Addr → Nat → List D → Wm.BSem
def eXf (z : Addr) (c : Nat) (fs : List D) (f : Str) (fe : Env → Hm → R D) : Env → Hm → R D := fun env h => match (exNm c).contains f with
  | true => (fe env h).bind fun d h1 => match d with
    | .hld a => if a = z then (match ((exNm c).zip fs).lookup f with
      | some d => .ok d h1
      | none => .bad) else .bad
    | _ => .bad
  | false => .bad
def dIsXt (z : Addr) (c : Nat) (ks : List Nat) (d : D) (h : Hm) : R D := match d with
  | .hld a => if a = z then .ok (.bl (ks.any (isSub c))) h else .bad
  | _ => .bad
def noX : O → O
  | .exc _ _ _ => .bad
  | o => o
def offO (i : Option Nat) (o : O) : O := match i with
  | none => o
  | some i => match o with
    | .nx e h => .nx (e.set i none) h
    | .bk e h => .bk (e.set i none) h
    | .ct e h => .ct (e.set i none) h
    | o => o
def bindI (i : Option Nat) (z : Addr) (env : Env) : Env := match i with
  | none => env
  | some i => env.set i (some (.hld z))
open Classical in
noncomputable def allZ (f : Addr → O) : O := if p : ∃ o, ∀ z, f z = o then p.choose else .bad
theorem allZ_of {f : Addr → O} {o : O} (h : ∀ z, f z = o) : allZ f = o := by
  unfold allZ
  have p : ∃ o, ∀ z, f z = o := ⟨o, h⟩
  rw [dif_pos p]
  exact ((p.choose_spec 0).symm.trans (h 0))
noncomputable def pick (c : Nat) (fs : List D) (env : Env) (h : Hm) : List (Nat × Option Nat × SuF) → O
  | [] => .bad
  | (k, i, F) :: r => match isSub c k with
    | true => allZ fun z => offO i (noX (F z c fs (bindI i z env) h))
    | false => pick c fs env h r
open Classical in
noncomputable def gcX (h : Hm) (r : R D) : R D := match r with
  | .exc c fs h' => if h.length ≤ h'.length ∧ lowsL h.length fs = true ∧ ∀ i o, i < h.length → h'[i]? = some o → (h[i]? = some o ∨ o.lows h.length = true) then .exc c fs (h'.take h.length) else .exc c fs h'
  | r => gcR h r
noncomputable def sTry (known : List Nat) (f : FS) (fa : Env → Hm → R (List D)) (fr : Wm.BSem) (cl : List (Nat × Option Nat × SuF)) : Wm.BSem := fun env h => match fa env h with
  | .ok ds h1 => match gcX h1 (f ds h1) with
    | .ok _ h2 => noX (fr env h2)
    | .exc c fs h2 => if known.contains c then pick c fs env h2 cl else .bad
    | .bad => .bad
  | _ => .bad
structure HeldOk (K : PySem.W.Frag) (cs : Cs) (known tested : List Nat) : Prop where
  nm : ∀ c ∈ known, cs.nm c = exNm c
  xf : ∀ c ∈ known, XfC K (cs.ad c)
  xc : ∀ c ∈ known, ExcC K (cs.ad c)
  nf : ∀ c ∈ known, ∀ f ∈ exNm c, PySem.W.findIn K (.ref (cs.ad c)) f = some none
  sub : ∀ c ∈ known, ∀ k ∈ tested, PySem.W.subIn K (.ref (cs.ad c)) (.ref (cs.ad k)) = some (isSub c k)
  slf : ∀ k ∈ tested, PySem.W.subIn K (.ref (cs.ad k)) (.ref (cs.ad k)) = some true
  isc : ∀ k ∈ tested, (PySem.W.clsIn K (cs.ad k)).isSome = true
  ist : ∀ k ∈ tested, PySem.W.typeIn K (.ref (cs.ad k)) = some (.type "type")
  bex : ∀ k ∈ tested, PySem.W.subIn K (.ref (cs.ad k)) (.type "BaseException") = some true
  ari : ∀ c ∈ known, PySem.W.subIn K (.ref (cs.ad c)) (.type "ArithmeticError") = some true
section
variable {K : PySem.W.Frag} {cs : Cs} {known tested : List Nat} {c k : Nat}
theorem HeldOk.cls (T : HeldOk K cs known tested) (hc : c ∈ known) (hk : k ∈ tested) : PySem.W.kitCls K (.ref (cs.ad c)) (.ref (cs.ad k)) = some (isSub c k) := by
  unfold PySem.W.kitCls
  simp only
  rw [if_pos (by rw [T.isc k hk, T.ist k hk]; rfl)]
  exact T.sub c hc k hk
theorem HeldOk.exm (T : HeldOk K cs known tested) (hc : c ∈ known) (hk : k ∈ tested) : PySem.W.exmOne K (.ref (cs.ad c)) (.ref (cs.ad k)) = some (isSub c k) := by
  unfold PySem.W.exmOne
  rw [if_pos (by rw [T.bex k hk]; rfl)]
  exact T.cls hc hk
theorem HeldOk.one (T : HeldOk K cs known tested) (hc : c ∈ known) (hk : k ∈ tested) : PySem.W.kitOne K (.ref (cs.ad c)) (.ref (cs.ad k)) = some (isSub c k) := by
  unfold PySem.W.kitOne
  by_cases e : cs.ad c = cs.ad k
  · have q := T.sub c hc k hk
    rw [e, T.slf k hk] at q
    rw [e, if_pos (beq_self_eq_true _)]
    exact q
  · rw [if_neg (by simpa using e)]
    exact T.cls hc hk
end
section
variable {cs : Cs} {X : Cx} {E : XK} {known tested : List Nat}
def canA (K : PySem.W.Frag) (cs : Cs) (fa : Env → Hm → R (List D)) : TA := fun σ H Q => ∃ rho h env, Rel K cs rho h H ∧ RS K rho H env σ ∧ Post K cs (RVs K) rho H (fa env h) Q (fun _ _ _ => False)
def canB (K : PySem.W.Frag) (cs : Cs) (fr : Wm.BSem) : TS := fun D σ H => ∃ rho h env, Rel K cs rho h H ∧ RS K rho H env σ ∧ PostS K cs rho H (fr env h) D (fun _ _ _ => False)
theorem SA.can {es : List Expr} {fa : Env → Hm → R (List D)} (h : SA cs X (fun _ _ _ => False) es fa) : PA X es (canA X.K cs fa) := by
  obtain ⟨t, p, q⟩ := h.ex
  constructor
  intro pos pins s σ H Q I ⟨rho, h, env, rl, rs, pp⟩
  exact p.run pos pins s σ H Q I (q _ _ _ _ _ _ rl rs pp)
theorem SB.can {sts : List Stmt} {fr : Wm.BSem} (h : SB cs X (fun _ _ _ => False) sts fr) : PSs X sts (canB X.K cs fr) := by
  obtain ⟨t, p, q⟩ := h.ex
  constructor
  intro pins s σ H D I ⟨rho, h, env, rl, rs, pp⟩
  exact p.run pins s σ H D I (q _ _ _ _ _ _ rl rs pp)
def canSu (K : PySem.W.Frag) (cs : Cs) (known : List Nat) (F : SuF) : L2.Suite := fun z clsV d D σ H => ∃ c fs dd rho h env, clsV = .ref (cs.ad c) ∧ d = some dd ∧ c ∈ known ∧ Rel K (cs.hold dd c fs) rho h H ∧ RS K rho H env σ ∧
  PostS K (cs.hold dd c fs) rho H (F z c fs env h) D (fun _ _ _ => False)
def SuOk (cs : Cs) (X : Cx) (known : List Nat) (sts : List Stmt) (F : SuF) : Prop := ∀ c ∈ known, ∀ (z dd : Addr) (oe : Obj) (pn : List (Addr × Obj)) (fs : List D), Zc (.ref (cs.ad c)) (some dd) oe → (∃ vs, oe.data = .fields vs) →
  SB (cs.hold dd c fs) (X.suite z ((z, oe) :: pn)) (fun _ _ _ => False) sts (F z c fs)
theorem SuOk.can {sts : List Stmt} {F : SuF} (h : SuOk cs X known sts F) (z : Addr) (oe : Obj) (cls : Value) (d : Option Addr) (pn : List (Addr × Obj)) (zc : Zc cls d oe) (hf : ∃ vs, oe.data = .fields vs) : PSs (X.suite z ((z, oe) :: pn)) sts (canSu X.K cs known F z cls d) := by
  constructor
  intro pins s σ H D I ⟨c, fs, dd, rho, hm, env, e1, e2, kn, rl, rs, pp⟩
  subst e1 e2
  obtain ⟨t, p, q⟩ := (h c kn z dd oe pn fs zc hf).ex
  exact p.run pins s σ H D I (q _ _ _ _ _ _ rl rs pp)
inductive ClsS (cs : Cs) (X : Cx) (known tested : List Nat) : List ExceptHandler → List (Nat × Option Nat × SuF) → Prop
  | nil : ClsS cs X known tested [] []
  | plain {x : Str} {k : Nat} {F : SuF} {st₀ : Stmt} {sts : List Stmt} {np hp : Pos} {hds : List ExceptHandler} {l : List (Nat × Option Nat × SuF)} (hk : k ∈ tested) (hg : Gl X x) (hm : X.mg x = some (.ref (cs.ad k))) (hd : (x == ("__debug__" : Str)) = false)
      (su : SuOk cs X known (st₀ :: sts) F) (r : ClsS cs X known tested hds l) : ClsS cs X known tested (.ExceptHandler (some (.Name x np)) none (st₀ :: sts) hp :: hds) ((k, none, F) :: l)
  | named {x n : Str} {k i : Nat} {F : SuF} {st₀ : Stmt} {sts : List Stmt} {np hp : Pos} {hds : List ExceptHandler} {l : List (Nat × Option Nat × SuF)} (hk : k ∈ tested) (hg : Gl X x) (hm : X.mg x = some (.ref (cs.ad k))) (hd : (x == ("__debug__" : Str)) = false)
      (at_i : X.N[i]? = some n) (own : X.env.kindOf n = some .local) (su : SuOk cs X known (st₀ :: sts) F) (r : ClsS cs X known tested hds l) : ClsS cs X known tested (.ExceptHandler (some (.Name x np)) (some n) (st₀ :: sts) hp :: hds) ((k, some i, F) :: l)
theorem ClsS.cl {hds : List ExceptHandler} {l : List (Nat × Option Nat × SuF)} (h : ClsS cs X known tested hds l) : Clauses X hds (l.map fun p => (Value.ref (cs.ad p.1), p.2.1, canSu X.K cs known p.2.2)) := by
  induction h with
  | nil => exact .nil
  | plain hk hg hm hd su r ih => exact .plain ⟨hg, hd, Or.inl hm⟩ su.can ih
  | named hk hg hm hd at_i own su r ih => exact .named ⟨hg, hd, Or.inl hm⟩ at_i own su.can ih
theorem ClsS.te {hds : List ExceptHandler} {l : List (Nat × Option Nat × SuF)} (h : ClsS cs X known tested hds l) : ∀ p ∈ l, p.1 ∈ tested := by
  induction h with
  | nil => simp
  | plain hk hg hm hd su r ih => exact List.forall_mem_cons.mpr ⟨hk, ih⟩
  | named hk hg hm hd at_i own su r ih => exact List.forall_mem_cons.mpr ⟨hk, ih⟩
theorem Rel.unhold {K : PySem.W.Frag} {rho : List Addr} {h : Hm} {H : Hp} {dd : Addr} {c : Nat} {fs : List D} (r : Rel K (cs.hold dd c fs) rho h H) : Rel K cs rho h H :=
  ⟨r.len, fun n o a h1 h2 => by have := r.ob n o a h1 h2; cases o <;> exact this, r.inj, r.z, r.zm, fun e he => r.exs e (List.mem_cons_of_mem _ he), r.tbs⟩
theorem Rel.hold {K : PySem.W.Frag} {rho : List Addr} {h : Hm} {H : Hp} {dd : Addr} {c : Nat} {fs : List D} {vs : List V} (r : Rel K cs rho h H) (e : H dd = some (.xd ((cs.nm c).zip vs))) (l : vs.length = (cs.nm c).length) (rv : RVs K rho H fs vs) : Rel K (cs.hold dd c fs) rho h H :=
  ⟨r.len, fun n o a h1 h2 => by have := r.ob n o a h1 h2; cases o <;> exact this, r.inj, r.z, r.zm, by
    refine List.forall_mem_cons.mpr ⟨⟨fun n n0 hn => ?_, vs, e, l, rv⟩, r.exs⟩
    have hl : n < h.length := by rw [← r.len]; exact (List.getElem?_eq_some_iff.mp hn).1
    have m := r.zm n _ n0 (List.getElem?_eq_getElem hl)
    have ob := r.ob n _ dd (List.getElem?_eq_getElem hl) hn
    obtain ⟨u, q, mu⟩ := ob.mu_some m
    rw [e] at q
    cases q
    exact mu, r.tbs⟩
theorem PostS.noX {K : PySem.W.Frag} {rho : List Addr} {H : Hp} {o : O} {De : Ends} (p : PostS K cs rho H (Wm.noX o) De E) : PostS K cs rho H o De (fun _ _ _ => False) := by
  cases o with
  | nx e h => exact p
  | bk e h => exact p
  | ct e h => exact p
  | rt e h => exact p
  | exc c fs h => exact p.elim
  | bad => exact p.elim
theorem RS.off {K : PySem.W.Frag} {rho : List Addr} {H : Hp} {env : Env} {σ : L2.St} {i : Nat} (r : RS K rho H env σ) : RS K rho H (env.set i none) (σ.set i none) := ⟨by simp [r.1], fun j d e => by
  by_cases hj : j = i
  · subst hj
    by_cases hl : j < env.length
    · rw [List.getElem?_set_self hl] at e; cases e
    · rw [List.getElem?_eq_none (by simp; omega)] at e; cases e
  · rw [List.getElem?_set_ne (Ne.symm hj)] at e
    rw [List.getElem?_set_ne (Ne.symm hj)]
    exact r.2 j d e⟩
theorem PostS.held {K : PySem.W.Frag} {rho : List Addr} {H : Hp} {o : O} {dd : Addr} {c : Nat} {fs : List D} {De : Ends} (p : PostS K cs rho H (Wm.noX o) De E) : PostS K (cs.hold dd c fs) rho H o De (fun _ _ _ => False) := by
  cases o with
  | nx e h => exact fun σ r' H' s rl => p σ r' H' s rl.unhold
  | bk e h => exact fun σ r' H' s rl => p σ r' H' s rl.unhold
  | ct e h => exact fun σ r' H' s rl => p σ r' H' s rl.unhold
  | rt e h => exact fun σ r' H' s rl => p σ r' H' s rl.unhold
  | exc c fs h => exact p.elim
  | bad => exact p.elim
theorem PostS.heldOff {K : PySem.W.Frag} {rho : List Addr} {H : Hp} {o : O} {dd : Addr} {c i : Nat} {fs : List D} {De : Ends} (p : PostS K cs rho H (offO (some i) (Wm.noX o)) De E) : PostS K (cs.hold dd c fs) rho H o (endsOff De i) (fun _ _ _ => False) := by
  cases o with
  | nx e h => exact fun σ r' H' s rl rs => p _ r' H' s rl.unhold rs.off
  | bk e h => exact fun σ r' H' s rl rs => p _ r' H' s rl.unhold rs.off
  | ct e h => exact fun σ r' H' s rl rs => p _ r' H' s rl.unhold rs.off
  | rt e h => exact fun σ r' H' s rl => p σ r' H' s rl.unhold
  | exc c fs h => exact p.elim
  | bad => exact p.elim
theorem allZ_is {K : PySem.W.Frag} {rho : List Addr} {H : Hp} {f : Addr → O} {De : Ends} (p : PostS K cs rho H (allZ f) De E) (z : Addr) : PostS K cs rho H (f z) De E := by
  unfold allZ at p
  split at p
  · rename_i q
    rw [q.choose_spec z]; exact p
  · exact p.elim
theorem pick_ok {K : PySem.W.Frag} (T : HeldOk K cs known tested) {c : Nat} (hc : c ∈ known) {fs : List D} {rho : List Addr} {h : Hm} {H : Hp} {env : Env} {σ : L2.St} {dd : Addr} {vs : List V} {De : Ends} (rl : Rel K cs rho h H) (rs : RS K rho H env σ)
    (e : H dd = some (.xd ((cs.nm c).zip vs))) (l : vs.length = (cs.nm c).length) (rv : RVs K rho H fs vs) : ∀ (cl : List (Nat × Option Nat × SuF)), (∀ p ∈ cl, p.1 ∈ tested) → PostS K cs rho H (pick c fs env h cl) De E →
      wMix K (fun _ _ _ _ => False) De (cl.map fun p => (Value.ref (cs.ad p.1), p.2.1, canSu K cs known p.2.2)) (.ref (cs.ad c)) (some dd) σ H
  | [], _, p => p.elim
  | (k, none, F) :: r, ht, p => by
    obtain ⟨h1, h2⟩ := List.forall_mem_cons.mp ht
    refine ⟨isSub c k, T.exm hc h1, fun b z fz => ?_, fun b => ?_⟩
    · unfold pick at p
      rw [b] at p
      have q := allZ_is p z
      exact ⟨c, fs, dd, rho, h, env, rfl, rfl, hc, rl.hold e l rv, rs, PostS.held q⟩
    · unfold pick at p
      rw [b] at p
      exact pick_ok T hc rl rs e l rv r h2 p
  | (k, some i, F) :: r, ht, p => by
    obtain ⟨h1, h2⟩ := List.forall_mem_cons.mp ht
    refine ⟨isSub c k, T.exm hc h1, fun b z fz => ?_, fun b => ?_⟩
    · unfold pick at p
      rw [b] at p
      have q := allZ_is p z
      exact ⟨c, fs, dd, rho, h, env.set i (some (.hld z)), rfl, rfl, hc, rl.hold e l rv, rs.set (by simp [RV]), PostS.heldOff q⟩
    · unfold pick at p
      rw [b] at p
      exact pick_ok T hc rl rs e l rv r h2 p
theorem Rel.cut {K : PySem.W.Frag} {rho r1 : List Addr} {h h' : Hm} {H H1 : Hp} (rl : Rel K cs rho h H) (s1 : St K rho H r1 H1) (rl1 : Rel K cs r1 h' H1) (c1 : h.length ≤ h'.length) (c3 : ∀ i o, i < h.length → h'[i]? = some o → (h[i]? = some o ∨ o.lows h.length = true)) :
    St K rho H rho H1 ∧ Rel K cs rho (h'.take h.length) H1 := by
  obtain ⟨more, rfl, fr⟩ := s1.pre
  have st : St K rho H rho H1 := ⟨⟨[], by simp, by simp⟩, s1.tup, s1.frm, s1.trk, s1.frz⟩
  have len := rl.len
  refine ⟨st, ⟨by simp [rl.len, c1], fun n o a e1 e2 => ?_, fun n m o o' a e1 m1 e2 m2 a1 a2 => ?_, ?_, fun i o' i0 e1 => rl1.zm i o' i0 (by rw [List.getElem?_take] at e1; split at e1; exact e1; cases e1), fun e he => (rl.exs e he).mono st, fun t ht => (rl1.tbs t ht).cut⟩⟩
  · have hn : n < h.length := by rw [← len]; exact (List.getElem?_eq_some_iff.mp e2).1
    rw [List.getElem?_take_of_lt hn] at e1
    have q := rl1.ob n o a e1 (by rw [List.getElem?_append_left (by rw [len]; exact hn)]; exact e2)
    refine ObR.cut ?_ q
    rcases c3 n o hn e1 with z | z
    · exact (rl.ob n o a z e2).lows
    · rw [len]; exact z
  · have hn : n < h.length := by rw [← len]; exact (List.getElem?_eq_some_iff.mp a1).1
    have hm : m < h.length := by rw [← len]; exact (List.getElem?_eq_some_iff.mp a2).1
    rw [List.getElem?_take_of_lt hn] at e1
    rw [List.getElem?_take_of_lt hm] at e2
    exact rl1.inj n m o o' a e1 m1 e2 m2 (by rw [List.getElem?_append_left (by rw [len]; exact hn)]; exact a1) (by rw [List.getElem?_append_left (by rw [len]; exact hm)]; exact a2)
  · obtain ⟨xs, e⟩ := rl1.z
    obtain ⟨ys, e0⟩ := rl.z
    have l0 := (List.getElem?_eq_some_iff.mp e0).1
    exact ⟨xs, by rw [List.getElem?_take_of_lt l0]; exact e⟩
theorem Post.gcx {K : PySem.W.Frag} {rho : List Addr} {H : Hp} {h : Hm} {r : R D} {Q : VK} (rl : Rel K cs rho h H) (p : Post K cs (RV K) rho H (gcX h r) Q E) : Post K cs (RV K) rho H r Q E := by
  cases r with
  | ok d h' => exact Post.gc rl p
  | bad => exact Post.gc rl p
  | exc c fs h' =>
    unfold gcX at p
    simp only at p
    split at p
    · rename_i q
      obtain ⟨c1, c2, c3⟩ := q
      intro da vs r1 H1 s1 rl1 e l rv
      obtain ⟨st, rl2⟩ := rl.cut s1 rl1 c1 c3
      obtain ⟨more, rfl, fr⟩ := s1.pre
      exact p da vs rho H1 st rl2 e l (RVs.cut _ _ (by rw [rl.len]; exact c2) rv)
    · exact p
variable {k : Nat} {f : Addr} {fd : FuncData} {ps : List Str} {x : Str} {p pos pos2 pos3 : Pos} {a : Expr} {es : List Expr} {fa : Env → Hm → R (List D)} {F : FS} {n : Nat} {rest : List Stmt} {fr : Wm.BSem} {h₀ : ExceptHandler} {hds : List ExceptHandler} {cl : List (Nat × Option Nat × SuF)}
theorem ss_try (G : FnOk X.prog X.w X.K X.mg X.base (L2.CX X.prog X.w) k f fd ps (spF X.K cs F n)) (hr : Room k X.A) (hg : Gl X x) (hm : X.mg x = some (.ref f)) (hk : PySem.W.keepIn X.K (.ref f) = true) (hb : Binds X.K fd ps []) (nd : X.N.Nodup)
    (T : HeldOk X.K cs known tested) (ha : ∀ pn xe, SA cs (X.tr pn xe) (fun _ _ _ => False) (a :: es) fa) (hl : ∀ env h ds h', fa env h = .ok ds h' → ds.length = n) (hrest : ∀ pn xe, SB cs (X.tr pn xe) (fun _ _ _ => False) rest fr)
    (hc : ClsS cs X known tested (h₀ :: hds) cl) (stk : X.stack = X.env :: X.outer := by rfl) (frm : X.env.frame = some X.env.locals := by rfl)
    (hdb : (x == ("__debug__" : Str)) = false := by decide) (he : starEach (a :: es) X.env = (false, eval a X.env) :: starEach es X.env := by rfl) (hpl : (backTo pos (starEach es X.env)).any (·.1) = false := by rfl) :
    SS cs X E (.Try (.Expr (.Call (.Name x p) (a :: es) [] pos) pos2 :: rest) (h₀ :: hds) [] [] pos3) (sTry known F fa fr cl) := by
  refine ⟨_, ps_try_mix stk frm nd (takes0 (X := X)) (fun W pn xe tk _ => pss_cons (ps_expr (pe_callS (X := X.tr pn xe) G hr hg hm hk hb (fun σ => passAt tk σ) (show PA (X.tr pn xe) (a :: es) (canA X.K cs fa) from (ha pn xe).can) hdb he hpl)) (show PSs (X.tr pn xe) rest (canB X.K cs fr) from (hrest pn xe).can)) hc.cl, fun rho h H env σ Dn rl rs pp => ?_⟩
  unfold sTry at pp
  refine ⟨rho, h, env, rl, rs, ?_⟩
  cases e1 : fa env h with
  | exc c fs h1 => rw [e1] at pp; exact pp.elim
  | bad => rw [e1] at pp; exact pp.elim
  | ok ds h1 =>
    rw [e1] at pp
    simp only at pp
    intro vs r1 H1 s1 rl1 rv
    refine ⟨r1, h1, ds, rl1, rv, by rw [rv.length]; exact hl _ _ _ _ e1, Post.gcx rl1 ?_⟩
    cases e2 : gcX h1 (F ds h1) with
    | bad => rw [e2] at pp; exact pp.elim
    | ok d h2 =>
      rw [e2] at pp
      intro v r2 H2 s2 rl2 rv2
      exact ⟨r2, h2, env, rl2, rs.mono (s1.trans s2), PostS.noX (PostS.mono (s1.trans s2) pp)⟩
    | exc c fs h2 =>
      rw [e2] at pp
      simp only at pp
      split at pp
      · rename_i kn
        intro da ws r2 H2 s2 rl2 e3 l3 rv3
        exact pick_ok T (by simpa using kn) rl2 (rs.mono (s1.trans s2)) e3 l3 rv3 _ hc.te (PostS.mono (s1.trans s2) pp)
      · exact pp.elim
end
end Wm
end
section
namespace Wm
open PySem PySem.Spec PyProof.Rows L2
theorem lookup_RVs {K : PySem.W.Frag} {rho : List Addr} {H : Hp} {f : Str} : ∀ {ns : List Str} {ds : List D} {vs : List V} {d : D}, RVs K rho H ds vs → (ns.zip ds).lookup f = some d → ∃ v, (ns.zip vs).lookup f = some v ∧ RV K rho H d v
  | [], _, _, _, _, h => by simp at h
  | n :: ns, [], _, _, _, h => by simp at h
  | n :: ns, d :: ds, vs, d', r, h => by
    simp only [RVs] at r
    obtain ⟨v, vs', rfl, r1, r2⟩ := r
    rw [List.zip_cons_cons, List.lookup_cons] at h ⊢
    cases e : f == n with
    | true => rw [e] at h; cases h; exact ⟨v, rfl, r1⟩
    | false => rw [e] at h; exact lookup_RVs r2 h
theorem pe_never {X : Cx} {e : Expr} : PE X e (fun _ _ _ => False) := ⟨fun pins s σ H Q I h => h.elim⟩
theorem xd_at {K : PySem.W.Frag} {cs : Cs} {rho : List Addr} {h : Hm} {H : Hp} {dd : Addr} {c : Nat} {fs : List D} (rl : Rel K (cs.hold dd c fs) rho h H) : ∃ vs, H dd = some (.xd ((cs.nm c).zip vs)) ∧ RVs K rho H fs vs := by
  obtain ⟨_, vs, e, _, r⟩ := rl.exs (dd, cs.nm c, fs) List.mem_cons_self
  exact ⟨vs, e, r⟩
section
variable {cs : Cs} {X : Cx} {E : XK} {known tested : List Nat} {c k k2 : Nat} {z dd : Addr} {oe : Obj} {pn : List (Addr × Obj)} {fs : List D} {e : Expr} {fe : Env → Hm → R D} {p pos q q2 q3 : Pos}
theorem se_xf {f : Str} (T : HeldOk X.K cs known tested) (hc : c ∈ known) (zc : Zc (.ref (cs.ad c)) (some dd) oe) (hf : ∃ vs, oe.data = .fields vs) (he : SE (cs.hold dd c fs) (X.suite z ((z, oe) :: pn)) E e fe)
    (ab : attributeBase e f X.env (eval e X.env) = eval e X.env := by rfl) : SE (cs.hold dd c fs) (X.suite z ((z, oe) :: pn)) E (.Attribute e f pos) (eXf z c fs f fe) := by
  obtain ⟨te, pe, qe⟩ := he.ex
  cases kn : (exNm c).contains f with
  | false =>
    refine ⟨_, pe_never, fun rho h H env σ Q rl rs pp => ?_⟩
    unfold eXf at pp
    rw [kn] at pp
    exact pp
  | true =>
    refine ⟨_, pe_xf (T.xf c hc) (T.nf c hc f (by simpa using kn)) zc hf pe ab, fun rho h H env σ Q rl rs pp => ?_⟩
    unfold eXf at pp
    rw [kn] at pp
    refine qe _ _ _ _ _ _ rl rs (Post.bind pp fun d h1 v r1 H1 s1 rl1 rv p1 => ?_)
    cases d <;> first | exact p1.elim | skip
    rename_i a
    simp only at p1
    split at p1
    · rename_i ea
      subst ea
      split at p1
      · rename_i d e2
        obtain ⟨vs, e3, r3⟩ := xd_at rl1
        rw [T.nm c hc] at e3
        obtain ⟨w, e4, r4⟩ := lookup_RVs r3 e2
        exact ⟨by simpa [RV] using rv, rfl, dd, _, w, rfl, e3, e4, p1.fin rl1 r4⟩
      · exact p1.elim
    · exact p1.elim
inductive ClsT (cs : Cs) (X : Cx) (tested : List Nat) : List Expr → List Nat → Prop
  | nil : ClsT cs X tested [] []
  | cons {x : Str} {k : Nat} {q : Pos} {es : List Expr} {ks : List Nat} (hk : k ∈ tested) (hg : Gl X x) (hm : X.mg x = some (.ref (cs.ad k))) (hd : (x == ("__debug__" : Str)) = false) (hs : starEach (.Name x q :: es) X.env = (false, eval (.Name x q) X.env) :: starEach es X.env) (r : ClsT cs X tested es ks) :
      ClsT cs X tested (.Name x q :: es) (k :: ks)
theorem ClsT.pa {es : List Expr} {ks : List Nat} (h : ClsT cs X tested es ks) : ∃ t : TA, PA (X.suite z ((z, oe) :: pn)) es t ∧ ∀ σ H (Q : List V → Hp → Prop), Q (ks.map fun k => V.ref (cs.ad k)) H → t σ H Q := by
  induction h with
  | nil => exact ⟨_, pa_nil, fun σ H Q q => q⟩
  | @cons x k q es ks hk hg hm hd hs r ih =>
    obtain ⟨t, p, q⟩ := ih
    exact ⟨_, pa_cons (pe_glob hg hm (v := .ref (cs.ad k)) rfl hd) p hs, fun σ H Q w => q _ _ _ w⟩
theorem ClsT.any {es : List Expr} {ks : List Nat} (h : ClsT cs X tested es ks) (T : HeldOk X.K cs known tested) (hc : c ∈ known) : PySem.W.kitAny X.K (.ref (cs.ad c)) (ks.map fun k => Value.ref (cs.ad k)) = some (ks.any (isSub c)) := by
  induction h with
  | nil => rfl
  | cons hk hg hm hd hs r ih =>
    rw [List.map_cons, List.any_cons]
    unfold PySem.W.kitAny
    rw [T.one hc hk, ih]
    cases isSub c _ <;> rfl
theorem vals_refs : ∀ {ks : List Nat} {us : List Value}, Vals (ks.map fun k => V.ref (cs.ad k)) us → us = ks.map fun k => Value.ref (cs.ad k)
  | [], _, h => by cases h; rfl
  | k :: ks, _, h => by
    cases h with
    | cons r t => rw [vals_refs t]; cases r; rfl
theorem se_isXt {es : List Expr} {ks : List Nat} {kk} (T : HeldOk X.K cs known tested) (hc : c ∈ known) (zc : Zc (.ref (cs.ad c)) (some dd) oe) (hf : ∃ vs, oe.data = .fields vs) (hg : Gl X "isinstance") (hm : X.mg "isinstance" = none) (ht : ClsT cs X tested es ks) (hz : ks.length ≤ 100)
    (he : SE (cs.hold dd c fs) (X.suite z ((z, oe) :: pn)) E e fe)
    (h1 : starEach [e, .Tuple es kk q] X.env = (false, eval e X.env) :: starEach [.Tuple es kk q] X.env := by rfl) (h2 : starEach [.Tuple es kk q] X.env = (false, eval (.Tuple es kk q) X.env) :: starEach [] X.env := by rfl) (h3 : (backTo pos (starEach [.Tuple es kk q] X.env)).any (·.1) = false := by rfl) :
    SE (cs.hold dd c fs) (X.suite z ((z, oe) :: pn)) E (.Call (.Name "isinstance" p) [e, .Tuple es kk q] [] pos) (e1 (dIsXt z c ks) fe) := by
  obtain ⟨te, pe, qe⟩ := he.ex
  obtain ⟨t, pt, qt⟩ := ht.pa (z := z) (oe := oe) (pn := pn)
  refine ⟨_, pe_callB (call_isXt (T.xc c hc) zc hf (cvs := ks.map fun k => Value.ref (cs.ad k))) hg hm (by decide +kernel) (pa_cons pe (pa_cons (pe_tup pt) pa_nil h2) h1) (by decide) (by decide) h1 h3, fun rho h H env σ Q rl rs pp => qe _ _ _ _ _ _ rl rs (Post.bind pp fun d h1 v r1 H1 s1 rl1 rv p1 => ?_)⟩
  refine qt _ _ _ ⟨by rw [List.length_map]; exact Nat.le_trans hz (by decide), fun a ha => ?_⟩
  unfold dIsXt at p1
  split at p1
  · split at p1
    · rename_i a ea
      subst ea
      obtain ⟨vs, e3, r3⟩ := xd_at rl1
      exact ⟨_, _, ks.any (isSub c), _, by rw [show v = .ref _ by simpa [RV] using rv], SqT.of upd_same, fun us => vals_refs, ht.any T hc, by rw [upd_ne (ne_of_none e3 ha)]; exact e3, p1 _ _ _ (St.aside ha) (rl1.aside ha) RV.ofBl⟩
    · exact p1.elim
  · exact p1.elim
end
end Wm
namespace Wm
open PySem PySem.Spec PyProof.Rows L2
theorem passF {P : Program} {w : World} {X : Cx} : Passes (L2.CX P w) X (fun _ _ _ => False) := fun _ _ _ _ _ _ _ q => by
  obtain ⟨_, _, _, _, _, _, _, _, _, _, _, _, z⟩ := q
  exact z.elim
theorem ref_tail {C : Addr} : PySem.W.excTail PySem.WetX.aeMro [.ref C, .type "ArithmeticError", .type "Exception", .type "BaseException", .type "object"] = true := by
  rfl
end Wm
namespace Wm
open PySem PySem.Spec PyProof.Rows L2
theorem over_of {K : PySem.W.Frag} {C B N : Addr} {nm q : Str} {bs sub : List Value} {sn : List Str} {ab : Bool} {col : Option Bool} {dd : Option Addr} {k0 k1 k2 k3 k5 : Option Value}
    (lk : K.lookup C = some (excClassObj nm q C N bs [.ref B, .type "ArithmeticError", .type "Exception", .type "BaseException", .type "object"] true sn sub ab col dd k0 k1 k2 k3 k5 "ArithmeticError.__new__")) : PySem.W.excOver K C PySem.WetX.aeMro = true := by
  have e : PySem.W.clsIn K C = some { name := nm, bases := bs, mro := .ref C :: [.ref B, .type "ArithmeticError", .type "Exception", .type "BaseException", .type "object"], ns := N, qualname := q, hasDict := true, slotNames := sn, subclasses := sub, abstract := ab, collection := col, hasDel := false } := by
    unfold PySem.W.clsIn
    rw [lk] <;> rfl
  unfold PySem.W.excOver
  rw [e]
  show (C == C && PySem.W.excTail PySem.WetX.aeMro _) = true
  rw [beq_self_eq_true, ref_tail]; rfl
end Wm
end
section
namespace Wm
open PySem PySem.Spec PyProof.Rows L2
section
variable {K : PySem.W.Frag} {cs : Cs} {E : XK} {X : Cx}
end
end Wm
end
section
namespace Wm
open PySem PySem.Spec PyProof.Rows L2
def atX (xs : List Ent) (k : NestedKey) : Option (Addr × V) := (xs.find? fun x => decide (x.1 = k)).map fun x => x.2
theorem rel_at {k : NestedKey} : ∀ {xs : List Ent} {ys : List (NestedKey × Addr × Value)}, Paired RelE xs ys → (atX xs k = none ∧ atKey ys k = none) ∨ ∃ b v u, atX xs k = some (b, v) ∧ atKey ys k = some (b, u) ∧ RelV v u
  | [], _, .nil => Or.inl ⟨rfl, rfl⟩
  | x :: xs, y :: ys, .cons r t => by
    obtain ⟨r1, r2, r3⟩ := r
    unfold atX atKey
    rw [List.find?_cons, List.find?_cons]
    by_cases c : x.1 = k
    · have c2 : y.1 = k := r1.symm.trans c
      rw [decide_eq_true c, decide_eq_true c2]
      exact Or.inr ⟨x.2.1, x.2.2, y.2.2, rfl, by rw [r2]; rfl, r3⟩
    · have c2 : ¬ y.1 = k := fun z => c (r1.trans z)
      rw [decide_eq_false c, decide_eq_false c2]
      exact rel_at t
section
variable {K : PySem.W.Frag} {cs : Cs} {rho : List Addr} {H : Hp} {h : Hm}
section
variable {X : Cx} {pins : List (Addr × Obj)} {σ : L2.St} {s : Shared}
mutual
theorem key_is (I : Inv X pins σ H s) : ∀ (d : D) (v : V) (u : Value) (k : NestedKey), RV X.K rho H d v → RelV v u → keyN d = some k → NestedIs s.heap k u
  | .non, v, u, k, r, q, e => by rw [r.nonE] at q; simp only [keyN] at e; cases e; cases q; exact .none
  | .bl b, v, u, k, r, q, e => by rw [r.blE] at q; simp only [keyN] at e; cases e; cases q; exact .bool rfl
  | .int i, v, u, k, r, q, e => by rw [r.intE] at q; simp only [keyN] at e; cases e; obtain ⟨t, rfl⟩ := q; exact .int _ _
  | .str i, v, u, k, r, q, e => by rw [r.strE] at q; simp only [keyN] at e; cases e; obtain ⟨t, rfl⟩ := q; exact .text _ _
  | .obj i, v, u, k, r, q, e => by simp only [keyN] at e; cases e
  | .hld i, v, u, k, r, q, e => by simp only [keyN] at e; cases e
  | .tup ds, v, u, k, r, q, e => by
    obtain ⟨a, vs, rfl, h1, r1⟩ := r.tupE
    simp only [keyN] at e
    cases e1 : keyNs ds with
    | none => rw [e1] at e; cases e
    | some ks =>
      rw [e1] at e
      cases e
      obtain ⟨its, rv, it, _⟩ := I.tuple h1
      obtain rfl : u = Value.ref a := q
      obtain ⟨o, g, c, n, dt⟩ := it
      exact .tup g c dt (keys_is I ds vs its ks r1 rv e1)
theorem keys_is (I : Inv X pins σ H s) : ∀ (ds : List D) (vs : List V) (us : List Value) (ks : List NestedKey), RVs X.K rho H ds vs → Vals vs us → keyNs ds = some ks → NestedAll s.heap ks us
  | [], vs, us, ks, r, q, e => by
    simp only [RVs] at r
    subst r
    simp only [keyNs] at e
    cases e; cases q
    exact .nil
  | d :: ds, vs, us, ks, r, q, e => by
    simp only [RVs] at r
    obtain ⟨v, vs', rfl, r1, r2⟩ := r
    simp only [keyNs] at e
    split at e
    · rename_i p ps e1 e2
      cases e
      cases q with
      | cons q1 q2 => exact .cons (key_is I d v _ p r1 q1 e1) (keys_is I ds vs' _ ps r2 q2 e2)
    · cases e
end
theorem keyD_tup {d : D} {k : NestedKey} (e : keyD d = some k) : keyN d = some k ∧ k.depth ≤ 8 := by
  unfold keyD at e
  split at e
  · rename_i ds
    split at e
    · rename_i ks e1
      split at e
      · rename_i l
        cases e
        exact ⟨by simp only [keyN, e1]; rfl, l⟩
      · cases e
    · cases e
  · cases e
theorem key_at (I : Inv X pins σ H s) {d : D} {b : Addr} {k : NestedKey} (r : RV X.K rho H d (.ref b)) (e : keyD d = some k) : (nestedKind X.prog X.w).is s.heap k b := by
  obtain ⟨e1, e2⟩ := keyD_tup e
  exact ⟨key_is I d (.ref b) (.ref b) k r rfl e1, e2⟩
end
end
end Wm
end
section
namespace Wm
open PySem PySem.Spec PyProof.Rows L2
abbrev hK (w : World) : NestedKey → Int := NestedKey.hash w
def DAt (K : PySem.W.Frag) (hs : NestedKey → Int) (H : Hp) (a : Addr) (xs : List Ent) : Prop := ∃ rho ks, keyL ks = some (xs.map fun x => x.1) ∧ RVs K rho H ks (xs.map fun x => V.ref x.2.1) ∧ Rd H a (.ext (rawD hs a xs))
section
variable {X : Cx} {pins : List (Addr × Obj)} {σ : L2.St} {s : Shared} {H : Hp}
theorem at_non {k : NestedKey} {xs : List Ent} {ys : List (NestedKey × Addr × Value)} (r : Paired RelE xs ys) (e : atX xs k = none) : atKey ys k = none := by
  rcases rel_at (k := k) r with ⟨e1, e2⟩ | ⟨b, v, u, e1, e2, r3⟩
  · exact e2
  · rw [e1] at e; cases e
theorem PSet.or {t t' : TSet} (h : PSet X t) (h' : PSet X t') : PSet X (fun o i v H Q => t o i v H Q ∨ t' o i v H Q) := by
  intro pins s σ H o i v ov iv u Q I ro ri rv q
  rcases q with q | q
  · exact h pins s σ H o i v ov iv u Q I ro ri rv q
  · exact h' pins s σ H o i v ov iv u Q I ro ri rv q
end
end Wm
end
section
namespace Wm
open PySem PySem.Spec PyProof.Rows L2
def dctOf (h : Hm) : D → Option (List D × List D)
  | .obj n => match h[n]? with
    | some (.dct ks vs) => some (ks, vs)
    | some (.dcl ks vs) => some (ks, vs)
    | _ => none
  | _ => none
section
variable {K : PySem.W.Frag} {cs : Cs} {rho : List Addr} {H : Hp} {h : Hm} {E : XK}
end
section
variable {cs : Cs} {X : Cx} {E : XK} {a : Expr} {es : List Expr} {pos : Pos} {fa fo fi fk fv : Env → Hm → R D} {fs : Env → Hm → R (List D)}
end
end Wm
end
section
namespace Wm
open PySem PySem.Spec PyProof.Rows L2
section
variable {K : PySem.W.Frag} {cs : Cs} {rho r1 : List Addr} {H H1 : Hp} {h : Hm} {E : XK} {p : Addr} {o u : HO} {n : Nat}
theorem SqT.up {a : Addr} {xs : List V} (q : SqT K H a xs) (hp : H p = some u) (m : MutW (some u)) : SqT K (upd H p o) a xs := SqT.keep q fun u' hu nm => by
  rw [upd_ne]
  · exact hu
  · intro e; subst e; rw [hp] at hu; cases hu; exact nm m
mutual
theorem RV.up (hp : H p = some u) (m : MutW (some u)) : ∀ (d : D) (v : V), RV K rho H d v → RV K rho (upd H p o) d v
  | .non, _, h => by simpa [RV] using h
  | .bl _, _, h => by simpa [RV] using h
  | .int _, _, h => by simpa [RV] using h
  | .str _, _, h => by simpa [RV] using h
  | .hld _, _, h => by simpa [RV] using h
  | .obj n, v, h => by simpa [RV] using h
  | .tup ds, v, h => by
    simp only [RV] at h ⊢
    obtain ⟨a, vs, h1, h2, h3⟩ := h
    exact ⟨a, vs, h1, Wm.SqT.up h2 hp m, RVs.up hp m ds vs h3⟩
theorem RVs.up (hp : H p = some u) (m : MutW (some u)) : ∀ (ds : List D) (vs : List V), RVs K rho H ds vs → RVs K rho (upd H p o) ds vs
  | [], _, h => by simpa [RVs] using h
  | d :: ds, vs, h => by
    simp only [RVs] at h ⊢
    obtain ⟨v, vs', h1, h2, h3⟩ := h
    exact ⟨v, vs', h1, RV.up hp m d v h2, RVs.up hp m ds vs' h3⟩
end
theorem RS.up {env : Env} {σ : L2.St} (hp : H p = some u) (m : MutW (some u)) (r : RS K rho H env σ) : RS K rho (upd H p o) env σ := ⟨r.1, fun i d e => by
  obtain ⟨v, e1, e2⟩ := r.2 i d e
  exact ⟨v, e1, RV.up hp m _ _ e2⟩⟩
theorem ObR.keepU {a : Addr} {ob : Ob} (hp : H p = some u) (m : MutW (some u)) (k : ∀ u', H a = some u' → (ob.mu = true ∨ ¬ MutW (some u')) → upd H p o a = some u') (h : ObR K cs rho H a ob) : ObR K cs rho (upd H p o) a ob := by
  cases ob with
  | lst xs => obtain ⟨vs, h, r⟩ := h; exact ⟨vs, k _ h (Or.inl rfl), RVs.up hp m _ _ r⟩
  | scr xs => obtain ⟨vs, h, r⟩ := h; exact ⟨vs, h.keep fun o q => k _ q (Or.inr fun z => z), RVs.up hp m _ _ r⟩
  | ins c fs => obtain ⟨dx, vs, h, l, r⟩ := h; exact ⟨dx, vs, k _ h (Or.inl rfl), l, RVs.up hp m _ _ r⟩
  | dct ks vs => obtain ⟨xs, e, h, r, r2⟩ := h; exact ⟨xs, e, k _ h (Or.inl rfl), RVs.up hp m _ _ r, RVs.up hp m _ _ r2⟩
  | dcl ks vs => obtain ⟨xs, od, e, h, r, r2⟩ := h; exact ⟨xs, od, e, k _ h (Or.inl rfl), RVs.up hp m _ _ r, RVs.up hp m _ _ r2⟩
theorem Rel.turn {ob old : Ob} (r : Rel K cs rho h H) (hr : rho[n]? = some p) (ho : h[n]? = some old) (mo : old.mu = true) (hm : ob.mu = true) (hp : H p = some u) (m : MutW (some u))
    (nw : ObR K cs rho (upd H p o) p ob) : Rel K cs rho (h.set n ob) (upd H p o) := by
  have hn : n < h.length := (List.getElem?_eq_some_iff.mp ho).1
  have n0 := r.pos ho mo
  refine ⟨by simp [r.len], fun n' ob' a h1 h2 => ?_, fun i j o1 o2 a h1 m1 h2 m2 e1 e2 => ?_, ?_, fun i o' i0 h1 => ?_, fun e he => ?_, fun t ht => (r.tbs t ht).own n0 hr⟩
  · by_cases e : n' = n
    · subst e
      rw [List.getElem?_set_self hn] at h1
      rw [hr] at h2
      cases h1; cases h2
      exact nw
    · rw [List.getElem?_set_ne (Ne.symm e)] at h1
      refine (r.ob n' ob' a h1 h2).keepU hp m fun u' hu q => ?_
      have ne : a ≠ p := by
        intro ea
        subst ea
        rcases q with q | q
        · exact e (r.inj n' n ob' old _ h1 q ho mo h2 hr)
        · rw [hp] at hu; cases hu; exact q m
      rw [upd_ne ne]
      exact hu
  · have key : ∀ (i : Nat) (o1 : Ob), (h.set n ob)[i]? = some o1 → o1.mu = true → ∃ o', h[i]? = some o' ∧ o'.mu = true := by
      intro i o1 h1 m1
      by_cases e : i = n
      · subst e; exact ⟨old, ho, mo⟩
      · rw [List.getElem?_set_ne (Ne.symm e)] at h1; exact ⟨o1, h1, m1⟩
    obtain ⟨o3, b1, c1⟩ := key i o1 h1 m1
    obtain ⟨o4, b2, c2⟩ := key j o2 h2 m2
    exact r.inj i j o3 o4 a b1 c1 b2 c2 e1 e2
  · obtain ⟨xs, e⟩ := r.z
    exact ⟨xs, by rw [List.getElem?_set_ne (by omega)]; exact e⟩
  · by_cases e : i = n
    · subst e
      rw [List.getElem?_set_self hn] at h1
      cases h1; exact hm
    · rw [List.getElem?_set_ne (Ne.symm e)] at h1; exact r.zm i o' i0 h1
  · obtain ⟨nin, vs, at_e, l, rv⟩ := r.exs e he
    refine ⟨nin, vs, ?_, l, RVs.up hp m _ _ rv⟩
    rw [upd_ne]
    · exact at_e
    · intro z; rw [z] at nin; exact nin n n0 hr
end
section
variable {cs : Cs} {X : Cx} {E : XK} {e : Expr} {st : Stmt} {i : Nat} {f : Env → Hm → R D} {b : Env → Hm → O}
theorem PExc.lk {K : PySem.W.Frag} {c : Nat} {fs : List D} {h : Hm} {rho r1 : List Addr} {H H1 : Hp} (s : St K rho H r1 H1) (p : PExc K cs rho H c fs h E) : PExc K cs r1 H1 c fs h E := p.mono s
end
section
variable {P : Program} {w : World} {K : PySem.W.Frag} {tg : Expr} {d : Addr} {od : Obj} {es : Array DictEntry} {ep : Nat}
end
section
variable {cs : Cs} {X : Cx} {E : XK} {tg a : Expr} {fa : Env → Hm → R D}
end
end Wm
end
section
namespace Wm
open PySem PySem.Spec PyProof.Rows L2
section
variable {X : Cx} {pins : List (Addr × Obj)} {σ : L2.St} {s : Shared} {H : Hp}
end
section
variable {cs : Cs} {X : Cx} {E : XK} {a : Expr} {pos : Pos} {fa : Env → Hm → R D}
theorem DAt.aside {K : PySem.W.Frag} {hs : NestedKey → Int} {H : Hp} {a p : Addr} {xs : List Ent} {o : HO} (d : DAt K hs H a xs) (hp : H p = none) : DAt K hs (upd H p o) a xs := by
  obtain ⟨rho, ks, e, r, q⟩ := d
  refine ⟨rho, ks, e, RVs.mono (St.aside hp) _ _ r, ?_⟩
  rcases q with q | ⟨od, q⟩
  · exact Or.inl (by rw [upd_ne (ne_of_none q hp)]; exact q)
  · exact Or.inr ⟨od, by rw [upd_ne (ne_of_none q hp)]; exact q⟩
theorem CallR.or {X : Cx} {f : Value} {r r' : List V → Hp → VK → Prop} (h : CallR X f r) (h' : CallR X f r') : CallR X f (fun xs H Q => r xs H Q ∨ r' xs H Q) := by
  intro pins s σ H xs us Q I rx q
  rcases q with q | q
  · exact h pins s σ H xs us Q I rx q
  · exact h' pins s σ H xs us Q I rx q
end
end Wm
end
section
namespace Wm
open PySem PySem.Spec PyProof.Rows L2
section
variable {K : PySem.W.Frag} {cs : Cs} {E : XK}
end
section
variable {cs : Cs} {X : Cx} {E : XK} {a b : Expr} {fa fb : Env → Hm → R D} {p pos tpos : Pos} {elts : List Expr} {kk : Nat}
end
end Wm
end
section
namespace Wm
open PySem PySem.Spec PyProof.Rows L2
namespace Sf
def Flat : NestedKey → Prop
  | .tup ks => ∀ k ∈ ks, ∀ ls, k ≠ .tup ls
  | _ => False
abbrev nh (w : World) (k : NestedKey) : Int := k.hash w
def El (h : Heap) (k : NestedKey) (b : Addr) : Prop := NestedIs h k (.ref b) ∧ Flat k
def Leaf (v : Value) : Prop := (∀ n, ofAClassStatement n v = pure false) ∧ ∃ b, ∀ n, hashByValue n v = pure b
theorem leaf_of {h : Heap} {k : NestedKey} {v : Value} (x : NestedIs h k v) (nt : ∀ ls, k ≠ .tup ls) : Leaf v := by
  cases x with
  | none => exact ⟨fun n => by cases n <;> rfl, true, fun n => by cases n <;> rfl⟩
  | bool e => exact ⟨fun n => by cases n <;> rfl, true, fun n => by cases n <;> rfl⟩
  | int i t => exact ⟨fun n => by cases n <;> rfl, true, fun n => by cases n <;> rfl⟩
  | text i t => exact ⟨fun n => by cases n <;> rfl, false, fun n => by cases n <;> rfl⟩
  | tup _ _ _ _ => exact absurd rfl (nt _)
theorem leaves_of {h : Heap} : ∀ {ks : List NestedKey} {vs : List Value}, NestedAll h ks vs → (∀ k ∈ ks, ∀ ls, k ≠ .tup ls) → ∀ v ∈ vs, Leaf v
  | [], _, .nil, _, v, hv => by cases hv
  | k :: ks, _, .cons r rs, nt, v, hv => by
    rcases List.mem_cons.mp hv with e | hv
    · rw [e]; exact leaf_of r (nt k List.mem_cons_self)
    · exact leaves_of rs (fun k' hk' => nt k' (List.mem_cons_of_mem _ hk')) v hv
theorem depth0 {k : NestedKey} (nt : ∀ ls, k ≠ .tup ls) : k.depth = 0 := by
  cases k with
  | tup ls => exact absurd rfl (nt ls)
  | none => rfl
  | num i => rfl
  | text i => rfl
theorem depthAll0 : ∀ {ks : List NestedKey}, (∀ k ∈ ks, ∀ ls, k ≠ .tup ls) → NestedKey.depthAll ks = 0
  | [], _ => rfl
  | k :: ks, nt => by
    unfold NestedKey.depthAll
    rw [depth0 (nt k List.mem_cons_self), depthAll0 (ks := ks) fun k' hk' => nt k' (List.mem_cons_of_mem _ hk')]
    rfl
theorem El.open {h : Heap} {k : NestedKey} {b : Addr} (x : El h k b) : ∃ o vs n, h.get? b = some o ∧ o.cls = .type "tuple" ∧ o.data = .seq vs n ∧ ∀ v ∈ vs.toList, Leaf v := by
  obtain ⟨x, f⟩ := x
  cases x with
  | tup h1 h2 h3 h4 => exact ⟨_, _, _, h1, h2, h3, leaves_of h4 f⟩
theorem El.kind {P : Program} {w : World} {h : Heap} {k : NestedKey} {b : Addr} (x : El h k b) : (nestedKind P w).is h k b := by
  refine ⟨x.1, ?_⟩
  obtain ⟨_, f⟩ := x
  cases k with
  | tup ks =>
    show NestedKey.depthAll ks + 1 ≤ 8
    rw [depthAll0 f]
    decide
  | none => exact f.elim
  | num i => exact f.elim
  | text i => exact f.elim
theorem El.keep {h h' : Heap} {k : NestedKey} {b : Addr} (x : El h k b) (kp : ∀ a o vs n, h.get? a = some o → o.data = .seq vs n → h'.get? a = some o) : El h' k b := ⟨NestedIs.at kp _ _ x.1, x.2⟩
section
variable {P : Program} {w : World} {A : Around} {E : Value → Shared → Prop} {s : Shared}
theorem noClass_el {k : NestedKey} {b : Addr} {Q : Bool → Shared → Prop} (x : El s.heap k b) (q : Q false s) : wpAny (model P w) A (ofAClassStatement 8 (.ref b)) Q E s := by
  obtain ⟨o, vs, n, ho, hcl, hdt, hlf⟩ := x.open
  have ty : s.TypeIs (.ref b) "tuple" := ⟨o, ho, hcl⟩
  unfold ofAClassStatement
  refine wpAny_bind (wpAny_typeOf ty ?_)
  have tt : (("tuple" : String) == "tuple") = true := by decide
  simp only [tt, if_true, Bool.not_true, Bool.false_eq_true, if_false]
  try refine wpAny_bind (wpAny_pure ?_)
  try simp only [Bool.not_true, Bool.false_eq_true, if_false]
  refine wpAny_bind (wpAny_seqItems ho hdt ?_)
  refine wpAny_bind ?_
  show wpAny _ _ (forIn vs _ _) _ _ s
  rw [← Array.forIn_toList]
  refine wpAny_forIn_list _ (fun rest r z => r.1 = none ∧ z = s ∧ ∀ v ∈ rest, Leaf v) _ ?_ ?_ _ _ ⟨rfl, rfl, hlf⟩
  · rintro v rest r z ⟨hr, rfl, all⟩
    rw [(all v List.mem_cons_self).1]
    refine wpAny_bind (wpAny_pure ?_)
    simp only [Bool.false_eq_true, if_false]
    exact wpAny_pure ⟨rfl, rfl, fun u hu => all u (List.mem_cons_of_mem _ hu)⟩
  · rintro ⟨r1, r2⟩ z ⟨hr, rfl, _⟩
    obtain rfl : r1 = none := hr
    exact wpAny_pure q
theorem unseen {k : NestedKey} {b : Addr} {Q : Bool → Shared → Prop} (x : El s.heap k b) {ys : List Value} (hy : ∀ y ∈ ys, ∃ l c, y = Value.ref c ∧ El s.heap l c) (q : Q false s) :
    wpAny (model P w) A (searchCouldBeSeen (.ref b) ys) Q E s := by
  unfold searchCouldBeSeen
  refine wpAny_bind ?_
  refine wpAny_forIn_list _ (fun rest r z => r.1 = none ∧ z = s ∧ ∀ y ∈ rest, ∃ l c, y = Value.ref c ∧ El s.heap l c) _ ?_ ?_ _ _ ⟨rfl, rfl, hy⟩
  · rintro v rest r z ⟨hr, rfl, all⟩
    obtain ⟨l, c, rfl, xc⟩ := all v List.mem_cons_self
    have later : ∀ y ∈ rest, ∃ l c, y = Value.ref c ∧ El z.heap l c := fun u hu => all u (List.mem_cons_of_mem _ hu)
    dsimp only
    by_cases same : (b == c || (carriedByValue (.ref b) && carriedByValue (.ref c))) = true
    · exact wp_if_pos same (wpAny_pure ⟨rfl, rfl, later⟩)
    · refine wp_if_neg same ?_
      refine wpAny_bind ((nestedKind P w).quiet x.kind ?_)
      simp only [Bool.not_true, Bool.false_eq_true, if_false]
      refine wpAny_bind ((nestedKind P w).quiet xc.kind ?_)
      simp only [Bool.not_true, Bool.false_eq_true, if_false]
      refine wpAny_bind (noClass_el x ?_)
      simp only [Bool.false_eq_true, if_false]
      refine wpAny_bind (noClass_el xc ?_)
      simp only [Bool.false_eq_true, if_false]
      exact wpAny_pure ⟨rfl, rfl, later⟩
  · rintro ⟨r1, r2⟩ z ⟨hr, rfl, _⟩
    obtain rfl : r1 = none := hr
    exact wpAny_pure q
def rws (w : World) (L : List (Addr × NestedKey)) : List (Int × Value) := L.map fun p => (nh w p.2, Value.ref p.1)
def hss (w : World) (L : List (Addr × NestedKey)) : List Int := L.map fun p => nh w p.2
structure Tb (w : World) (h : Heap) (a : Addr) (L : List (Addr × NestedKey)) (es : Array (Int × Value)) (ep : Nat) (t : SetTable) : Prop where
  ob : ∃ o, h.get? a = some o ∧ o.ExactSet ∧ o.data = .set es ep t
  row : es.toList = rws w L
  tab : TabOk t (hss w L)
  nd : (L.map (·.2)).Nodup
  led : w.params.followText "set-order" = true ∨ t.led = true
  m7 : t.mask = 7
  few : L.length ≤ 4
variable {a : Addr} {L : List (Addr × NestedKey)} {es : Array (Int × Value)} {ep : Nat} {t : SetTable}
theorem Tb.cnt (T : Tb w s.heap a L es ep t) : es.size = L.length := by
  have z := congrArg List.length T.row
  simpa [rws] using z
theorem Tb.fit (T : Tb w s.heap a L es ep t) : t.fits es.size = true := by
  have z := T.tab.sz
  have z2 := T.cnt
  have z3 := T.few
  have z4 := T.m7
  simp only [hss, List.length_map] at z
  unfold SetTable.fits SetTable.fill
  rw [T.tab.dm, Bool.and_eq_true, beq_iff_eq, decide_eq_true_eq]
  refine ⟨by omega, ?_⟩
  show t.place.size + 0 ≤ t.mask
  omega
theorem Tb.nth (T : Tb w s.heap a L es ep t) {i : Nat} {p : Addr × NestedKey} (e : L[i]? = some p) : es[i]? = some (nh w p.2, Value.ref p.1) := by
  rw [← Array.getElem?_toList, T.row, rws, List.getElem?_map, e]
  rfl
theorem Tb.room (T : Tb w s.heap a L es ep t) : ¬ t.gaveWay = true := by
  unfold SetTable.gaveWay
  rw [mask_odd T.tab.mok]
  decide
theorem clean_nth {m : Nat} : ∀ (n : Nat) (p : SetTable.Probe), p.dummy = none → (L2.nth m p n).dummy = none
  | 0, _, h => h
  | n + 1, p, h => clean_nth n (adv m p) (by unfold adv; split <;> exact h)
abbrev at0 (t : SetTable) (v : Int) : SetTable.Probe := runAt t.mask (SetTable.bits v % (t.mask + 1)) (SetTable.bits v)
theorem look (T : Tb w s.heap a L es ep t) (els : ∀ p ∈ L, El s.heap p.2 p.1) {x : Addr} {k : NestedKey} (hx : El s.heap k x) (hu : A.units + 8 < cLine) {K : Nat} (hKf : K < 10 * SetTable.turns t.mask)
    (hK : way t.mask (nh w k) K ∉ t.place.toList) (hKb : ∀ c, c < K → way t.mask (nh w k) c ∈ t.place.toList) {Q : SetFound → Shared → Prop}
    (yes : k ∈ L.map (·.2) → Q (.there none) s) (no : k ∉ L.map (·.2) → Q (.free (way t.mask (nh w k) K) false) s) :
    ∀ (f c : Nat) (stand : Option SetTable.Probe), stand.getD (t.probeStart (nh w k)) = L2.nth t.mask (at0 t (nh w k)) c → c ≤ K → K - c < f →
      (∀ (i : Nat) p, L[i]? = some p → p.2 = k → ∃ c', c ≤ c' ∧ c' < K ∧ t.place.toList[i]? = some (way t.mask (nh w k) c')) →
      wpAny (model P w) A (setSearchFrom a (.ref x) (nh w k) true f stand) Q E s
  | 0, c, _, _, _, hf, _ => absurd hf (Nat.not_lt_zero _)
  | f + 1, c, stand, hst, hc, hf, hre => by
    obtain ⟨o, ho, _, hdt⟩ := T.ob
    rw [setSearchFrom_succ]
    refine wpAny_bind (wpAny_setState_of ho hdt T.fit ?_)
    dsimp only
    refine wp_if_neg T.room ?_
    try refine wpAny_bind (wpAny_pure ?_)
    have go1 : ∀ q, L2.nth t.mask (L2.nth t.mask (at0 t (nh w k)) c) q = L2.nth t.mask (at0 t (nh w k)) (c + q) := fun q => (nth_add t.mask c _ q).symm
    have go2 : ∀ q, (L2.nth t.mask (L2.nth t.mask (at0 t (nh w k)) c) q).j = way t.mask (nh w k) (c + q) := fun q => congrArg SetTable.Probe.j (go1 q)
    have hashAt : ∀ (i : Nat) p, L[i]? = some p → (fun i => (es[i]?.map (·.1)).getD 0) i = nh w p.2 := fun i p hp => by
      show (es[i]?.map (·.1)).getD 0 = _
      rw [T.nth hp]
      rfl
    rcases go_spec t T.tab.ris T.tab.dm (fun i => (es[i]?.map (·.1)).getD 0) (nh w k) (10 * SetTable.turns t.mask) (K - c) _ (clean_nth c (at0 t (nh w k)) rfl) (by omega)
      (fun q hq => by rw [go2]; exact hKb (c + q) (by omega)) (by rw [go2, show c + (K - c) = K by omega]; exact hK) with ⟨q, i, hq, hi, hh, hno, hpr⟩ | ⟨hno, hpr⟩
    · have met : t.probe (fun i => (es[i]?.map (·.1)).getD 0) (nh w k) (stand.getD (t.probeStart (nh w k))) = some (.candidate (way t.mask (nh w k) (c + q)) i (L2.nth t.mask (at0 t (nh w k)) (c + (q + 1)))) := by
        rw [hst, ← go2, ← go1]
        exact hpr
      rw [met]
      dsimp only
      rw [go2] at hi
      have il : i < L.length := by
        have l1 : i < t.place.toList.length := (List.getElem?_eq_some_iff.mp hi).1
        have l2 := T.tab.sz
        simp only [hss, List.length_map] at l2
        rw [Array.length_toList] at l1
        omega
      obtain ⟨p, hp⟩ : ∃ p, L[i]? = some p := ⟨_, List.getElem?_eq_getElem il⟩
      have pm : p ∈ L := List.mem_of_getElem? hp
      have onward : wpAny (model P w) A (searchRest a (.ref x) (nh w k) true f es t (way t.mask (nh w k) (c + q)) i (L2.nth t.mask (at0 t (nh w k)) (c + (q + 1)))) Q E s := by
        unfold searchRest
        rw [T.nth hp]
        dsimp only
        refine wpAny_bind (wpAny_holding ((nestedKind P w).eqBool hu (els p pm).kind hx.kind ?_))
        refine wpAny_bind (wpAny_setState_of ho hdt T.fit ?_)
        dsimp only
        by_cases kk : p.2 = k
        · refine wp_if_pos (by simp [kk]) ?_
          exact wpAny_pure (yes (List.mem_map.mpr ⟨p, pm, kk⟩))
        · refine wp_if_neg (by simp [kk]) ?_
          try refine wpAny_bind (wpAny_pure ?_)
          rw [sameMem]
          dsimp only
          have sl : t.slot (way t.mask (nh w k) (c + q)) = .live i := slot_live T.tab.ris hi
          simp only [if_true, sl, T.nth hp]
          refine wpAny_bind (wpAny_isSame_ref_self (wpAny_bind (wpAny_pure ?_)))
          simp only [if_true]
          refine wp_if_neg (by simp [kk]) ?_
          refine look T els hx hu hKf hK hKb yes no f (c + (q + 1)) _ rfl (by omega) (by omega) fun i0 p0 h0 k0 => ?_
          obtain ⟨c', a1, a2, a3⟩ := hre i0 p0 h0 k0
          refine ⟨c', ?_, a2, a3⟩
          rcases Nat.lt_trichotomy c' (c + q) with z | z | z
          · exact absurd ((hashAt i0 p0 h0).trans (congrArg (nh w) k0)) (hno (c' - c) i0 (by omega) (by rw [go2, show c + (c' - c) = c' by omega]; exact a3))
          · rw [z] at a3
            have s0 := slot_live T.tab.ris a3
            rw [sl] at s0
            injection s0 with s0
            rw [← s0, hp] at h0
            exact absurd ((congrArg Prod.snd (Option.some.inj h0)).trans k0) kk
          · omega
      by_cases hl : t.led = true
      · refine wp_if_neg (by simp [hl]) ?_
        try refine wpAny_bind (wpAny_pure ?_)
        exact onward
      · refine wp_if_pos (by simp [hl]) ?_
        refine wpAny_bind (unseen hx (fun y hy => ?_) ?_)
        · obtain ⟨e, he, ee⟩ := List.mem_map.mp hy
          have m1 : e ∈ es ∧ e.1 = nh w k := by simpa using he
          have m2 : e ∈ es.toList := by simpa using m1.1
          rw [T.row] at m2
          obtain ⟨p2, hp2, e2⟩ := List.mem_map.mp m2
          exact ⟨p2.2, p2.1, by rw [← ee, ← e2], els p2 hp2⟩
        · refine wp_if_neg (by decide) ?_
          try refine wpAny_bind (wpAny_pure ?_)
          exact onward
    · have met : t.probe (fun i => (es[i]?.map (·.1)).getD 0) (nh w k) (stand.getD (t.probeStart (nh w k))) = some (.empty (way t.mask (nh w k) K) none) := by
        have e2 := go2 (K - c)
        rw [show c + (K - c) = K by omega] at e2
        rw [hst, ← e2]
        exact hpr
      rw [met]
      dsimp only
      refine wpAny_pure (no fun hm => ?_)
      obtain ⟨p0, h0, k0⟩ := List.mem_map.mp hm
      obtain ⟨i0, _, e0⟩ := List.getElem_of_mem h0
      have h00 : L[i0]? = some p0 := List.getElem?_eq_some_iff.mpr ⟨_, e0⟩
      obtain ⟨c', a1, a2, a3⟩ := hre i0 p0 h00 k0
      exact hno (c' - c) i0 (by omega) (by rw [go2, show c + (c' - c) = c' by omega]; exact a3) ((hashAt i0 p0 h00).trans (congrArg (nh w) k0))
end
end Sf
end Wm
end
section
namespace Wm
open PySem PySem.Spec PyProof.Rows L2
open PySem.W (dataLe AllAlike Sortable EachIs sorted_data readsAll_each dataLt list_sort_data)
namespace Sf
def SetN (w : World) (a : Addr) (L : List (Addr × NestedKey)) : HO := .ext fun h => ∃ es ep t, Tb w h a L es ep t
theorem Tb.keep {w : World} {h h' : Heap} {a : Addr} {L : List (Addr × NestedKey)} {es : Array (Int × Value)} {ep : Nat} {t : SetTable} (T : Tb w h a L es ep t) (k : ∀ o, h.get? a = some o → h'.get? a = some o) : Tb w h' a L es ep t := by
  obtain ⟨⟨o, ho, r⟩, q1, q2, q3, q4, q5, q6⟩ := T
  exact ⟨⟨o, k o ho, r⟩, q1, q2, q3, q4, q5, q6⟩
section
variable {P : Program} {w : World} {A : Around} {E : Value → Shared → Prop} {s : Shared} {a : Addr} {L : List (Addr × NestedKey)} {es : Array (Int × Value)} {ep : Nat} {t : SetTable}
end
def KeyAt (K : PySem.W.Frag) (H : Hp) (k : NestedKey) (b : Addr) : Prop := ∃ rho d, RV K rho H d (.ref b) ∧ keyD d = some k ∧ Flat k
section
variable {X : Cx}
theorem KeyAt.el {pins : List (Addr × Obj)} {σ : L2.St} {H : Hp} {s : Shared} {k : NestedKey} {b : Addr} (I : Inv X pins σ H s) (q : KeyAt X.K H k b) : El s.heap k b := by
  obtain ⟨rho, d, r, e, f⟩ := q
  exact ⟨(key_at I r e).1, f⟩
def rowsAt (us : List (D × Addr)) : List (Addr × NestedKey) := us.map fun u => (u.2, (keyD u.1).getD .none)
end
section
variable {X : Cx} {K : PySem.W.Frag} {rho : List Addr} {H : Hp}
theorem vals_refs : ∀ us : List (D × Addr), Vals (us.map fun u => V.ref u.2) (us.map fun u => Value.ref u.2)
  | [] => .nil
  | u :: us => .cons rfl (vals_refs us)
end
end Sf
end Wm
end
section
namespace Wm
open PySem PySem.Spec PyProof.Rows L2
open Sf
open Classical in
noncomputable def eFl (e : Env → Hm → R D) : Env → Hm → R D := fun env h => (e env h).bind fun y h1 => if ∃ k, keyD y = some k ∧ Flat k then .ok y h1 else .bad
def kD (d : D) : NestedKey := (keyD d).getD .none
def addK (zs : List D) (y : D) : List D := if kD y ∈ zs.map kD then zs else zs ++ [y]
def ddK (ys : List D) : List D := ys.foldl addK []
open Classical in
noncomputable def eSs (w : Env → Hm → R Its) (g : D → Env → Option Env) (t : Env → Hm → R Bool) (e : Env → Hm → R D) (ws : List Nat) : Env → Hm → R D := fun env h => (w env h).bind fun it h1 => if it.xs.length ≤ 4 then (compS it.chk g t (eFl e) it.xs (wipeE env ws) h1).bind fun ys h2 =>
  if SrtOk (ddK ys) ∧ ∀ zs, zs.Perm (ddK ys) → srtD zs = srtD (ddK ys) then new (.lst (srtD (ddK ys))) h2 else .bad else .bad
section
variable {K : PySem.W.Frag} {cs : Cs} {rho rho1 : List Addr} {h : Hm} {H H1 : Hp} {p : Addr} {f f2 : Heap → Prop}
end
section
variable {cs : Cs} {X : Cx} {E : XK} {tg iter : Expr} {pos : Pos} {ws : List Nat}
structure Got (K : PySem.W.Frag) (rho : List Addr) (H : Hp) (w : World) (p : Addr) (ys : List D) (i : Nat) (us : List (D × Addr)) (L : List (Addr × NestedKey)) : Prop where
  at_ : H p = some (SetN w p L)
  pm : L.Perm (rowsAt us)
  dd : us.map (·.1) = ddK ys
  rv : ∀ u ∈ us, RV K rho H u.1 (.ref u.2)
  fl : ∀ u ∈ us, ∃ k, keyD u.1 = some k ∧ Flat k
  le : us.length ≤ i
theorem Got.keys {K : PySem.W.Frag} {rho : List Addr} {H : Hp} {w : World} {p : Addr} {ys : List D} {i : Nat} {us : List (D × Addr)} {L : List (Addr × NestedKey)} (G : Got K rho H w p ys i us L) (k : NestedKey) : k ∈ L.map (·.2) ↔ k ∈ (ddK ys).map kD := by
  rw [(G.pm.map (·.2)).mem_iff, ← G.dd, rowsAt, List.map_map, List.map_map]
  exact Iff.rfl
theorem Got.len {K : PySem.W.Frag} {rho : List Addr} {H : Hp} {w : World} {p : Addr} {ys : List D} {i : Nat} {us : List (D × Addr)} {L : List (Addr × NestedKey)} (G : Got K rho H w p ys i us L) : L.length = us.length := by
  rw [G.pm.length_eq, rowsAt, List.length_map]
end
end Wm
end
section
namespace Wm
open PySem PySem.Spec PyProof.Rows L2
section
variable {X : Cx} {cs : Cs} {E : XK} {K : PySem.W.Frag}
end
end Wm
end
section
namespace Wm
open PySem PySem.Spec PyProof.Rows L2
def blsOf : List D → Option (List Bool)
  | [] => some []
  | .bl b :: ds => (blsOf ds).map (b :: ·)
  | _ => none
def dAll : List D → Hm → R D
  | [.obj n], h => match items h (.obj n) with
    | some xs => match blsOf xs with
      | some bs => .ok (.bl (bs.all id)) h
      | none => .bad
    | none => .bad
  | _, _ => .bad
section
variable {cs : Cs} {E : XK} {K : PySem.W.Frag} {rho : List Addr} {H : Hp}
end
end Wm
end
section
namespace Wm
open PySem PySem.Spec PyProof.Rows L2
section
variable {cs : Cs} {X : Cx} {E : XK} {e : Expr} {f : Env → Hm → R D} {k1 v1 k2 v2 : Str} {j1 j2 j3 j4 : Nat} {p1 p2 p3 p4 dpos pos : Pos}
end
end Wm
end
section
namespace Wm
open PySem PySem.Spec PyProof.Rows L2
open PySem.W (dataLe AllAlike Sortable EachIs sorted_data readsAll_each dataLt alike AlikeAll cmpIn_lt cmpIn_gt iter_tupleW readsAll_atA reads_keeps argBest_fold moved_old)
section
variable {prog : Program} {w : World} {A : Around} {E : Value → Shared → Prop} {s : Shared}
end
def MinOk (x y : D) : Prop := ∃ p q, x.py = some p ∧ y.py = some q ∧ AlikeAll [p, q] ∧ PyData.depthAll [p, q] ≤ 60
section
variable {X : Cx} {cs : Cs} {E : XK} {K : PySem.W.Frag}
end
end Wm
end
section
namespace Wm
open PySem PySem.Spec PyProof.Rows L2
open PySem.W (dataLt alike AlikeAll)
section
variable {X : Cx} {cs : Cs} {E : XK} {K : PySem.W.Frag}
theorem MinOk.two {x y : D} (m : MinOk x y) : ∃ p q, x.py = some p ∧ y.py = some q ∧ alike p q = true ∧ p ≠ .none ∧ p.depth ≤ 60 := by
  obtain ⟨p, q, e1, e2, al, dp⟩ := m
  refine ⟨p, q, e1, e2, al.1 p (by simp) q (by simp), al.2 p (by simp), ?_⟩
  simp only [PyData.depthAll] at dp
  omega
end
end Wm
end
section
namespace Wm
open PySem PySem.Spec PyProof.Rows L2
section
variable {X : Cx} {cs : Cs} {E : XK}
theorem Vals.rv2 {xs : List V} {us : List Value} (r : Vals xs us) : Vals xs.reverse us.reverse := by
  induction r with
  | nil => exact .nil
  | cons h t ih =>
    rw [List.reverse_cons, List.reverse_cons]
    exact ih.append (.cons h .nil)
theorem RVs.rv2 {K : PySem.W.Frag} {rho : List Addr} {H : Hp} : ∀ {xs : List D} {vs : List V}, RVs K rho H xs vs → RVs K rho H xs.reverse vs.reverse
  | [], vs, r => by simp only [RVs] at r; subst r; exact RVs.nil
  | x :: xs, vs, r => by
    simp only [RVs] at r
    obtain ⟨v, vs', rfl, r1, r2⟩ := r
    rw [List.reverse_cons, List.reverse_cons]
    exact (RVs.rv2 r2).append (RVs.cons r1 RVs.nil)
end
end Wm
end
section
namespace PySem
namespace F
end F
end PySem
namespace PySem
section
variable {prog : Program} {w : World} {A : Around} {E : Value → Shared → Prop} {s : Shared}
end
end PySem
namespace Wm
open PySem PySem.Spec PyProof.Rows L2
section
variable {M : Model} {A : Around} {E : Value → Shared → Prop} {s : Shared} {env : PySem.Env}
end
section
variable {cs : Cs} {X : Cx} {E : XK} {a b : Expr} {fa fb : Env → Hm → R D} {p pos tpos cp kp : Pos} {elts : List Expr} {kk jj : Nat}
end
end Wm
end
section
namespace Sh
open PySem L2 Wm
noncomputable def b_ends : Wm.BSem :=
  (sSeq (sAsg (gT [(gN 3), (gN 4)]) (eCall F_piece (aCons (eVar 0) (aCons (eVar 1) (aCons (eVar 2) aNil)))))
  (sSeq (sIf (tOrS (asB (e2 dIs (eVar 3) (eC .non))) (asB (e2 dIs (eVar 4) (eC .non))))
  (sRet (eTup (aCons (eC (.int 0)) (aCons (eVar 2) (aCons (eVar 2) aNil)))))
  sPass)
  (sSeq (sSet 5 (eTup (aCons (e2 dIx (eVar 4) (eC (.int 0))) (aCons (eC (.str "in")) aNil))))
  (sSeq (sIf (asB (e2 dEq (e2 dIx (eVar 4) (eC (.int 0))) (e2 dIx (eVar 4) (eC (.int 1)))))
  (sRet (eTup (aCons (eC (.int 1)) (aCons (eTup (aCons (e2 dIx (eVar 3) (eC (.int 0))) (aCons (eC (.str "out")) aNil))) (aCons (eVar 5) aNil)))))
  sPass)
  (sSeq (sSet 6 (e2 dMul (eC (.int 2)) (e2 dSub (e2 dIx (eVar 3) (eC (.int 1))) (e2 dIx (eVar 3) (eC (.int 0))))))
  (sSeq (sIf (asB (e2 dEq (e2 dIx (eCall F_beneath (aCons (eVar 0) (aCons (e2 dIx (eVar 4) (eC (.int 1))) aNil))) (eC (.int 0))) (e2 dIx (eVar 3) (eC (.int 1)))))
  (sRet (eTup (aCons (e2 dAdd (eVar 6) (eC (.int 2))) (aCons (eVar 5) (aCons (eTup (aCons (e2 dIx (eVar 4) (eC (.int 1))) (aCons (eC (.str "in")) aNil))) aNil)))))
  sPass)
  (sRet (eTup (aCons (e2 dAdd (eVar 6) (eC (.int 1))) (aCons (eVar 5) (aCons (eTup (aCons (e2 dIx (eVar 3) (eC (.int 1))) (aCons (eC (.str "out")) aNil))) aNil)))))))))))
noncomputable def F_ends : FS := fnS 7 b_ends
noncomputable def b_Gap_over : Wm.BSem :=
  (sRet (eTup (aCons (e2 dDiv (e2 dMul (eVar 1) (e1 (dFld 1 2) (eVar 0))) (e1 (dFld 1 1) (eVar 0))) (aCons (e2 dDiv (e2 dSub (e2 dMul (e2 dAdd (eVar 2) (eC (.int 1))) (e1 (dFld 1 2) (eVar 0))) (eC (.int 1))) (e1 (dFld 1 1) (eVar 0))) aNil))))
noncomputable def F_Gap_over : FS := fnS 3 b_Gap_over
noncomputable def b_lying : Wm.BSem :=
  (sSeq (sAsg (gT [(gN 3), (gN 4)]) (eMeth 1 F_Gap_over (eVar 0) (aCons (e2 dIx (eVar 1) (eC (.int 0))) (aCons (e2 dIx (eVar 1) (eC (.int 1))) aNil))))
  (sRet (eTup (aCons (eN dMax (aCons (e2 dIx (eVar 2) (eC (.int 0))) (aCons (eVar 3) aNil))) (aCons (eN dMin (aCons (e2 dIx (eVar 2) (eC (.int 1))) (aCons (eVar 4) aNil))) aNil)))))
noncomputable def F_lying : FS := fnS 5 b_lying
noncomputable def b_wider : Wm.BSem :=
  (sRet (eTup (aCons (eN dMax (aCons (e2 dIx (eVar 2) (eC (.int 0))) (aCons (e2 dSub (e2 dIx (eVar 0) (eC (.int 0))) (eVar 1)) aNil))) (aCons (eN dMin (aCons (e2 dIx (eVar 2) (eC (.int 1))) (aCons (e2 dAdd (e2 dIx (eVar 0) (eC (.int 1))) (eVar 1)) aNil))) aNil))))
noncomputable def F_wider : FS := fnS 3 b_wider
noncomputable def b_reached_from_low : Wm.BSem :=
  (sSeq (sAsg (gT [(gN 4), (gN 5)]) (eVar 3))
  (sSeq (sSet 6 (eC .non))
  (sSeq (sIf (tAndS (asB (e2 dIsNot (eVar 5) (eC .non))) (asB (e2 dGt (eVar 2) (eC (.int 0)))))
  (sSet 6 (eCall F_lying (aCons (eVar 0) (aCons (eCall F_wider (aCons (eTup (aCons (eVar 1) (aCons (eVar 1) aNil))) (aCons (e2 dDiv (e2 dSub (eVar 2) (eC (.int 1))) (eC (.int 2))) (aCons (eVar 4) aNil)))) (aCons (eVar 5) aNil)))))
  sPass)
  (sRet (eTup (aCons (eCall F_wider (aCons (eTup (aCons (eVar 1) (aCons (eVar 1) aNil))) (aCons (e2 dDiv (eVar 2) (eC (.int 2))) (aCons (eVar 4) aNil)))) (aCons (eVar 6) aNil)))))))
noncomputable def F_reached_from_low : FS := fnS 7 b_reached_from_low
noncomputable def b_reached_from_up : Wm.BSem :=
  (sSeq (sAsg (gT [(gN 4), (gN 5)]) (eVar 3))
  (sSeq (sIf (tOrS (asB (e2 dIs (eVar 4) (eC .non))) (asB (e2 dEq (eVar 2) (eC (.int 0)))))
  (sRet (eTup (aCons (eC .non) (aCons (eTup (aCons (eVar 1) (aCons (eVar 1) aNil))) aNil))))
  sPass)
  (sSeq (sSet 6 (eMeth 1 F_Gap_under (eVar 0) (aCons (eVar 1) aNil)))
  (sSeq (sSet 7 (eTup (aCons (eVar 1) (aCons (eVar 1) aNil))))
  (sSeq (sIf (asB (e2 dGt (eVar 2) (eC (.int 1))))
  (sSet 7 (eCall F_lying (aCons (eVar 0) (aCons (eCall F_wider (aCons (eVar 6) (aCons (e2 dDiv (e2 dSub (eVar 2) (eC (.int 2))) (eC (.int 2))) (aCons (eVar 4) aNil)))) (aCons (eVar 5) aNil)))))
  sPass)
  (sRet (eTup (aCons (eCall F_wider (aCons (eVar 6) (aCons (e2 dDiv (e2 dSub (eVar 2) (eC (.int 1))) (eC (.int 2))) (aCons (eVar 4) aNil)))) (aCons (eVar 7) aNil)))))))))
noncomputable def F_reached_from_up : FS := fnS 8 b_reached_from_up
noncomputable def b_reach : Wm.BSem :=
  (sSeq (sDrop (eCall F_check_roll (aCons (eVar 1) (aCons (eLst (aCons (eVar 2) aNil)) aNil))))
  (sSeq (sIf (tOrS (tNotS (tTruth (eCall F_is_whole (aCons (eVar 3) aNil)))) (asB (e2 dLt (eVar 3) (eC (.int 0)))))
  sBad
  sPass)
  (sSeq (sSet 4 (eMake 1 F_Gap_init (aCons (eVar 0) (aCons (eVar 1) (aCons (eVar 2) aNil)))))
  (sSeq (sSet 5 (eCall F_piece_places (aCons (eVar 4) (aCons (eVar 2) aNil))))
  (sSeq (sIf (asB (e2 dEq (e2 dIx (eVar 2) (eC (.int 1))) (eC (.str "out"))))
  (sAsg (gT [(gN 6), (gN 7)]) (eCall F_reached_from_low (aCons (eVar 4) (aCons (e2 dSub (e2 dIx (eVar 2) (eC (.int 0))) (e1 (dFld 1 3) (eVar 4))) (aCons (eVar 3) (aCons (eVar 5) aNil))))))
  (sAsg (gT [(gN 6), (gN 7)]) (eCall F_reached_from_up (aCons (eVar 4) (aCons (e2 dSub (e2 dIx (eVar 2) (eC (.int 0))) (e1 (dFld 1 4) (eVar 4))) (aCons (eVar 3) (aCons (eVar 5) aNil)))))))
  (sRet (eTup (aCons (eCall F_at_cells (aCons (e1 (dFld 1 3) (eVar 4)) (aCons (eVar 6) aNil))) (aCons (eCall F_at_cells (aCons (e1 (dFld 1 4) (eVar 4)) (aCons (eVar 7) aNil))) aNil)))))))))
noncomputable def F_reach : FS := fnS 8 b_reach
end Sh
end
open PySem L2 Wm
local macro_rules | `(tactic| simp_arith [$ls,*]) => `(tactic| simp (disch := walk_at "okk") only [fnS, envOf, sSeq, sIf, sSet, sAsg, sDrop, sRet, sRetN, sPass, sBrk, sCnt, sPar, sSub, sFldS, asB, tAndS, tOrS, tNotS, tTruth, eIf, eAnd, eOr, eNot, eChain, eTup, eLst, eSlice, oNo, oSome, eBits, e2, e1, eN, eCall, eMeth, eMake, isIns, aCons, aNil, eVar, eC, R.bind, R.bindO, O.seq, dB, dTruth, dAdd, dSub, dLt, dLe, dGt, dGe, dIs, dIsNot, D.isN, dLen, dMax, dMin, dInt, dIx, items, dFld, dSetF, dSetIx, dIsi, D.ty, Ty.is, gN, gT, gAll, Option.bind, Option.map, new,
  List.map_cons, List.map_nil, List.length_cons, List.length_nil, List.replicate, List.getElem?_cons_zero, List.getElem?_cons_succ, List.cons_append, List.nil_append, List.set_cons_zero, List.set_cons_succ, Nat.reduceAdd, Nat.reduceSub, decide_true, decide_false, if_true, if_false, dMul_ok, dDiv_ok, dMod_ok, dPow_ok, dShl_ok, beq_self_eq_true, Bool.not_true, Bool.not_false, reduceIte, reduceCtorEq, Bool.false_eq_true, $ls,*])
local macro_rules | `(tactic| walk_at "bd") => `(tactic| (focus ((repeat' (first | assumption | exact bd_litE (by decide) | (with_reducible apply bd_mulE) | (with_reducible apply bd_addE) | (with_reducible apply bd_subE) | (with_reducible apply bd_div) | (with_reducible apply bd_neg))); done)))
local macro_rules | `(tactic| walk_at "bnd") => `(tactic| (apply bd_mono; walk_at "bd"; decide))
local macro_rules | `(tactic| walk_at "okk") => `(tactic| first | assumption | (apply mulOk_of; walk_at "bd"; walk_at "bd"; decide) | (apply divOk_of; (focus (first | assumption | omega)); walk_at "bnd") | decide | omega)
section
open PySem L2 Wm
namespace Sh
open PySem L2 Wm
def wh : D → Option Bool
  | .int _ => some true
  | .non => some false
  | .bl _ => some false
  | .str _ => some false
  | .tup _ => some false
  | _ => none
theorem is_whole_wh {x : D} {b : Bool} {h : Hm} (e : wh x = some b) : F_is_whole [x] h = .ok (.bl b) h := by
  cases x <;> cases e <;> rfl
theorem gcX_app {h g : Hm} {c : Nat} {fs : List D} (l : lowsL h.length fs = true) : gcX h (.exc c fs (h ++ g)) = .exc c fs h := by
  unfold gcX
  simp only
  rw [if_pos]
  · simp
  · refine ⟨by simp, l, fun i o hi e => Or.inl ?_⟩
    rwa [List.getElem?_append_left hi] at e
theorem try_first {known : List Nat} {f : FS} {fa : Wm.Env → Hm → R (List D)} {fr : BSem} {k c : Nat} {i : Option Nat} {F : SuF} {r : List (Nat × Option Nat × SuF)} {env : Wm.Env} {h h1 h2 : Hm} {ds fs : List D} {o : O} (ea : fa env h = .ok ds h1) (ef : gcX h1 (f ds h1) = .exc c fs h2)
    (kn : known.contains c = true) (s : isSub c k = true) (kz : ∀ z, offO i (noX (F z c fs (bindI i z env) h2)) = o) : sTry known f fa fr ((k, i, F) :: r) env h = o := by
  unfold sTry
  rw [ea]
  simp only [ef, kn, if_true]
  unfold pick
  rw [s]
  exact allZ_of kz
theorem Src.oneD {h : Hm} {m k : Nat} (s : Src h m k) (xs : List D) (hk : k < 2 ^ 50) (hx : 0 < xs.length) (hx2 : xs.length ≤ 1000) (lw : ∀ x ∈ xs, D.lows (h.length + 1) x = true) :
    ∃ (v : D) (h' : Hm), v ∈ xs ∧ gcR (h ++ [.lst xs]) (F_law_one [.obj m, .obj (List.length h)] (h ++ [.lst xs])) = .ok v h' ∧ Src h' m (k + 1) ∧ Hk m h h' ∧ h.length ≤ h'.length := by
  obtain ⟨r, o, r0, r1, e1, s1⟩ := next_ok (h := h ++ [Ob.lst xs]) (many := (xs.length : Int)) s.app hk (by omega) (bd_lit (by omega) (by decide))
  obtain ⟨j, rfl⟩ : ∃ j : Nat, r = (j : Int) := ⟨r.toNat, by omega⟩
  have hj : j < xs.length := by omega
  have va : atI xs (j : Int) = some xs[j] := by rw [atI_nat hj]; exact List.getElem?_eq_getElem hj
  have mem : xs[j] ∈ xs := List.getElem_mem hj
  have ne : List.length h ≠ m := Nat.ne_of_gt s.lt
  refine ⟨xs[j], (h ++ [Ob.lst xs]).set m o, mem, ?_, s1, Hk.app.trans Hk.set, by simp⟩
  have e3 : F_law_one [.obj m, .obj (List.length h)] (h ++ [.lst xs]) = .ok xs[j] ((h ++ [Ob.lst xs]).set m o ++ []) := by
    unfold F_law_one b_law_one
    simp_arith [hnew, e1, hset_ne ne, va, List.append_nil]
  obtain ⟨a, b, c, e4, _⟩ := s1.ex
  have e5 : o = .lst [.int a, .int b, .int c] := by
    have := hset (h := h ++ [Ob.lst xs]) (o := o) s.app.lt
    rw [this] at e4; exact Option.some.inj e4
  rw [e3, e5, gc_put (by simpa using lw _ mem) rfl]
end Sh
end
section
open PySem L2 Wm
namespace Sh
open PySem L2 Wm
section
variable {h : Hm} {n : Nat} {g a b v y l k : Int}
end
end Sh
end
section
open PySem L2 Wm
namespace Sh
open PySem L2 Wm
section
variable {h : Hm} {n : Nat} {g a b v y l k t q w : Int}
end
end Sh
end
open PySem L2 Wm
local macro_rules | `(tactic| simp_arith [$ls,*]) => `(tactic| simp (disch := walk_at "okk") only [fnS, envOf, sSeq, sIf, sSet, sAsg, sDrop, sRet, sRetN, sPass, sBrk, sCnt, sPar, sPar3, sSub, sFldS, eLM, dApp, isL, eCallK, eMethK, eChain3, dMax3, dMin3, eLc, eLstR1, eLstR2, compS, tYesS, wipeE, asB, tAndS, tOrS, tNotS, tTruth, eIf, eAnd, eOr, eNot, eChain, eTup, eLst, eSlice, oNo, oSome, eBits, e2, e1, eN, eCall, eMeth, eMake, isIns, aCons, aNil, eVar, eC, R.bind, R.bindO, O.seq, dB, dTruth, dAdd, dSub, dLt, dLe, dGt, dGe, dIs, dIsNot, D.isN, dLen, dMax, dMin, dInt, dIx, items, dFld, dSetF, dSetIx, dIsi, D.ty, Ty.is, gN, gT, gAll, Option.bind, Option.map, new,
  List.map_cons, List.map_nil, List.length_cons, List.length_nil, List.replicate, List.getElem?_cons_zero, List.getElem?_cons_succ, List.cons_append, List.nil_append, List.set_cons_zero, List.set_cons_succ, Nat.reduceAdd, Nat.reduceSub, decide_true, decide_false, if_true, if_false, dMul_ok, dDiv_ok, dMod_ok, dPow_ok, dShl_ok, beq_self_eq_true, Int.reduceEq, Int.reduceLT, Int.reduceLE, Bool.not_true, Bool.not_false, reduceIte, reduceCtorEq, Bool.false_eq_true, $ls,*])
local macro_rules | `(tactic| walk_at "bd") => `(tactic| (focus ((repeat' (first | assumption | exact bd_litE (by decide) | (with_reducible apply bd_mulE) | (with_reducible apply bd_addE) | (with_reducible apply bd_subE) | (with_reducible apply bd_div) | (with_reducible apply bd_neg))); done)))
local macro_rules | `(tactic| walk_at "bnd") => `(tactic| (apply bd_mono; walk_at "bd"; decide))
local macro_rules | `(tactic| walk_at "okk") => `(tactic| first | assumption | (apply mulOk_of; walk_at "bd"; walk_at "bd"; decide) | (apply divOk_of; (focus (first | assumption | omega)); walk_at "bnd") | decide | omega)
section
open PySem L2 Wm
namespace Sh
open PySem L2 Wm
def upA (E Z x : Int) : Int := x * Z / E
section
variable {h : Hm} {n : Nat} {g a b v y l T k w B : Int}
end
section
variable {h : Hm} {n : Nat} {g a b v y l T k w B : Int}
end
end Sh
end
section
open PySem L2 Wm
namespace Sh
open PySem L2 Wm
section
variable {E Z M x z w u B : Int}
end
end Sh
end
section
open PySem L2 Wm
namespace Sh
open PySem L2 Wm
section
variable {h : Hm} {n : Nat} {g a b v y l T k w B : Int}
end
end Sh
end
section
namespace Sh
open PySem L2 Wm
end Sh
end
section
namespace Sh
open PySem L2 Wm
noncomputable def b_middle : Wm.BSem :=
  (sSeq (sAsg (gT [(gN 3), (gN 4), (gN 5)]) (eCall F_ends (aCons (eVar 0) (aCons (eVar 1) (aCons (eVar 2) aNil)))))
  (sSeq (sSet 6 (eLst (aCons (e2 dDiv (eVar 3) (eC (.int 2))) (aCons (e2 dDiv (e2 dAdd (eVar 3) (eC (.int 1))) (eC (.int 2))) aNil))))
  (sRet (eSs (wSeq (eVar 6)) (gN 7) tYesS (eCall F_on_way (aCons (eVar 0) (aCons (eVar 1) (aCons (eVar 4) (aCons (eVar 5) (aCons (eVar 7) aNil)))))) [7]))))
noncomputable def F_middle : FS := fnS 8 b_middle
end Sh
end
section
open PySem L2 Wm
namespace Sh
open PySem L2 Wm
abbrev Face := Int × Bool
def fD (f : Face) : D := .tup [.int f.1, .str (sdS f.2)]
abbrev Tab := List (Face × D)
def tbK (L : Tab) : List D := L.map fun p => fD p.1
def tbV (L : Tab) : List D := L.map fun p => p.2
def tbD (L : Tab) : Ob := .dct (tbK L) (tbV L)
def lk : Tab → Face → Option D
  | [], _ => none
  | p :: L, f => if p.1 = f then some p.2 else lk L f
def put (L : Tab) (f : Face) (x : D) : Tab := if (lk L f).isSome = true then L.map (fun p => if p.1 = f then (p.1, x) else p) else L ++ [(f, x)]
def kys (L : Tab) : List Face := L.map fun p => p.1
end Sh
end
section
open PySem L2 Wm
namespace Sh
open PySem L2 Wm
structure NbAt (h : Hm) (n : Nat) (L : Tab) (N : Face → List Face) : Prop where
  at_ : dctOf h (.obj n) = some (tbK L, tbV L)
  nd : (kys L).Nodup
  nb : ∀ f, (N f = [] ∧ lk L f = none) ∨ ∃ j, lk L f = some (.obj j) ∧ N f ≠ [] ∧ h[j]? = some (.lst ((N f).map fD))
theorem dct_app {h g : Hm} {n : Nat} {p : List D × List D} (e : dctOf h (.obj n) = some p) : dctOf (h ++ g) (.obj n) = some p := by
  unfold dctOf at e ⊢
  simp only at e ⊢
  cases q : h[n]? with
  | none => rw [q] at e; cases e
  | some o =>
    rw [List.getElem?_append_left (List.getElem?_eq_some_iff.mp q).1]
    exact e
end Sh
end
section
open PySem L2 Wm
namespace Sh
open PySem L2 Wm
def iF (f s t p : Int) : Face := (beg f s t + p, true)
def oF (f s t q : Int) : Face := (beg f s (t - 1) + q, false)
structure Pr (f s l t p q : Int) : Prop where
  t1 : 1 ≤ t
  p0 : 0 ≤ p
  p1 : p < f + t * s
  pl : beg f s t + p < l
  q0 : 0 ≤ q
  q1 : q < f + (t - 1) * s
  c1 : p * (f + (t - 1) * s) < (q + 1) * (f + t * s)
  c2 : q * (f + t * s) < (p + 1) * (f + (t - 1) * s)
def NR (f s : Int) (D : Int → Int → Int → Prop) (u v : Face) : Prop := ∃ t p q, D t p q ∧ ((u = iF f s t p ∧ v = oF f s t q) ∨ (v = iF f s t p ∧ u = oF f s t q))
section
variable {f s l : Int}
theorem beg_pred (t : Int) : beg f s t = beg f s (t - 1) + (f + (t - 1) * s) := by
  have := beg_succ f s (t - 1)
  rw [Int.sub_add_cancel] at this
  exact this
theorem Pr.rng (f1 : 1 ≤ f) (s0 : 0 ≤ s) {t p q : Int} (P : Pr f s l t p q) : 0 ≤ beg f s t + p ∧ beg f s t + p < l ∧ 0 ≤ beg f s (t - 1) + q ∧ beg f s (t - 1) + q < l := by
  have b0 : 0 ≤ beg f s (t - 1) := beg_nn f1 s0 (by have := P.t1; omega)
  have e := beg_pred (f := f) (s := s) t
  have := P.p0; have := P.pl; have := P.q0; have := P.q1
  omega
theorem NR.rng (f1 : 1 ≤ f) (s0 : 0 ≤ s) {D : Int → Int → Int → Prop} (hD : ∀ t p q, D t p q → Pr f s l t p q) {u v : Face} (r : NR f s D u v) : (0 ≤ u.1 ∧ u.1 < l) ∧ 0 ≤ v.1 ∧ v.1 < l := by
  obtain ⟨t, p, q, d, h⟩ := r
  obtain ⟨a, b, c, e⟩ := (hD _ _ _ d).rng f1 s0
  rcases h with ⟨rfl, rfl⟩ | ⟨rfl, rfl⟩
  · exact ⟨⟨a, b⟩, c, e⟩
  · exact ⟨⟨c, e⟩, a, b⟩
end
end Sh
end
section
open PySem L2 Wm
namespace Sh
open PySem L2 Wm
def Kp (h h' : Hm) : Prop := h.length ≤ h'.length ∧ ∀ i, i < h.length → h'[i]? = h[i]?
theorem Kp.app {h h' : Hm} (k : Kp h h') : ∃ g, h' = h ++ g := by
  refine ⟨h'.drop h.length, ?_⟩
  apply List.ext_getElem?
  intro i
  by_cases c : i < h.length
  · rw [List.getElem?_append_left c, k.2 i c]
  · rw [List.getElem?_append_right (by omega), List.getElem?_drop, Nat.add_sub_cancel' (by omega)]
theorem Kp.refl (h : Hm) : Kp h h := ⟨Nat.le_refl _, fun _ _ => rfl⟩
theorem Kp.trans {h h1 h2 : Hm} (a : Kp h h1) (b : Kp h1 h2) : Kp h h2 := ⟨Nat.le_trans a.1 b.1, fun i hi => (b.2 i (Nat.lt_of_lt_of_le hi a.1)).trans (a.2 i hi)⟩
end Sh
end
section
open PySem L2 Wm
namespace Sh
open PySem L2 Wm
structure Bfs (N : Face → List Face) (s0 : Face) (δ : Face → Option Nat) (C l : Nat) : Prop where
  zero : ∀ f, δ f = some 0 ↔ f = s0
  step : ∀ u v d, v ∈ N u → δ u = some d → ∃ d', δ v = some d' ∧ d' ≤ d + 1
  back : ∀ v d, δ v = some (d + 1) → ∃ u, v ∈ N u ∧ δ u = some d
  bnd : ∀ v d, δ v = some d → d < C
  rng : ∀ v d, δ v = some d → 0 ≤ v.1 ∧ v.1 < l
  few : l ≤ 100
theorem NbAt.keep {h h' : Hm} {n : Nat} {L : Tab} {N : Face → List Face} (B : NbAt h n L N) (k : Kp h h') : NbAt h' n L N := by
  obtain ⟨g, rfl⟩ := k.app
  refine ⟨dct_app B.at_, B.nd, fun f => ?_⟩
  rcases B.nb f with x | ⟨j, e1, e2, e3⟩
  · exact Or.inl x
  · exact Or.inr ⟨j, e1, e2, by rw [List.getElem?_append_left (List.getElem?_eq_some_iff.mp e3).1]; exact e3⟩
end Sh
end
section
open PySem L2 Wm
namespace Sh
open PySem L2 Wm
section
variable {h : Hm} {n : Nat} {g a b v y l T k w : Int}
end
end Sh
end
section
open PySem L2 Wm
namespace Sh
open PySem L2 Wm
def Fcs (h : Hm) (j : Nat) (F : List Face) : Prop := h[j]? = some (.lst (F.map fD)) ∨ ∃ T, h[j]? = some (tbD T) ∧ kys T = F
theorem Fcs.keep {h h' : Hm} {j : Nat} {F : List Face} (f : Fcs h j F) (e : h'[j]? = h[j]?) : Fcs h' j F := by unfold Fcs at *; rw [e]; exact f
theorem Fcs.lt {h : Hm} {j : Nat} {F : List Face} (f : Fcs h j F) : j < h.length := by
  rcases f with e | ⟨_, e, _⟩
  · exact (List.getElem?_eq_some_iff.mp e).1
  · exact (List.getElem?_eq_some_iff.mp e).1
def IsRg (F : List Face) (s : Bool) (o : Option (Int × Int)) : Prop := (∀ p, o = some p → p.1 ≤ p.2) ∧ ∀ x, (x, s) ∈ F ↔ ∃ p, o = some p ∧ p.1 ≤ x ∧ x ≤ p.2
end Sh
end
section
open PySem L2 Wm
namespace Sh
open PySem L2 Wm
section
variable {E Z M w x B : Int} {s : Bool}
theorem dst_nn {s' : Bool} {w' : Int} : 0 ≤ dst E Z s w s' w' := by
  by_cases e : s = s' ∧ w = w'
  · obtain ⟨rfl, rfl⟩ := e; rw [dst_eq]; omega
  · rw [dst_ne e]; split <;> split <;> omega
end
end Sh
end
section
open PySem L2 Wm
namespace Sh
open PySem L2 Wm
section
variable {g a b T k E Z M w : Int} {s : Bool}
end
section
variable {h : Hm} {n : Nat} {g a b v y l T k w : Int} {N : Face → List Face}
structure Wk (n : Nat) (g a b l : Int) (N : Face → List Face) (f0 : Face) (δ : Face → Option Nat) (lo up : Int → Option (Int × Int)) (wide : Int) : Prop where
  bfs : Bfs N f0 δ 300 l.toNat
  w0 : 0 ≤ wide
  re : ∀ H B, Dq H n g a b → 0 ≤ B → gcR H (F_reach [.obj n, .int l, fD f0, .int B] H) = .ok (ppD (lo B) (up B)) H
  pc : ∀ H, Dq H n g a b → gcR H (F_piece [.obj n, .int l, fD f0] H) = .ok (ppD (lo wide) (up wide)) H
  ball : ∀ B F, 0 ≤ B → (∀ v, v ∈ F ↔ ∃ e, δ v = some e ∧ (e : Int) ≤ B) → IsRg F false (lo B) ∧ IsRg F true (up B)
  top : ∀ v e, δ v = some e → (e : Int) ≤ wide
end
end Sh
end
section
open PySem L2 Wm
namespace Sh
open PySem L2 Wm
section
variable {E Z M w w' m : Int} {s s' : Bool}
theorem dst_one (Z1 : 1 ≤ Z) (h : dst E Z s w s' w' = 1) : s' = !s ∧ (if s then tch E Z w' w else tch E Z w w') := by
  have ne : ¬ (s = s' ∧ w = w') := by rintro ⟨rfl, rfl⟩; rw [dst_eq] at h; omega
  rw [dst_ne ne] at h
  cases s <;> cases s'
  · simp only [Bool.false_eq_true, if_false] at h; omega
  · simp only [Bool.false_eq_true, if_false, if_true] at h ⊢
    rw [(lwF (w := w)).1, (lwF (w := w)).2, lwT.1, lwT.2] at h
    exact ⟨rfl, by omega, by omega⟩
  · simp only [Bool.false_eq_true, if_false, if_true] at h ⊢
    rw [(lwF (w := w')).1, (lwF (w := w')).2, lwT.1, lwT.2] at h
    exact ⟨rfl, by omega, by omega⟩
  · simp only [if_true] at h; omega
theorem way_touch (P : Pc E Z M) (i : InP E Z M s w) (i' : InP E Z M s' w') (m0 : 0 ≤ m) (m1 : m < dst E Z s w s' w') :
    dst E Z (wyS E Z s w s' w' m) (wyW E Z s w s' w' m) (wyS E Z s w s' w' (m + 1)) (wyW E Z s w s' w' (m + 1)) = 1 := by
  obtain ⟨a1, a2, a3, a4, a5⟩ := wy_in P i i' m0 (by omega)
  obtain ⟨b1, b2, b3, b4, b5⟩ := wy_in P i i' (m := m + 1) (by omega) (by omega)
  by_cases c0 : m = 0
  · obtain ⟨q1, q2⟩ := a4 c0
    rw [q1, q2, b2, c0]; rfl
  · by_cases c1 : m + 1 = dst E Z s w s' w'
    · obtain ⟨q1, q2⟩ := b5 c1
      rw [q1, q2, a3]; omega
    · have ne : ¬ (s = s' ∧ w = w') := by rintro ⟨rfl, rfl⟩; rw [dst_eq] at m1; omega
      have dl := dst_line P i i' ne
      obtain ⟨p0, p1, h0, _⟩ := ps_rng P i
      obtain ⟨p0', p1', h0', _⟩ := ps_rng P i'
      obtain ⟨p, hp⟩ : ∃ p, p = (if ps E Z s w ≤ ps E Z s' w' then ps E Z s w + (m - hr E Z s w) else ps E Z s w - (m - hr E Z s w)) := ⟨_, rfl⟩
      obtain ⟨p', hp'⟩ : ∃ p', p' = (if ps E Z s w ≤ ps E Z s' w' then ps E Z s w + (m + 1 - hr E Z s w) else ps E Z s w - (m + 1 - hr E Z s w)) := ⟨_, rfl⟩
      have eS : wyS E Z s w s' w' m = spS p ∧ wyW E Z s w s' w' m = spW E Z p := by
        unfold wyS wyW
        have cD : ¬ m = dst E Z s w s' w' := by omega
        rw [if_neg c0, if_neg c0, if_neg cD, if_neg cD, ← hp]
        exact ⟨rfl, rfl⟩
      have eS' : wyS E Z s w s' w' (m + 1) = spS p' ∧ wyW E Z s w s' w' (m + 1) = spW E Z p' := by
        unfold wyS wyW
        have c2 : ¬ m + 1 = 0 := by omega
        rw [if_neg c2, if_neg c2, if_neg c1, if_neg c1, ← hp']
        exact ⟨rfl, rfl⟩
      have rp : 0 ≤ p ∧ p ≤ 2 * (cdiv (M * E) Z - 1) := by rw [hp]; split at dl <;> split <;> omega
      have rp' : 0 ≤ p' ∧ p' ≤ 2 * (cdiv (M * E) Z - 1) := by rw [hp']; split at dl <;> split <;> omega
      obtain ⟨i1, e1, e2⟩ := sp_in P rp.1 rp.2
      obtain ⟨i2, e3, e4⟩ := sp_in P rp'.1 rp'.2
      have ne2 : ¬ (spS p = spS p' ∧ spW E Z p = spW E Z p') := by
        rintro ⟨z1, z2⟩
        rw [z1, z2, e3] at e1
        rw [hp, hp'] at e1
        split at e1 <;> omega
      rw [eS.1, eS.2, eS'.1, eS'.2, dst_line P i1 i2 ne2, e1, e2, e3, e4]
      rw [hp, hp']
      split <;> split <;> omega
end
end Sh
end
section
open PySem L2 Wm
namespace Sh
open PySem L2 Wm
end Sh
end
section
open PySem L2 Wm
namespace Sh
open PySem L2 Wm
section
variable {E Z M w B x : Int} {s : Bool}
end
end Sh
end
section
open PySem L2 Wm
namespace Sh
open PySem L2 Wm
section
variable {E Z M w B x : Int} {s : Bool}
def atP (E Z m : Int) : Bool × Int := if m % 2 = 1 then (false, m / 2) else (true, upA E Z (m / 2))
end
section
variable {h : Hm} {n : Nat} {g a b v y l T k w B : Int}
end
end Sh
end
section
open PySem L2 Wm
namespace Sh
open PySem L2 Wm
section
variable {h : Hm} {n : Nat} {g a b v y l T k w B : Int}
end
end Sh
end
section
open PySem L2 Wm
namespace Sh
open PySem L2 Wm
theorem dNe_refl {h : Hm} {d : D} {q : PyData} (p : pyO h d = some q) (s : SeqAt.shaped q = true) : dNe d d h = .ok (.bl false) h := by
  have r : PyData.eqv q q = true := SeqAt.eqv_refl _ (SeqAt.canLay_of_shaped s)
  unfold dNe
  rw [p]
  simp only [s, r, and_self, if_true]
  rfl
section
variable {h : Hm} {n : Nat} {g a b v y l T k w B : Int}
theorem way_self (d : Dq h n g a b) (R : Rl g a b v y l) {x : D} (A : Af h n g a b v y l x) (lx : ∀ j, x.lows j = true) : ∀ H, Dq H n g a b → gcR H (F_on_way [.obj n, .int l, x, x, .int 0] H) = .ok x H := fun H dH => by
  have s := (A.mv d dH).self dH R
  have e : F_on_way [.obj n, .int l, x, x, .int 0] H = .ok x H := by
    unfold F_on_way b_on_way
    simp_arith [s, is_whole_int, gc_bl, dEq_int, eq_self]
  rw [e, gc_same (lx _)]
end
end Sh
end
section
open PySem L2 Wm
namespace Sh
open PySem L2 Wm
section
variable {h : Hm} {n : Nat} {g a b v y l T k w B : Int}
end
structure Tru (L : List D) (m kk n i : Nat) (g a b : Int) (c : Nat) (h : Hm) : Prop where
  s : Sx L m kk h
  d : Dq h n g a b
  at_ : h[i]? = some (.lst (List.replicate c (.bl true)))
  im : i ≠ m
  i_n : i ≠ n
  i3 : 3 < i
theorem Tru.app {L : List D} {m kk n i : Nat} {g a b : Int} {c : Nat} {h : Hm} (t : Tru L m kk n i g a b c h) (z : Hm) : Tru L m kk n i g a b c (h ++ z) :=
  ⟨t.s.app z, t.d.app, by rw [happ (hlt t.at_)]; exact t.at_, t.im, t.i_n, t.i3⟩
theorem Tru.put {L : List D} {m kk n i : Nat} {g a b : Int} {c : Nat} {h : Hm} (t : Tru L m kk n i g a b c h) : Tru L m kk n i g a b (c + 1) (h.set i (.lst (List.replicate c (.bl true) ++ [.bl true]))) := by
  have l := hlt t.at_
  refine ⟨⟨t.s.src.keep (hset_ne (Ne.symm t.im)), by rw [hset_ne (by have := t.i3; omega)]; exact t.s.l3, t.s.m3⟩, t.d.keep (hset_ne (Ne.symm t.i_n)), ?_, t.im, t.i_n, t.i3⟩
  rw [List.getElem?_set_self (by exact l), List.replicate_succ']
theorem bls_rep : ∀ c : Nat, blsOf (List.replicate c (.bl true)) = some (List.replicate c true)
  | 0 => rfl
  | c + 1 => by rw [List.replicate_succ, blsOf, bls_rep c]; rfl
theorem Tru.all {L : List D} {m kk n i : Nat} {g a b : Int} {c : Nat} {h : Hm} (t : Tru L m kk n i g a b c h) : dAll [.obj i] h = .ok (.bl true) h := by
  unfold dAll items
  simp only [t.at_, bls_rep]
  have : (List.replicate c true).all id = true := by simp
  rw [this]
end Sh
end
section
open PySem L2 Wm
namespace Sh
open PySem L2 Wm
section
variable {E Z M M' w : Int}
end
section
variable {h : Hm} {n : Nat} {g a b v y l T k w B : Int}
theorem Sc.lt (sc : Sc h n g a b v y l T k) : T + 1 ≤ v := by
  have := sc.M1
  unfold lenM at this
  split at this
  · omega
  · split at this <;> omega
end
end Sh
end
section
open PySem L2 Wm
namespace Sh
open PySem L2 Wm
section
variable {h : Hm} {n : Nat} {g a b v y l T k w B : Int}
theorem Sc.go {H : Hm} {m : Nat} (s : Sc h n g a b v y l T k) (d : Dq H m g a b) : Sc H m g a b v y l T k := ⟨d, s.R, s.k0, s.k1, s.T0, s.bT, s.M1⟩
theorem Af.go {H : Hm} {m : Nat} {x : D} (A : Af h n g a b v y l x) (d : Dq H m g a b) : Af H m g a b v y l x := by
  cases A with
  | pc T k s w e sc i => exact .pc T k s w e (sc.go d) i
  | in0 k w e k0 k1 w0 w1 cl => exact .in0 k w e k0 k1 w0 w1 cl
  | out T k w e k0 k1 T0 bT w0 w1 cl q => exact .out T k w e k0 k1 T0 bT w0 w1 cl q
structure Co (g a b l u k w : Int) : Prop where
  u0 : 0 ≤ u
  bu : bd 80 u
  k0 : 0 ≤ k
  k1 : k < g
  w0 : 0 ≤ w
  w1 : w < wd a b u
  cl : cel g a b u k w < l
def cuF (g a b u k w : Int) (s : Bool) : Face := (cel g a b u k w, s)
theorem Co.up {u : Int} (c : Co g a b l u k w) {l' : Int} (le : l ≤ l') : Co g a b l' u k w := { c with cl := by have := c.cl; omega }
inductive Kd (h : Hm) (n : Nat) (g a b v y l u k w : Int) (s : Bool) : Prop
  | in0 (hs : s = true) (hu : u = 0)
  | pc (T : Int) (hu : u = if s then T + 1 else T) (sc : Sc h n g a b v y l T k) (i : InP (wd a b T) (wd a b (T + 1)) (lenM a b v y T k) s w)
  | out (hs : s = false) (q : cdiv (lenM a b v y u k * wd a b u) (wd a b (u + 1)) ≤ w)
theorem Kd.face {u : Int} {s : Bool} {T : Int} (hu : u = if s then T + 1 else T) : fD (cuF g a b u k w s) = fcD g a b T k s w := by
  subst hu
  unfold fcD fcC cuF fD
  cases s <;> rfl
theorem Kd.af {u : Int} {s : Bool} (c : Co g a b l u k w) (q : Kd h n g a b v y l u k w s) : Af h n g a b v y l (fD (cuF g a b u k w s)) := by
  cases q with
  | in0 hs hu => subst hs; subst hu; exact .in0 k w rfl c.k0 c.k1 c.w0 c.w1 c.cl
  | pc T hu sc i => exact .pc T k s w (Kd.face hu) sc i
  | out hs q => subst hs; exact .out u k w rfl c.k0 c.k1 c.u0 c.bu c.w0 c.w1 c.cl q
theorem co_pc (sc : Sc h n g a b v y l T k) {s : Bool} (i : InP (wd a b T) (wd a b (T + 1)) (lenM a b v y T k) s w) (bT : bd 79 T) : Co g a b l (if s then T + 1 else T) k w := by
  have r := in_le sc i
  have f := (fc_lt sc i).2
  have T0 := sc.T0
  unfold fcC at f
  cases s
  · simp only [Bool.false_eq_true, if_false] at r f ⊢
    exact ⟨T0, sc.bT, sc.k0, sc.k1, r.1, r.2, f⟩
  · simp only [if_true] at r f ⊢
    exact ⟨by omega, by have h1 : T.natAbs < 2 ^ 79 := bT; show (T + 1).natAbs < 2 ^ 80; omega, sc.k0, sc.k1, r.1, r.2, f⟩
theorem Af.co (d : Dq h n g a b) (R : Rl g a b v y l) (bv : bd 79 v) {x : D} (A : Af h n g a b v y l x) : ∃ u k w s, Co g a b l u k w ∧ x = fD (cuF g a b u k w s) := by
  cases A with
  | pc T k s w e sc i =>
    have lt := sc.lt
    have T0 := sc.T0
    exact ⟨_, k, w, s, co_pc sc i (bd_le bv (by omega) (by omega)), by rw [e, Kd.face rfl]⟩
  | in0 k w e k0 k1 w0 w1 cl => exact ⟨0, k, w, true, ⟨by decide, by unfold bd; decide, k0, k1, w0, w1, cl⟩, e⟩
  | out T k w e k0 k1 T0 bT w0 w1 cl q => exact ⟨T, k, w, false, ⟨T0, bT, k0, k1, w0, w1, cl⟩, e⟩
structure Pf (g a b l B : Int) (x : D) (lo up rl ru : Option (Int × Int)) (wide : Int) (F : List Face) (A0 : Ob) : Prop where
  pc : ∀ H n, Dq H n g a b → gcR H (F_piece [.obj n, .int l, x] H) = .ok (ppD lo up) H
  re : ∀ H n, Dq H n g a b → gcR H (F_reach [.obj n, .int l, x, .int B] H) = .ok (ppD rl ru) H
  en : ∃ p q, ∀ H n, Dq H n g a b → gcR H (F_ends [.obj n, .int l, x] H) = .ok (.tup [.int wide, p, q]) H
  mi : ∀ H n, Dq H n g a b → gcR H (F_middle [.obj n, .int l, x] H) = .ok (.obj (H.length + 1)) (H ++ [A0, .lst (F.map fD)])
theorem self_at (d : Dq h n g a b) (R : Rl g a b v y l) {x : D} (A : Af h n g a b v y l x) : ∀ H m, Dq H m g a b → gcR H (F_apart [.obj m, .int l, x, x] H) = .ok (.int 0) H := fun H m dH => (A.go dH).self dH R
theorem way_self' (d : Dq h n g a b) (R : Rl g a b v y l) {x : D} (A : Af h n g a b v y l x) (lx : ∀ j, x.lows j = true) : ∀ H m, Dq H m g a b → gcR H (F_on_way [.obj m, .int l, x, x, .int 0] H) = .ok x H := fun H m dH => way_self dH R (A.go dH) lx H dH
end
end Sh
end
section
namespace Wm
open PySem PySem.Spec PyProof.Rows L2
open PySem.W (dataLe AllAlike Sortable EachIs readsAll_each dataLt dataKind list_sort_vals SortsAt sortVals_data sortVals_length each_map bound_map sortingHeap sortingHeap_old)
section
variable {X : Cx}
end
section
variable {cs : Cs} {E : XK}
end
end Wm
end
section
namespace Wm
open PySem PySem.Spec PyProof.Rows L2
section
variable {K : PySem.W.Frag} {cs : Cs} {X : Cx} {E : XK} {rho : List Addr} {H : Hp} {h : Hm}
end
end Wm
end
section
namespace Wm
open PySem PySem.Spec PyProof.Rows L2
section
variable {X : Cx} {cs : Cs} {E : XK}
end
section
variable {P : Program} {w : World} {K : PySem.W.Frag} {d : Addr} {od : Obj} {es : Array DictEntry} {ep : Nat} {elts : List Expr} {kk : Nat} {tpos : Pos}
end
section
variable {cs : Cs} {X : Cx} {E : XK} {a : Expr} {fa : Env → Hm → R D} {elts : List Expr} {kk : Nat} {tpos apos cpos : Pos}
end
end Wm
end
section
namespace Wm
open PySem PySem.Spec PyProof.Rows L2
section
variable {X : Cx} {cs : Cs} {E : XK}
end
end Wm
end
section
namespace Wm
open PySem PySem.Spec PyProof.Rows L2
section
variable {X : Cx} {pins : List (Addr × Obj)} {σ : L2.St} {s : Shared} {H : Hp} {h' : Heap} {tk : Nat}
end
section
variable {cs : Cs} {X : Cx} {E : XK} {a : Expr} {pos : Pos} {fa : Env → Hm → R D}
end
end Wm
end
section
namespace Wm
open PySem PySem.Spec PyProof.Rows L2
inductive PrV (K : PySem.W.Frag) (H : Hp) : List V → List Ent → Prop
  | nil : PrV K H [] []
  | cons {T : Addr} {x : Ent} {vs : List V} {xs : List Ent} (h : SqT K H T [.ref x.2.1, x.2.2]) (t : PrV K H vs xs) : PrV K H (.ref T :: vs) (x :: xs)
section
variable {X : Cx} {cs : Cs} {E : XK}
end
end Wm
end
section
namespace Wm
open PySem PySem.Spec PyProof.Rows L2
section
variable {prog : Program} {w : World} {K : Type} [DecidableEq K] {knd : HeapKind prog w K} {A : Around} {E : Value → Shared → Prop} {s : Shared}
end
section
variable {X : Cx} {cs : Cs} {E : XK}
end
end Wm
end
section
namespace Wm
open PySem PySem.Spec PyProof.Rows L2
open PySem.W (dataLe AllAlike Sortable EachIs KeyPure sorted_key_data)
mutual
theorem py_nil {h : Heap} : ∀ (d : D) (p : PyData) (v : Value) (as : List Addr), D.py d = some p → Reads h v p as → as = []
  | .non, p, v, as, e, r => by simp only [D.py] at e; cases e; cases r; rfl
  | .bl b, p, v, as, e, r => by simp only [D.py] at e; cases e; cases r; rfl
  | .int i, p, v, as, e, r => by simp only [D.py] at e; cases e; cases r; rfl
  | .str s, p, v, as, e, r => by simp only [D.py] at e; cases e; cases r; rfl
  | .tup ds, p, v, as, e, r => by
    simp only [D.py] at e
    cases q : pys ds with
    | none => rw [q] at e; cases e
    | some ps =>
      rw [q] at e
      simp only [Option.map_some, Option.some.injEq] at e
      subst e
      cases r with
      | tuple _ _ _ r => exact pys_nil ds ps _ _ q r
  | .obj n, p, v, as, e, r => by simp only [D.py] at e; cases e
  | .hld a, p, v, as, e, r => by simp only [D.py] at e; cases e
theorem pys_nil {h : Heap} : ∀ (ds : List D) (ps : List PyData) (vs : List Value) (as : List Addr), pys ds = some ps → ReadsAll h vs ps as → as = []
  | [], ps, vs, as, e, r => by simp only [pys] at e; cases e; cases r; rfl
  | d :: ds, ps, vs, as, e, r => by
    simp only [pys] at e
    cases q1 : D.py d with
    | none => rw [q1] at e; simp at e
    | some p =>
      cases q2 : pys ds with
      | none => rw [q1, q2] at e; simp at e
      | some ps' =>
        rw [q1, q2] at e
        simp at e
        subst e
        cases r with
        | cons r1 r2 => rw [py_nil d p _ _ q1 r1, pys_nil ds ps' _ _ q2 r2]; rfl
end
theorem pys_at : ∀ {xs : List D} {ps : List PyData} {n : Nat} {d : D}, pys xs = some ps → xs[n]? = some d → ∃ kp, D.py d = some kp
  | [], _, _, _, _, h => by simp at h
  | x :: xs, ps, n, d, e, h => by
    simp only [pys] at e
    cases q1 : D.py x with
    | none => rw [q1] at e; simp at e
    | some p =>
      cases q2 : pys xs with
      | none => rw [q1, q2] at e; simp at e
      | some ps' =>
        cases n with
        | zero => simp at h; subst h; exact ⟨p, q1⟩
        | succ n => exact pys_at q2 (by simpa using h)
def atT (i : Nat) : D → D
  | .tup ds => (ds[i]?).getD .non
  | _ => .non
def isT (i : Nat) : D → Bool
  | .tup ds => decide (i < ds.length)
  | _ => false
def srtK (i : Nat) (xs : List D) : List D := xs.mergeSort (dataLe false fun x => pyD (atT i x))
def KeyOk (i : Nat) (xs : List D) : Prop := i < 1000 ∧ xs.all (isT i) = true ∧ SrtOk (xs.map (atT i))
open Classical in
noncomputable def eSrtK (i : Nat) (fa : Env → Hm → R D) : Env → Hm → R D := fun env h => (fa env h).bind fun o h1 => match o with
  | .obj n => match h1[n]? with
    | some (.lst xs) => if KeyOk i xs then new (.lst (srtK i xs)) h1 else .bad
    | _ => .bad
  | _ => .bad
theorem lam_at {prog : Program} {w : World} {A : Around} {s : Shared} {f c' a : Addr} {qual x : Str} {params : Arguments} {scope : Scope} {pm ctv v : Value} {i j : Nat} {p1 p2 p3 : Pos} {its : Array Value} {k : PyData}
    (hr : A.depth < recursionLimit) (ho : s.heap.get? f = some (PySem.W.kla_obj "<lambda>" qual params (.Subscript (.Name x p1) (.Constant (.int (i : Int)) j p2) p3) scope [] pm c' ctv)) (hcd : s.heap.CodeRec (.ref c') qual) (lim : s.heap.NoLimit)
    (hk : scope.kind = .function) (hco : scope.isCoroutine = false) (hgen : scope.isGenerator = false) (hcell : ∀ y ∈ scope.names, y.2 ≠ .cell) (hl : scope.names.lookup x = some .local) (hd : (x == ("__debug__" : Str)) = false)
    (hbind : ∀ v, bindArgs (PySem.W.kla_fn "<lambda>" qual params (.Subscript (.Name x p1) (.Constant (.int (i : Int)) j p2) p3) scope [] pm (.ref c') ctv) ⟨[v], []⟩ = pure [(x, v)])
    (ht : IsTup s.heap a its) (hi : i < 1000) (hv : its[i]? = some v) (rd : Reads s.heap v k []) :
    wpAny (model prog w) A (call (.ref f) [.ref a]) (KeyPure k s) (fun _ _ => False) s := by
  have rc : codeAny (model prog w) A (.call (.ref f) ⟨[.ref a], []⟩) (fun r s' => ∃ v, r = .ok (.ret v) ∧ KeyPure k s v s') s := by
    refine PySem.W.kla_callFunE hr ho rfl hco hgen rfl hcd ?_
    rw [hbind]
    refine wpAny_pure (wpAny_newFunctionEnv hcell (fun y hy => ?_) (fun h₁ hns hsb => ⟨lim.fresh _ hsb, ?_⟩) hk)
    · rw [List.mem_singleton.mp hy]; exact hl
    have kp : ∀ b o, s.heap.get? b = some o → h₁.get? b = some o := fun b o e => hsb.extBut b o (Nat.ne_of_lt (Heap.lt_size e)) (Heap.get?_push_of_some _ e)
    show codeAny _ _ (.expr _ (PySem.W.envX qual scope s.heap.objs.size f (.ref c') [])) _ _
    refine PySem.W.kla_codeExpr ?_
    refine Subscript_Constant (wpAny_Name (wpAny_loadName_local (env := PySem.W.envX qual scope s.heap.objs.size f (.ref c') []) hk hl hns (by simp [List.lookup]; exact rfl) ?_) hd)
    refine wpAny_Constant_int ?_
    have il : i < its.size := (Array.getElem?_eq_some_iff.mp hv).1
    have ht' : IsTup h₁ a its := by
      obtain ⟨o, e, r⟩ := ht
      exact ⟨o, kp _ _ e, r⟩
    refine ⟨"tuple", _, slot_tuple_getitem.lookup, ht'.typeIs, getItem_tuple ht' (by omega) (by omega) (j := i) ?_ hv ?_⟩
    · unfold seqIndex?
      have n0 : ¬ ((i : Int) < 0) := by omega
      simp only [if_neg n0]
      rw [if_pos (by simp; omega)]
      simp
    · exact ⟨v, rfl, h₁, _, rfl, kp, PyProof.Rows.Reads.keeps kp rd⟩
  refine wpAny_call (codeAny_mono rc fun r s' hq => ?_)
  obtain ⟨v, rfl, q⟩ := hq
  exact q
theorem lam_mk {X : Cx} {pins : List (Addr × Obj)} {σ : L2.St} {Ha : Hp} {sa : Shared} {T : List (Addr × Str)} {c P : Addr} {ag : Arguments} {bd : Expr} {sco : Scope} {po : Pos} {Er : Value → Shared → Prop} {Q : Value → Shared → Prop} (I : Inv X pins σ Ha sa) (TB : LamX.TabB X.base X.mg c P)
    (hco : X.env.code = .ref c) (mT : (P, X.env.qual ++ "<lambda>") ∈ T) (uT : ∀ p ∈ T, p.1 = P → p.2 = X.env.qual ++ "<lambda>") (aT : LamX.Tabs T Ha) (nd : defaultsOf ag X.env = ([], [])) (nf : ∀ y ∈ sco.names, y.2 = .free → ∃ c, X.env.cells.lookup y.1 = some c)
    (go : ∀ (f c' : Addr) (pm ctv : Value) (Hb : Hp) (sb : Shared), Inv X pins σ Hb sb → LamX.ExtN Ha Hb → LamX.Tabs T Hb → (∀ b, Hb b = none → Ha b = none) →
      sb.heap.get? f = some (PySem.W.kla_obj "<lambda>" (X.env.qual ++ "<lambda>") ag bd sco (cloFrom X.env.cells sco.names []) pm c' ctv) → Hb f = none → f ∉ frs X.stack → Hb c' = some (LamX.CodeO c' (X.env.qual ++ "<lambda>")) → Q (.ref f) sb) :
    wpAny (model X.prog X.w) X.A (eval (.Lambda ag bd sco po) X.env) Q Er sa := by
  obtain ⟨ps, atP, okP, alP⟩ := aT _ mT
  refine PySem.W.kla_eval nd ?_
  have bm : sa.heap.BuiltinsAt X.mg P := TB.bm.keeps I.bk
  have inP : sa.heap.get? P = some { cls := .none, data := .fields ps } := I.hok P _ atP
  have off : ∀ g, sa.heap.objs.size ≤ g → g ∉ frs X.stack := fun g hg m => by
    rcases List.mem_cons.mp (I.stkSub _ m) with q | q
    · have l := I.lt
      rw [← q] at l
      exact Nat.lt_irrefl _ (Nat.lt_of_lt_of_le l hg)
    · exact I.nofs hg q
  cases cA : codeAmong po ps.toList with
  | some cv =>
    obtain ⟨c', ec, at_c⟩ := alP po cv cA
    rw [ec] at cA
    refine PySem.W.kla_makeFunctionHit (mg := X.mg) (c := c) (P := P) (ps := ps) (closure_ok nf) I.ok.glob (I.mod.glob.keeps I.bk) hco (TB.code.keeps I.bk) inP okP cA bm fun cl g tk kp le => ?_
    exact go g.objs.size c' _ cl Ha _ (I.kept fun b o q => Heap.get?_push_of_some _ (kp b o q)) (.refl Ha) aT (fun _ q => q) (Heap.get?_push_size _ rfl) (I.hok.fresh le) (off _ le) at_c
  | none =>
    refine PySem.W.kla_makeFunction (mg := X.mg) (c := c) (P := P) (ps := ps) (closure_ok nf) I.ok.glob (I.mod.glob.keeps I.bk) hco (TB.code.keeps I.bk) inP okP cA TB.gP bm fun c' cl g tk kp ge lt rec_ tab => ?_
    obtain ⟨c2, oc, vs, t, q2, hoc, hd, hv⟩ := rec_
    cases q2
    have sz : sa.heap.objs.size ≤ g.objs.size := Nat.le_trans ge (Nat.le_of_lt lt)
    have nC : Ha c' = none := I.hok.fresh ge
    have J := LamX.inv_table (t' := tk) (more := #[rawInt po.line, rawInt po.col, .ref c']) (h' := g.push (PySem.W.kla_obj "<lambda>" (X.env.qual ++ "<lambda>") ag bd sco (cloFrom X.env.cells sco.names []) ((X.mg "__name__").getD .none) c' cl)) I atP
      (fun b o n q => Heap.get?_push_of_some _ (kp b o n q)) (Heap.get?_push_of_some _ tab) ge ⟨oc, vs, t, Heap.get?_push_of_some _ hoc, hd, hv⟩
    have ext : LamX.ExtN Ha (upd (upd Ha P (.tbl (ps ++ #[rawInt po.line, rawInt po.col, .ref c']))) c' (LamX.CodeO c' (X.env.qual ++ "<lambda>"))) := fun b o q n => by
      have n1 : b ≠ c' := ne_of_none q nC
      have n2 : b ≠ P := fun z => by rw [z, atP] at q; exact n ps (Option.some.inj q).symm
      rw [upd_ne n1, upd_ne n2]; exact q
    have rows : (ps ++ #[rawInt po.line, rawInt po.col, .ref c']).toList = ps.toList ++ [rawInt po.line, rawInt po.col, .ref c'] := by simp
    have nPc : P ≠ c' := ne_of_none atP nC
    refine go g.objs.size c' _ cl _ _ J ext (fun p hp => ?_) (fun b q => ?_) (Heap.get?_push_size _ rfl) ?_ (off _ sz) upd_same
    · by_cases z : p.1 = P
      · rw [uT p hp z, z]
        refine ⟨_, by rw [upd_ne nPc, upd_same], by rw [rows]; exact PySem.TriplesOk_snoc _ _ _ _ okP, fun p' cv q => ?_⟩
        rw [rows] at q
        rcases LamX.among_app _ okP q with z | z
        · obtain ⟨c0, a1, a2⟩ := alP p' cv z
          exact ⟨c0, a1, ext _ _ a2 LamX.codeO_ne⟩
        · exact ⟨c', z, upd_same⟩
      · obtain ⟨qs, a1, a2, a3⟩ := aT p hp
        refine ⟨qs, by rw [upd_ne (ne_of_none a1 nC), upd_ne z]; exact a1, a2, fun p' cv q => ?_⟩
        obtain ⟨c0, b1, b2⟩ := a3 p' cv q
        exact ⟨c0, b1, ext _ _ b2 LamX.codeO_ne⟩
    · by_cases z : b = c'
      · rw [z]; exact nC
      · rw [upd_ne z] at q
        by_cases z2 : b = P
        · rw [z2, upd_same] at q; cases q
        · rw [upd_ne z2] at q; exact q
    · have lP := Heap.lt_size inP
      rw [upd_ne (Nat.ne_of_gt lt), upd_ne (Nat.ne_of_gt (Nat.lt_of_lt_of_le lP sz))]
      exact I.hok.fresh sz
theorem SqT.ext {K : PySem.W.Frag} {H H' : Hp} {a : Addr} {xs : List V} (h : SqT K H a xs) (e : LamX.ExtN H H') : SqT K H' a xs := by
  rcases h with (h | ⟨o, h⟩) | h
  · exact Or.inl (Or.inl (e _ _ h fun _ z => by cases z))
  · exact Or.inl (Or.inr ⟨o, e _ _ h fun _ z => by cases z⟩)
  · exact Or.inr h
theorem nin_code {K : PySem.W.Frag} {cs : Cs} {rho : List Addr} {h : Hm} {Ha Hb : Hp} (rl : Rel K cs rho h Ha) (e : LamX.ExtN Ha Hb) {c : Addr} {q : Str} (at_ : Hb c = some (LamX.CodeO c q)) : Nin rho c := fun i i0 hi => by
  have hl : i < h.length := by rw [← rl.len]; exact (List.getElem?_eq_some_iff.mp hi).1
  obtain ⟨o, ho⟩ : ∃ o, h[i]? = some o := ⟨_, List.getElem?_eq_getElem hl⟩
  have ob := rl.ob i o c ho hi
  have mu := rl.zm i o i0 ho
  have key : ∀ u, Ha c = some u → NoT u → u = LamX.CodeO c q := fun u h1 h2 => by
    have := e _ _ h1 h2
    rw [at_] at this
    exact (Option.some.inj this).symm
  cases o with
  | lst xs => obtain ⟨vs, z, _⟩ := ob; have := key _ z (fun _ y => by cases y); cases this
  | scr xs => cases mu
  | ins k fs => obtain ⟨dx, vs, z, _⟩ := ob; have := key _ z (fun _ y => by cases y); cases this
  | dct ks vs => obtain ⟨xs, _, z, _⟩ := ob; exact rawD_code (key _ z (fun _ y => by cases y))
  | dcl ks vs => obtain ⟨xs, od, _, z, _⟩ := ob; have := key _ z (fun _ y => by cases y); cases this
theorem tabs_of {K : PySem.W.Frag} {cs : Cs} {rho : List Addr} {h : Hm} {H : Hp} (rl : Rel K cs rho h H) : LamX.Tabs cs.tb H := fun p hp => by
  obtain ⟨_, ps, e, ok, al⟩ := rl.tbs p hp
  exact ⟨ps, e, ok, fun pos cv q => by obtain ⟨c, a, b, _⟩ := al pos cv q; exact ⟨c, a, b⟩⟩
theorem st_lam {K : PySem.W.Frag} {rho : List Addr} {Ha Hb : Hp} (e : LamX.ExtN Ha Hb) (tr : ∀ b, Hb b = none → Ha b = none) : St K rho Ha rho Hb :=
  ⟨⟨[], by simp, by simp⟩, fun a xs q => SqT.ext q e, fun a o q n _ => e _ _ q n, tr, fun a o u q => e _ _ q fun _ z => by cases z⟩
theorem ObR.ext {K : PySem.W.Frag} {cs : Cs} {rho : List Addr} {Ha Hb : Hp} {a : Addr} {o : Ob} (e : LamX.ExtN Ha Hb) (tr : ∀ b, Hb b = none → Ha b = none) (h : ObR K cs rho Ha a o) : ObR K cs rho Hb a o := by
  have s : St K rho Ha rho Hb := st_lam e tr
  cases o with
  | lst xs => obtain ⟨vs, z, r⟩ := h; exact ⟨vs, e _ _ z (fun _ y => by cases y), RVs.mono s _ _ r⟩
  | scr xs =>
    obtain ⟨vs, z, r⟩ := h
    exact ⟨vs, z.keep fun o y => e _ _ y (fun _ y => by cases y), RVs.mono s _ _ r⟩
  | ins c fs => obtain ⟨dx, vs, z, l, r⟩ := h; exact ⟨dx, vs, e _ _ z (fun _ y => by cases y), l, RVs.mono s _ _ r⟩
  | dct ks vs => obtain ⟨xs, k, z, r, r2⟩ := h; exact ⟨xs, k, e _ _ z (fun _ y => by cases y), RVs.mono s _ _ r, RVs.mono s _ _ r2⟩
  | dcl ks vs => obtain ⟨xs, od, k, z, r, r2⟩ := h; exact ⟨xs, od, k, e _ _ z (fun _ y => by cases y), RVs.mono s _ _ r, RVs.mono s _ _ r2⟩
theorem rel_lam {K : PySem.W.Frag} {cs : Cs} {rho : List Addr} {h : Hm} {Ha Hb : Hp} (rl : Rel K cs rho h Ha) (e : LamX.ExtN Ha Hb) (tr : ∀ b, Hb b = none → Ha b = none) (T : LamX.Tabs cs.tb Hb) : Rel K cs rho h Hb := by
  have s : St K rho Ha rho Hb := st_lam e tr
  refine ⟨rl.len, fun n o a h1 h2 => (rl.ob n o a h1 h2).ext e tr, rl.inj, rl.z, rl.zm, fun x hx => (rl.exs x hx).mono s, fun t ht => ?_⟩
  obtain ⟨n, _⟩ := rl.tbs t ht
  obtain ⟨ps, a1, a2, a3⟩ := T t ht
  exact ⟨n, ps, a1, a2, fun pos cv q => by obtain ⟨c, b1, b2⟩ := a3 pos cv q; exact ⟨c, b1, b2, nin_code rl e b2⟩⟩
structure LamT (x : Str) (ag : Arguments) (sco : Scope) (bd : Expr) : Prop where
  kind : sco.kind = .function
  co : sco.isCoroutine = false
  gen : sco.isGenerator = false
  own : sco.names = [(x, .local)]
  dbg : (x == ("__debug__" : Str)) = false
  bind : ∀ (q : Str) (pm cv ctv v : Value), bindArgs (PySem.W.kla_fn "<lambda>" q ag bd sco [] pm cv ctv) ⟨[v], []⟩ = pure [(x, v)]
def tSrtL (K : PySem.W.Frag) (T : List (Addr × Str)) (i : Nat) (to : TE) : TE := fun σ H Q => to σ H fun v H1 => LamX.Tabs T H1 ∧ ∀ H2, LamX.ExtN H1 H2 → (∀ b, H2 b = none → H1 b = none) → LamX.Tabs T H2 →
  ∃ (a : Addr) (ys : List V) (xs : List D) (rho : List Addr), v = .ref a ∧ SqL K H2 a ys ∧ RVs K rho H2 xs ys ∧ KeyOk i xs ∧ ∀ p zs, H2 p = none → RVs K rho H2 (srtK i xs) zs → Q (.ref p) (upd H2 p (.lst zs))
section
variable {X : Cx} {T : List (Addr × Str)} {c P : Addr} {x : Str} {ag : Arguments} {sco : Scope} {i j k : Nat} {p p1 p2 p3 lpos kpos pos : Pos} {arg : Expr} {to : TE}
theorem pe_sortL (hr : Room (k + 1) X.A) (hc : X.calm = true) (hg : Gl X "sorted") (hm : X.mg "sorted" = none) (ha : PE X arg to) (TB : LamX.TabB X.base X.mg c P) (hco : X.env.code = .ref c) (mT : (P, X.env.qual ++ "<lambda>") ∈ T)
    (uT : ∀ p ∈ T, p.1 = P → p.2 = X.env.qual ++ "<lambda>") (L : LamT x ag sco (.Subscript (.Name x p1) (.Constant (.int (i : Int)) j p2) p3)) (nd : defaultsOf ag X.env = ([], []))
    (h1 : backTo pos (starEach [arg] X.env) = (false, eval arg X.env) :: backTo pos (starEach [] X.env)) :
    PE X (.Call (.Name "sorted" p) [arg] [⟨some (Str.ofString "key"), .Lambda ag (.Subscript (.Name x p1) (.Constant (.int (i : Int)) j p2) p3) sco lpos, kpos⟩] pos) (tSrtL X.K T i to) := by
  refine ⟨fun pins s σ H Q I h => ?_⟩
  have hb2 : (backTo pos (starEach [arg] X.env)).any (·.1) = false := by rw [h1]; rfl
  refine wpAny_Call_Name_kw (ld_blt I hg hm PyProof.Rows.boot_sorted (PyProof.Rows.callWith_kw ?_ h1 hb2))
  rw [h1]
  refine Calls.spliced_cons (thn (ha.run pins s σ H _ I h) fun u s1 ⟨v, H1, I1, r1, aT, q⟩ => ?_)
  refine Calls.spliced_nil ?_
  refine PyProof.Rows.kws_cons (lam_mk I1 TB hco mT uT aT nd (fun y hy e => ?_) fun f c' pm ctv H2 s2 I2 eN T2 tr hf hfn hfr hcc => ?_)
  · rw [L.own, List.mem_singleton] at hy; rw [hy] at e; cases e
  refine PyProof.Rows.kws_nil ?_
  obtain ⟨a, ys, xs, rho, rfl, hs, rv, ⟨li, hT, ⟨ds, e1, hal, hso, hdp⟩⟩, q⟩ := q H2 eN tr T2
  obtain ⟨its, rv2, hl, hz⟩ := I2.list hs
  obtain rfl : u = Value.ref a := r1
  have e2 := pys_map e1
  have e3 : ds = xs.map fun d => pyD (atT i d) := by rw [e2, List.map_map]; rfl
  subst e3
  have hlen : xs.length = ys.length := rv.length.symm
  have nil : cloFrom X.env.cells sco.names [] = [] := by rw [L.own]; rfl
  rw [nil] at hf
  have each : ∀ d ∈ xs, ∃ es kd kp, d = .tup es ∧ es[i]? = some kd ∧ D.py kd = some kp ∧ pyD (atT i d) = kp := fun d hd => by
    have h1 := List.all_eq_true.mp hT d hd
    cases d with
    | tup es =>
      simp only [isT, decide_eq_true_eq] at h1
      refine ⟨es, es[i], ?_⟩
      have h2 : ∃ kp, D.py es[i] = some kp := by
        have hm : es[i] ∈ xs.map (atT i) := List.mem_map.mpr ⟨_, hd, by simp [atT, h1]⟩
        obtain ⟨n, hn⟩ := List.getElem?_of_mem hm
        exact pys_at e1 hn
      obtain ⟨kp, h2⟩ := h2
      exact ⟨kp, rfl, List.getElem?_eq_getElem h1, h2, by simp [pyD, atT, h1, h2]⟩
    | _ => simp [isT] at h1
  have hl2 : s2.heap.IsList a its.toArray := hl.isList
  refine sorted_key_data (b := false) (R := fun u d => ∃ y, RelV y u ∧ RV X.K rho H2 d y) (fun d => pyD (atT i d)) hl2 (each_of rv2 rv) hal hso (by rw [hlen]; exact hz) (fun d hd => ?_) (PyProof.Rows.ksk_s1 _ _) (fun z => PyProof.Rows.ksk_l1 _ _) (fun z => PyProof.Rows.ksk_t1 _ _) (fun v d hR hd g tk kp => ?_) (fun out cc g tk kp hn ho hol eo => ?_)
  · have := hdp (pyD (atT i d)) (List.mem_map.mpr ⟨d, hd, rfl⟩)
    have := hr.un
    omega
  · obtain ⟨es, kd, kq, rfl, h2, h3, h4⟩ := each d hd
    obtain ⟨y, ry, rd⟩ := hR
    simp only [RV] at rd
    obtain ⟨a2, vs, rfl, sq, rvs⟩ := rd
    obtain rfl : v = Value.ref a2 := ry
    obtain ⟨it2, rz, tu, _⟩ := I2.tuple sq
    obtain ⟨w, h5, h6⟩ := rvs.get h2
    obtain ⟨z, h7, h8⟩ := rz.get h5
    obtain ⟨as, h9⟩ := Dp.reads I2 _ _ _ (py_ok _ _ _ h6 h3) h8
    have as0 := py_nil _ _ _ _ h3 h9
    subst as0
    have tu' : IsTup g a2 it2.toArray := by
      obtain ⟨o, e, r⟩ := tu
      exact ⟨o, kp _ _ e, r⟩
    obtain ⟨⟨oc, vs', t', hoc, hdc, hvc⟩, _, _⟩ := I2.hok c' _ hcc
    have dd := hr.dp
    exact lam_at (s := { s2 with heap := g, toks := tk }) (A := X.A.in1.in1) (show X.A.depth < recursionLimit by omega) (kp _ _ hf) ⟨c', oc, vs', t', rfl, kp _ _ hoc, hdc, hvc⟩ (I2.nolimit.keeps kp) L.kind L.co L.gen (fun y hy => by rw [L.own, List.mem_singleton] at hy; rw [hy]; simp) (by rw [L.own]; simp [List.lookup]) L.dbg (fun v => L.bind _ _ _ _ v) tu' li (by simpa using h7) (h4 ▸ PyProof.Rows.Reads.keeps kp h9)
  · obtain ⟨zs, z1, z2⟩ := of_each eo
    have zl : zs.length ≤ sizeLine := by rw [z1.length, hol, hlen]; exact hz
    exact ⟨.ref _, upd H2 (s2.heap.objs.size + 1) (.lst zs), I2.laid (t' := tk) kp (Nat.le_succ _) ⟨zl, out, cc, z1, ho⟩, rfl, q _ zs (I2.hok.fresh (Nat.le_succ _)) z2⟩
variable {cs : Cs} {E : XK} {fa : Env → Hm → R D}
theorem se_sortL (hr : Room (k + 1) X.A) (hc : X.calm = true) (hg : Gl X "sorted") (hm : X.mg "sorted" = none) (TB : LamX.TabB X.base X.mg c P) (hco : X.env.code = .ref c) (L : LamT x ag sco (.Subscript (.Name x p1) (.Constant (.int (i : Int)) j p2) p3)) (ht : cs.tb = [(P, X.env.qual ++ "<lambda>")])
    (ha : SE cs X E arg fa) (nd : defaultsOf ag X.env = ([], []) := by rfl) (h1 : backTo pos (starEach [arg] X.env) = (false, eval arg X.env) :: backTo pos (starEach [] X.env) := by rfl) :
    SE cs X E (.Call (.Name "sorted" p) [arg] [⟨some (Str.ofString "key"), .Lambda ag (.Subscript (.Name x p1) (.Constant (.int (i : Int)) j p2) p3) sco lpos, kpos⟩] pos) (eSrtK i fa) := by
  obtain ⟨t, pa, qa⟩ := ha.ex
  refine ⟨_, pe_sortL (T := cs.tb) hr hc hg hm pa TB hco (by rw [ht]; simp) (fun q hq _ => by rw [ht, List.mem_singleton] at hq; rw [hq]) L nd h1, fun rho h H env σ Q rl rs pp => qa _ _ _ _ _ _ rl rs (Post.bind pp fun d h1 v r1 H1 s1 rl1 rv p1 => ?_)⟩
  refine ⟨tabs_of rl1, fun H2 e tr T2 => ?_⟩
  cases d with
  | obj n =>
    simp only at p1
    split at p1
    · rename_i xs e1
      split at p1
      · rename_i hk
        have rl2 := rel_lam rl1 e tr T2
        have s2 : St X.K r1 H1 r1 H2 := st_lam e tr
        obtain ⟨b, hb, rfl⟩ := rv.obj
        obtain ⟨ys, z, rvs⟩ := rl2.ob n _ b e1 hb
        exact ⟨b, ys, xs, r1, rfl, Or.inl (Or.inl z), rvs, hk, fun l zs hl hz => (Post.mono s2 p1).newL rl2 hz l hl⟩
      · exact p1.elim
    · exact p1.elim
  | _ => exact p1.elim
end
def sAsgL (gs : List (D → Env → Option Env)) (f : Env → Hm → R D) : Env → Hm → O := fun env h => (f env h).bindO fun d h1 => match d with
  | .obj n => match h1[n]? with
    | some (.lst xs) => match gAll gs xs env with
      | some env' => .nx env' h1
      | none => .bad
    | _ => .bad
  | _ => .bad
section
variable {cs : Cs} {X : Cx} {E : XK} {a : Expr} {pos pos2 : Pos} {fa : Env → Hm → R D} {es : List Expr} {k : Nat}
theorem ss_asgL {gs : List (D → Env → Option Env)} (hc : X.calm = true) (ha : SE cs X E a fa) (hg : SGs cs X es gs) (hn : (assignEach es X.env).length = gs.length := by rfl) (hst : (assignEach es X.env).findIdx? (·.1) = none := by rfl)
    (hs : swapsWithSole [.Tuple es k pos2] a pos.line X.env = pure false := by rfl) (hw : swappedStores [.Tuple es k pos2] a X.env = pure none := by rfl)
    (h1 : (assignEach [.Tuple es k pos2] X.env).map (·.2) = [assign (.Tuple es k pos2) X.env] := by rfl) : SS cs X E (.Assign [.Tuple es k pos2] a pos) (sAsgL gs fa) := by
  obtain ⟨t, p, q⟩ := ha.ex
  obtain ⟨tg, pg, l, qg⟩ := hg.ex
  refine ⟨_, ps_asg p (pg_lst hc pg hn hst) hs hw h1, fun rho h H env σ Dn rl rs pp => q _ _ _ _ _ _ rl rs (Post.bindO pp fun d h1 v r1 H1 s1 rl1 rv p1 => ?_)⟩
  cases d with
  | obj n =>
    simp only at p1
    split at p1
    · rename_i xs e1
      split at p1
      · rename_i env' e2
        obtain ⟨b, hb, rfl⟩ := rv.obj
        obtain ⟨ys, z, rvs⟩ := rl1.ob n _ b e1 hb
        exact ⟨b, ys, rfl, Or.inl (Or.inl z), by rw [rvs.length]; exact gAll_len e2, qg _ _ _ _ _ _ _ _ _ rl1 (rs.mono s1) rvs e2 fun σ' rs' => p1 _ _ _ St.refl rl1 rs'⟩
      · exact p1.elim
    · exact p1.elim
  | _ => exact p1.elim
end
section
variable {P : Program} {w : World} {K : PySem.W.Frag} {mg : Str → Option Value} {base : Heap} {cs : Cs}
theorem fn_okL {x qual : Str} {st : Stmt} {f : Addr} {fd : FuncData} {N ps : List Str} {k : Nat} {b : Env → Hm → O} {nv : Nat} {c : Addr} (F : Fun K x qual st f fd) (S : FnScope N ps (defScope st)) (hn : N.length = nv) (hco : fd.code = .ref c)
    (hb : ∀ (A : Around) (outer : List _root_.PySem.Env) (s : Shared) (H : Hp) (E : XK), Room k (A.deeper (envOfC qual (defScope st) s.heap.objs.size f (.ref c))) →
      SB cs (cxOf CX0 P w K mg base N qual (defScope st) f (.ref c) A outer s H E).nox E (defBody st) b) : FnOk P w K mg base CX0 (k + 1) f fd ps (spF K cs (fnS nv b) ps.length) := by
  subst hn
  obtain ⟨oc, od, kV, doc, pm, an, cdv, ct, osl, rfl, lk, hcd⟩ := F.ex
  have hc2 : cdv = .ref c := hco
  subst hc2
  refine fn_of lk hcd S (fun vs H Q E h => ?_) fun A outer s H vs Q E hr h => ?_
  · obtain ⟨_, _, _, _, _, l, _⟩ := h
    exact l
  · obtain ⟨rho, h, ds, rl, rv, l, p⟩ := h
    obtain ⟨t, p1, q1⟩ := (hb A outer s H E hr).ex
    refine ⟨t, p1.nox, q1 _ _ _ _ _ _ rl (RS.start rv) ?_⟩
    unfold fnS at p
    cases e : b (envOf N.length ds) h with
    | nx env h => rw [e] at p; exact fun σ r' H' s' rl' rs' => p _ _ _ s' rl' RV.ofNon
    | rt d h => rw [e] at p; exact p
    | bk env h => rw [e] at p; exact p.elim
    | ct env h => rw [e] at p; exact p.elim
    | exc c fs h => rw [e] at p; exact p
    | bad => rw [e] at p; exact p.elim
end
def spT (K : PySem.W.Frag) (P : Addr) : Sp := fun vs H Q _ => ∃ (a : Addr) (ns : List Int), vs = [.ref a] ∧ H P = some (.tbl #[]) ∧ SqL K H a (ns.map V.int) ∧ ns.length ≤ 63 ∧ (∀ z ∈ ns, bitsN z ≤ 1048576) ∧ ∀ H', Q (.bl true) H'
section
variable {P : Program} {w : World} {K : PySem.W.Frag} {mg : Str → Option Value} {base : Heap} {cs : Cs}
theorem env_frz {A : Around} {outer : List _root_.PySem.Env} {s : Shared} {H : Hp} {a : Addr} {vs : List V} (e : Env0 P w K mg base A outer s H) (h : H a = some (.lst vs)) : ∃ o, Env0 P w K mg base A outer s (upd H a (.frz o (.lst vs))) := by
  obtain ⟨z, its, n, r, g⟩ := e.hok a _ h
  have other : ∀ b, H b = none → upd H a (.frz { cls := .type "list", data := .seq its.toArray n } (.lst vs)) b = none := fun b q => by rw [upd_ne (fun y => by rw [y, h] at q; cases q)]; exact q
  refine ⟨{ cls := .type "list", data := .seq its.toArray n }, e.frames, e.mod, fun b o q => ⟨(e.bs b o q).1, other b (e.bs b o q).2⟩, e.bsz, e.funs, fun b q => other b (e.frf b q), fun b u q => ?_, e.bare⟩
  by_cases y : b = a
  · rw [y, upd_same] at q
    cases q
    rw [y]
    exact ⟨g, z, its, n, r, g⟩
  · rw [upd_ne y] at q
    exact (e.hok b u q).stay (fun d v _ q => q) (fun d q => by rw [upd_ne (fun y => by rw [y, h] at q; cases q)]; exact q) fun d xs q => by rw [upd_ne (fun y => by rw [y, h] at q; cases q)]; exact q
theorem ce_frz {outer : List _root_.PySem.Env} {s s' : Shared} {H : Hp} {a : Addr} {vs : List V} {o : Obj} {Q : VK} {u : Value} (h : H a = some (.lst vs)) (c : L2.CE outer P w (upd H a (.frz o (.lst vs))) s Q u s') : L2.CE outer P w H s Q u s' := by
  obtain ⟨v, H2, os, bare, un, hok, rv, q⟩ := c
  have up : ∀ b, H b = none → upd H a (.frz o (.lst vs)) b = none := fun b q => by rw [upd_ne (fun y => by rw [y, h] at q; cases q)]; exact q
  exact ⟨v, H2, os, bare, ⟨fun b o g n => un.keep b o g (up b n), fun b o g n => un.slot b o g (up b n), fun b o g n => un.free b o g (up b n), un.there, fun b xs q => un.tups b xs (by rw [upd_ne (fun y => by rw [y, h] at q; cases q)]; exact q),
    fun b o u q => un.frzs b o u (by rw [upd_ne (fun y => by rw [y, h] at q; cases q)]; exact q), fun b ps q => un.tbls b ps (by rw [upd_ne (fun y => by rw [y, h] at q; cases q)]; exact q)⟩, hok, rv, q⟩
theorem law_spT {k : Nat} {f : Addr} {fd : FuncData} {ps : List Str} {F : FS} {Pt : Addr} {qn : Str} (G : FnOk P w K mg base CX0 k f fd ps (spF K cs F 1))
    (plain : ∀ ns : List Int, ns.length ≤ 63 → (∀ z ∈ ns, bitsN z ≤ 1048576) → ∃ h', F [.obj 0] [.scr (ns.map .int)] = .ok (.bl true) h') (none_held : cs.ex = [] := by rfl) (tb : cs.tb = [(Pt, qn)] := by rfl) : FnOk P w K mg base CX0 k f fd ps (spT K Pt) := by
  have key : ∀ (H : Hp) (Q : VK) (E : XK) (a : Addr) (ns : List Int), H Pt = some (.tbl #[]) → SqF K H a (ns.map V.int) → ns.length ≤ 63 → (∀ z ∈ ns, bitsN z ≤ 1048576) → (∀ H', Q (.bl true) H') → spF K cs F 1 [.ref a] H Q E := fun H Q E a ns hP sf hl hb q => by
    obtain ⟨h', e⟩ := plain ns hl hb
    refine ⟨[a], [.scr (ns.map .int)], [.obj 0], ⟨rfl, fun n o b h1 h2 => ?_, fun n m o o' b h1 m1 h2 m2 e1 e2 => ?_, ⟨_, rfl⟩, fun n o n0 h1 => ?_, fun e he => (by rw [none_held] at he; cases he), fun t ht => ?_⟩, ?_, rfl, ?_⟩
    · have hn := (List.getElem?_eq_some_iff.mp h1).1
      simp at hn; subst hn
      simp at h1 h2
      subst h1; subst h2
      exact ⟨_, sf, RVs.ints ns⟩
    · have hn := (List.getElem?_eq_some_iff.mp h1).1
      have hm := (List.getElem?_eq_some_iff.mp h2).1
      simp at hn hm; omega
    · have hn := (List.getElem?_eq_some_iff.mp h1).1
      simp at hn; omega
    · rw [tb, List.mem_singleton] at ht
      subst ht
      refine ⟨fun n n0 hn => ?_, #[], hP, trivial, fun pos cv q => ?_⟩
      · have := (List.getElem?_eq_some_iff.mp hn).1
        simp at this; omega
      · have q2 : codeAmong pos [] = some cv := q
        simp [codeAmong] at q2
    · refine RVs.cons ?_ RVs.nil
      simp only [RV]
      exact ⟨a, rfl, rfl⟩
    · rw [e]
      intro v r' H' s' rl' rv'
      rw [rv'.blE]
      exact q H'
  refine ⟨fun vs H Q E h => ?_, fun A outer s H args us vs Q E hr e0 hb r h => ?_⟩
  · obtain ⟨a, ns, rfl, hP, hs, hl, hb, q⟩ := h
    have z := G.len _ _ (fun _ _ => True) E (key (fun b => if b = Pt then some (.tbl #[]) else some (.frz default (.lst (ns.map V.int)))) (fun _ _ => True) E (Pt + 1) ns (if_pos rfl) (Or.inl ⟨default, if_neg (Nat.succ_ne_self Pt)⟩) hl hb fun _ => trivial)
    exact z
  · obtain ⟨a, ns, rfl, hP, hs, hl, hz, q⟩ := h
    rcases hs with (h1 | ⟨o, h1⟩) | h1
    · obtain ⟨o, e1⟩ := env_frz e0 h1
      have hP' : upd H a (.frz o (.lst (ns.map V.int))) Pt = some (.tbl #[]) := by rw [upd_ne (fun y => by rw [y, h1] at hP; cases hP)]; exact hP
      refine codeAny_mono (G.run A outer s _ args us _ Q E hr e1 hb r (key _ Q E a ns hP' (Or.inl ⟨o, upd_same⟩) hl hz q)) fun r s' c => ?_
      cases r with
      | error e => exact (show False from c).elim
      | ok fl =>
        cases fl with
        | ret u => exact ce_frz h1 c
        | next => exact False.elim c
        | brk => exact False.elim c
        | cont => exact False.elim c
    · exact G.run A outer s H args us _ Q E hr e0 hb r (key H Q E a ns hP (Or.inl ⟨o, h1⟩) hl hz q)
    · exact G.run A outer s H args us _ Q E hr e0 hb r (key H Q E a ns hP (Or.inr h1) hl hz q)
end
theorem walkT {l : PySem.W.OpenLaw} {k : Nat} {q : Program} {loose : List Str} {XP : (Str → Option Value) → Heap → Prop} {YP : World → Heap → Prop} {d : DefRec} {K : Params → PySem.W.Frag} {x : Str} (hn : l.most = some 63) (hdf : d.params.defaults = []) (hr : Room k callerA)
    (hY : ∀ (w : World) (h : Heap), YP w h → (K w.params).In h)
    (F : ∀ (w : World) (mg : Str → Option Value) (fa : Addr) (h : Heap), YP w h → (K w.params).In h → h.Ns mainGlobals mg → mg d.name = some (.ref fa) →
      ∃ (fd : FuncData) (c P : Addr), h.get? P = some (PySem.W.tabObj #[]) ∧ (K w.params).lookup P = none ∧ PySem.W.codeHdIn (K w.params) c P = true ∧ (∀ (s : Shared) (u : Value), BindsTo s fd ⟨[u], []⟩ [(x, u)]) ∧
        ∀ base : Heap, (K w.params).In base → base.Ns mainGlobals mg → LamX.TabB base mg c P → FnOk l.prog w (K w.params) mg base CX0 k fa fd [x] (spT (K w.params) P)) :
    PySem.W.WalkO q loose XP YP l.row.toRowW d [] (fun f vs => PySem.call f vs) := by
  refine LamX.walk_ofTs (n := 63) (k := k) (x := x) (CX := fun _ => CX0) hn (by decide) hdf hr hY (fun w mg fa h Y KX G hm => ?_) fun _ _ _ _ _ z => z
  obtain ⟨fd, c, P, h1, h2, h3, h4, h5⟩ := F w mg fa h Y KX G hm
  refine ⟨fd, [(c, P)], spT (K w.params) P, fun p hp => ?_, fun p hp => ?_, fun p hp => ?_, h4, fun H a ns hl hb hT hS => ⟨a, ns, rfl, hT _ (List.mem_singleton.mpr rfl), hS, hl, hb, fun _ => rfl⟩, fun base h6 h7 h8 => h5 base h6 h7 (h8 _ (List.mem_singleton.mpr rfl))⟩
  · rw [List.mem_singleton.mp hp]; exact h1
  · rw [List.mem_singleton.mp hp]; exact h2
  · rw [List.mem_singleton.mp hp]; exact PySem.W.codeHd_of_K KX h3
end Wm
end
section
namespace Lw
open PySem L2 Wm Sh
noncomputable def b_law_touch : Wm.BSem :=
  (sSeq (sAsgL [(gN 3), (gN 4)] (eSrtK 1 (eLst (aCons (eVar 1) (aCons (eVar 2) aNil)))))
  (sSeq (sIf (asB (e2 dNe (eTup (aCons (e2 dIx (eVar 3) (eC (.int 1))) (aCons (e2 dIx (eVar 4) (eC (.int 1))) aNil))) (eTup (aCons (eC (.str "in")) (aCons (eC (.str "out")) aNil)))))
  (sRet (eC (.bl false)))
  sPass)
  (sSeq (sSet 5 (eCall F_beneath (aCons (eVar 0) (aCons (e2 dIx (eVar 3) (eC (.int 0))) aNil))))
  (sRet (eAnd (e2 dIsNot (eVar 5) (eC .non)) (eChain dLe dLe (e2 dIx (eVar 5) (eC (.int 0))) (e2 dIx (eVar 4) (eC (.int 0))) (e2 dIx (eVar 5) (eC (.int 1)))))))))
noncomputable def F_law_touch : FS := fnS 6 b_law_touch
noncomputable def b_on_way_x : Wm.BSem :=
  (sSeq (sSet 5 (eCall F_apart (aCons (eVar 0) (aCons (eVar 1) (aCons (eVar 2) (aCons (eVar 3) aNil))))))
  (sSeq (sIf (asB (e2 dIs (eVar 5) (eC .non)))
  (sRet (eC .non))
  sPass)
  (sSeq (sIf (tOrS (tNotS (tTruth (eCall F_is_whole (aCons (eVar 4) aNil)))) (tNotS (asB (eChain dLe dLe (eC (.int 0)) (eVar 4) (eVar 5)))))
  (sRaise 15 (aCons (eVar 4) aNil))
  sPass)
  (sSeq (sIf (tOrS (asB (e2 dEq (eVar 4) (eC (.int 0)))) (asB (e2 dEq (eVar 4) (eVar 5))))
  (sRet (eIf (asB (e2 dEq (eVar 4) (eC (.int 0)))) (eVar 2) (eVar 3)))
  sPass)
  (sSeq (sSet 6 (eMake 1 F_Gap_init (aCons (eVar 0) (aCons (eVar 1) (aCons (eVar 2) aNil)))))
  (sSeq (sSet 7 (eCall F_lows_of (aCons (eVar 6) (aCons (eVar 2) aNil))))
  (sSeq (sSet 8 (eCall F_lows_of (aCons (eVar 6) (aCons (eVar 3) aNil))))
  (sSeq (sPar 9 10 (e2 dIx (eVar 7) (eC (.int 1))) (e2 dIx (eVar 8) (eC (.int 0))))
  (sSeq (sIf (asB (e2 dLt (e2 dIx (eVar 8) (eC (.int 1))) (e2 dIx (eVar 7) (eC (.int 0)))))
  (sPar 9 10 (e2 dIx (eVar 7) (eC (.int 0))) (e2 dIx (eVar 8) (eC (.int 1))))
  (sIf (asB (e2 dLe (e2 dIx (eVar 8) (eC (.int 0))) (e2 dIx (eVar 7) (eC (.int 1)))))
  (sSet2 9 10 (eN dMax (aCons (e2 dIx (eVar 7) (eC (.int 0))) (aCons (e2 dIx (eVar 8) (eC (.int 0))) aNil))))
  sPass))
  (sRet (eCall F_along (aCons (eVar 6) (aCons (eVar 9) (aCons (eVar 10) (aCons (e2 dSub (eVar 4) (eN dInt (aCons (e2 dEq (e2 dIx (eVar 2) (eC (.int 1))) (eC (.str "in"))) aNil))) aNil)))))))))))))))
noncomputable def F_on_way_x : FS := fnS 11 b_on_way_x
noncomputable def b_law_said : Wm.BSem :=
  (sSeq (sSet 5 (eC (.str "none")))
  (sSeq (sTry [15] F_on_way_x (aCons (eVar 0) (aCons (eVar 1) (aCons (eVar 2) (aCons (eVar 3) (aCons (eVar 4) aNil))))) sPass [(15, (some 6), (fun z c fs => (sSet 5 (eLst (aCons (eXf z c fs "beats" (eVar 6)) (aCons (e1 (dIsXt z c [10, 14]) (eVar 6)) aNil)))))), (7, none, (fun z c fs => (sSet 5 (eC (.str "other")))))])
  (sRet (eVar 5))))
noncomputable def F_law_said : FS := fnS 7 b_law_said
noncomputable def c_law_b0_b0 : Wm.BSem :=
  (sSet 2 (eCall F_law_source_of (aCons (eVar 1) aNil)))
noncomputable def c_law_b0_b1 : Wm.BSem :=
  (sAsg (gT [(gN 3), (gN 4)]) (eCall F_law_drum (aCons (eVar 2) aNil)))
noncomputable def c_law_b0_b2 : Wm.BSem :=
  (sSet 5 (eMake 0 F_Drum_init (aCons (eVar 3) (aCons (eVar 4) aNil))))
noncomputable def c_law_b0_b3 : Wm.BSem :=
  (sSet 6 (eCall F_law_roll (aCons (eVar 2) (aCons (eVar 3) (aCons (eVar 4) aNil)))))
noncomputable def c_law_b0_b4 : Wm.BSem :=
  (sSet 7 (e2 dIx (eVar 6) (eC (.int 2))))
noncomputable def c_law_b0_b5 : Wm.BSem :=
  (sSet 8 (eCall F_law_face (aCons (eVar 2) (aCons (eVar 3) (aCons (eVar 4) (aCons (eVar 6) aNil))))))
noncomputable def c_law_b0_b6 : Wm.BSem :=
  (sAsg (gT [(gN 9), (gN 10)]) (eCall F_piece (aCons (eVar 5) (aCons (eVar 7) (aCons (eVar 8) aNil)))))
noncomputable def c_law_b0_b7 : Wm.BSem :=
  (sSet 11 (eVar 8))
noncomputable def c_law_b0_b8 : Wm.BSem :=
  (sSet 12 (eVar 8))
noncomputable def c_law_b0_b9_t0 : Wm.BSem :=
  (sSet 11 (eCall F_law_drawn (aCons (eVar 2) (aCons (eVar 9) (aCons (eVar 10) aNil)))))
noncomputable def c_law_b0_b9_t1 : Wm.BSem :=
  (sSet 12 (eCall F_law_drawn (aCons (eVar 2) (aCons (eVar 9) (aCons (eVar 10) aNil)))))
noncomputable def B_law_b0_b9_t : Wm.BSem :=
  (sSeq c_law_b0_b9_t0
  c_law_b0_b9_t1)
noncomputable def c_law_b0_b9 : Wm.BSem :=
  (sIf (tAndS (asB (e2 dIsNot (eVar 9) (eC .non))) (asB (e2 dIsNot (eVar 10) (eC .non))))
  B_law_b0_b9_t
  sPass)
noncomputable def c_law_b0_b10 : Wm.BSem :=
  (sSet 13 (eCall F_apart (aCons (eVar 5) (aCons (eVar 7) (aCons (eVar 11) (aCons (eVar 12) aNil))))))
noncomputable def c_law_b0_b11 : Wm.BSem :=
  (sSet 14 (eLst (aCons (eC (.int 0)) (aCons (eN dMin (aCons (eC (.int 1)) (aCons (eVar 13) aNil))) (aCons (e2 dDiv (eVar 13) (eC (.int 2))) (aCons (eN dMax (aCons (eC (.int 0)) (aCons (e2 dSub (eVar 13) (eC (.int 1))) aNil))) (aCons (eVar 13) aNil)))))))
noncomputable def c_law_b0_b12 : Wm.BSem :=
  (sSet 14 (e2 dAdd (eVar 14) (eLst (aCons (eCall F_law_great (aCons (eVar 2) (aCons (e2 dAdd (eVar 13) (eC (.int 1))) aNil))) (aCons (eCall F_law_great (aCons (eVar 2) (aCons (e2 dAdd (eVar 13) (eC (.int 1))) aNil))) aNil)))))
noncomputable def c_law_b0_b13_b0 : Wm.BSem :=
  (sSet 16 (eCall F_on_way (aCons (eVar 5) (aCons (eVar 7) (aCons (eVar 11) (aCons (eVar 12) (aCons (eVar 15) aNil)))))))
noncomputable def c_law_b0_b13_b1_t0 : Wm.BSem :=
  (sRet (eC (.bl false)))
noncomputable def c_law_b0_b13_b1 : Wm.BSem :=
  (sIf (tOrS (asB (e2 dNe (eCall F_apart (aCons (eVar 5) (aCons (eVar 7) (aCons (eVar 11) (aCons (eVar 16) aNil))))) (eVar 15))) (asB (e2 dNe (eCall F_apart (aCons (eVar 5) (aCons (eVar 7) (aCons (eVar 16) (aCons (eVar 12) aNil))))) (e2 dSub (eVar 13) (eVar 15)))))
  c_law_b0_b13_b1_t0
  sPass)
noncomputable def c_law_b0_b13_b2_t0 : Wm.BSem :=
  (sRet (eC (.bl false)))
noncomputable def c_law_b0_b13_b2 : Wm.BSem :=
  (sIf (asB (e2 dNe (eCall F_on_way (aCons (eVar 5) (aCons (eVar 7) (aCons (eVar 12) (aCons (eVar 11) (aCons (e2 dSub (eVar 13) (eVar 15)) aNil)))))) (eVar 16)))
  c_law_b0_b13_b2_t0
  sPass)
noncomputable def c_law_b0_b13_b3_t0 : Wm.BSem :=
  (sSet 17 (eCall F_on_way (aCons (eVar 5) (aCons (eVar 7) (aCons (eVar 11) (aCons (eVar 12) (aCons (e2 dAdd (eVar 15) (eC (.int 1))) aNil)))))))
noncomputable def c_law_b0_b13_b3_t1_t0 : Wm.BSem :=
  (sRet (eC (.bl false)))
noncomputable def c_law_b0_b13_b3_t1 : Wm.BSem :=
  (sIf (tNotS (tTruth (eCall F_law_touch (aCons (eVar 5) (aCons (eVar 16) (aCons (eVar 17) aNil))))))
  c_law_b0_b13_b3_t1_t0
  sPass)
noncomputable def B_law_b0_b13_b3_t : Wm.BSem :=
  (sSeq c_law_b0_b13_b3_t0
  c_law_b0_b13_b3_t1)
noncomputable def c_law_b0_b13_b3 : Wm.BSem :=
  (sIf (asB (e2 dLt (eVar 15) (eVar 13)))
  B_law_b0_b13_b3_t
  sPass)
noncomputable def B_law_b0_b13_b : Wm.BSem :=
  (sSeq c_law_b0_b13_b0
  (sSeq c_law_b0_b13_b1
  (sSeq c_law_b0_b13_b2
  c_law_b0_b13_b3)))
noncomputable def c_law_b0_b13 : Wm.BSem :=
  (sFor (wSeq (eVar 14)) (gN 15)
  B_law_b0_b13_b)
noncomputable def c_law_b0_b14 : Wm.BSem :=
  (sSet 18 (eCall F_law_one (aCons (eVar 2) (aCons (eLst (aCons (e2 dAdd (eVar 13) (eC (.int 1))) (aCons (e1 dNeg (eC (.int 1))) (aCons (eC .non) (aCons (eC (.bl true)) (aCons (eC (.str "0")) (aCons (eTup (aCons (eC (.int 0)) aNil)) (aCons (e2 dAdd (e2 dAdd (eVar 13) (eCall F_law_great (aCons (eVar 2) (aCons (e2 dPow (eC (.int 10)) (eC (.int 20))) aNil)))) (eC (.int 1))) aNil)))))))) aNil))))
noncomputable def c_law_b0_b15_t0 : Wm.BSem :=
  (sRet (eC (.bl false)))
noncomputable def c_law_b0_b15 : Wm.BSem :=
  (sIf (asB (e2 dNe (eCall F_law_said (aCons (eVar 5) (aCons (eVar 7) (aCons (eVar 11) (aCons (eVar 12) (aCons (eVar 18) aNil)))))) (eLst (aCons (eVar 18) (aCons (eC (.bl false)) aNil)))))
  c_law_b0_b15_t0
  sPass)
noncomputable def B_law_b0_b : Wm.BSem :=
  (sSeq c_law_b0_b0
  (sSeq c_law_b0_b1
  (sSeq c_law_b0_b2
  (sSeq c_law_b0_b3
  (sSeq c_law_b0_b4
  (sSeq c_law_b0_b5
  (sSeq c_law_b0_b6
  (sSeq c_law_b0_b7
  (sSeq c_law_b0_b8
  (sSeq c_law_b0_b9
  (sSeq c_law_b0_b10
  (sSeq c_law_b0_b11
  (sSeq c_law_b0_b12
  (sSeq c_law_b0_b13
  (sSeq c_law_b0_b14
  c_law_b0_b15)))))))))))))))
noncomputable def c_law_b0 : Wm.BSem :=
  (sFor (wSeq (e2 dAdd (eLst (aCons (eCall F_law_cell_at (aCons (eVar 0) (aCons (eC (.int 0)) aNil))) aNil)) (eSlice (eVar 0) (oSome (eC (.int 1))) (oSome (eC (.int 6)))))) (gN 1)
  B_law_b0_b)
noncomputable def c_law_b1 : Wm.BSem :=
  (sRet (eC (.bl true)))
noncomputable def B_law_b : Wm.BSem :=
  (sSeq c_law_b0
  c_law_b1)
noncomputable def b_law : Wm.BSem :=
  B_law_b
noncomputable def F_law : FS := fnS 19 b_law
def Plain : Prop := ∀ ns : List Int, ns.length ≤ 63 → (∀ z ∈ ns, bitsN z ≤ 1048576) → ∃ h', F_law [.obj 0] [.scr (ns.map .int)] = .ok (.bl true) h'
end Lw
end
section
namespace Lw
open PySem PySem.Spec PyProof.Rows L2 Wm Sh
def topS (i : Nat) : Stmt := PySem.Challenge.pw_wetmarks_k20_whole_the_only_way.main.body.getD i (.Pass ⟨0, 0, 0, 0⟩)
abbrev s_law_cell_at : Stmt := topS 36
abbrev s_law_source_of : Stmt := topS 33
abbrev s_law_next : Stmt := topS 34
abbrev s_law_great : Stmt := topS 37
abbrev s_law_drum : Stmt := topS 38
abbrev s_is_whole : Stmt := topS 9
abbrev s_Drum_init : Stmt := inClass (topS 31) 0
abbrev s_law_one : Stmt := topS 35
abbrev s_law_common : Stmt := topS 40
abbrev s_law_begins : Stmt := topS 39
abbrev s_law_roll : Stmt := topS 41
abbrev s_law_face : Stmt := topS 42
abbrev s_check_length : Stmt := topS 14
abbrev s_check_face : Stmt := topS 15
abbrev s_check_roll : Stmt := topS 16
abbrev s_root_of : Stmt := topS 10
abbrev s_Drum_begins : Stmt := inClass (topS 31) 5
abbrev s_Drum_turn_of : Stmt := inClass (topS 31) 7
abbrev s_Drum_size : Stmt := inClass (topS 31) 4
abbrev s_Drum_where : Stmt := inClass (topS 31) 6
abbrev s_Drum_filled : Stmt := inClass (topS 31) 9
abbrev s_common : Stmt := topS 11
abbrev s_Drum_first : Stmt := inClass (topS 31) 2
abbrev s_Drum_step : Stmt := inClass (topS 31) 3
abbrev s_parts_of : Stmt := topS 17
abbrev s_Gap_init : Stmt := inClass (topS 19) 0
abbrev s_Gap_uppers : Stmt := inClass (topS 19) 3
abbrev s_Gap_under : Stmt := inClass (topS 19) 2
abbrev s_Gap_lowers : Stmt := inClass (topS 19) 4
abbrev s_piece_places : Stmt := topS 21
abbrev s_at_cells : Stmt := topS 20
abbrev s_piece : Stmt := topS 22
abbrev s_law_drawn : Stmt := topS 43
abbrev s_between : Stmt := topS 23
abbrev s_lows_of : Stmt := topS 27
abbrev s_apart : Stmt := topS 24
abbrev s_joining : Stmt := topS 25
abbrev s_along : Stmt := topS 26
abbrev s_on_way : Stmt := topS 28
abbrev s_beneath : Stmt := topS 18
abbrev s_law_touch : Stmt := topS 44
abbrev s_NoBeats_init : Stmt := inClass (topS 7) 0
abbrev s_law_said : Stmt := topS 45
abbrev s_law : Stmt := topS 46
def nmTab : Nat → List Str
  | 8 => ["part"]
  | 9 => ["at"]
  | 10 => ["at"]
  | 14 => ["face"]
  | 15 => ["beats"]
  | 1 => ["turn", "low_size", "up_size", "low_begin", "up_begin", "there", "part", "many"]
  | 0 => ["least", "more"]
  | _ => []
def csOf (tP : Addr) (ad : Nat → Addr) : Cs := { ad := ad, nm := nmTab, ex := [], tb := [(tP, "_law_touch" ++ ".<locals>." ++ "<lambda>")] }
structure Tx (tc tP : Addr) (base : Heap) (K : PySem.W.Frag) (mg : Str → Option Value) (ad : Nat → Addr) where
  TB : LamX.TabB base mg tc tP
  a_law_cell_at : Addr
  d_law_cell_at : FuncData
  F_law_cell_at : Fun K "_law_cell_at" "_law_cell_at" s_law_cell_at a_law_cell_at d_law_cell_at
  b_law_cell_at : Binds K d_law_cell_at ["_law_script", "_law_k"] []
  m_law_cell_at : mg "_law_cell_at" = some (.ref a_law_cell_at)
  a_law_source_of : Addr
  d_law_source_of : FuncData
  F_law_source_of : Fun K "_law_source_of" "_law_source_of" s_law_source_of a_law_source_of d_law_source_of
  b_law_source_of : Binds K d_law_source_of ["_law_cell"] []
  m_law_source_of : mg "_law_source_of" = some (.ref a_law_source_of)
  a_law_next : Addr
  d_law_next : FuncData
  F_law_next : Fun K "_law_next" "_law_next" s_law_next a_law_next d_law_next
  b_law_next : Binds K d_law_next ["_law_source", "_law_many"] []
  m_law_next : mg "_law_next" = some (.ref a_law_next)
  a_law_great : Addr
  d_law_great : FuncData
  F_law_great : Fun K "_law_great" "_law_great" s_law_great a_law_great d_law_great
  b_law_great : Binds K d_law_great ["_law_source", "_law_many"] []
  m_law_great : mg "_law_great" = some (.ref a_law_great)
  a_law_drum : Addr
  d_law_drum : FuncData
  F_law_drum : Fun K "_law_drum" "_law_drum" s_law_drum a_law_drum d_law_drum
  b_law_drum : Binds K d_law_drum ["_law_source"] []
  m_law_drum : mg "_law_drum" = some (.ref a_law_drum)
  a_is_whole : Addr
  d_is_whole : FuncData
  F_is_whole : Fun K "is_whole" "is_whole" s_is_whole a_is_whole d_is_whole
  b_is_whole : Binds K d_is_whole ["thing"] []
  m_is_whole : mg "is_whole" = some (.ref a_is_whole)
  a_Drum_init : Addr
  d_Drum_init : FuncData
  F_Drum_init : Fun K "__init__" "Drum.__init__" s_Drum_init a_Drum_init d_Drum_init
  b_Drum_init : Binds K d_Drum_init ["self", "first", "step"] []
  a_law_one : Addr
  d_law_one : FuncData
  F_law_one : Fun K "_law_one" "_law_one" s_law_one a_law_one d_law_one
  b_law_one : Binds K d_law_one ["_law_source", "_law_some"] []
  m_law_one : mg "_law_one" = some (.ref a_law_one)
  a_law_common : Addr
  d_law_common : FuncData
  F_law_common : Fun K "_law_common" "_law_common" s_law_common a_law_common d_law_common
  b_law_common : Binds K d_law_common ["_law_one_here", "_law_other"] []
  m_law_common : mg "_law_common" = some (.ref a_law_common)
  a_law_begins : Addr
  d_law_begins : FuncData
  F_law_begins : Fun K "_law_begins" "_law_begins" s_law_begins a_law_begins d_law_begins
  b_law_begins : Binds K d_law_begins ["_law_first", "_law_step", "_law_turn"] []
  m_law_begins : mg "_law_begins" = some (.ref a_law_begins)
  a_law_roll : Addr
  d_law_roll : FuncData
  F_law_roll : Fun K "_law_roll" "_law_roll" s_law_roll a_law_roll d_law_roll
  b_law_roll : Binds K d_law_roll ["_law_source", "_law_first", "_law_step"] []
  m_law_roll : mg "_law_roll" = some (.ref a_law_roll)
  a_law_face : Addr
  d_law_face : FuncData
  F_law_face : Fun K "_law_face" "_law_face" s_law_face a_law_face d_law_face
  b_law_face : Binds K d_law_face ["_law_source", "_law_first", "_law_step", "_law_roll_here"] []
  m_law_face : mg "_law_face" = some (.ref a_law_face)
  a_check_length : Addr
  d_check_length : FuncData
  F_check_length : Fun K "check_length" "check_length" s_check_length a_check_length d_check_length
  b_check_length : Binds K d_check_length ["length"] []
  m_check_length : mg "check_length" = some (.ref a_check_length)
  a_check_face : Addr
  d_check_face : FuncData
  F_check_face : Fun K "check_face" "check_face" s_check_face a_check_face d_check_face
  b_check_face : Binds K d_check_face ["length", "face"] []
  m_check_face : mg "check_face" = some (.ref a_check_face)
  a_check_roll : Addr
  d_check_roll : FuncData
  F_check_roll : Fun K "check_roll" "check_roll" s_check_roll a_check_roll d_check_roll
  b_check_roll : Binds K d_check_roll ["length", "faces"] []
  m_check_roll : mg "check_roll" = some (.ref a_check_roll)
  a_root_of : Addr
  d_root_of : FuncData
  F_root_of : Fun K "root_of" "root_of" s_root_of a_root_of d_root_of
  b_root_of : Binds K d_root_of ["number"] []
  m_root_of : mg "root_of" = some (.ref a_root_of)
  a_Drum_begins : Addr
  d_Drum_begins : FuncData
  F_Drum_begins : Fun K "begins" "Drum.begins" s_Drum_begins a_Drum_begins d_Drum_begins
  b_Drum_begins : Binds K d_Drum_begins ["self", "turn"] []
  me_Drum_begins : MethOk (csOf tP ad) K 0 "begins" a_Drum_begins
  a_Drum_turn_of : Addr
  d_Drum_turn_of : FuncData
  F_Drum_turn_of : Fun K "turn_of" "Drum.turn_of" s_Drum_turn_of a_Drum_turn_of d_Drum_turn_of
  b_Drum_turn_of : Binds K d_Drum_turn_of ["self", "cell"] []
  me_Drum_turn_of : MethOk (csOf tP ad) K 0 "turn_of" a_Drum_turn_of
  a_Drum_size : Addr
  d_Drum_size : FuncData
  F_Drum_size : Fun K "size" "Drum.size" s_Drum_size a_Drum_size d_Drum_size
  b_Drum_size : Binds K d_Drum_size ["self", "turn"] []
  me_Drum_size : MethOk (csOf tP ad) K 0 "size" a_Drum_size
  a_Drum_where : Addr
  d_Drum_where : FuncData
  F_Drum_where : Fun K "where" "Drum.where" s_Drum_where a_Drum_where d_Drum_where
  b_Drum_where : Binds K d_Drum_where ["self", "cell"] []
  me_Drum_where : MethOk (csOf tP ad) K 0 "where" a_Drum_where
  a_Drum_filled : Addr
  d_Drum_filled : FuncData
  F_Drum_filled : Fun K "filled" "Drum.filled" s_Drum_filled a_Drum_filled d_Drum_filled
  b_Drum_filled : Binds K d_Drum_filled ["self", "length"] []
  me_Drum_filled : MethOk (csOf tP ad) K 0 "filled" a_Drum_filled
  a_common : Addr
  d_common : FuncData
  F_common : Fun K "common" "common" s_common a_common d_common
  b_common : Binds K d_common ["one", "other"] []
  m_common : mg "common" = some (.ref a_common)
  a_Drum_first : Addr
  d_Drum_first : FuncData
  F_Drum_first : Fun K "first" "Drum.first" s_Drum_first a_Drum_first d_Drum_first
  b_Drum_first : Binds K d_Drum_first ["self"] []
  me_Drum_first : MethOk (csOf tP ad) K 0 "first" a_Drum_first
  a_Drum_step : Addr
  d_Drum_step : FuncData
  F_Drum_step : Fun K "step" "Drum.step" s_Drum_step a_Drum_step d_Drum_step
  b_Drum_step : Binds K d_Drum_step ["self"] []
  me_Drum_step : MethOk (csOf tP ad) K 0 "step" a_Drum_step
  a_parts_of : Addr
  d_parts_of : FuncData
  F_parts_of : Fun K "parts_of" "parts_of" s_parts_of a_parts_of d_parts_of
  b_parts_of : Binds K d_parts_of ["drum"] []
  m_parts_of : mg "parts_of" = some (.ref a_parts_of)
  a_Gap_init : Addr
  d_Gap_init : FuncData
  F_Gap_init : Fun K "__init__" "Gap.__init__" s_Gap_init a_Gap_init d_Gap_init
  b_Gap_init : Binds K d_Gap_init ["self", "drum", "length", "face"] []
  a_Gap_uppers : Addr
  d_Gap_uppers : FuncData
  F_Gap_uppers : Fun K "uppers" "Gap.uppers" s_Gap_uppers a_Gap_uppers d_Gap_uppers
  b_Gap_uppers : Binds K d_Gap_uppers ["self"] []
  me_Gap_uppers : MethOk (csOf tP ad) K 1 "uppers" a_Gap_uppers
  a_Gap_under : Addr
  d_Gap_under : FuncData
  F_Gap_under : Fun K "under" "Gap.under" s_Gap_under a_Gap_under d_Gap_under
  b_Gap_under : Binds K d_Gap_under ["self", "place"] []
  me_Gap_under : MethOk (csOf tP ad) K 1 "under" a_Gap_under
  a_Gap_lowers : Addr
  d_Gap_lowers : FuncData
  F_Gap_lowers : Fun K "lowers" "Gap.lowers" s_Gap_lowers a_Gap_lowers d_Gap_lowers
  b_Gap_lowers : Binds K d_Gap_lowers ["self"] []
  me_Gap_lowers : MethOk (csOf tP ad) K 1 "lowers" a_Gap_lowers
  a_piece_places : Addr
  d_piece_places : FuncData
  F_piece_places : Fun K "piece_places" "piece_places" s_piece_places a_piece_places d_piece_places
  b_piece_places : Binds K d_piece_places ["gap", "face"] []
  m_piece_places : mg "piece_places" = some (.ref a_piece_places)
  a_at_cells : Addr
  d_at_cells : FuncData
  F_at_cells : Fun K "at_cells" "at_cells" s_at_cells a_at_cells d_at_cells
  b_at_cells : Binds K d_at_cells ["begin", "stretch"] []
  m_at_cells : mg "at_cells" = some (.ref a_at_cells)
  a_piece : Addr
  d_piece : FuncData
  F_piece : Fun K "piece" "piece" s_piece a_piece d_piece
  b_piece : Binds K d_piece ["drum", "length", "face"] []
  m_piece : mg "piece" = some (.ref a_piece)
  a_law_drawn : Addr
  d_law_drawn : FuncData
  F_law_drawn : Fun K "_law_drawn" "_law_drawn" s_law_drawn a_law_drawn d_law_drawn
  b_law_drawn : Binds K d_law_drawn ["_law_source", "_law_lowers", "_law_uppers"] []
  m_law_drawn : mg "_law_drawn" = some (.ref a_law_drawn)
  a_between : Addr
  d_between : FuncData
  F_between : Fun K "between" "between" s_between a_between d_between
  b_between : Binds K d_between ["one", "other"] []
  m_between : mg "between" = some (.ref a_between)
  a_lows_of : Addr
  d_lows_of : FuncData
  F_lows_of : Fun K "lows_of" "lows_of" s_lows_of a_lows_of d_lows_of
  b_lows_of : Binds K d_lows_of ["gap", "face"] []
  m_lows_of : mg "lows_of" = some (.ref a_lows_of)
  a_apart : Addr
  d_apart : FuncData
  F_apart : Fun K "apart" "apart" s_apart a_apart d_apart
  b_apart : Binds K d_apart ["drum", "length", "one", "other"] []
  m_apart : mg "apart" = some (.ref a_apart)
  a_joining : Addr
  d_joining : FuncData
  F_joining : Fun K "joining" "joining" s_joining a_joining d_joining
  b_joining : Binds K d_joining ["gap", "place"] []
  m_joining : mg "joining" = some (.ref a_joining)
  a_along : Addr
  d_along : FuncData
  F_along : Fun K "along" "along" s_along a_along d_along
  b_along : Binds K d_along ["gap", "begin", "end", "many"] []
  m_along : mg "along" = some (.ref a_along)
  a_on_way : Addr
  d_on_way : FuncData
  F_on_way : Fun K "on_way" "on_way" s_on_way a_on_way d_on_way
  b_on_way : Binds K d_on_way ["drum", "length", "one", "other", "many"] []
  m_on_way : mg "on_way" = some (.ref a_on_way)
  a_beneath : Addr
  d_beneath : FuncData
  F_beneath : Fun K "beneath" "beneath" s_beneath a_beneath d_beneath
  b_beneath : Binds K d_beneath ["drum", "cell"] []
  m_beneath : mg "beneath" = some (.ref a_beneath)
  a_law_touch : Addr
  d_law_touch : FuncData
  F_law_touch : Fun K "_law_touch" "_law_touch" s_law_touch a_law_touch d_law_touch
  b_law_touch : Binds K d_law_touch ["_law_drum_here", "_law_here", "_law_there"] []
  cdL : d_law_touch.code = .ref tc
  m_law_touch : mg "_law_touch" = some (.ref a_law_touch)
  a_NoBeats_init : Addr
  d_NoBeats_init : FuncData
  F_NoBeats_init : Fun K "__init__" "NoBeats.__init__" s_NoBeats_init a_NoBeats_init d_NoBeats_init
  b_NoBeats_init : Binds K d_NoBeats_init ["self", "beats"] []
  a_law_said : Addr
  d_law_said : FuncData
  F_law_said : Fun K "_law_said" "_law_said" s_law_said a_law_said d_law_said
  b_law_said : Binds K d_law_said ["_law_drum_here", "_law_length", "_law_one_here", "_law_other", "_law_many"] []
  m_law_said : mg "_law_said" = some (.ref a_law_said)
  a_law : Addr
  d_law : FuncData
  F_law : Fun K "law" "law" s_law a_law d_law
  b_law : Binds K d_law ["_law_script"] []
  m_law : mg "law" = some (.ref a_law)
  mg_Gap : mg "Gap" = some (.ref (ad 1))
  mk_Gap : Mk K (ad 1) a_Gap_init
  fl_Gap_turn : FldOk (csOf tP ad) K 1 0 "turn"
  fl_Gap_low_size : FldOk (csOf tP ad) K 1 1 "low_size"
  fl_Gap_up_size : FldOk (csOf tP ad) K 1 2 "up_size"
  fl_Gap_low_begin : FldOk (csOf tP ad) K 1 3 "low_begin"
  fl_Gap_up_begin : FldOk (csOf tP ad) K 1 4 "up_begin"
  fl_Gap_there : FldOk (csOf tP ad) K 1 5 "there"
  fl_Gap_part : FldOk (csOf tP ad) K 1 6 "part"
  fl_Gap_many : FldOk (csOf tP ad) K 1 7 "many"
  mg_Drum : mg "Drum" = some (.ref (ad 0))
  mk_Drum : Mk K (ad 0) a_Drum_init
  fl_Drum_least : FldOk (csOf tP ad) K 0 0 "least"
  fl_Drum_more : FldOk (csOf tP ad) K 0 1 "more"
  mg_WetError : mg "WetError" = some (.ref (ad 7))
  rd_7 : PySem.W.readsIn K (ad 7) (.type "type") = true
  sp_7 : PySem.W.specialIn K (.ref (ad 7)) "__getattribute__" = some (some (.builtin "type.__getattribute__"))
  fi_7 : PySem.W.findCls K (.ref (ad 7)) (.type "type") "__init__" = some (.val (.builtin "ArithmeticError.__init__"))
  mg_NoCell : mg "NoCell" = some (.ref (ad 10))
  mg_NoFace : mg "NoFace" = some (.ref (ad 14))
  mg_NoBeats : mg "NoBeats" = some (.ref (ad 15))
  rc_NoBeats : RefC K (ad 15)
  ow_NoBeats : PySem.W.findIn K (.ref (ad 15)) "__init__" = some (some (.ref a_NoBeats_init))
  it_NoBeats : PySem.W.typeIn K (.ref a_NoBeats_init) = some (.type "function")
  tk_NoBeats_beats : PySem.W.takerIn K (ad 15) "beats" = some none
  xga_15 : PySem.W.findIn K (.ref (ad 15)) "__getattribute__" = some (some (.builtin "BaseException.__getattribute__"))
  xgg_15 : PySem.W.findIn K (.ref (ad 15)) "__getattr__" = some none
  xhd_15 : PySem.W.hasDictIn K (ad 15) = true
  xha_15 : PySem.W.findIn K (.ref (ad 15)) "__class__" = some (some (.builtin "object.__class__"))
  xmo_15 : PySem.W.mroIn K (ad 15) (.type "object") = some true
  xar_15 : PySem.W.subIn K (.ref (ad 15)) (.type "ArithmeticError") = some true
  xnf_15_beats : PySem.W.findIn K (.ref (ad 15)) "beats" = some none
  xhn : PySem.W.specialIn K (.builtin "object.__class__") "__get__" = some (some (.builtin "getset_descriptor.__get__"))
  xht : PySem.W.takesIn K (.builtin "object.__class__") = some true
  xsl_7 : PySem.W.subIn K (.ref (ad 7)) (.ref (ad 7)) = some true
  xic_7 : PySem.W.isClsIn K (ad 7) = true
  xis_7 : PySem.W.typeIn K (.ref (ad 7)) = some (.type "type")
  xsl_10 : PySem.W.subIn K (.ref (ad 10)) (.ref (ad 10)) = some true
  xic_10 : PySem.W.isClsIn K (ad 10) = true
  xis_10 : PySem.W.typeIn K (.ref (ad 10)) = some (.type "type")
  xsl_14 : PySem.W.subIn K (.ref (ad 14)) (.ref (ad 14)) = some true
  xic_14 : PySem.W.isClsIn K (ad 14) = true
  xis_14 : PySem.W.typeIn K (.ref (ad 14)) = some (.type "type")
  xsl_15 : PySem.W.subIn K (.ref (ad 15)) (.ref (ad 15)) = some true
  xic_15 : PySem.W.isClsIn K (ad 15) = true
  xis_15 : PySem.W.typeIn K (.ref (ad 15)) = some (.type "type")
  xbe_7 : PySem.W.subIn K (.ref (ad 7)) (.type "BaseException") = some true
  xbe_10 : PySem.W.subIn K (.ref (ad 10)) (.type "BaseException") = some true
  xbe_14 : PySem.W.subIn K (.ref (ad 14)) (.type "BaseException") = some true
  xbe_15 : PySem.W.subIn K (.ref (ad 15)) (.type "BaseException") = some true
  xsu_15_10 : PySem.W.subIn K (.ref (ad 15)) (.ref (ad 10)) = some false
  xsu_15_14 : PySem.W.subIn K (.ref (ad 15)) (.ref (ad 14)) = some false
  xsu_15_7 : PySem.W.subIn K (.ref (ad 15)) (.ref (ad 7)) = some true
  n_len : mg "len" = none
  n_int : mg "int" = none
  n_range : mg "range" = none
  n_isinstance : mg "isinstance" = none
  n_bool : mg "bool" = none
  n_min : mg "min" = none
  n_max : mg "max" = none
  n_tuple : mg "tuple" = none
  n_str : mg "str" = none
  n_divmod : mg "divmod" = none
  n_sorted : mg "sorted" = none
  g_MOST : ∃ t, mg "MOST" = some (.int 1000000000000000 t)
  g_SIDES : ∃ a, mg "SIDES" = some (.ref a) ∧ ∃ vs, SqT K (fun _ => none) a vs ∧ RVs K [] (fun _ => none) [.str "in", .str "out"] vs
section
variable {P : Program} {w : World} {tc tP : Addr} {K : PySem.W.Frag} {mg : Str → Option Value} {base : Heap} {ad : Nat → Addr}
theorem sc_law_cell_at : FnScope ["_law_script", "_law_k"] ["_law_script", "_law_k"] (defScope s_law_cell_at) := ⟨rfl, rfl, rfl, by decide +kernel, rfl, by decide +kernel, by decide +kernel⟩
theorem ok_law_cell_at (T : Tx tc tP base K mg ad) : FnOk P w K mg base CX0 1 T.a_law_cell_at T.d_law_cell_at ["_law_script", "_law_k"] (spF K (csOf tP ad) F_law_cell_at 2) :=
  fn_ok0 T.F_law_cell_at sc_law_cell_at rfl fun cdv A outer s H E hr => have nd := sc_law_cell_at.nd
  (sb_cons (ss_if (st_cmp op_lt o2_lt (se_var 1) (se_callB call_len oN_len (by rfl) T.n_len (by decide +kernel) (sa_cons (se_var 0) sa_nil)) (nomark _))
  (sb_one (ss_ret (se_ix ix_seq o2_ix (se_var 0) (se_var 1) (fun _ _ => rfl))))
  sb_nil)
  (sb_one (ss_ret se_int)))
theorem sc_law_source_of : FnScope ["_law_cell"] ["_law_cell"] (defScope s_law_source_of) := ⟨rfl, rfl, rfl, by decide +kernel, rfl, by decide +kernel, by decide +kernel⟩
theorem ok_law_source_of (T : Tx tc tP base K mg ad) : FnOk P w K mg base CX0 1 T.a_law_source_of T.d_law_source_of ["_law_cell"] (spF K (csOf tP ad) F_law_source_of 1) :=
  fn_ok0 T.F_law_source_of sc_law_source_of rfl fun cdv A outer s H E hr => have nd := sc_law_source_of.nd
  (sb_one (ss_ret (se_lst (sa_cons (se_op (OpR.or op_mulX op_rep) o2_mul (se_var 0) (se_callTy call_int1 oN_int (by rfl) T.n_int (by decide +kernel) (sa_cons (se_cmp op_ge o2_ge (se_var 0) (se_op op_pow o2_pow se_int se_int) (nomark _)) sa_nil))) (sa_cons (se_op op_mod o2_mod (se_var 0) se_int) (sa_cons se_int sa_nil))))))
theorem sc_law_next : FnScope ["_law_source", "_law_many", "_law_found", "_law_prime", "_law_figure"] ["_law_source", "_law_many"] (defScope s_law_next) := ⟨rfl, rfl, rfl, by decide +kernel, rfl, by decide +kernel, by decide +kernel⟩
theorem ok_law_next (T : Tx tc tP base K mg ad) : FnOk P w K mg base CX0 1 T.a_law_next T.d_law_next ["_law_source", "_law_many"] (spF K (csOf tP ad) F_law_next 2) :=
  fn_ok0 T.F_law_next sc_law_next rfl fun cdv A outer s H E hr => have nd := sc_law_next.nd
  (sb_cons (ss_if (st_cmp op_gt o2_gt (se_ix ix_seq o2_ix (se_var 0) se_int (fun _ _ => rfl)) se_int (nomark _))
  (sb_cons (ss_set (i := 2) nd rfl (Or.inl rfl) (se_op op_mod o2_mod (se_ix ix_seq o2_ix (se_var 0) se_int (fun _ _ => rfl)) (se_var 1)))
  (sb_cons (ss_sub (se_op op_fdivW o2_div (se_ix ix_seq o2_ix (se_var 0) se_int (fun _ _ => rfl)) (se_var 1)) (se_var 0) se_int)
  (sb_one (ss_ret (se_var 2)))))
  sb_nil)
  (sb_cons (ss_sub (se_op (OpR.or op_add (OpR.or op_cat op_catT)) o2_add (se_ix ix_seq o2_ix (se_var 0) se_int (fun _ _ => rfl)) se_int) (se_var 0) se_int)
  (sb_cons (ss_set (i := 3) nd rfl (Or.inl rfl) (se_ix ix_seq o2_ix (se_lst (sa_cons se_int (sa_cons se_int (sa_cons se_int (sa_cons se_int (sa_cons se_int (sa_cons se_int (sa_cons se_int sa_nil)))))))) (se_op op_mod o2_mod (se_ix ix_seq o2_ix (se_var 0) se_int (fun _ _ => rfl)) se_int) (fun _ _ => rfl)))
  (sb_cons (ss_set (i := 4) nd rfl (Or.inl rfl) (se_op op_mod o2_mod (se_op op_pow o2_pow (se_op (OpR.or op_add (OpR.or op_cat op_catT)) o2_add (se_op (OpR.or op_add (OpR.or op_cat op_catT)) o2_add (se_ix ix_seq o2_ix (se_var 0) se_int (fun _ _ => rfl)) (se_op (OpR.or op_mulX op_rep) o2_mul se_int (se_ix ix_seq o2_ix (se_var 0) se_int (fun _ _ => rfl)))) se_int) se_int) (se_var 3)))
  (sb_cons (ss_set (i := 4) nd rfl (Or.inl rfl) (se_op op_mod o2_mod (se_op (OpR.or op_mulX op_rep) o2_mul (se_op (OpR.or op_add (OpR.or op_cat op_catT)) o2_add (se_var 4) (se_ix ix_seq o2_ix (se_var 0) se_int (fun _ _ => rfl))) (se_op (OpR.or op_add (OpR.or op_cat op_catT)) o2_add (se_op op_fdivW o2_div (se_var 4) se_int) se_int)) (se_var 3)))
  (sb_one (ss_ret (se_op op_mod o2_mod (se_op op_fdivW o2_div (se_var 4) se_int) (se_var 1)))))))))
theorem sc_law_great : FnScope ["_law_source", "_law_many", "_law_found", "_law_k"] ["_law_source", "_law_many"] (defScope s_law_great) := ⟨rfl, rfl, rfl, by decide +kernel, rfl, by decide +kernel, by decide +kernel⟩
theorem ok_law_great (T : Tx tc tP base K mg ad) : FnOk P w K mg base CX0 2 T.a_law_great T.d_law_great ["_law_source", "_law_many"] (spF K (csOf tP ad) F_law_great 2) :=
  fn_ok0 T.F_law_great sc_law_great rfl fun cdv A outer s H E hr => have nd := sc_law_great.nd
  (sb_cons (ss_set (i := 2) nd rfl (Or.inl rfl) se_int)
  (sb_cons (ss_for PassesOwn.never rfl (si_rng1 (by rfl) T.n_range se_int) (sg_name (i := 3) nd rfl (Or.inl rfl))
  (sb_one (ss_set (i := 2) nd rfl (Or.inl rfl) (se_op (OpR.or op_add (OpR.or op_cat op_catT)) o2_add (se_op (OpR.or op_mulX op_rep) o2_mul (se_var 2) (se_op op_pow o2_pow se_int se_int)) (se_call (ok_law_next T) (hr.mono (by first | decide | omega)) (by rfl) T.m_law_next T.F_law_next.kp T.b_law_next passA (sa_cons (se_var 0) (sa_cons (se_op op_pow o2_pow se_int se_int) sa_nil)) (len_cons (len_cons len_nil)))))))
  (sb_one (ss_ret (se_op op_mod o2_mod (se_var 2) (se_var 1))))))
theorem sc_law_drum : FnScope ["_law_source", "_law_kind", "_law_unit"] ["_law_source"] (defScope s_law_drum) := ⟨rfl, rfl, rfl, by decide +kernel, rfl, by decide +kernel, by decide +kernel⟩
theorem ok_law_drum (T : Tx tc tP base K mg ad) : FnOk P w K mg base CX0 3 T.a_law_drum T.d_law_drum ["_law_source"] (spF K (csOf tP ad) F_law_drum 1) :=
  fn_ok0 T.F_law_drum sc_law_drum rfl fun cdv A outer s H E hr => have nd := sc_law_drum.nd
  (sb_cons (ss_set (i := 1) nd rfl (Or.inl rfl) (se_call (ok_law_next T) (hr.mono (by first | decide | omega)) (by rfl) T.m_law_next T.F_law_next.kp T.b_law_next passA (sa_cons (se_var 0) (sa_cons se_int sa_nil)) (len_cons (len_cons len_nil))))
  (sb_cons (ss_if (st_cmp (op_eqD hr.units) o2_eq (se_var 1) se_int (nomark _))
  (sb_one (ss_ret (se_tup (sa_cons (se_op (OpR.or op_add (OpR.or op_cat op_catT)) o2_add se_int (se_call (ok_law_next T) (hr.mono (by first | decide | omega)) (by rfl) T.m_law_next T.F_law_next.kp T.b_law_next passA (sa_cons (se_var 0) (sa_cons se_int sa_nil)) (len_cons (len_cons len_nil)))) (sa_cons (se_call (ok_law_next T) (hr.mono (by first | decide | omega)) (by rfl) T.m_law_next T.F_law_next.kp T.b_law_next passA (sa_cons (se_var 0) (sa_cons se_int sa_nil)) (len_cons (len_cons len_nil))) sa_nil)))))
  sb_nil)
  (sb_cons (ss_if (st_cmp (op_eqD hr.units) o2_eq (se_var 1) se_int (nomark _))
  (sb_one (ss_ret (se_tup (sa_cons (se_op (OpR.or op_add (OpR.or op_cat op_catT)) o2_add se_int (se_call (ok_law_next T) (hr.mono (by first | decide | omega)) (by rfl) T.m_law_next T.F_law_next.kp T.b_law_next passA (sa_cons (se_var 0) (sa_cons se_int sa_nil)) (len_cons (len_cons len_nil)))) (sa_cons (se_call (ok_law_next T) (hr.mono (by first | decide | omega)) (by rfl) T.m_law_next T.F_law_next.kp T.b_law_next passA (sa_cons (se_var 0) (sa_cons se_int sa_nil)) (len_cons (len_cons len_nil))) sa_nil)))))
  sb_nil)
  (sb_cons (ss_if (st_cmp (op_eqD hr.units) o2_eq (se_var 1) se_int (nomark _))
  (sb_one (ss_ret (se_tup (sa_cons (se_op (OpR.or op_add (OpR.or op_cat op_catT)) o2_add se_int (se_call (ok_law_next T) (hr.mono (by first | decide | omega)) (by rfl) T.m_law_next T.F_law_next.kp T.b_law_next passA (sa_cons (se_var 0) (sa_cons se_int sa_nil)) (len_cons (len_cons len_nil)))) (sa_cons se_int sa_nil)))))
  sb_nil)
  (sb_cons (ss_if (st_cmp (op_eqD hr.units) o2_eq (se_var 1) se_int (nomark _))
  (sb_cons (ss_set (i := 2) nd rfl (Or.inl rfl) (se_op (OpR.or op_add (OpR.or op_cat op_catT)) o2_add se_int (se_call (ok_law_next T) (hr.mono (by first | decide | omega)) (by rfl) T.m_law_next T.F_law_next.kp T.b_law_next passA (sa_cons (se_var 0) (sa_cons (se_op op_pow o2_pow se_int se_int) sa_nil)) (len_cons (len_cons len_nil)))))
  (sb_one (ss_ret (se_tup (sa_cons (se_op (OpR.or op_mulX op_rep) o2_mul (se_var 2) (se_op (OpR.or op_add (OpR.or op_cat op_catT)) o2_add se_int (se_call (ok_law_next T) (hr.mono (by first | decide | omega)) (by rfl) T.m_law_next T.F_law_next.kp T.b_law_next passA (sa_cons (se_var 0) (sa_cons se_int sa_nil)) (len_cons (len_cons len_nil))))) (sa_cons (se_op (OpR.or op_mulX op_rep) o2_mul (se_var 2) (se_call (ok_law_next T) (hr.mono (by first | decide | omega)) (by rfl) T.m_law_next T.F_law_next.kp T.b_law_next passA (sa_cons (se_var 0) (sa_cons se_int sa_nil)) (len_cons (len_cons len_nil)))) sa_nil))))))
  sb_nil)
  (sb_cons (ss_if (st_cmp (op_eqD hr.units) o2_eq (se_var 1) se_int (nomark _))
  (sb_one (ss_ret (se_tup (sa_cons (se_op (OpR.or op_add (OpR.or op_cat op_catT)) o2_add se_int (se_call (ok_law_great T) (hr.mono (by first | decide | omega)) (by rfl) T.m_law_great T.F_law_great.kp T.b_law_great passA (sa_cons (se_var 0) (sa_cons (se_op op_pow o2_pow se_int se_int) sa_nil)) (len_cons (len_cons len_nil)))) (sa_cons (se_call (ok_law_next T) (hr.mono (by first | decide | omega)) (by rfl) T.m_law_next T.F_law_next.kp T.b_law_next passA (sa_cons (se_var 0) (sa_cons se_int sa_nil)) (len_cons (len_cons len_nil))) sa_nil)))))
  sb_nil)
  (sb_one (ss_ret (se_tup (sa_cons (se_op (OpR.or op_add (OpR.or op_cat op_catT)) o2_add se_int (se_call (ok_law_next T) (hr.mono (by first | decide | omega)) (by rfl) T.m_law_next T.F_law_next.kp T.b_law_next passA (sa_cons (se_var 0) (sa_cons se_int sa_nil)) (len_cons (len_cons len_nil)))) (sa_cons (se_call (ok_law_great T) (hr.mono (by first | decide | omega)) (by rfl) T.m_law_great T.F_law_great.kp T.b_law_great passA (sa_cons (se_var 0) (sa_cons (se_op op_pow o2_pow se_int se_int) sa_nil)) (len_cons (len_cons len_nil))) sa_nil)))))))))))
theorem sc_is_whole : FnScope ["thing"] ["thing"] (defScope s_is_whole) := ⟨rfl, rfl, rfl, by decide +kernel, rfl, by decide +kernel, by decide +kernel⟩
theorem ok_is_whole (T : Tx tc tP base K mg ad) : FnOk P w K mg base CX0 1 T.a_is_whole T.d_is_whole ["thing"] (spF K (csOf tP ad) F_is_whole 1) :=
  fn_ok0 T.F_is_whole sc_is_whole rfl fun cdv A outer s H E hr => have nd := sc_is_whole.nd
  (sb_one (ss_ret (se_and (se_isi .int (by decide) (by rfl) T.n_isinstance (se_var 0) (pe_bltn (v := .ty "int") (by rfl) T.n_int (by decide +kernel) rfl)) (se_one (se_not (se_isi .bl (by decide) (by rfl) T.n_isinstance (se_var 0) (pe_bltn (v := .ty "bool") (by rfl) T.n_bool (by decide +kernel) rfl)))))))
theorem sc_Drum_init : FnScope ["self", "first", "step"] ["self", "first", "step"] (defScope s_Drum_init) := ⟨rfl, rfl, rfl, by decide +kernel, rfl, by decide +kernel, by decide +kernel⟩
theorem ok_Drum_init (T : Tx tc tP base K mg ad) : FnOk P w K mg base CX0 2 T.a_Drum_init T.d_Drum_init ["self", "first", "step"] (spF K (csOf tP ad) F_Drum_init 3) :=
  fn_ok0 T.F_Drum_init sc_Drum_init rfl fun cdv A outer s H E hr => have nd := sc_Drum_init.nd
  (sb_cons (ss_if (SW.st (sw_or (st_not (st_truth (se_call (ok_is_whole T) (hr.mono (by first | decide | omega)) (by rfl) T.m_is_whole T.F_is_whole.kp T.b_is_whole passA (sa_cons (se_var 1) sa_nil) (len_cons len_nil)))) (sw_or1 (st_not (st_chain op_le o2_le op_lt o2_lt se_int (se_var 1) (se_globI (by rfl) T.g_MOST))))))
  (sb_one ss_bad)
  sb_nil)
  (sb_cons (ss_if (SW.st (sw_or (st_not (st_truth (se_call (ok_is_whole T) (hr.mono (by first | decide | omega)) (by rfl) T.m_is_whole T.F_is_whole.kp T.b_is_whole passA (sa_cons (se_var 2) sa_nil) (len_cons len_nil)))) (sw_or1 (st_not (st_chain op_le o2_le op_lt o2_lt se_int (se_var 2) (se_globI (by rfl) T.g_MOST))))))
  (sb_one ss_bad)
  sb_nil)
  (sb_cons (ss_fld T.fl_Drum_least (se_var 0) (se_var 1))
  (sb_one (ss_fld T.fl_Drum_more (se_var 0) (se_var 2))))))
theorem sc_law_one : FnScope ["_law_source", "_law_some"] ["_law_source", "_law_some"] (defScope s_law_one) := ⟨rfl, rfl, rfl, by decide +kernel, rfl, by decide +kernel, by decide +kernel⟩
theorem ok_law_one (T : Tx tc tP base K mg ad) : FnOk P w K mg base CX0 2 T.a_law_one T.d_law_one ["_law_source", "_law_some"] (spF K (csOf tP ad) F_law_one 2) :=
  fn_ok0 T.F_law_one sc_law_one rfl fun cdv A outer s H E hr => have nd := sc_law_one.nd
  (sb_one (ss_ret (se_ix ix_seq o2_ix (se_var 1) (se_call (ok_law_next T) (hr.mono (by first | decide | omega)) (by rfl) T.m_law_next T.F_law_next.kp T.b_law_next passA (sa_cons (se_var 0) (sa_cons (se_callB call_len oN_len (by rfl) T.n_len (by decide +kernel) (sa_cons (se_var 1) sa_nil)) sa_nil)) (len_cons (len_cons len_nil))) (fun _ _ => rfl))))
theorem sc_law_common : FnScope ["_law_one_here", "_law_other"] ["_law_one_here", "_law_other"] (defScope s_law_common) := ⟨rfl, rfl, rfl, by decide +kernel, rfl, by decide +kernel, by decide +kernel⟩
theorem ok_law_common (T : Tx tc tP base K mg ad) : FnOk P w K mg base CX0 1 T.a_law_common T.d_law_common ["_law_one_here", "_law_other"] (spF K (csOf tP ad) F_law_common 2) :=
  fn_ok0 T.F_law_common sc_law_common rfl fun cdv A outer s H E hr => have nd := sc_law_common.nd
  (sb_cons (ss_while PassesOwn.never (st_cmp op_gt o2_gt (se_var 1) se_int (nomark _))
  (sb_one (ss_par (i := 0) (j := 1) rfl nd rfl rfl (by decide) rfl rfl (se_var 1) (se_op op_mod o2_mod (se_var 0) (se_var 1)) (by rfl))))
  (sb_one (ss_ret (se_var 0))))
theorem sc_law_begins : FnScope ["_law_first", "_law_step", "_law_turn"] ["_law_first", "_law_step", "_law_turn"] (defScope s_law_begins) := ⟨rfl, rfl, rfl, by decide +kernel, rfl, by decide +kernel, by decide +kernel⟩
theorem ok_law_begins (T : Tx tc tP base K mg ad) : FnOk P w K mg base CX0 1 T.a_law_begins T.d_law_begins ["_law_first", "_law_step", "_law_turn"] (spF K (csOf tP ad) F_law_begins 3) :=
  fn_ok0 T.F_law_begins sc_law_begins rfl fun cdv A outer s H E hr => have nd := sc_law_begins.nd
  (sb_one (ss_ret (se_op (OpR.or op_add (OpR.or op_cat op_catT)) o2_add (se_op (OpR.or op_mulX op_rep) o2_mul (se_var 2) (se_var 0)) (se_op op_fdivW o2_div (se_op (OpR.or op_mulX op_rep) o2_mul (se_op (OpR.or op_mulX op_rep) o2_mul (se_var 1) (se_var 2)) (se_op op_sub o2_sub (se_var 2) se_int)) se_int))))
theorem sc_law_roll : FnScope ["_law_source", "_law_first", "_law_step", "_law_turn", "_law_size", "_law_wide", "_law_some", "_law_places"] ["_law_source", "_law_first", "_law_step"] (defScope s_law_roll) := ⟨rfl, rfl, rfl, by decide +kernel, rfl, by decide +kernel, by decide +kernel⟩
theorem ok_law_roll (T : Tx tc tP base K mg ad) : FnOk P w K mg base CX0 3 T.a_law_roll T.d_law_roll ["_law_source", "_law_first", "_law_step"] (spF K (csOf tP ad) F_law_roll 3) :=
  fn_ok0 T.F_law_roll sc_law_roll rfl fun cdv A outer s H E hr => have nd := sc_law_roll.nd
  (sb_cons (ss_set (i := 3) nd rfl (Or.inl rfl) (se_op (OpR.or op_add (OpR.or op_cat op_catT)) o2_add se_int (se_call (ok_law_next T) (hr.mono (by first | decide | omega)) (by rfl) T.m_law_next T.F_law_next.kp T.b_law_next passA (sa_cons (se_var 0) (sa_cons (se_call (ok_law_one T) (hr.mono (by first | decide | omega)) (by rfl) T.m_law_one T.F_law_one.kp T.b_law_one passA (sa_cons (se_var 0) (sa_cons (se_lst (sa_cons se_int (sa_cons se_int (sa_cons se_int (sa_cons (se_op op_pow o2_pow se_int se_int) sa_nil))))) sa_nil)) (len_cons (len_cons len_nil))) sa_nil)) (len_cons (len_cons len_nil)))))
  (sb_cons (ss_set (i := 4) nd rfl (Or.inl rfl) (se_op (OpR.or op_add (OpR.or op_cat op_catT)) o2_add (se_var 1) (se_op (OpR.or op_mulX op_rep) o2_mul (se_var 3) (se_var 2))))
  (sb_cons (ss_set (i := 5) nd rfl (Or.inl rfl) (se_op op_fdivW o2_div (se_var 4) (se_call (ok_law_common T) (hr.mono (by first | decide | omega)) (by rfl) T.m_law_common T.F_law_common.kp T.b_law_common passA (sa_cons (se_var 1) (sa_cons (se_var 2) sa_nil)) (len_cons (len_cons len_nil)))))
  (sb_cons (ss_set (i := 6) nd rfl (Or.inl rfl) (se_lst (sa_cons se_int (sa_cons (se_var 4) (sa_cons (se_op (OpR.or op_add (OpR.or op_cat op_catT)) o2_add se_int (se_call (ok_law_great T) (hr.mono (by first | decide | omega)) (by rfl) T.m_law_great T.F_law_great.kp T.b_law_great passA (sa_cons (se_var 0) (sa_cons (se_var 4) sa_nil)) (len_cons (len_cons len_nil)))) (sa_cons (se_op (OpR.or op_add (OpR.or op_cat op_catT)) o2_add se_int (se_call (ok_law_great T) (hr.mono (by first | decide | omega)) (by rfl) T.m_law_great T.F_law_great.kp T.b_law_great passA (sa_cons (se_var 0) (sa_cons (se_var 5) sa_nil)) (len_cons (len_cons len_nil)))) (sa_cons (se_var 5) (sa_cons (se_callB (call_min2 rfl) oN_min (by rfl) T.n_min (by decide +kernel) (sa_cons (se_var 4) (sa_cons (se_op (OpR.or op_add (OpR.or op_cat op_catT)) o2_add (se_var 5) se_int) sa_nil))) sa_nil))))))))
  (sb_cons (ss_set (i := 7) nd rfl (Or.inl rfl) (se_call (ok_law_one T) (hr.mono (by first | decide | omega)) (by rfl) T.m_law_one T.F_law_one.kp T.b_law_one passA (sa_cons (se_var 0) (sa_cons (se_var 6) sa_nil)) (len_cons (len_cons len_nil))))
  (sb_one (ss_ret (se_tup (sa_cons (se_var 3) (sa_cons (se_var 7) (sa_cons (se_op (OpR.or op_add (OpR.or op_cat op_catT)) o2_add (se_call (ok_law_begins T) (hr.mono (by first | decide | omega)) (by rfl) T.m_law_begins T.F_law_begins.kp T.b_law_begins passA (sa_cons (se_var 1) (sa_cons (se_var 2) (sa_cons (se_var 3) sa_nil))) (len_cons (len_cons (len_cons len_nil)))) (se_var 7)) sa_nil)))))))))))
theorem sc_law_face : FnScope ["_law_source", "_law_first", "_law_step", "_law_roll_here", "_law_turn", "_law_places", "_law_length", "_law_back", "_law_here", "_law_size", "_law_place"] ["_law_source", "_law_first", "_law_step", "_law_roll_here"] (defScope s_law_face) := ⟨rfl, rfl, rfl, by decide +kernel, rfl, by decide +kernel, by decide +kernel⟩
theorem ok_law_face (T : Tx tc tP base K mg ad) : FnOk P w K mg base CX0 3 T.a_law_face T.d_law_face ["_law_source", "_law_first", "_law_step", "_law_roll_here"] (spF K (csOf tP ad) F_law_face 4) :=
  fn_ok0 T.F_law_face sc_law_face rfl fun cdv A outer s H E hr => have nd := sc_law_face.nd
  (sb_cons (ss_asg (se_var 3) (sg_tup rfl (sgs_cons (sg_name (i := 4) nd rfl (Or.inl rfl)) (sgs_cons (sg_name (i := 5) nd rfl (Or.inl rfl)) (sgs_cons (sg_name (i := 6) nd rfl (Or.inl rfl)) sgs_nil)))))
  (sb_cons (ss_set (i := 7) nd rfl (Or.inl rfl) (se_call (ok_law_one T) (hr.mono (by first | decide | omega)) (by rfl) T.m_law_one T.F_law_one.kp T.b_law_one passA (sa_cons (se_var 0) (sa_cons (se_lst (sa_cons se_int (sa_cons se_int (sa_cons se_int (sa_cons se_int (sa_cons (se_call (ok_law_next T) (hr.mono (by first | decide | omega)) (by rfl) T.m_law_next T.F_law_next.kp T.b_law_next passA (sa_cons (se_var 0) (sa_cons (se_op (OpR.or op_add (OpR.or op_cat op_catT)) o2_add (se_var 4) se_int) sa_nil)) (len_cons (len_cons len_nil))) sa_nil)))))) sa_nil)) (len_cons (len_cons len_nil))))
  (sb_cons (ss_set (i := 8) nd rfl (Or.inl rfl) (se_callB (call_max2 rfl) oN_max (by rfl) T.n_max (by decide +kernel) (sa_cons se_int (sa_cons (se_op op_sub o2_sub (se_var 4) (se_var 7)) sa_nil))))
  (sb_cons (ss_set (i := 9) nd rfl (Or.inl rfl) (se_ix ix_seq o2_ix (se_lst (sa_cons (se_op (OpR.or op_add (OpR.or op_cat op_catT)) o2_add (se_var 1) (se_op (OpR.or op_mulX op_rep) o2_mul (se_var 8) (se_var 2))) (sa_cons (se_var 5) sa_nil))) (se_callTy call_int1 oN_int (by rfl) T.n_int (by decide +kernel) (sa_cons (se_cmp (op_eqD hr.units) o2_eq (se_var 8) (se_var 4) (nomark _)) sa_nil)) (fun _ _ => rfl)))
  (sb_cons (ss_set (i := 10) nd rfl (Or.inl rfl) (se_call (ok_law_one T) (hr.mono (by first | decide | omega)) (by rfl) T.m_law_one T.F_law_one.kp T.b_law_one passA (sa_cons (se_var 0) (sa_cons (se_lst (sa_cons se_int (sa_cons (se_op op_sub o2_sub (se_var 9) se_int) (sa_cons (se_call (ok_law_great T) (hr.mono (by first | decide | omega)) (by rfl) T.m_law_great T.F_law_great.kp T.b_law_great passA (sa_cons (se_var 0) (sa_cons (se_var 9) sa_nil)) (len_cons (len_cons len_nil))) (sa_cons (se_op op_fdivW o2_div (se_var 9) se_int) sa_nil))))) sa_nil)) (len_cons (len_cons len_nil))))
  (sb_one (ss_ret (se_tup (sa_cons (se_op (OpR.or op_add (OpR.or op_cat op_catT)) o2_add (se_call (ok_law_begins T) (hr.mono (by first | decide | omega)) (by rfl) T.m_law_begins T.F_law_begins.kp T.b_law_begins passA (sa_cons (se_var 1) (sa_cons (se_var 2) (sa_cons (se_var 8) sa_nil))) (len_cons (len_cons (len_cons len_nil)))) (se_var 10)) (sa_cons (se_call (ok_law_one T) (hr.mono (by first | decide | omega)) (by rfl) T.m_law_one T.F_law_one.kp T.b_law_one passA (sa_cons (se_var 0) (sa_cons (se_lst (sa_cons se_str (sa_cons se_str sa_nil))) sa_nil)) (len_cons (len_cons len_nil))) sa_nil))))))))))
theorem sc_check_length : FnScope ["length"] ["length"] (defScope s_check_length) := ⟨rfl, rfl, rfl, by decide +kernel, rfl, by decide +kernel, by decide +kernel⟩
theorem ok_check_length (T : Tx tc tP base K mg ad) : FnOk P w K mg base CX0 2 T.a_check_length T.d_check_length ["length"] (spF K (csOf tP ad) F_check_length 1) :=
  fn_ok0 T.F_check_length sc_check_length rfl fun cdv A outer s H E hr => have nd := sc_check_length.nd
  (sb_one (ss_if (SW.st (sw_or (st_not (st_truth (se_call (ok_is_whole T) (hr.mono (by first | decide | omega)) (by rfl) T.m_is_whole T.F_is_whole.kp T.b_is_whole passA (sa_cons (se_var 0) sa_nil) (len_cons len_nil)))) (sw_or1 (st_cmp op_lt o2_lt (se_var 0) se_int (nomark _)))))
  (sb_one ss_bad)
  sb_nil))
theorem sc_check_face : FnScope ["length", "face"] ["length", "face"] (defScope s_check_face) := ⟨rfl, rfl, rfl, by decide +kernel, rfl, by decide +kernel, by decide +kernel⟩
theorem ok_check_face (T : Tx tc tP base K mg ad) : FnOk P w K mg base CX0 2 T.a_check_face T.d_check_face ["length", "face"] (spF K (csOf tP ad) F_check_face 2) :=
  fn_ok0 T.F_check_face sc_check_face rfl fun cdv A outer s H E hr => have nd := sc_check_face.nd
  (sb_cons (ss_if (SW.st (sw_or (st_not (st_truth (se_isi .tup (by decide) (by rfl) T.n_isinstance (se_var 1) (pe_bltn (v := .ty "tuple") (by rfl) T.n_tuple (by decide +kernel) rfl)))) (sw_or (st_cmp (op_neD hr.units) o2_ne (se_callB call_len oN_len (by rfl) T.n_len (by decide +kernel) (sa_cons (se_var 1) sa_nil)) se_int (nomark _)) (sw_or (st_not (st_truth (se_call (ok_is_whole T) (hr.mono (by first | decide | omega)) (by rfl) T.m_is_whole T.F_is_whole.kp T.b_is_whole passA (sa_cons (se_ix ix_seq o2_ix (se_var 1) se_int (fun _ _ => rfl)) sa_nil) (len_cons len_nil)))) (sw_or1 (st_not (st_chain op_le o2_le op_lt o2_lt se_int (se_ix ix_seq o2_ix (se_var 1) se_int (fun _ _ => rfl)) (se_var 0))))))))
  (sb_one ss_bad)
  sb_nil)
  (sb_one (ss_if (SW.st (sw_or (st_not (st_truth (se_isi .str (by decide) (by rfl) T.n_isinstance (se_ix ix_seq o2_ix (se_var 1) se_int (fun _ _ => rfl)) (pe_bltn (v := .ty "str") (by rfl) T.n_str (by decide +kernel) rfl)))) (sw_or1 (st_cmp (OpR.or op_notIn_seq (op_notInD (u65 hr))) o2_notIn (se_ix ix_seq o2_ix (se_var 1) se_int (fun _ _ => rfl)) (se_globT (by rfl) T.g_SIDES) rfl))))
  (sb_one ss_bad)
  sb_nil)))
theorem sc_check_roll : FnScope ["length", "faces", "face"] ["length", "faces"] (defScope s_check_roll) := ⟨rfl, rfl, rfl, by decide +kernel, rfl, by decide +kernel, by decide +kernel⟩
theorem ok_check_roll (T : Tx tc tP base K mg ad) : FnOk P w K mg base CX0 3 T.a_check_roll T.d_check_roll ["length", "faces"] (spF K (csOf tP ad) F_check_roll 2) :=
  fn_ok0 T.F_check_roll sc_check_roll rfl fun cdv A outer s H E hr => have nd := sc_check_roll.nd
  (sb_cons (ss_expr (se_call (ok_check_length T) (hr.mono (by first | decide | omega)) (by rfl) T.m_check_length T.F_check_length.kp T.b_check_length passA (sa_cons (se_var 0) sa_nil) (len_cons len_nil)))
  (sb_one (ss_for PassesOwn.never rfl (si_seq (se_var 1)) (sg_name (i := 2) nd rfl (Or.inl rfl))
  (sb_one (ss_expr (se_call (ok_check_face T) (hr.mono (by first | decide | omega)) (by rfl) T.m_check_face T.F_check_face.kp T.b_check_face passA (sa_cons (se_var 0) (sa_cons (se_var 2) sa_nil)) (len_cons (len_cons len_nil))))))))
theorem sc_root_of : FnScope ["number", "guess", "better"] ["number"] (defScope s_root_of) := ⟨rfl, rfl, rfl, by decide +kernel, rfl, by decide +kernel, by decide +kernel⟩
theorem ok_root_of (T : Tx tc tP base K mg ad) : FnOk P w K mg base CX0 1 T.a_root_of T.d_root_of ["number"] (spF K (csOf tP ad) F_root_of 1) :=
  fn_ok0 T.F_root_of sc_root_of rfl fun cdv A outer s H E hr => have nd := sc_root_of.nd
  (sb_cons (ss_if (st_cmp op_lt o2_lt (se_var 0) se_int (nomark _))
  (sb_one (ss_ret (se_var 0)))
  sb_nil)
  (sb_cons (ss_set (i := 1) nd rfl (Or.inl rfl) (se_op op_shlW o2_shl se_int (se_op op_fdivW o2_div (se_op (OpR.or op_add (OpR.or op_cat op_catT)) o2_add (se_bits (se_var 0)) se_int) se_int)))
  (sb_one (ss_while PassesOwn.never (st_val se_bl)
  (sb_cons (ss_set (i := 2) nd rfl (Or.inl rfl) (se_op op_fdivW o2_div (se_op (OpR.or op_add (OpR.or op_cat op_catT)) o2_add (se_var 1) (se_op op_fdivW o2_div (se_var 0) (se_var 1))) se_int))
  (sb_cons (ss_if (st_cmp op_ge o2_ge (se_var 2) (se_var 1) (nomark _))
  (sb_one (ss_ret (se_var 1)))
  sb_nil)
  (sb_one (ss_set (i := 1) nd rfl (Or.inl rfl) (se_var 2)))))))))
theorem sc_Drum_begins : FnScope ["self", "turn"] ["self", "turn"] (defScope s_Drum_begins) := ⟨rfl, rfl, rfl, by decide +kernel, rfl, by decide +kernel, by decide +kernel⟩
theorem ok_Drum_begins (T : Tx tc tP base K mg ad) : FnOk P w K mg base CX0 2 T.a_Drum_begins T.d_Drum_begins ["self", "turn"] (spF K (csOf tP ad) F_Drum_begins 2) :=
  fn_ok0 T.F_Drum_begins sc_Drum_begins rfl fun cdv A outer s H E hr => have nd := sc_Drum_begins.nd
  (sb_cons (ss_if (SW.st (sw_or (st_not (st_truth (se_call (ok_is_whole T) (hr.mono (by first | decide | omega)) (by rfl) T.m_is_whole T.F_is_whole.kp T.b_is_whole passA (sa_cons (se_var 1) sa_nil) (len_cons len_nil)))) (sw_or1 (st_cmp op_lt o2_lt (se_var 1) se_int (nomark _)))))
  (sb_one ss_bad)
  sb_nil)
  (sb_one (ss_ret (se_op (OpR.or op_add (OpR.or op_cat op_catT)) o2_add (se_op (OpR.or op_mulX op_rep) o2_mul (se_var 1) (se_fld T.fl_Drum_least (se_var 0))) (se_op (OpR.or op_mulX op_rep) o2_mul (se_fld T.fl_Drum_more (se_var 0)) (se_op op_fdivW o2_div (se_op (OpR.or op_mulX op_rep) o2_mul (se_var 1) (se_op op_sub o2_sub (se_var 1) se_int)) se_int))))))
theorem sc_Drum_turn_of : FnScope ["self", "cell", "twice", "turn"] ["self", "cell"] (defScope s_Drum_turn_of) := ⟨rfl, rfl, rfl, by decide +kernel, rfl, by decide +kernel, by decide +kernel⟩
theorem ok_Drum_turn_of (T : Tx tc tP base K mg ad) : FnOk P w K mg base CX0 3 T.a_Drum_turn_of T.d_Drum_turn_of ["self", "cell"] (spF K (csOf tP ad) F_Drum_turn_of 2) :=
  fn_ok0 T.F_Drum_turn_of sc_Drum_turn_of rfl fun cdv A outer s H E hr => have nd := sc_Drum_turn_of.nd
  (sb_cons (ss_if (st_cmp (op_eqD hr.units) o2_eq (se_fld T.fl_Drum_more (se_var 0)) se_int (nomark _))
  (sb_one (ss_ret (se_op op_fdivW o2_div (se_var 1) (se_fld T.fl_Drum_least (se_var 0)))))
  sb_nil)
  (sb_cons (ss_set (i := 2) nd rfl (Or.inl rfl) (se_op op_sub o2_sub (se_op (OpR.or op_mulX op_rep) o2_mul se_int (se_fld T.fl_Drum_least (se_var 0))) (se_fld T.fl_Drum_more (se_var 0))))
  (sb_cons (ss_set (i := 3) nd rfl (Or.inl rfl) (se_callB (call_max2 rfl) oN_max (by rfl) T.n_max (by decide +kernel) (sa_cons se_int (sa_cons (se_op op_fdivW o2_div (se_op op_sub o2_sub (se_call (ok_root_of T) (hr.mono (by first | decide | omega)) (by rfl) T.m_root_of T.F_root_of.kp T.b_root_of passA (sa_cons (se_op (OpR.or op_add (OpR.or op_cat op_catT)) o2_add (se_op (OpR.or op_mulX op_rep) o2_mul (se_var 2) (se_var 2)) (se_op (OpR.or op_mulX op_rep) o2_mul (se_op (OpR.or op_mulX op_rep) o2_mul se_int (se_fld T.fl_Drum_more (se_var 0))) (se_var 1))) sa_nil) (len_cons len_nil)) (se_var 2)) (se_op (OpR.or op_mulX op_rep) o2_mul se_int (se_fld T.fl_Drum_more (se_var 0)))) sa_nil))))
  (sb_cons (ss_while PassesOwn.never (st_cmp op_gt o2_gt (se_meth T.me_Drum_begins (ok_Drum_begins T) (hr.mono (by first | decide | omega)) T.b_Drum_begins passA (se_var 0) (sa_cons (se_var 3) sa_nil) (len1 (len_cons len_nil))) (se_var 1) (nomark _))
  (sb_one (ss_set (i := 3) nd rfl (Or.inl rfl) (se_op op_sub o2_sub (se_var 3) se_int))))
  (sb_cons (ss_while PassesOwn.never (st_cmp op_le o2_le (se_meth T.me_Drum_begins (ok_Drum_begins T) (hr.mono (by first | decide | omega)) T.b_Drum_begins passA (se_var 0) (sa_cons (se_op (OpR.or op_add (OpR.or op_cat op_catT)) o2_add (se_var 3) se_int) sa_nil) (len1 (len_cons len_nil))) (se_var 1) (nomark _))
  (sb_one (ss_set (i := 3) nd rfl (Or.inl rfl) (se_op (OpR.or op_add (OpR.or op_cat op_catT)) o2_add (se_var 3) se_int))))
  (sb_one (ss_ret (se_var 3))))))))
theorem sc_Drum_size : FnScope ["self", "turn"] ["self", "turn"] (defScope s_Drum_size) := ⟨rfl, rfl, rfl, by decide +kernel, rfl, by decide +kernel, by decide +kernel⟩
theorem ok_Drum_size (T : Tx tc tP base K mg ad) : FnOk P w K mg base CX0 2 T.a_Drum_size T.d_Drum_size ["self", "turn"] (spF K (csOf tP ad) F_Drum_size 2) :=
  fn_ok0 T.F_Drum_size sc_Drum_size rfl fun cdv A outer s H E hr => have nd := sc_Drum_size.nd
  (sb_cons (ss_if (SW.st (sw_or (st_not (st_truth (se_call (ok_is_whole T) (hr.mono (by first | decide | omega)) (by rfl) T.m_is_whole T.F_is_whole.kp T.b_is_whole passA (sa_cons (se_var 1) sa_nil) (len_cons len_nil)))) (sw_or1 (st_cmp op_lt o2_lt (se_var 1) se_int (nomark _)))))
  (sb_one ss_bad)
  sb_nil)
  (sb_one (ss_ret (se_op (OpR.or op_add (OpR.or op_cat op_catT)) o2_add (se_fld T.fl_Drum_least (se_var 0)) (se_op (OpR.or op_mulX op_rep) o2_mul (se_var 1) (se_fld T.fl_Drum_more (se_var 0)))))))
theorem sc_Drum_where : FnScope ["self", "cell", "turn"] ["self", "cell"] (defScope s_Drum_where) := ⟨rfl, rfl, rfl, by decide +kernel, rfl, by decide +kernel, by decide +kernel⟩
theorem ok_Drum_where (T : Tx tc tP base K mg ad) : FnOk P w K mg base CX0 4 T.a_Drum_where T.d_Drum_where ["self", "cell"] (spF K (csOf tP ad) F_Drum_where 2) :=
  fn_ok0 T.F_Drum_where sc_Drum_where rfl fun cdv A outer s H E hr => have nd := sc_Drum_where.nd
  (sb_cons (ss_if (SW.st (sw_or (st_not (st_truth (se_call (ok_is_whole T) (hr.mono (by first | decide | omega)) (by rfl) T.m_is_whole T.F_is_whole.kp T.b_is_whole passA (sa_cons (se_var 1) sa_nil) (len_cons len_nil)))) (sw_or1 (st_cmp op_lt o2_lt (se_var 1) se_int (nomark _)))))
  (sb_one ss_bad)
  sb_nil)
  (sb_cons (ss_set (i := 2) nd rfl (Or.inl rfl) (se_meth T.me_Drum_turn_of (ok_Drum_turn_of T) (hr.mono (by first | decide | omega)) T.b_Drum_turn_of passA (se_var 0) (sa_cons (se_var 1) sa_nil) (len1 (len_cons len_nil))))
  (sb_one (ss_ret (se_tup (sa_cons (se_var 2) (sa_cons (se_op op_sub o2_sub (se_var 1) (se_meth T.me_Drum_begins (ok_Drum_begins T) (hr.mono (by first | decide | omega)) T.b_Drum_begins passA (se_var 0) (sa_cons (se_var 2) sa_nil) (len1 (len_cons len_nil)))) (sa_cons (se_meth T.me_Drum_size (ok_Drum_size T) (hr.mono (by first | decide | omega)) T.b_Drum_size passA (se_var 0) (sa_cons (se_var 2) sa_nil) (len1 (len_cons len_nil))) sa_nil))))))))
theorem sc_Drum_filled : FnScope ["self", "length", "turn", "place", "size"] ["self", "length"] (defScope s_Drum_filled) := ⟨rfl, rfl, rfl, by decide +kernel, rfl, by decide +kernel, by decide +kernel⟩
theorem ok_Drum_filled (T : Tx tc tP base K mg ad) : FnOk P w K mg base CX0 5 T.a_Drum_filled T.d_Drum_filled ["self", "length"] (spF K (csOf tP ad) F_Drum_filled 2) :=
  fn_ok0 T.F_Drum_filled sc_Drum_filled rfl fun cdv A outer s H E hr => have nd := sc_Drum_filled.nd
  (sb_cons (ss_if (SW.st (sw_or (st_not (st_truth (se_call (ok_is_whole T) (hr.mono (by first | decide | omega)) (by rfl) T.m_is_whole T.F_is_whole.kp T.b_is_whole passA (sa_cons (se_var 1) sa_nil) (len_cons len_nil)))) (sw_or1 (st_cmp op_lt o2_lt (se_var 1) se_int (nomark _)))))
  (sb_one ss_bad)
  sb_nil)
  (sb_cons (ss_asg (se_meth T.me_Drum_where (ok_Drum_where T) (hr.mono (by first | decide | omega)) T.b_Drum_where passA (se_var 0) (sa_cons (se_op op_sub o2_sub (se_var 1) se_int) sa_nil) (len1 (len_cons len_nil))) (sg_tup rfl (sgs_cons (sg_name (i := 2) nd rfl (Or.inl rfl)) (sgs_cons (sg_name (i := 3) nd rfl (Or.inl rfl)) (sgs_cons (sg_name (i := 4) nd rfl (Or.inl rfl)) sgs_nil)))))
  (sb_one (ss_ret (se_tup (sa_cons (se_var 2) (sa_cons (se_op (OpR.or op_add (OpR.or op_cat op_catT)) o2_add (se_var 3) se_int) sa_nil)))))))
theorem sc_common : FnScope ["one", "other"] ["one", "other"] (defScope s_common) := ⟨rfl, rfl, rfl, by decide +kernel, rfl, by decide +kernel, by decide +kernel⟩
theorem ok_common (T : Tx tc tP base K mg ad) : FnOk P w K mg base CX0 1 T.a_common T.d_common ["one", "other"] (spF K (csOf tP ad) F_common 2) :=
  fn_ok0 T.F_common sc_common rfl fun cdv A outer s H E hr => have nd := sc_common.nd
  (sb_cons (ss_while PassesOwn.never (st_cmp op_gt o2_gt (se_var 1) se_int (nomark _))
  (sb_one (ss_par (i := 0) (j := 1) rfl nd rfl rfl (by decide) rfl rfl (se_var 1) (se_op op_mod o2_mod (se_var 0) (se_var 1)) (by rfl))))
  (sb_one (ss_ret (se_var 0))))
theorem sc_Drum_first : FnScope ["self"] ["self"] (defScope s_Drum_first) := ⟨rfl, rfl, rfl, by decide +kernel, rfl, by decide +kernel, by decide +kernel⟩
theorem ok_Drum_first (T : Tx tc tP base K mg ad) : FnOk P w K mg base CX0 1 T.a_Drum_first T.d_Drum_first ["self"] (spF K (csOf tP ad) F_Drum_first 1) :=
  fn_ok0 T.F_Drum_first sc_Drum_first rfl fun cdv A outer s H E hr => have nd := sc_Drum_first.nd
  (sb_one (ss_ret (se_fld T.fl_Drum_least (se_var 0))))
theorem sc_Drum_step : FnScope ["self"] ["self"] (defScope s_Drum_step) := ⟨rfl, rfl, rfl, by decide +kernel, rfl, by decide +kernel, by decide +kernel⟩
theorem ok_Drum_step (T : Tx tc tP base K mg ad) : FnOk P w K mg base CX0 1 T.a_Drum_step T.d_Drum_step ["self"] (spF K (csOf tP ad) F_Drum_step 1) :=
  fn_ok0 T.F_Drum_step sc_Drum_step rfl fun cdv A outer s H E hr => have nd := sc_Drum_step.nd
  (sb_one (ss_ret (se_fld T.fl_Drum_more (se_var 0))))
theorem sc_parts_of : FnScope ["drum"] ["drum"] (defScope s_parts_of) := ⟨rfl, rfl, rfl, by decide +kernel, rfl, by decide +kernel, by decide +kernel⟩
theorem ok_parts_of (T : Tx tc tP base K mg ad) : FnOk P w K mg base CX0 2 T.a_parts_of T.d_parts_of ["drum"] (spF K (csOf tP ad) F_parts_of 1) :=
  fn_ok0 T.F_parts_of sc_parts_of rfl fun cdv A outer s H E hr => have nd := sc_parts_of.nd
  (sb_one (ss_ret (se_call (ok_common T) (hr.mono (by first | decide | omega)) (by rfl) T.m_common T.F_common.kp T.b_common passA (sa_cons (se_meth0 T.me_Drum_first (ok_Drum_first T) (hr.mono (by first | decide | omega)) T.b_Drum_first passA (se_var 0)) (sa_cons (se_meth0 T.me_Drum_step (ok_Drum_step T) (hr.mono (by first | decide | omega)) T.b_Drum_step passA (se_var 0)) sa_nil)) (len_cons (len_cons len_nil)))))
theorem sc_Gap_init : FnScope ["self", "drum", "length", "face", "cell", "side", "turn", "place", "size", "last", "places"] ["self", "drum", "length", "face"] (defScope s_Gap_init) := ⟨rfl, rfl, rfl, by decide +kernel, rfl, by decide +kernel, by decide +kernel⟩
theorem ok_Gap_init (T : Tx tc tP base K mg ad) : FnOk P w K mg base CX0 6 T.a_Gap_init T.d_Gap_init ["self", "drum", "length", "face"] (spF K (csOf tP ad) F_Gap_init 4) :=
  fn_ok0 T.F_Gap_init sc_Gap_init rfl fun cdv A outer s H E hr => have nd := sc_Gap_init.nd
  (sb_cons (ss_asg (se_var 3) (sg_tup rfl (sgs_cons (sg_name (i := 4) nd rfl (Or.inl rfl)) (sgs_cons (sg_name (i := 5) nd rfl (Or.inl rfl)) sgs_nil))))
  (sb_cons (ss_asg (se_meth T.me_Drum_where (ok_Drum_where T) (hr.mono (by first | decide | omega)) T.b_Drum_where passA (se_var 1) (sa_cons (se_var 4) sa_nil) (len1 (len_cons len_nil))) (sg_tup rfl (sgs_cons (sg_name (i := 6) nd rfl (Or.inl rfl)) (sgs_cons (sg_name (i := 7) nd rfl (Or.inl rfl)) (sgs_cons (sg_name (i := 8) nd rfl (Or.inl rfl)) sgs_nil)))))
  (sb_cons (ss_fld T.fl_Gap_turn (se_var 0) (se_if (st_cmp (op_eqD hr.units) o2_eq (se_var 5) se_str (nomark _)) (se_var 6) (se_op op_sub o2_sub (se_var 6) se_int)))
  (sb_cons (ss_asg (se_meth T.me_Drum_filled (ok_Drum_filled T) (hr.mono (by first | decide | omega)) T.b_Drum_filled passA (se_var 1) (sa_cons (se_var 2) sa_nil) (len1 (len_cons len_nil))) (sg_tup rfl (sgs_cons (sg_name (i := 9) nd rfl (Or.inl rfl)) (sgs_cons (sg_name (i := 10) nd rfl (Or.inl rfl)) sgs_nil))))
  (sb_cons (ss_fld T.fl_Gap_low_size (se_var 0) (se_meth T.me_Drum_size (ok_Drum_size T) (hr.mono (by first | decide | omega)) T.b_Drum_size passA (se_var 1) (sa_cons (se_callB (call_max2 rfl) oN_max (by rfl) T.n_max (by decide +kernel) (sa_cons se_int (sa_cons (se_fld T.fl_Gap_turn (se_var 0)) sa_nil))) sa_nil) (len1 (len_cons len_nil))))
  (sb_cons (ss_fld T.fl_Gap_up_size (se_var 0) (se_meth T.me_Drum_size (ok_Drum_size T) (hr.mono (by first | decide | omega)) T.b_Drum_size passA (se_var 1) (sa_cons (se_op (OpR.or op_add (OpR.or op_cat op_catT)) o2_add (se_fld T.fl_Gap_turn (se_var 0)) se_int) sa_nil) (len1 (len_cons len_nil))))
  (sb_cons (ss_fld T.fl_Gap_low_begin (se_var 0) (se_meth T.me_Drum_begins (ok_Drum_begins T) (hr.mono (by first | decide | omega)) T.b_Drum_begins passA (se_var 1) (sa_cons (se_callB (call_max2 rfl) oN_max (by rfl) T.n_max (by decide +kernel) (sa_cons se_int (sa_cons (se_fld T.fl_Gap_turn (se_var 0)) sa_nil))) sa_nil) (len1 (len_cons len_nil))))
  (sb_cons (ss_fld T.fl_Gap_up_begin (se_var 0) (se_meth T.me_Drum_begins (ok_Drum_begins T) (hr.mono (by first | decide | omega)) T.b_Drum_begins passA (se_var 1) (sa_cons (se_op (OpR.or op_add (OpR.or op_cat op_catT)) o2_add (se_fld T.fl_Gap_turn (se_var 0)) se_int) sa_nil) (len1 (len_cons len_nil))))
  (sb_cons (ss_fld T.fl_Gap_there (se_var 0) (se_if (st_cmp op_lt o2_lt (se_op (OpR.or op_add (OpR.or op_cat op_catT)) o2_add (se_fld T.fl_Gap_turn (se_var 0)) se_int) (se_var 9) (nomark _)) (se_fld T.fl_Gap_up_size (se_var 0)) (se_op (OpR.or op_mulX op_rep) o2_mul (se_var 10) (se_callTy call_int1 oN_int (by rfl) T.n_int (by decide +kernel) (sa_cons (se_cmp (op_eqD hr.units) o2_eq (se_op (OpR.or op_add (OpR.or op_cat op_catT)) o2_add (se_fld T.fl_Gap_turn (se_var 0)) se_int) (se_var 9) (nomark _)) sa_nil)))))
  (sb_cons (ss_fld T.fl_Gap_part (se_var 0) (se_op op_fdivW o2_div (se_op (OpR.or op_mulX op_rep) o2_mul (se_var 7) (se_call (ok_parts_of T) (hr.mono (by first | decide | omega)) (by rfl) T.m_parts_of T.F_parts_of.kp T.b_parts_of passA (sa_cons (se_var 1) sa_nil) (len_cons len_nil))) (se_var 8)))
  (sb_one (ss_fld T.fl_Gap_many (se_var 0) (se_call (ok_parts_of T) (hr.mono (by first | decide | omega)) (by rfl) T.m_parts_of T.F_parts_of.kp T.b_parts_of passA (sa_cons (se_var 1) sa_nil) (len_cons len_nil))))))))))))))
theorem sc_Gap_uppers : FnScope ["self", "size", "low"] ["self"] (defScope s_Gap_uppers) := ⟨rfl, rfl, rfl, by decide +kernel, rfl, by decide +kernel, by decide +kernel⟩
theorem ok_Gap_uppers (T : Tx tc tP base K mg ad) : FnOk P w K mg base CX0 1 T.a_Gap_uppers T.d_Gap_uppers ["self"] (spF K (csOf tP ad) F_Gap_uppers 1) :=
  fn_ok0 T.F_Gap_uppers sc_Gap_uppers rfl fun cdv A outer s H E hr => have nd := sc_Gap_uppers.nd
  (sb_cons (ss_set (i := 1) nd rfl (Or.inl rfl) (se_op op_fdivW o2_div (se_fld T.fl_Gap_up_size (se_var 0)) (se_fld T.fl_Gap_many (se_var 0))))
  (sb_cons (ss_set (i := 2) nd rfl (Or.inl rfl) (se_op (OpR.or op_mulX op_rep) o2_mul (se_fld T.fl_Gap_part (se_var 0)) (se_var 1)))
  (sb_cons (ss_if (st_cmp op_le o2_le (se_fld T.fl_Gap_there (se_var 0)) (se_var 2) (nomark _))
  (sb_one (ss_ret se_non))
  sb_nil)
  (sb_one (ss_ret (se_tup (sa_cons (se_var 2) (sa_cons (se_op op_sub o2_sub (se_callB (call_min2 rfl) oN_min (by rfl) T.n_min (by decide +kernel) (sa_cons (se_op (OpR.or op_add (OpR.or op_cat op_catT)) o2_add (se_var 2) (se_var 1)) (sa_cons (se_fld T.fl_Gap_there (se_var 0)) sa_nil))) se_int) sa_nil))))))))
theorem sc_Gap_under : FnScope ["self", "place"] ["self", "place"] (defScope s_Gap_under) := ⟨rfl, rfl, rfl, by decide +kernel, rfl, by decide +kernel, by decide +kernel⟩
theorem ok_Gap_under (T : Tx tc tP base K mg ad) : FnOk P w K mg base CX0 1 T.a_Gap_under T.d_Gap_under ["self", "place"] (spF K (csOf tP ad) F_Gap_under 2) :=
  fn_ok0 T.F_Gap_under sc_Gap_under rfl fun cdv A outer s H E hr => have nd := sc_Gap_under.nd
  (sb_one (ss_ret (se_tup (sa_cons (se_op op_fdivW o2_div (se_op (OpR.or op_mulX op_rep) o2_mul (se_var 1) (se_fld T.fl_Gap_low_size (se_var 0))) (se_fld T.fl_Gap_up_size (se_var 0))) (sa_cons (se_op op_fdivW o2_div (se_op op_sub o2_sub (se_op (OpR.or op_mulX op_rep) o2_mul (se_op (OpR.or op_add (OpR.or op_cat op_catT)) o2_add (se_var 1) se_int) (se_fld T.fl_Gap_low_size (se_var 0))) se_int) (se_fld T.fl_Gap_up_size (se_var 0))) sa_nil)))))
theorem sc_Gap_lowers : FnScope ["self", "size"] ["self"] (defScope s_Gap_lowers) := ⟨rfl, rfl, rfl, by decide +kernel, rfl, by decide +kernel, by decide +kernel⟩
theorem ok_Gap_lowers (T : Tx tc tP base K mg ad) : FnOk P w K mg base CX0 2 T.a_Gap_lowers T.d_Gap_lowers ["self"] (spF K (csOf tP ad) F_Gap_lowers 1) :=
  fn_ok0 T.F_Gap_lowers sc_Gap_lowers rfl fun cdv A outer s H E hr => have nd := sc_Gap_lowers.nd
  (sb_cons (ss_set (i := 1) nd rfl (Or.inl rfl) (se_op op_fdivW o2_div (se_fld T.fl_Gap_low_size (se_var 0)) (se_fld T.fl_Gap_many (se_var 0))))
  (sb_one (ss_ret (se_tup (sa_cons (se_op (OpR.or op_mulX op_rep) o2_mul (se_fld T.fl_Gap_part (se_var 0)) (se_var 1)) (sa_cons (se_ix ix_seq o2_ix (se_meth T.me_Gap_under (ok_Gap_under T) (hr.mono (by first | decide | omega)) T.b_Gap_under passA (se_var 0) (sa_cons (se_ix ix_seq o2_ix (se_meth0 T.me_Gap_uppers (ok_Gap_uppers T) (hr.mono (by first | decide | omega)) T.b_Gap_uppers passA (se_var 0)) se_int (fun _ _ => rfl)) sa_nil) (len1 (len_cons len_nil))) se_int (fun _ _ => rfl)) sa_nil))))))
theorem sc_piece_places : FnScope ["gap", "face", "cell", "side", "uppers", "place"] ["gap", "face"] (defScope s_piece_places) := ⟨rfl, rfl, rfl, by decide +kernel, rfl, by decide +kernel, by decide +kernel⟩
theorem ok_piece_places (T : Tx tc tP base K mg ad) : FnOk P w K mg base CX0 3 T.a_piece_places T.d_piece_places ["gap", "face"] (spF K (csOf tP ad) F_piece_places 2) :=
  fn_ok0 T.F_piece_places sc_piece_places rfl fun cdv A outer s H E hr => have nd := sc_piece_places.nd
  (sb_cons (ss_asg (se_var 1) (sg_tup rfl (sgs_cons (sg_name (i := 2) nd rfl (Or.inl rfl)) (sgs_cons (sg_name (i := 3) nd rfl (Or.inl rfl)) sgs_nil))))
  (sb_cons (ss_set (i := 4) nd rfl (Or.inl rfl) (se_meth0 T.me_Gap_uppers (ok_Gap_uppers T) (hr.mono (by first | decide | omega)) T.b_Gap_uppers passA (se_var 0)))
  (sb_cons (ss_if (st_cmp (op_eqD hr.units) o2_eq (se_var 3) se_str (nomark _))
  (sb_cons (ss_set (i := 5) nd rfl (Or.inl rfl) (se_op op_sub o2_sub (se_var 2) (se_fld T.fl_Gap_up_begin (se_var 0))))
  (sb_one (ss_ret (se_if (st_cmp op_lt o2_lt (se_fld T.fl_Gap_turn (se_var 0)) se_int (nomark _)) (se_tup (sa_cons se_non (sa_cons (se_tup (sa_cons (se_var 5) (sa_cons (se_var 5) sa_nil))) sa_nil))) (se_tup (sa_cons (se_meth0 T.me_Gap_lowers (ok_Gap_lowers T) (hr.mono (by first | decide | omega)) T.b_Gap_lowers passA (se_var 0)) (sa_cons (se_var 4) sa_nil)))))))
  sb_nil)
  (sb_cons (ss_set (i := 5) nd rfl (Or.inl rfl) (se_op op_sub o2_sub (se_var 2) (se_fld T.fl_Gap_low_begin (se_var 0))))
  (sb_cons (ss_if (SW.st (sw_or (st_cmp op_isN o2_is (se_var 4) se_non (nomark _)) (sw_or1 (st_cmp op_gt o2_gt (se_var 5) (se_ix ix_seq o2_ix (se_meth0 T.me_Gap_lowers (ok_Gap_lowers T) (hr.mono (by first | decide | omega)) T.b_Gap_lowers passA (se_var 0)) se_int (fun _ _ => rfl)) (nomark _)))))
  (sb_one (ss_ret (se_tup (sa_cons (se_tup (sa_cons (se_var 5) (sa_cons (se_var 5) sa_nil))) (sa_cons se_non sa_nil)))))
  sb_nil)
  (sb_one (ss_ret (se_tup (sa_cons (se_meth0 T.me_Gap_lowers (ok_Gap_lowers T) (hr.mono (by first | decide | omega)) T.b_Gap_lowers passA (se_var 0)) (sa_cons (se_var 4) sa_nil))))))))))
theorem sc_at_cells : FnScope ["begin", "stretch"] ["begin", "stretch"] (defScope s_at_cells) := ⟨rfl, rfl, rfl, by decide +kernel, rfl, by decide +kernel, by decide +kernel⟩
theorem ok_at_cells (T : Tx tc tP base K mg ad) : FnOk P w K mg base CX0 1 T.a_at_cells T.d_at_cells ["begin", "stretch"] (spF K (csOf tP ad) F_at_cells 2) :=
  fn_ok0 T.F_at_cells sc_at_cells rfl fun cdv A outer s H E hr => have nd := sc_at_cells.nd
  (sb_one (ss_ret (se_if (st_cmp op_isN o2_is (se_var 1) se_non (nomark _)) se_non (se_tup (sa_cons (se_op (OpR.or op_add (OpR.or op_cat op_catT)) o2_add (se_var 0) (se_ix ix_seq o2_ix (se_var 1) se_int (fun _ _ => rfl))) (sa_cons (se_op (OpR.or op_add (OpR.or op_cat op_catT)) o2_add (se_var 0) (se_ix ix_seq o2_ix (se_var 1) se_int (fun _ _ => rfl))) sa_nil))))))
theorem sc_piece : FnScope ["drum", "length", "face", "gap", "lowers", "uppers"] ["drum", "length", "face"] (defScope s_piece) := ⟨rfl, rfl, rfl, by decide +kernel, rfl, by decide +kernel, by decide +kernel⟩
theorem ok_piece (T : Tx tc tP base K mg ad) : FnOk P w K mg base CX0 8 T.a_piece T.d_piece ["drum", "length", "face"] (spF K (csOf tP ad) F_piece 3) :=
  fn_ok0 T.F_piece sc_piece rfl fun cdv A outer s H E hr => have nd := sc_piece.nd
  (sb_cons (ss_expr (se_call (ok_check_roll T) (hr.mono (by first | decide | omega)) (by rfl) T.m_check_roll T.F_check_roll.kp T.b_check_roll passA (sa_cons (se_var 1) (sa_cons (se_lst (sa_cons (se_var 2) sa_nil)) sa_nil)) (len_cons (len_cons len_nil))))
  (sb_cons (ss_set (i := 3) nd rfl (Or.inl rfl) (se_make T.mk_Gap (ok_Gap_init T) (hr.mono (by first | decide | omega)) (by rfl) T.mg_Gap T.b_Gap_init passA (sa_cons (se_var 0) (sa_cons (se_var 1) (sa_cons (se_var 2) sa_nil))) (len1 (len_cons (len_cons (len_cons len_nil))))))
  (sb_cons (ss_asg (se_call (ok_piece_places T) (hr.mono (by first | decide | omega)) (by rfl) T.m_piece_places T.F_piece_places.kp T.b_piece_places passA (sa_cons (se_var 3) (sa_cons (se_var 2) sa_nil)) (len_cons (len_cons len_nil))) (sg_tup rfl (sgs_cons (sg_name (i := 4) nd rfl (Or.inl rfl)) (sgs_cons (sg_name (i := 5) nd rfl (Or.inl rfl)) sgs_nil))))
  (sb_one (ss_ret (se_tup (sa_cons (se_call (ok_at_cells T) (hr.mono (by first | decide | omega)) (by rfl) T.m_at_cells T.F_at_cells.kp T.b_at_cells passA (sa_cons (se_fld T.fl_Gap_low_begin (se_var 3)) (sa_cons (se_var 4) sa_nil)) (len_cons (len_cons len_nil))) (sa_cons (se_call (ok_at_cells T) (hr.mono (by first | decide | omega)) (by rfl) T.m_at_cells T.F_at_cells.kp T.b_at_cells passA (sa_cons (se_fld T.fl_Gap_up_begin (se_var 3)) (sa_cons (se_var 5) sa_nil)) (len_cons (len_cons len_nil))) sa_nil))))))))
theorem sc_law_drawn : FnScope ["_law_source", "_law_lowers", "_law_uppers", "_law_some", "_law_low", "_law_high", "_law_wide", "_law_j"] ["_law_source", "_law_lowers", "_law_uppers"] (defScope s_law_drawn) := ⟨rfl, rfl, rfl, by decide +kernel, rfl, by decide +kernel, by decide +kernel⟩
theorem ok_law_drawn (T : Tx tc tP base K mg ad) : FnOk P w K mg base CX0 3 T.a_law_drawn T.d_law_drawn ["_law_source", "_law_lowers", "_law_uppers"] (spF K (csOf tP ad) F_law_drawn 3) :=
  fn_ok0 T.F_law_drawn sc_law_drawn rfl fun cdv A outer s H E hr => have nd := sc_law_drawn.nd
  (sb_cons (ss_set (i := 3) nd rfl (Or.inl rfl) (se_ix ix_seq o2_ix (se_lst (sa_cons (se_tup (sa_cons (se_var 1) (sa_cons se_str sa_nil))) (sa_cons (se_tup (sa_cons (se_var 2) (sa_cons se_str sa_nil))) sa_nil))) (se_call (ok_law_next T) (hr.mono (by first | decide | omega)) (by rfl) T.m_law_next T.F_law_next.kp T.b_law_next passA (sa_cons (se_var 0) (sa_cons se_int sa_nil)) (len_cons (len_cons len_nil))) (fun _ _ => rfl)))
  (sb_cons (ss_asg (se_ix ix_seq o2_ix (se_var 3) se_int (fun _ _ => rfl)) (sg_tup rfl (sgs_cons (sg_name (i := 4) nd rfl (Or.inl rfl)) (sgs_cons (sg_name (i := 5) nd rfl (Or.inl rfl)) sgs_nil))))
  (sb_cons (ss_set (i := 6) nd rfl (Or.inl rfl) (se_op (OpR.or op_add (OpR.or op_cat op_catT)) o2_add (se_op op_sub o2_sub (se_var 5) (se_var 4)) se_int))
  (sb_cons (ss_set (i := 7) nd rfl (Or.inl rfl) (se_call (ok_law_one T) (hr.mono (by first | decide | omega)) (by rfl) T.m_law_one T.F_law_one.kp T.b_law_one passA (sa_cons (se_var 0) (sa_cons (se_lst (sa_cons (se_var 4) (sa_cons (se_var 5) (sa_cons (se_op (OpR.or op_add (OpR.or op_cat op_catT)) o2_add (se_var 4) (se_call (ok_law_great T) (hr.mono (by first | decide | omega)) (by rfl) T.m_law_great T.F_law_great.kp T.b_law_great passA (sa_cons (se_var 0) (sa_cons (se_var 6) sa_nil)) (len_cons (len_cons len_nil)))) (sa_cons (se_op (OpR.or op_add (OpR.or op_cat op_catT)) o2_add (se_var 4) (se_call (ok_law_great T) (hr.mono (by first | decide | omega)) (by rfl) T.m_law_great T.F_law_great.kp T.b_law_great passA (sa_cons (se_var 0) (sa_cons (se_var 6) sa_nil)) (len_cons (len_cons len_nil)))) sa_nil))))) sa_nil)) (len_cons (len_cons len_nil))))
  (sb_one (ss_ret (se_tup (sa_cons (se_var 7) (sa_cons (se_ix ix_seq o2_ix (se_var 3) se_int (fun _ _ => rfl)) sa_nil)))))))))
theorem sc_between : FnScope ["one", "other"] ["one", "other"] (defScope s_between) := ⟨rfl, rfl, rfl, by decide +kernel, rfl, by decide +kernel, by decide +kernel⟩
theorem ok_between (T : Tx tc tP base K mg ad) : FnOk P w K mg base CX0 1 T.a_between T.d_between ["one", "other"] (spF K (csOf tP ad) F_between 2) :=
  fn_ok0 T.F_between sc_between rfl fun cdv A outer s H E hr => have nd := sc_between.nd
  (sb_one (ss_ret (se_callB (call_max3 rfl) oN_max3 (by rfl) T.n_max (by decide +kernel) (sa_cons se_int (sa_cons (se_op op_sub o2_sub (se_ix ix_seq o2_ix (se_var 0) se_int (fun _ _ => rfl)) (se_ix ix_seq o2_ix (se_var 1) se_int (fun _ _ => rfl))) (sa_cons (se_op op_sub o2_sub (se_ix ix_seq o2_ix (se_var 1) se_int (fun _ _ => rfl)) (se_ix ix_seq o2_ix (se_var 0) se_int (fun _ _ => rfl))) sa_nil))))))
theorem sc_lows_of : FnScope ["gap", "face", "cell", "side"] ["gap", "face"] (defScope s_lows_of) := ⟨rfl, rfl, rfl, by decide +kernel, rfl, by decide +kernel, by decide +kernel⟩
theorem ok_lows_of (T : Tx tc tP base K mg ad) : FnOk P w K mg base CX0 2 T.a_lows_of T.d_lows_of ["gap", "face"] (spF K (csOf tP ad) F_lows_of 2) :=
  fn_ok0 T.F_lows_of sc_lows_of rfl fun cdv A outer s H E hr => have nd := sc_lows_of.nd
  (sb_cons (ss_asg (se_var 1) (sg_tup rfl (sgs_cons (sg_name (i := 2) nd rfl (Or.inl rfl)) (sgs_cons (sg_name (i := 3) nd rfl (Or.inl rfl)) sgs_nil))))
  (sb_cons (ss_if (st_cmp (op_eqD hr.units) o2_eq (se_var 3) se_str (nomark _))
  (sb_one (ss_ret (se_tup (sa_cons (se_op op_sub o2_sub (se_var 2) (se_fld T.fl_Gap_low_begin (se_var 0))) (sa_cons (se_op op_sub o2_sub (se_var 2) (se_fld T.fl_Gap_low_begin (se_var 0))) sa_nil)))))
  sb_nil)
  (sb_one (ss_ret (se_meth T.me_Gap_under (ok_Gap_under T) (hr.mono (by first | decide | omega)) T.b_Gap_under passA (se_var 0) (sa_cons (se_op op_sub o2_sub (se_var 2) (se_fld T.fl_Gap_up_begin (se_var 0))) sa_nil) (len1 (len_cons len_nil)))))))
theorem sc_apart : FnScope ["drum", "length", "one", "other", "gap", "there"] ["drum", "length", "one", "other"] (defScope s_apart) := ⟨rfl, rfl, rfl, by decide +kernel, rfl, by decide +kernel, by decide +kernel⟩
theorem ok_apart (T : Tx tc tP base K mg ad) : FnOk P w K mg base CX0 8 T.a_apart T.d_apart ["drum", "length", "one", "other"] (spF K (csOf tP ad) F_apart 4) :=
  fn_ok0 T.F_apart sc_apart rfl fun cdv A outer s H E hr => have nd := sc_apart.nd
  (sb_cons (ss_expr (se_call (ok_check_roll T) (hr.mono (by first | decide | omega)) (by rfl) T.m_check_roll T.F_check_roll.kp T.b_check_roll passA (sa_cons (se_var 1) (sa_cons (se_lst (sa_cons (se_var 2) (sa_cons (se_var 3) sa_nil))) sa_nil)) (len_cons (len_cons len_nil))))
  (sb_cons (ss_if (st_cmp (op_eqD hr.units) o2_eq (se_var 2) (se_var 3) (nomark _))
  (sb_one (ss_ret se_int))
  sb_nil)
  (sb_cons (ss_set (i := 4) nd rfl (Or.inl rfl) (se_make T.mk_Gap (ok_Gap_init T) (hr.mono (by first | decide | omega)) (by rfl) T.mg_Gap T.b_Gap_init passA (sa_cons (se_var 0) (sa_cons (se_var 1) (sa_cons (se_var 2) sa_nil))) (len1 (len_cons (len_cons (len_cons len_nil))))))
  (sb_cons (ss_set (i := 5) nd rfl (Or.inl rfl) (se_make T.mk_Gap (ok_Gap_init T) (hr.mono (by first | decide | omega)) (by rfl) T.mg_Gap T.b_Gap_init passA (sa_cons (se_var 0) (sa_cons (se_var 1) (sa_cons (se_var 3) sa_nil))) (len1 (len_cons (len_cons (len_cons len_nil))))))
  (sb_cons (ss_if (SW.st (sw_or (st_cmp (op_neD hr.units) o2_ne (se_fld T.fl_Gap_turn (se_var 4)) (se_fld T.fl_Gap_turn (se_var 5)) (nomark _)) (sw_or (st_cmp (op_neD hr.units) o2_ne (se_fld T.fl_Gap_part (se_var 4)) (se_fld T.fl_Gap_part (se_var 5)) (nomark _)) (sw_or1 (st_cmp (op_neD hr.units) o2_ne (se_call (ok_piece_places T) (hr.mono (by first | decide | omega)) (by rfl) T.m_piece_places T.F_piece_places.kp T.b_piece_places passA (sa_cons (se_var 4) (sa_cons (se_var 2) sa_nil)) (len_cons (len_cons len_nil))) (se_call (ok_piece_places T) (hr.mono (by first | decide | omega)) (by rfl) T.m_piece_places T.F_piece_places.kp T.b_piece_places passA (sa_cons (se_var 4) (sa_cons (se_var 3) sa_nil)) (len_cons (len_cons len_nil))) (nomark _))))))
  (sb_one (ss_ret se_non))
  sb_nil)
  (sb_one (ss_ret (se_op (OpR.or op_add (OpR.or op_cat op_catT)) o2_add (se_op (OpR.or op_add (OpR.or op_cat op_catT)) o2_add (se_op (OpR.or op_mulX op_rep) o2_mul se_int (se_call (ok_between T) (hr.mono (by first | decide | omega)) (by rfl) T.m_between T.F_between.kp T.b_between passA (sa_cons (se_call (ok_lows_of T) (hr.mono (by first | decide | omega)) (by rfl) T.m_lows_of T.F_lows_of.kp T.b_lows_of passA (sa_cons (se_var 4) (sa_cons (se_var 2) sa_nil)) (len_cons (len_cons len_nil))) (sa_cons (se_call (ok_lows_of T) (hr.mono (by first | decide | omega)) (by rfl) T.m_lows_of T.F_lows_of.kp T.b_lows_of passA (sa_cons (se_var 4) (sa_cons (se_var 3) sa_nil)) (len_cons (len_cons len_nil))) sa_nil)) (len_cons (len_cons len_nil)))) (se_callTy call_int1 oN_int (by rfl) T.n_int (by decide +kernel) (sa_cons (se_cmp (op_eqD hr.units) o2_eq (se_ix ix_seq o2_ix (se_var 2) se_int (fun _ _ => rfl)) se_str (nomark _)) sa_nil))) (se_callTy call_int1 oN_int (by rfl) T.n_int (by decide +kernel) (sa_cons (se_cmp (op_eqD hr.units) o2_eq (se_ix ix_seq o2_ix (se_var 3) se_int (fun _ _ => rfl)) se_str (nomark _)) sa_nil))))))))))
theorem sc_joining : FnScope ["gap", "place"] ["gap", "place"] (defScope s_joining) := ⟨rfl, rfl, rfl, by decide +kernel, rfl, by decide +kernel, by decide +kernel⟩
theorem ok_joining (T : Tx tc tP base K mg ad) : FnOk P w K mg base CX0 1 T.a_joining T.d_joining ["gap", "place"] (spF K (csOf tP ad) F_joining 2) :=
  fn_ok0 T.F_joining sc_joining rfl fun cdv A outer s H E hr => have nd := sc_joining.nd
  (sb_one (ss_ret (se_op op_fdivW o2_div (se_op (OpR.or op_mulX op_rep) o2_mul (se_op (OpR.or op_add (OpR.or op_cat op_catT)) o2_add (se_var 1) se_int) (se_fld T.fl_Gap_up_size (se_var 0))) (se_fld T.fl_Gap_low_size (se_var 0)))))
theorem sc_along : FnScope ["gap", "begin", "end", "many", "steps", "odd"] ["gap", "begin", "end", "many"] (defScope s_along) := ⟨rfl, rfl, rfl, by decide +kernel, rfl, by decide +kernel, by decide +kernel⟩
theorem ok_along (T : Tx tc tP base K mg ad) : FnOk P w K mg base CX0 2 T.a_along T.d_along ["gap", "begin", "end", "many"] (spF K (csOf tP ad) F_along 4) :=
  fn_ok0 T.F_along sc_along rfl fun cdv A outer s H E hr => have nd := sc_along.nd
  (sb_cons (ss_asg (se_callB call_divmodW oN_divmod (by rfl) T.n_divmod (by decide +kernel) (sa_cons (se_var 3) (sa_cons se_int sa_nil))) (sg_tup rfl (sgs_cons (sg_name (i := 4) nd rfl (Or.inl rfl)) (sgs_cons (sg_name (i := 5) nd rfl (Or.inl rfl)) sgs_nil))))
  (sb_cons (ss_if (st_cmp op_gt o2_gt (se_var 2) (se_var 1) (nomark _))
  (sb_cons (ss_if (st_cmp (op_eqD hr.units) o2_eq (se_var 5) se_int (nomark _))
  (sb_one (ss_ret (se_tup (sa_cons (se_op (OpR.or op_add (OpR.or op_cat op_catT)) o2_add (se_fld T.fl_Gap_up_begin (se_var 0)) (se_call (ok_joining T) (hr.mono (by first | decide | omega)) (by rfl) T.m_joining T.F_joining.kp T.b_joining passA (sa_cons (se_var 0) (sa_cons (se_op (OpR.or op_add (OpR.or op_cat op_catT)) o2_add (se_var 1) (se_var 4)) sa_nil)) (len_cons (len_cons len_nil)))) (sa_cons se_str sa_nil)))))
  sb_nil)
  (sb_one (ss_ret (se_tup (sa_cons (se_op (OpR.or op_add (OpR.or op_cat op_catT)) o2_add (se_op (OpR.or op_add (OpR.or op_cat op_catT)) o2_add (se_fld T.fl_Gap_low_begin (se_var 0)) (se_var 1)) (se_var 4)) (sa_cons se_str sa_nil))))))
  sb_nil)
  (sb_cons (ss_if (st_cmp (op_eqD hr.units) o2_eq (se_var 5) se_int (nomark _))
  (sb_one (ss_ret (se_tup (sa_cons (se_op (OpR.or op_add (OpR.or op_cat op_catT)) o2_add (se_fld T.fl_Gap_up_begin (se_var 0)) (se_call (ok_joining T) (hr.mono (by first | decide | omega)) (by rfl) T.m_joining T.F_joining.kp T.b_joining passA (sa_cons (se_var 0) (sa_cons (se_op op_sub o2_sub (se_op op_sub o2_sub (se_var 1) (se_var 4)) se_int) sa_nil)) (len_cons (len_cons len_nil)))) (sa_cons se_str sa_nil)))))
  sb_nil)
  (sb_one (ss_ret (se_tup (sa_cons (se_op op_sub o2_sub (se_op (OpR.or op_add (OpR.or op_cat op_catT)) o2_add (se_fld T.fl_Gap_low_begin (se_var 0)) (se_var 1)) (se_var 4)) (sa_cons se_str sa_nil))))))))
theorem sc_on_way : FnScope ["drum", "length", "one", "other", "many", "far", "gap", "here", "there", "begin", "end"] ["drum", "length", "one", "other", "many"] (defScope s_on_way) := ⟨rfl, rfl, rfl, by decide +kernel, rfl, by decide +kernel, by decide +kernel⟩
theorem ok_on_way (T : Tx tc tP base K mg ad) : FnOk P w K mg base CX0 9 T.a_on_way T.d_on_way ["drum", "length", "one", "other", "many"] (spF K (csOf tP ad) F_on_way 5) :=
  fn_ok0 T.F_on_way sc_on_way rfl fun cdv A outer s H E hr => have nd := sc_on_way.nd
  (sb_cons (ss_set (i := 5) nd rfl (Or.inl rfl) (se_call (ok_apart T) (hr.mono (by first | decide | omega)) (by rfl) T.m_apart T.F_apart.kp T.b_apart passA (sa_cons (se_var 0) (sa_cons (se_var 1) (sa_cons (se_var 2) (sa_cons (se_var 3) sa_nil)))) (len_cons (len_cons (len_cons (len_cons len_nil))))))
  (sb_cons (ss_if (st_cmp op_isN o2_is (se_var 5) se_non (nomark _))
  (sb_one (ss_ret se_non))
  sb_nil)
  (sb_cons (ss_if (SW.st (sw_or (st_not (st_truth (se_call (ok_is_whole T) (hr.mono (by first | decide | omega)) (by rfl) T.m_is_whole T.F_is_whole.kp T.b_is_whole passA (sa_cons (se_var 4) sa_nil) (len_cons len_nil)))) (sw_or1 (st_not (st_chain op_le o2_le op_le o2_le se_int (se_var 4) (se_var 5))))))
  (sb_one ss_bad)
  sb_nil)
  (sb_cons (ss_if (SW.st (sw_or (st_cmp (op_eqD hr.units) o2_eq (se_var 4) se_int (nomark _)) (sw_or1 (st_cmp (op_eqD hr.units) o2_eq (se_var 4) (se_var 5) (nomark _)))))
  (sb_one (ss_ret (se_if (st_cmp (op_eqD hr.units) o2_eq (se_var 4) se_int (nomark _)) (se_var 2) (se_var 3))))
  sb_nil)
  (sb_cons (ss_set (i := 6) nd rfl (Or.inl rfl) (se_make T.mk_Gap (ok_Gap_init T) (hr.mono (by first | decide | omega)) (by rfl) T.mg_Gap T.b_Gap_init passA (sa_cons (se_var 0) (sa_cons (se_var 1) (sa_cons (se_var 2) sa_nil))) (len1 (len_cons (len_cons (len_cons len_nil))))))
  (sb_cons (ss_set (i := 7) nd rfl (Or.inl rfl) (se_call (ok_lows_of T) (hr.mono (by first | decide | omega)) (by rfl) T.m_lows_of T.F_lows_of.kp T.b_lows_of passA (sa_cons (se_var 6) (sa_cons (se_var 2) sa_nil)) (len_cons (len_cons len_nil))))
  (sb_cons (ss_set (i := 8) nd rfl (Or.inl rfl) (se_call (ok_lows_of T) (hr.mono (by first | decide | omega)) (by rfl) T.m_lows_of T.F_lows_of.kp T.b_lows_of passA (sa_cons (se_var 6) (sa_cons (se_var 3) sa_nil)) (len_cons (len_cons len_nil))))
  (sb_cons (ss_par (i := 9) (j := 10) rfl nd rfl rfl (by decide) rfl rfl (se_ix ix_seq o2_ix (se_var 7) se_int (fun _ _ => rfl)) (se_ix ix_seq o2_ix (se_var 8) se_int (fun _ _ => rfl)) (by rfl))
  (sb_cons (ss_if (st_cmp op_lt o2_lt (se_ix ix_seq o2_ix (se_var 8) se_int (fun _ _ => rfl)) (se_ix ix_seq o2_ix (se_var 7) se_int (fun _ _ => rfl)) (nomark _))
  (sb_one (ss_par (i := 9) (j := 10) rfl nd rfl rfl (by decide) rfl rfl (se_ix ix_seq o2_ix (se_var 7) se_int (fun _ _ => rfl)) (se_ix ix_seq o2_ix (se_var 8) se_int (fun _ _ => rfl)) (by rfl)))
  (sb_one (ss_if (st_cmp op_le o2_le (se_ix ix_seq o2_ix (se_var 8) se_int (fun _ _ => rfl)) (se_ix ix_seq o2_ix (se_var 7) se_int (fun _ _ => rfl)) (nomark _))
  (sb_one (ss_set2 (i := 9) (j := 10) nd rfl rfl (Or.inl rfl) (Or.inl rfl) (se_callB (call_max2 rfl) oN_max (by rfl) T.n_max (by decide +kernel) (sa_cons (se_ix ix_seq o2_ix (se_var 7) se_int (fun _ _ => rfl)) (sa_cons (se_ix ix_seq o2_ix (se_var 8) se_int (fun _ _ => rfl)) sa_nil)))))
  sb_nil)))
  (sb_one (ss_ret (se_call (ok_along T) (hr.mono (by first | decide | omega)) (by rfl) T.m_along T.F_along.kp T.b_along passA (sa_cons (se_var 6) (sa_cons (se_var 9) (sa_cons (se_var 10) (sa_cons (se_op op_sub o2_sub (se_var 4) (se_callTy call_int1 oN_int (by rfl) T.n_int (by decide +kernel) (sa_cons (se_cmp (op_eqD hr.units) o2_eq (se_ix ix_seq o2_ix (se_var 2) se_int (fun _ _ => rfl)) se_str (nomark _)) sa_nil))) sa_nil)))) (len_cons (len_cons (len_cons (len_cons len_nil))))))))))))))))
theorem sc_beneath : FnScope ["drum", "cell", "turn", "place", "size", "less", "begin"] ["drum", "cell"] (defScope s_beneath) := ⟨rfl, rfl, rfl, by decide +kernel, rfl, by decide +kernel, by decide +kernel⟩
theorem ok_beneath (T : Tx tc tP base K mg ad) : FnOk P w K mg base CX0 5 T.a_beneath T.d_beneath ["drum", "cell"] (spF K (csOf tP ad) F_beneath 2) :=
  fn_ok0 T.F_beneath sc_beneath rfl fun cdv A outer s H E hr => have nd := sc_beneath.nd
  (sb_cons (ss_asg (se_meth T.me_Drum_where (ok_Drum_where T) (hr.mono (by first | decide | omega)) T.b_Drum_where passA (se_var 0) (sa_cons (se_var 1) sa_nil) (len1 (len_cons len_nil))) (sg_tup rfl (sgs_cons (sg_name (i := 2) nd rfl (Or.inl rfl)) (sgs_cons (sg_name (i := 3) nd rfl (Or.inl rfl)) (sgs_cons (sg_name (i := 4) nd rfl (Or.inl rfl)) sgs_nil)))))
  (sb_cons (ss_if (st_cmp (op_eqD hr.units) o2_eq (se_var 2) se_int (nomark _))
  (sb_one (ss_ret se_non))
  sb_nil)
  (sb_cons (ss_set (i := 5) nd rfl (Or.inl rfl) (se_op op_sub o2_sub (se_var 4) (se_meth0 T.me_Drum_step (ok_Drum_step T) (hr.mono (by first | decide | omega)) T.b_Drum_step passA (se_var 0))))
  (sb_cons (ss_set (i := 6) nd rfl (Or.inl rfl) (se_meth T.me_Drum_begins (ok_Drum_begins T) (hr.mono (by first | decide | omega)) T.b_Drum_begins passA (se_var 0) (sa_cons (se_op op_sub o2_sub (se_var 2) se_int) sa_nil) (len1 (len_cons len_nil))))
  (sb_one (ss_ret (se_tup (sa_cons (se_op (OpR.or op_add (OpR.or op_cat op_catT)) o2_add (se_var 6) (se_op op_fdivW o2_div (se_op (OpR.or op_mulX op_rep) o2_mul (se_var 3) (se_var 5)) (se_var 4))) (sa_cons (se_op (OpR.or op_add (OpR.or op_cat op_catT)) o2_add (se_var 6) (se_op op_fdivW o2_div (se_op op_sub o2_sub (se_op (OpR.or op_mulX op_rep) o2_mul (se_op (OpR.or op_add (OpR.or op_cat op_catT)) o2_add (se_var 3) se_int) (se_var 5)) se_int) (se_var 4))) sa_nil)))))))))
theorem sc_law_touch : FnScope ["_law_drum_here", "_law_here", "_law_there", "_law_upper", "_law_lower", "_law_found"] ["_law_drum_here", "_law_here", "_law_there"] (defScope s_law_touch) := ⟨rfl, rfl, rfl, by decide +kernel, rfl, by decide +kernel, by decide +kernel⟩
theorem ok_law_touch (T : Tx tc tP base K mg ad) : FnOk P w K mg base CX0 6 T.a_law_touch T.d_law_touch ["_law_drum_here", "_law_here", "_law_there"] (spF K (csOf tP ad) F_law_touch 3) :=
  fn_okL T.F_law_touch sc_law_touch rfl T.cdL fun A outer s H E hr => have nd := sc_law_touch.nd
  (sb_cons (ss_asgL rfl (se_sortL (k := 0) (hr.mono (by first | decide | omega)) rfl (by rfl) T.n_sorted T.TB rfl ⟨rfl, rfl, rfl, rfl, by decide, fun _ _ _ _ _ => rfl⟩ rfl (se_lst (sa_cons (se_var 1) (sa_cons (se_var 2) sa_nil)))) (sgs_cons (sg_name (i := 3) nd rfl (Or.inl rfl)) (sgs_cons (sg_name (i := 4) nd rfl (Or.inl rfl)) sgs_nil)))
  (sb_cons (ss_if (st_cmp (op_neD hr.units) o2_ne (se_tup (sa_cons (se_ix ix_seq o2_ix (se_var 3) se_int (fun _ _ => rfl)) (sa_cons (se_ix ix_seq o2_ix (se_var 4) se_int (fun _ _ => rfl)) sa_nil))) (se_tup (sa_cons se_str (sa_cons se_str sa_nil))) (nomark _))
  (sb_one (ss_ret se_bl))
  sb_nil)
  (sb_cons (ss_set (i := 5) nd rfl (Or.inl rfl) (se_call (ok_beneath T) (hr.mono (by first | decide | omega)) (by rfl) T.m_beneath T.F_beneath.kp T.b_beneath passA (sa_cons (se_var 0) (sa_cons (se_ix ix_seq o2_ix (se_var 3) se_int (fun _ _ => rfl)) sa_nil)) (len_cons (len_cons len_nil))))
  (sb_one (ss_ret (se_and (se_cmp op_notN o2_isNot (se_var 5) se_non (nomark _)) (se_one (se_chain op_le o2_le op_le o2_le (se_ix ix_seq o2_ix (se_var 5) se_int (fun _ _ => rfl)) (se_ix ix_seq o2_ix (se_var 4) se_int (fun _ _ => rfl)) (se_ix ix_seq o2_ix (se_var 5) se_int (fun _ _ => rfl))))))))))
theorem rc_NoBeats (T : Tx tc tP base K mg ad) : RefC K ((csOf tP ad).ad 15) := T.rc_NoBeats
theorem sc_NoBeats_init : FnScope ["self", "beats"] ["self", "beats"] (defScope s_NoBeats_init) := ⟨rfl, rfl, rfl, by decide +kernel, rfl, by decide +kernel, by decide +kernel⟩
theorem ok_NoBeats_init (T : Tx tc tP base K mg ad) : FnOk P w K mg base (L2.CX P w) 1 T.a_NoBeats_init T.d_NoBeats_init ["self", "beats"] (spR K ((csOf tP ad).ad 15) ["beats"]) :=
  init_fn1 T.F_NoBeats_init sc_NoBeats_init rfl rfl (rc_NoBeats T) T.tk_NoBeats_beats fun cdv A outer s H E hr => (pss_cons (ps_expr (pe_baseI (by rfl) T.mg_WetError T.rd_7 T.sp_7 T.fi_7 (pa_cons (pv 0) (pa_cons pe_str pa_nil)))) (pss_one (ps_put (pv 0) (pv 1))))
theorem ok_on_way_x (T : Tx tc tP base K mg ad) : FnOk P w K mg base (L2.CX P w) 9 T.a_on_way T.d_on_way ["drum", "length", "one", "other", "many"] (spF K (csOf tP ad) F_on_way_x 5) :=
  fn_okX T.F_on_way sc_on_way rfl fun cdv A outer s H E hr => have nd := sc_on_way.nd
  (sb_cons (ss_set (i := 5) nd rfl (Or.inl rfl) (se_call (ok_apart T) (hr.mono (by first | decide | omega)) (by rfl) T.m_apart T.F_apart.kp T.b_apart passA (sa_cons (se_var 0) (sa_cons (se_var 1) (sa_cons (se_var 2) (sa_cons (se_var 3) sa_nil)))) (len_cons (len_cons (len_cons (len_cons len_nil))))))
  (sb_cons (ss_if (st_cmp op_isN o2_is (se_var 5) se_non (nomark _))
  (sb_one (ss_ret se_non))
  sb_nil)
  (sb_cons (ss_if (SW.st (sw_or (st_not (st_truth (se_call (ok_is_whole T) (hr.mono (by first | decide | omega)) (by rfl) T.m_is_whole T.F_is_whole.kp T.b_is_whole passA (sa_cons (se_var 4) sa_nil) (len_cons len_nil)))) (sw_or1 (st_not (st_chain op_le o2_le op_le o2_le se_int (se_var 4) (se_var 5))))))
  (sb_one (ss_raise (rc_NoBeats T) T.ow_NoBeats T.it_NoBeats (ok_NoBeats_init T) rfl (hr.mono (by first | decide | omega)) T.b_NoBeats_init passF (by rfl) T.mg_NoBeats rfl tk_fn (sa_cons (se_var 4) sa_nil) (len_cons len_nil) (by decide)))
  sb_nil)
  (sb_cons (ss_if (SW.st (sw_or (st_cmp (op_eqD hr.units) o2_eq (se_var 4) se_int (nomark _)) (sw_or1 (st_cmp (op_eqD hr.units) o2_eq (se_var 4) (se_var 5) (nomark _)))))
  (sb_one (ss_ret (se_if (st_cmp (op_eqD hr.units) o2_eq (se_var 4) se_int (nomark _)) (se_var 2) (se_var 3))))
  sb_nil)
  (sb_cons (ss_set (i := 6) nd rfl (Or.inl rfl) (se_make T.mk_Gap (ok_Gap_init T) (hr.mono (by first | decide | omega)) (by rfl) T.mg_Gap T.b_Gap_init passA (sa_cons (se_var 0) (sa_cons (se_var 1) (sa_cons (se_var 2) sa_nil))) (len1 (len_cons (len_cons (len_cons len_nil))))))
  (sb_cons (ss_set (i := 7) nd rfl (Or.inl rfl) (se_call (ok_lows_of T) (hr.mono (by first | decide | omega)) (by rfl) T.m_lows_of T.F_lows_of.kp T.b_lows_of passA (sa_cons (se_var 6) (sa_cons (se_var 2) sa_nil)) (len_cons (len_cons len_nil))))
  (sb_cons (ss_set (i := 8) nd rfl (Or.inl rfl) (se_call (ok_lows_of T) (hr.mono (by first | decide | omega)) (by rfl) T.m_lows_of T.F_lows_of.kp T.b_lows_of passA (sa_cons (se_var 6) (sa_cons (se_var 3) sa_nil)) (len_cons (len_cons len_nil))))
  (sb_cons (ss_par (i := 9) (j := 10) rfl nd rfl rfl (by decide) rfl rfl (se_ix ix_seq o2_ix (se_var 7) se_int (fun _ _ => rfl)) (se_ix ix_seq o2_ix (se_var 8) se_int (fun _ _ => rfl)) (by rfl))
  (sb_cons (ss_if (st_cmp op_lt o2_lt (se_ix ix_seq o2_ix (se_var 8) se_int (fun _ _ => rfl)) (se_ix ix_seq o2_ix (se_var 7) se_int (fun _ _ => rfl)) (nomark _))
  (sb_one (ss_par (i := 9) (j := 10) rfl nd rfl rfl (by decide) rfl rfl (se_ix ix_seq o2_ix (se_var 7) se_int (fun _ _ => rfl)) (se_ix ix_seq o2_ix (se_var 8) se_int (fun _ _ => rfl)) (by rfl)))
  (sb_one (ss_if (st_cmp op_le o2_le (se_ix ix_seq o2_ix (se_var 8) se_int (fun _ _ => rfl)) (se_ix ix_seq o2_ix (se_var 7) se_int (fun _ _ => rfl)) (nomark _))
  (sb_one (ss_set2 (i := 9) (j := 10) nd rfl rfl (Or.inl rfl) (Or.inl rfl) (se_callB (call_max2 rfl) oN_max (by rfl) T.n_max (by decide +kernel) (sa_cons (se_ix ix_seq o2_ix (se_var 7) se_int (fun _ _ => rfl)) (sa_cons (se_ix ix_seq o2_ix (se_var 8) se_int (fun _ _ => rfl)) sa_nil)))))
  sb_nil)))
  (sb_one (ss_ret (se_call (ok_along T) (hr.mono (by first | decide | omega)) (by rfl) T.m_along T.F_along.kp T.b_along passA (sa_cons (se_var 6) (sa_cons (se_var 9) (sa_cons (se_var 10) (sa_cons (se_op op_sub o2_sub (se_var 4) (se_callTy call_int1 oN_int (by rfl) T.n_int (by decide +kernel) (sa_cons (se_cmp (op_eqD hr.units) o2_eq (se_ix ix_seq o2_ix (se_var 2) se_int (fun _ _ => rfl)) se_str (nomark _)) sa_nil))) sa_nil)))) (len_cons (len_cons (len_cons (len_cons len_nil))))))))))))))))
theorem hO (T : Tx tc tP base K mg ad) : HeldOk K (csOf tP ad) [15] [15, 10, 14, 7] := ⟨(List.forall_mem_cons.mpr ⟨rfl, (fun _ q => nomatch q)⟩),
  (List.forall_mem_cons.mpr ⟨⟨T.xga_15, T.xgg_15, T.xbe_15, T.xhd_15⟩, (fun _ q => nomatch q)⟩),
  (List.forall_mem_cons.mpr ⟨⟨T.xga_15, T.xgg_15, T.xbe_15, T.xhd_15, T.xha_15, T.xhn, T.xht, T.xmo_15⟩, (fun _ q => nomatch q)⟩),
  (List.forall_mem_cons.mpr ⟨(List.forall_mem_cons.mpr ⟨T.xnf_15_beats, (fun _ q => nomatch q)⟩), (fun _ q => nomatch q)⟩),
  (List.forall_mem_cons.mpr ⟨(List.forall_mem_cons.mpr ⟨T.xsl_15, (List.forall_mem_cons.mpr ⟨T.xsu_15_10, (List.forall_mem_cons.mpr ⟨T.xsu_15_14, (List.forall_mem_cons.mpr ⟨T.xsu_15_7, (fun _ q => nomatch q)⟩)⟩)⟩)⟩), (fun _ q => nomatch q)⟩),
  (List.forall_mem_cons.mpr ⟨T.xsl_15, (List.forall_mem_cons.mpr ⟨T.xsl_10, (List.forall_mem_cons.mpr ⟨T.xsl_14, (List.forall_mem_cons.mpr ⟨T.xsl_7, (fun _ q => nomatch q)⟩)⟩)⟩)⟩),
  (List.forall_mem_cons.mpr ⟨T.xic_15, (List.forall_mem_cons.mpr ⟨T.xic_10, (List.forall_mem_cons.mpr ⟨T.xic_14, (List.forall_mem_cons.mpr ⟨T.xic_7, (fun _ q => nomatch q)⟩)⟩)⟩)⟩),
  (List.forall_mem_cons.mpr ⟨T.xis_15, (List.forall_mem_cons.mpr ⟨T.xis_10, (List.forall_mem_cons.mpr ⟨T.xis_14, (List.forall_mem_cons.mpr ⟨T.xis_7, (fun _ q => nomatch q)⟩)⟩)⟩)⟩),
  (List.forall_mem_cons.mpr ⟨T.xbe_15, (List.forall_mem_cons.mpr ⟨T.xbe_10, (List.forall_mem_cons.mpr ⟨T.xbe_14, (List.forall_mem_cons.mpr ⟨T.xbe_7, (fun _ q => nomatch q)⟩)⟩)⟩)⟩),
  (List.forall_mem_cons.mpr ⟨T.xar_15, (fun _ q => nomatch q)⟩)⟩
theorem sc_law_said : FnScope ["_law_drum_here", "_law_length", "_law_one_here", "_law_other", "_law_many", "_law_found", "e"] ["_law_drum_here", "_law_length", "_law_one_here", "_law_other", "_law_many"] (defScope s_law_said) := ⟨rfl, rfl, rfl, by decide +kernel, rfl, by decide +kernel, by decide +kernel⟩
theorem ok_law_said (T : Tx tc tP base K mg ad) : FnOk P w K mg base CX0 10 T.a_law_said T.d_law_said ["_law_drum_here", "_law_length", "_law_one_here", "_law_other", "_law_many"] (spF K (csOf tP ad) F_law_said 5) :=
  fn_ok0 T.F_law_said sc_law_said rfl fun cdv A outer s H E hr => have nd := sc_law_said.nd
  (sb_cons (ss_set (i := 5) nd rfl (Or.inl rfl) se_str)
  (sb_cons (ss_try (ok_on_way_x T) (hr.mono (by first | decide | omega)) (by rfl) T.m_on_way T.F_on_way.kp T.b_on_way nd (hO T) (fun pn xe => (sa_cons (se_var 0) (sa_cons (se_var 1) (sa_cons (se_var 2) (sa_cons (se_var 3) (sa_cons (se_var 4) sa_nil)))))) (len_cons (len_cons (len_cons (len_cons (len_cons len_nil))))) (fun pn xe => sb_nil) (ClsS.named (by decide) (by rfl) T.mg_NoBeats (by decide) rfl rfl (fun c hc z dd oe pn fs zc hf => (sb_one (ss_set (i := 5) nd rfl (Or.inl rfl) (se_lst (sa_cons (se_xf (hO T) hc zc hf (se_var 6)) (sa_cons (se_isXt (hO T) hc zc hf (by rfl) T.n_isinstance (ClsT.cons (by decide) (by rfl) T.mg_NoCell (by decide) (by rfl) (ClsT.cons (by decide) (by rfl) T.mg_NoFace (by decide) (by rfl) ClsT.nil)) (by decide) (se_var 6)) sa_nil)))))) (ClsS.plain (by decide) (by rfl) T.mg_WetError (by decide) (fun c hc z dd oe pn fs zc hf => (sb_one (ss_set (i := 5) nd rfl (Or.inl rfl) se_str))) ClsS.nil)))
  (sb_one (ss_ret (se_var 5)))))
theorem sc_law : FnScope ["_law_script", "_law_cell", "_law_source", "_law_first", "_law_step", "_law_drum_here", "_law_roll_here", "_law_length", "_law_face_here", "_law_lowers", "_law_uppers", "_law_one_here", "_law_other", "_law_far", "_law_some", "_law_many", "_law_here", "_law_later", "_law_odd"] ["_law_script"] (defScope s_law) := ⟨rfl, rfl, rfl, by decide +kernel, rfl, by decide +kernel, by decide +kernel⟩
theorem ok_law (T : Tx tc tP base K mg ad) : FnOk P w K mg base CX0 11 T.a_law T.d_law ["_law_script"] (spF K (csOf tP ad) F_law 1) :=
  fn_ok0 T.F_law sc_law rfl fun cdv A outer s H E hr => have nd := sc_law.nd
  (sb_cons (ss_for PassesOwn.never rfl (si_seq (se_op (OpR.or op_add (OpR.or op_cat op_catT)) o2_add (se_lst (sa_cons (se_call (ok_law_cell_at T) (hr.mono (by first | decide | omega)) (by rfl) T.m_law_cell_at T.F_law_cell_at.kp T.b_law_cell_at passA (sa_cons (se_var 0) (sa_cons se_int sa_nil)) (len_cons (len_cons len_nil))) sa_nil)) (se_slice (se_var 0) (so_some se_int) (so_some se_int)))) (sg_name (i := 1) nd rfl (Or.inl rfl))
  (sb_cons (ss_set (i := 2) nd rfl (Or.inl rfl) (se_call (ok_law_source_of T) (hr.mono (by first | decide | omega)) (by rfl) T.m_law_source_of T.F_law_source_of.kp T.b_law_source_of passA (sa_cons (se_var 1) sa_nil) (len_cons len_nil)))
  (sb_cons (ss_asg (se_call (ok_law_drum T) (hr.mono (by first | decide | omega)) (by rfl) T.m_law_drum T.F_law_drum.kp T.b_law_drum passA (sa_cons (se_var 2) sa_nil) (len_cons len_nil)) (sg_tup rfl (sgs_cons (sg_name (i := 3) nd rfl (Or.inl rfl)) (sgs_cons (sg_name (i := 4) nd rfl (Or.inl rfl)) sgs_nil))))
  (sb_cons (ss_set (i := 5) nd rfl (Or.inl rfl) (se_make T.mk_Drum (ok_Drum_init T) (hr.mono (by first | decide | omega)) (by rfl) T.mg_Drum T.b_Drum_init passA (sa_cons (se_var 3) (sa_cons (se_var 4) sa_nil)) (len1 (len_cons (len_cons len_nil)))))
  (sb_cons (ss_set (i := 6) nd rfl (Or.inl rfl) (se_call (ok_law_roll T) (hr.mono (by first | decide | omega)) (by rfl) T.m_law_roll T.F_law_roll.kp T.b_law_roll passA (sa_cons (se_var 2) (sa_cons (se_var 3) (sa_cons (se_var 4) sa_nil))) (len_cons (len_cons (len_cons len_nil)))))
  (sb_cons (ss_set (i := 7) nd rfl (Or.inl rfl) (se_ix ix_seq o2_ix (se_var 6) se_int (fun _ _ => rfl)))
  (sb_cons (ss_set (i := 8) nd rfl (Or.inl rfl) (se_call (ok_law_face T) (hr.mono (by first | decide | omega)) (by rfl) T.m_law_face T.F_law_face.kp T.b_law_face passA (sa_cons (se_var 2) (sa_cons (se_var 3) (sa_cons (se_var 4) (sa_cons (se_var 6) sa_nil)))) (len_cons (len_cons (len_cons (len_cons len_nil))))))
  (sb_cons (ss_asg (se_call (ok_piece T) (hr.mono (by first | decide | omega)) (by rfl) T.m_piece T.F_piece.kp T.b_piece passA (sa_cons (se_var 5) (sa_cons (se_var 7) (sa_cons (se_var 8) sa_nil))) (len_cons (len_cons (len_cons len_nil)))) (sg_tup rfl (sgs_cons (sg_name (i := 9) nd rfl (Or.inl rfl)) (sgs_cons (sg_name (i := 10) nd rfl (Or.inl rfl)) sgs_nil))))
  (sb_cons (ss_set (i := 11) nd rfl (Or.inl rfl) (se_var 8))
  (sb_cons (ss_set (i := 12) nd rfl (Or.inl rfl) (se_var 8))
  (sb_cons (ss_if (SW.st (sw_and (st_cmp op_notN o2_isNot (se_var 9) se_non (nomark _)) (sw_and1 (st_cmp op_notN o2_isNot (se_var 10) se_non (nomark _)))))
  (sb_cons (ss_set (i := 11) nd rfl (Or.inl rfl) (se_call (ok_law_drawn T) (hr.mono (by first | decide | omega)) (by rfl) T.m_law_drawn T.F_law_drawn.kp T.b_law_drawn passA (sa_cons (se_var 2) (sa_cons (se_var 9) (sa_cons (se_var 10) sa_nil))) (len_cons (len_cons (len_cons len_nil)))))
  (sb_one (ss_set (i := 12) nd rfl (Or.inl rfl) (se_call (ok_law_drawn T) (hr.mono (by first | decide | omega)) (by rfl) T.m_law_drawn T.F_law_drawn.kp T.b_law_drawn passA (sa_cons (se_var 2) (sa_cons (se_var 9) (sa_cons (se_var 10) sa_nil))) (len_cons (len_cons (len_cons len_nil)))))))
  sb_nil)
  (sb_cons (ss_set (i := 13) nd rfl (Or.inl rfl) (se_call (ok_apart T) (hr.mono (by first | decide | omega)) (by rfl) T.m_apart T.F_apart.kp T.b_apart passA (sa_cons (se_var 5) (sa_cons (se_var 7) (sa_cons (se_var 11) (sa_cons (se_var 12) sa_nil)))) (len_cons (len_cons (len_cons (len_cons len_nil))))))
  (sb_cons (ss_set (i := 14) nd rfl (Or.inl rfl) (se_lst (sa_cons se_int (sa_cons (se_callB (call_min2 rfl) oN_min (by rfl) T.n_min (by decide +kernel) (sa_cons se_int (sa_cons (se_var 13) sa_nil))) (sa_cons (se_op op_fdivW o2_div (se_var 13) se_int) (sa_cons (se_callB (call_max2 rfl) oN_max (by rfl) T.n_max (by decide +kernel) (sa_cons se_int (sa_cons (se_op op_sub o2_sub (se_var 13) se_int) sa_nil))) (sa_cons (se_var 13) sa_nil)))))))
  (sb_cons (ss_set (i := 14) nd rfl (Or.inl rfl) (se_op (OpR.or op_add (OpR.or op_cat op_catT)) o2_add (se_var 14) (se_lst (sa_cons (se_call (ok_law_great T) (hr.mono (by first | decide | omega)) (by rfl) T.m_law_great T.F_law_great.kp T.b_law_great passA (sa_cons (se_var 2) (sa_cons (se_op (OpR.or op_add (OpR.or op_cat op_catT)) o2_add (se_var 13) se_int) sa_nil)) (len_cons (len_cons len_nil))) (sa_cons (se_call (ok_law_great T) (hr.mono (by first | decide | omega)) (by rfl) T.m_law_great T.F_law_great.kp T.b_law_great passA (sa_cons (se_var 2) (sa_cons (se_op (OpR.or op_add (OpR.or op_cat op_catT)) o2_add (se_var 13) se_int) sa_nil)) (len_cons (len_cons len_nil))) sa_nil)))))
  (sb_cons (ss_for PassesOwn.never rfl (si_seq (se_var 14)) (sg_name (i := 15) nd rfl (Or.inl rfl))
  (sb_cons (ss_set (i := 16) nd rfl (Or.inl rfl) (se_call (ok_on_way T) (hr.mono (by first | decide | omega)) (by rfl) T.m_on_way T.F_on_way.kp T.b_on_way passA (sa_cons (se_var 5) (sa_cons (se_var 7) (sa_cons (se_var 11) (sa_cons (se_var 12) (sa_cons (se_var 15) sa_nil))))) (len_cons (len_cons (len_cons (len_cons (len_cons len_nil)))))))
  (sb_cons (ss_if (SW.st (sw_or (st_cmp (op_neD hr.units) o2_ne (se_call (ok_apart T) (hr.mono (by first | decide | omega)) (by rfl) T.m_apart T.F_apart.kp T.b_apart passA (sa_cons (se_var 5) (sa_cons (se_var 7) (sa_cons (se_var 11) (sa_cons (se_var 16) sa_nil)))) (len_cons (len_cons (len_cons (len_cons len_nil))))) (se_var 15) (nomark _)) (sw_or1 (st_cmp (op_neD hr.units) o2_ne (se_call (ok_apart T) (hr.mono (by first | decide | omega)) (by rfl) T.m_apart T.F_apart.kp T.b_apart passA (sa_cons (se_var 5) (sa_cons (se_var 7) (sa_cons (se_var 16) (sa_cons (se_var 12) sa_nil)))) (len_cons (len_cons (len_cons (len_cons len_nil))))) (se_op op_sub o2_sub (se_var 13) (se_var 15)) (nomark _)))))
  (sb_one (ss_ret se_bl))
  sb_nil)
  (sb_cons (ss_if (st_cmp (op_neD hr.units) o2_ne (se_call (ok_on_way T) (hr.mono (by first | decide | omega)) (by rfl) T.m_on_way T.F_on_way.kp T.b_on_way passA (sa_cons (se_var 5) (sa_cons (se_var 7) (sa_cons (se_var 12) (sa_cons (se_var 11) (sa_cons (se_op op_sub o2_sub (se_var 13) (se_var 15)) sa_nil))))) (len_cons (len_cons (len_cons (len_cons (len_cons len_nil)))))) (se_var 16) (nomark _))
  (sb_one (ss_ret se_bl))
  sb_nil)
  (sb_one (ss_if (st_cmp op_lt o2_lt (se_var 15) (se_var 13) (nomark _))
  (sb_cons (ss_set (i := 17) nd rfl (Or.inl rfl) (se_call (ok_on_way T) (hr.mono (by first | decide | omega)) (by rfl) T.m_on_way T.F_on_way.kp T.b_on_way passA (sa_cons (se_var 5) (sa_cons (se_var 7) (sa_cons (se_var 11) (sa_cons (se_var 12) (sa_cons (se_op (OpR.or op_add (OpR.or op_cat op_catT)) o2_add (se_var 15) se_int) sa_nil))))) (len_cons (len_cons (len_cons (len_cons (len_cons len_nil)))))))
  (sb_one (ss_if (st_not (st_truth (se_call (ok_law_touch T) (hr.mono (by first | decide | omega)) (by rfl) T.m_law_touch T.F_law_touch.kp T.b_law_touch passA (sa_cons (se_var 5) (sa_cons (se_var 16) (sa_cons (se_var 17) sa_nil))) (len_cons (len_cons (len_cons len_nil))))))
  (sb_one (ss_ret se_bl))
  sb_nil)))
  sb_nil))))))
  (sb_cons (ss_set (i := 18) nd rfl (Or.inl rfl) (se_call (ok_law_one T) (hr.mono (by first | decide | omega)) (by rfl) T.m_law_one T.F_law_one.kp T.b_law_one passA (sa_cons (se_var 2) (sa_cons (se_lst (sa_cons (se_op (OpR.or op_add (OpR.or op_cat op_catT)) o2_add (se_var 13) se_int) (sa_cons (se_un un_neg o1_neg se_int) (sa_cons se_non (sa_cons se_bl (sa_cons se_str (sa_cons (se_tup (sa_cons se_int sa_nil)) (sa_cons (se_op (OpR.or op_add (OpR.or op_cat op_catT)) o2_add (se_op (OpR.or op_add (OpR.or op_cat op_catT)) o2_add (se_var 13) (se_call (ok_law_great T) (hr.mono (by first | decide | omega)) (by rfl) T.m_law_great T.F_law_great.kp T.b_law_great passA (sa_cons (se_var 2) (sa_cons (se_op op_pow o2_pow se_int se_int) sa_nil)) (len_cons (len_cons len_nil)))) se_int) sa_nil)))))))) sa_nil)) (len_cons (len_cons len_nil))))
  (sb_one (ss_if (st_cmp (op_neD hr.units) o2_ne (se_call (ok_law_said T) (hr.mono (by first | decide | omega)) (by rfl) T.m_law_said T.F_law_said.kp T.b_law_said passA (sa_cons (se_var 5) (sa_cons (se_var 7) (sa_cons (se_var 11) (sa_cons (se_var 12) (sa_cons (se_var 18) sa_nil))))) (len_cons (len_cons (len_cons (len_cons (len_cons len_nil)))))) (se_lst (sa_cons (se_var 18) (sa_cons se_bl sa_nil))) (nomark _))
  (sb_one (ss_ret se_bl))
  sb_nil))))))))))))))))))
  (sb_one (ss_ret se_bl)))
end
theorem all_mk {l : PySem.W.OpenLaw} {w : World} {K : PySem.W.Frag} {h : Heap} {mg : Str → Option Value} {fa : Addr} (X : K.In h) (G : h.Ns mainGlobals mg) (hfa : mg "law" = some (.ref fa)) {C1 : Addr} {C0 : Addr} {C7 : Addr} {C10 : Addr} {C14 : Addr} {C15 : Addr}
    {a0 : Addr} {od0 an0 : Option Addr} {sl0 : Array (Option Value)} {oc0 kV0 dc0 pm0 cd0 ct0 : Value}
    {a1 : Addr} {od1 an1 : Option Addr} {sl1 : Array (Option Value)} {oc1 kV1 dc1 pm1 cd1 ct1 : Value}
    {a2 : Addr} {od2 an2 : Option Addr} {sl2 : Array (Option Value)} {oc2 kV2 dc2 pm2 cd2 ct2 : Value}
    {a3 : Addr} {od3 an3 : Option Addr} {sl3 : Array (Option Value)} {oc3 kV3 dc3 pm3 cd3 ct3 : Value}
    {a4 : Addr} {od4 an4 : Option Addr} {sl4 : Array (Option Value)} {oc4 kV4 dc4 pm4 cd4 ct4 : Value}
    {a5 : Addr} {od5 an5 : Option Addr} {sl5 : Array (Option Value)} {oc5 kV5 dc5 pm5 cd5 ct5 : Value}
    {a6 : Addr} {od6 an6 : Option Addr} {sl6 : Array (Option Value)} {oc6 kV6 dc6 pm6 cd6 ct6 : Value}
    {a7 : Addr} {od7 an7 : Option Addr} {sl7 : Array (Option Value)} {oc7 kV7 dc7 pm7 cd7 ct7 : Value}
    {a8 : Addr} {od8 an8 : Option Addr} {sl8 : Array (Option Value)} {oc8 kV8 dc8 pm8 cd8 ct8 : Value}
    {a9 : Addr} {od9 an9 : Option Addr} {sl9 : Array (Option Value)} {oc9 kV9 dc9 pm9 cd9 ct9 : Value}
    {a10 : Addr} {od10 an10 : Option Addr} {sl10 : Array (Option Value)} {oc10 kV10 dc10 pm10 cd10 ct10 : Value}
    {a11 : Addr} {od11 an11 : Option Addr} {sl11 : Array (Option Value)} {oc11 kV11 dc11 pm11 cd11 ct11 : Value}
    {a12 : Addr} {od12 an12 : Option Addr} {sl12 : Array (Option Value)} {oc12 kV12 dc12 pm12 cd12 ct12 : Value}
    {a13 : Addr} {od13 an13 : Option Addr} {sl13 : Array (Option Value)} {oc13 kV13 dc13 pm13 cd13 ct13 : Value}
    {a14 : Addr} {od14 an14 : Option Addr} {sl14 : Array (Option Value)} {oc14 kV14 dc14 pm14 cd14 ct14 : Value}
    {a15 : Addr} {od15 an15 : Option Addr} {sl15 : Array (Option Value)} {oc15 kV15 dc15 pm15 cd15 ct15 : Value}
    {a16 : Addr} {od16 an16 : Option Addr} {sl16 : Array (Option Value)} {oc16 kV16 dc16 pm16 cd16 ct16 : Value}
    {a17 : Addr} {od17 an17 : Option Addr} {sl17 : Array (Option Value)} {oc17 kV17 dc17 pm17 cd17 ct17 : Value}
    {a18 : Addr} {od18 an18 : Option Addr} {sl18 : Array (Option Value)} {oc18 kV18 dc18 pm18 cd18 ct18 : Value}
    {a19 : Addr} {od19 an19 : Option Addr} {sl19 : Array (Option Value)} {oc19 kV19 dc19 pm19 cd19 ct19 : Value}
    {a20 : Addr} {od20 an20 : Option Addr} {sl20 : Array (Option Value)} {oc20 kV20 dc20 pm20 cd20 ct20 : Value}
    {a21 : Addr} {od21 an21 : Option Addr} {sl21 : Array (Option Value)} {oc21 kV21 dc21 pm21 cd21 ct21 : Value}
    {a22 : Addr} {od22 an22 : Option Addr} {sl22 : Array (Option Value)} {oc22 kV22 dc22 pm22 cd22 ct22 : Value}
    {a23 : Addr} {od23 an23 : Option Addr} {sl23 : Array (Option Value)} {oc23 kV23 dc23 pm23 cd23 ct23 : Value}
    {a24 : Addr} {od24 an24 : Option Addr} {sl24 : Array (Option Value)} {oc24 kV24 dc24 pm24 cd24 ct24 : Value}
    {a25 : Addr} {od25 an25 : Option Addr} {sl25 : Array (Option Value)} {oc25 kV25 dc25 pm25 cd25 ct25 : Value}
    {a26 : Addr} {od26 an26 : Option Addr} {sl26 : Array (Option Value)} {oc26 kV26 dc26 pm26 cd26 ct26 : Value}
    {a27 : Addr} {od27 an27 : Option Addr} {sl27 : Array (Option Value)} {oc27 kV27 dc27 pm27 cd27 ct27 : Value}
    {a28 : Addr} {od28 an28 : Option Addr} {sl28 : Array (Option Value)} {oc28 kV28 dc28 pm28 cd28 ct28 : Value}
    {a29 : Addr} {od29 an29 : Option Addr} {sl29 : Array (Option Value)} {oc29 kV29 dc29 pm29 cd29 ct29 : Value}
    {a30 : Addr} {od30 an30 : Option Addr} {sl30 : Array (Option Value)} {oc30 kV30 dc30 pm30 cd30 ct30 : Value}
    {a31 : Addr} {od31 an31 : Option Addr} {sl31 : Array (Option Value)} {oc31 kV31 dc31 pm31 cd31 ct31 : Value}
    {a32 : Addr} {od32 an32 : Option Addr} {sl32 : Array (Option Value)} {oc32 kV32 dc32 pm32 cd32 ct32 : Value}
    {a33 : Addr} {od33 an33 : Option Addr} {sl33 : Array (Option Value)} {oc33 kV33 dc33 pm33 cd33 ct33 : Value}
    {a34 : Addr} {od34 an34 : Option Addr} {sl34 : Array (Option Value)} {oc34 kV34 dc34 pm34 cd34 ct34 : Value}
    {a35 : Addr} {od35 an35 : Option Addr} {sl35 : Array (Option Value)} {oc35 kV35 dc35 pm35 cd35 ct35 : Value}
    {a36 : Addr} {od36 an36 : Option Addr} {sl36 : Array (Option Value)} {oc36 kV36 dc36 pm36 cd36 ct36 : Value}
    {a37 : Addr} {od37 an37 : Option Addr} {sl37 : Array (Option Value)} {oc37 kV37 dc37 pm37 cd37 ct37 : Value}
    {a38 : Addr} {od38 an38 : Option Addr} {sl38 : Array (Option Value)} {oc38 kV38 dc38 pm38 cd38 ct38 : Value}
    {a39 : Addr} {od39 an39 : Option Addr} {sl39 : Array (Option Value)} {oc39 kV39 dc39 pm39 cd39 ct39 : Value}
    {a40 : Addr} {od40 an40 : Option Addr} {sl40 : Array (Option Value)} {oc40 kV40 dc40 pm40 ct40 : Value} {tc tP : Addr}
    {a41 : Addr} {od41 an41 : Option Addr} {sl41 : Array (Option Value)} {oc41 kV41 dc41 pm41 cd41 ct41 : Value}
    {a42 : Addr} {od42 an42 : Option Addr} {sl42 : Array (Option Value)} {oc42 kV42 dc42 pm42 cd42 ct42 : Value}
    {a43 : Addr} {od43 an43 : Option Addr} {sl43 : Array (Option Value)} {oc43 kV43 dc43 pm43 cd43 ct43 : Value}
    {nm_15 q_15 : Str} {N_15 : Addr} {bs_15 sub_15 : List Value} {sn_15 : List Str} {ab_15 : Bool} {col_15 : Option Bool} {dd_15 : Option Addr} {k0_15 k1_15 k2_15 k3_15 k5_15 : Option Value}
    {t_MOST : Tok}
    {q_SIDES : Addr} {n_SIDES : Nat} {dd_SIDES : Option Addr} {sl_SIDES : Array (Option Value)} {t0_SIDES t1_SIDES : Tok}
    (aC_1 : PySem.W.nsIn K mainGlobals "Gap" = some (some (.ref C1)))
    (mk_1 : PySem.W.makesIn K C1 = true) (kc_1 : PySem.W.keepIn K (.ref C1) = true)
    (aC_0 : PySem.W.nsIn K mainGlobals "Drum" = some (some (.ref C0)))
    (mk_0 : PySem.W.makesIn K C0 = true) (kc_0 : PySem.W.keepIn K (.ref C0) = true)
    (aC_7 : PySem.W.nsIn K mainGlobals "WetError" = some (some (.ref C7)))
    (rd_7 : PySem.W.readsIn K C7 (.type "type") = true) (sp_7 : PySem.W.specialIn K (.ref C7) "__getattribute__" = some (some (.builtin "type.__getattribute__"))) (fi_7 : PySem.W.findCls K (.ref C7) (.type "type") "__init__" = some (.val (.builtin "ArithmeticError.__init__")))
    (aC_10 : PySem.W.nsIn K mainGlobals "NoCell" = some (some (.ref C10)))
    (aC_14 : PySem.W.nsIn K mainGlobals "NoFace" = some (some (.ref C14)))
    (aC_15 : PySem.W.nsIn K mainGlobals "NoBeats" = some (some (.ref C15)))
    (a_0 : PySem.W.nsIn K mainGlobals "_law_cell_at" = some (some (.ref a0)))
    (l_0 : K.lookup a0 = some ⟨oc0, od0, .func (PySem.W.fnOf "_law_cell_at" "_law_cell_at" (defArgs s_law_cell_at) (defBody s_law_cell_at) (defScope s_law_cell_at) .none kV0 dc0 pm0 an0 cd0 ct0), sl0⟩) (c_0 : PySem.W.codeIn K cd0 "_law_cell_at" = true) (k_0 : PySem.W.keepIn K (.ref a0) = true)
    (a_1 : PySem.W.nsIn K mainGlobals "_law_source_of" = some (some (.ref a1)))
    (l_1 : K.lookup a1 = some ⟨oc1, od1, .func (PySem.W.fnOf "_law_source_of" "_law_source_of" (defArgs s_law_source_of) (defBody s_law_source_of) (defScope s_law_source_of) .none kV1 dc1 pm1 an1 cd1 ct1), sl1⟩) (c_1 : PySem.W.codeIn K cd1 "_law_source_of" = true) (k_1 : PySem.W.keepIn K (.ref a1) = true)
    (a_2 : PySem.W.nsIn K mainGlobals "_law_next" = some (some (.ref a2)))
    (l_2 : K.lookup a2 = some ⟨oc2, od2, .func (PySem.W.fnOf "_law_next" "_law_next" (defArgs s_law_next) (defBody s_law_next) (defScope s_law_next) .none kV2 dc2 pm2 an2 cd2 ct2), sl2⟩) (c_2 : PySem.W.codeIn K cd2 "_law_next" = true) (k_2 : PySem.W.keepIn K (.ref a2) = true)
    (a_3 : PySem.W.nsIn K mainGlobals "_law_great" = some (some (.ref a3)))
    (l_3 : K.lookup a3 = some ⟨oc3, od3, .func (PySem.W.fnOf "_law_great" "_law_great" (defArgs s_law_great) (defBody s_law_great) (defScope s_law_great) .none kV3 dc3 pm3 an3 cd3 ct3), sl3⟩) (c_3 : PySem.W.codeIn K cd3 "_law_great" = true) (k_3 : PySem.W.keepIn K (.ref a3) = true)
    (a_4 : PySem.W.nsIn K mainGlobals "_law_drum" = some (some (.ref a4)))
    (l_4 : K.lookup a4 = some ⟨oc4, od4, .func (PySem.W.fnOf "_law_drum" "_law_drum" (defArgs s_law_drum) (defBody s_law_drum) (defScope s_law_drum) .none kV4 dc4 pm4 an4 cd4 ct4), sl4⟩) (c_4 : PySem.W.codeIn K cd4 "_law_drum" = true) (k_4 : PySem.W.keepIn K (.ref a4) = true)
    (a_5 : PySem.W.nsIn K mainGlobals "is_whole" = some (some (.ref a5)))
    (l_5 : K.lookup a5 = some ⟨oc5, od5, .func (PySem.W.fnOf "is_whole" "is_whole" (defArgs s_is_whole) (defBody s_is_whole) (defScope s_is_whole) .none kV5 dc5 pm5 an5 cd5 ct5), sl5⟩) (c_5 : PySem.W.codeIn K cd5 "is_whole" = true) (k_5 : PySem.W.keepIn K (.ref a5) = true)
    (a_6 : PySem.W.findIn K (.ref C0) "__init__" = some (some (.ref a6))) (i_6 : PySem.W.isFn K (.ref a6) = true)
    (l_6 : K.lookup a6 = some ⟨oc6, od6, .func (PySem.W.fnOf "__init__" "Drum.__init__" (defArgs s_Drum_init) (defBody s_Drum_init) (defScope s_Drum_init) .none kV6 dc6 pm6 an6 cd6 ct6), sl6⟩) (c_6 : PySem.W.codeIn K cd6 "Drum.__init__" = true) (k_6 : PySem.W.keepIn K (.ref a6) = true)
    (a_7 : PySem.W.nsIn K mainGlobals "_law_one" = some (some (.ref a7)))
    (l_7 : K.lookup a7 = some ⟨oc7, od7, .func (PySem.W.fnOf "_law_one" "_law_one" (defArgs s_law_one) (defBody s_law_one) (defScope s_law_one) .none kV7 dc7 pm7 an7 cd7 ct7), sl7⟩) (c_7 : PySem.W.codeIn K cd7 "_law_one" = true) (k_7 : PySem.W.keepIn K (.ref a7) = true)
    (a_8 : PySem.W.nsIn K mainGlobals "_law_common" = some (some (.ref a8)))
    (l_8 : K.lookup a8 = some ⟨oc8, od8, .func (PySem.W.fnOf "_law_common" "_law_common" (defArgs s_law_common) (defBody s_law_common) (defScope s_law_common) .none kV8 dc8 pm8 an8 cd8 ct8), sl8⟩) (c_8 : PySem.W.codeIn K cd8 "_law_common" = true) (k_8 : PySem.W.keepIn K (.ref a8) = true)
    (a_9 : PySem.W.nsIn K mainGlobals "_law_begins" = some (some (.ref a9)))
    (l_9 : K.lookup a9 = some ⟨oc9, od9, .func (PySem.W.fnOf "_law_begins" "_law_begins" (defArgs s_law_begins) (defBody s_law_begins) (defScope s_law_begins) .none kV9 dc9 pm9 an9 cd9 ct9), sl9⟩) (c_9 : PySem.W.codeIn K cd9 "_law_begins" = true) (k_9 : PySem.W.keepIn K (.ref a9) = true)
    (a_10 : PySem.W.nsIn K mainGlobals "_law_roll" = some (some (.ref a10)))
    (l_10 : K.lookup a10 = some ⟨oc10, od10, .func (PySem.W.fnOf "_law_roll" "_law_roll" (defArgs s_law_roll) (defBody s_law_roll) (defScope s_law_roll) .none kV10 dc10 pm10 an10 cd10 ct10), sl10⟩) (c_10 : PySem.W.codeIn K cd10 "_law_roll" = true) (k_10 : PySem.W.keepIn K (.ref a10) = true)
    (a_11 : PySem.W.nsIn K mainGlobals "_law_face" = some (some (.ref a11)))
    (l_11 : K.lookup a11 = some ⟨oc11, od11, .func (PySem.W.fnOf "_law_face" "_law_face" (defArgs s_law_face) (defBody s_law_face) (defScope s_law_face) .none kV11 dc11 pm11 an11 cd11 ct11), sl11⟩) (c_11 : PySem.W.codeIn K cd11 "_law_face" = true) (k_11 : PySem.W.keepIn K (.ref a11) = true)
    (a_12 : PySem.W.nsIn K mainGlobals "check_length" = some (some (.ref a12)))
    (l_12 : K.lookup a12 = some ⟨oc12, od12, .func (PySem.W.fnOf "check_length" "check_length" (defArgs s_check_length) (defBody s_check_length) (defScope s_check_length) .none kV12 dc12 pm12 an12 cd12 ct12), sl12⟩) (c_12 : PySem.W.codeIn K cd12 "check_length" = true) (k_12 : PySem.W.keepIn K (.ref a12) = true)
    (a_13 : PySem.W.nsIn K mainGlobals "check_face" = some (some (.ref a13)))
    (l_13 : K.lookup a13 = some ⟨oc13, od13, .func (PySem.W.fnOf "check_face" "check_face" (defArgs s_check_face) (defBody s_check_face) (defScope s_check_face) .none kV13 dc13 pm13 an13 cd13 ct13), sl13⟩) (c_13 : PySem.W.codeIn K cd13 "check_face" = true) (k_13 : PySem.W.keepIn K (.ref a13) = true)
    (a_14 : PySem.W.nsIn K mainGlobals "check_roll" = some (some (.ref a14)))
    (l_14 : K.lookup a14 = some ⟨oc14, od14, .func (PySem.W.fnOf "check_roll" "check_roll" (defArgs s_check_roll) (defBody s_check_roll) (defScope s_check_roll) .none kV14 dc14 pm14 an14 cd14 ct14), sl14⟩) (c_14 : PySem.W.codeIn K cd14 "check_roll" = true) (k_14 : PySem.W.keepIn K (.ref a14) = true)
    (a_15 : PySem.W.nsIn K mainGlobals "root_of" = some (some (.ref a15)))
    (l_15 : K.lookup a15 = some ⟨oc15, od15, .func (PySem.W.fnOf "root_of" "root_of" (defArgs s_root_of) (defBody s_root_of) (defScope s_root_of) .none kV15 dc15 pm15 an15 cd15 ct15), sl15⟩) (c_15 : PySem.W.codeIn K cd15 "root_of" = true) (k_15 : PySem.W.keepIn K (.ref a15) = true)
    (a_16 : PySem.W.findIn K (.ref C0) "begins" = some (some (.ref a16))) (i_16 : PySem.W.isFn K (.ref a16) = true)
    (l_16 : K.lookup a16 = some ⟨oc16, od16, .func (PySem.W.fnOf "begins" "Drum.begins" (defArgs s_Drum_begins) (defBody s_Drum_begins) (defScope s_Drum_begins) .none kV16 dc16 pm16 an16 cd16 ct16), sl16⟩) (c_16 : PySem.W.codeIn K cd16 "Drum.begins" = true) (k_16 : PySem.W.keepIn K (.ref a16) = true)
    (a_17 : PySem.W.findIn K (.ref C0) "turn_of" = some (some (.ref a17))) (i_17 : PySem.W.isFn K (.ref a17) = true)
    (l_17 : K.lookup a17 = some ⟨oc17, od17, .func (PySem.W.fnOf "turn_of" "Drum.turn_of" (defArgs s_Drum_turn_of) (defBody s_Drum_turn_of) (defScope s_Drum_turn_of) .none kV17 dc17 pm17 an17 cd17 ct17), sl17⟩) (c_17 : PySem.W.codeIn K cd17 "Drum.turn_of" = true) (k_17 : PySem.W.keepIn K (.ref a17) = true)
    (a_18 : PySem.W.findIn K (.ref C0) "size" = some (some (.ref a18))) (i_18 : PySem.W.isFn K (.ref a18) = true)
    (l_18 : K.lookup a18 = some ⟨oc18, od18, .func (PySem.W.fnOf "size" "Drum.size" (defArgs s_Drum_size) (defBody s_Drum_size) (defScope s_Drum_size) .none kV18 dc18 pm18 an18 cd18 ct18), sl18⟩) (c_18 : PySem.W.codeIn K cd18 "Drum.size" = true) (k_18 : PySem.W.keepIn K (.ref a18) = true)
    (a_19 : PySem.W.findIn K (.ref C0) "where" = some (some (.ref a19))) (i_19 : PySem.W.isFn K (.ref a19) = true)
    (l_19 : K.lookup a19 = some ⟨oc19, od19, .func (PySem.W.fnOf "where" "Drum.where" (defArgs s_Drum_where) (defBody s_Drum_where) (defScope s_Drum_where) .none kV19 dc19 pm19 an19 cd19 ct19), sl19⟩) (c_19 : PySem.W.codeIn K cd19 "Drum.where" = true) (k_19 : PySem.W.keepIn K (.ref a19) = true)
    (a_20 : PySem.W.findIn K (.ref C0) "filled" = some (some (.ref a20))) (i_20 : PySem.W.isFn K (.ref a20) = true)
    (l_20 : K.lookup a20 = some ⟨oc20, od20, .func (PySem.W.fnOf "filled" "Drum.filled" (defArgs s_Drum_filled) (defBody s_Drum_filled) (defScope s_Drum_filled) .none kV20 dc20 pm20 an20 cd20 ct20), sl20⟩) (c_20 : PySem.W.codeIn K cd20 "Drum.filled" = true) (k_20 : PySem.W.keepIn K (.ref a20) = true)
    (a_21 : PySem.W.nsIn K mainGlobals "common" = some (some (.ref a21)))
    (l_21 : K.lookup a21 = some ⟨oc21, od21, .func (PySem.W.fnOf "common" "common" (defArgs s_common) (defBody s_common) (defScope s_common) .none kV21 dc21 pm21 an21 cd21 ct21), sl21⟩) (c_21 : PySem.W.codeIn K cd21 "common" = true) (k_21 : PySem.W.keepIn K (.ref a21) = true)
    (a_22 : PySem.W.findIn K (.ref C0) "first" = some (some (.ref a22))) (i_22 : PySem.W.isFn K (.ref a22) = true)
    (l_22 : K.lookup a22 = some ⟨oc22, od22, .func (PySem.W.fnOf "first" "Drum.first" (defArgs s_Drum_first) (defBody s_Drum_first) (defScope s_Drum_first) .none kV22 dc22 pm22 an22 cd22 ct22), sl22⟩) (c_22 : PySem.W.codeIn K cd22 "Drum.first" = true) (k_22 : PySem.W.keepIn K (.ref a22) = true)
    (a_23 : PySem.W.findIn K (.ref C0) "step" = some (some (.ref a23))) (i_23 : PySem.W.isFn K (.ref a23) = true)
    (l_23 : K.lookup a23 = some ⟨oc23, od23, .func (PySem.W.fnOf "step" "Drum.step" (defArgs s_Drum_step) (defBody s_Drum_step) (defScope s_Drum_step) .none kV23 dc23 pm23 an23 cd23 ct23), sl23⟩) (c_23 : PySem.W.codeIn K cd23 "Drum.step" = true) (k_23 : PySem.W.keepIn K (.ref a23) = true)
    (a_24 : PySem.W.nsIn K mainGlobals "parts_of" = some (some (.ref a24)))
    (l_24 : K.lookup a24 = some ⟨oc24, od24, .func (PySem.W.fnOf "parts_of" "parts_of" (defArgs s_parts_of) (defBody s_parts_of) (defScope s_parts_of) .none kV24 dc24 pm24 an24 cd24 ct24), sl24⟩) (c_24 : PySem.W.codeIn K cd24 "parts_of" = true) (k_24 : PySem.W.keepIn K (.ref a24) = true)
    (a_25 : PySem.W.findIn K (.ref C1) "__init__" = some (some (.ref a25))) (i_25 : PySem.W.isFn K (.ref a25) = true)
    (l_25 : K.lookup a25 = some ⟨oc25, od25, .func (PySem.W.fnOf "__init__" "Gap.__init__" (defArgs s_Gap_init) (defBody s_Gap_init) (defScope s_Gap_init) .none kV25 dc25 pm25 an25 cd25 ct25), sl25⟩) (c_25 : PySem.W.codeIn K cd25 "Gap.__init__" = true) (k_25 : PySem.W.keepIn K (.ref a25) = true)
    (a_26 : PySem.W.findIn K (.ref C1) "uppers" = some (some (.ref a26))) (i_26 : PySem.W.isFn K (.ref a26) = true)
    (l_26 : K.lookup a26 = some ⟨oc26, od26, .func (PySem.W.fnOf "uppers" "Gap.uppers" (defArgs s_Gap_uppers) (defBody s_Gap_uppers) (defScope s_Gap_uppers) .none kV26 dc26 pm26 an26 cd26 ct26), sl26⟩) (c_26 : PySem.W.codeIn K cd26 "Gap.uppers" = true) (k_26 : PySem.W.keepIn K (.ref a26) = true)
    (a_27 : PySem.W.findIn K (.ref C1) "under" = some (some (.ref a27))) (i_27 : PySem.W.isFn K (.ref a27) = true)
    (l_27 : K.lookup a27 = some ⟨oc27, od27, .func (PySem.W.fnOf "under" "Gap.under" (defArgs s_Gap_under) (defBody s_Gap_under) (defScope s_Gap_under) .none kV27 dc27 pm27 an27 cd27 ct27), sl27⟩) (c_27 : PySem.W.codeIn K cd27 "Gap.under" = true) (k_27 : PySem.W.keepIn K (.ref a27) = true)
    (a_28 : PySem.W.findIn K (.ref C1) "lowers" = some (some (.ref a28))) (i_28 : PySem.W.isFn K (.ref a28) = true)
    (l_28 : K.lookup a28 = some ⟨oc28, od28, .func (PySem.W.fnOf "lowers" "Gap.lowers" (defArgs s_Gap_lowers) (defBody s_Gap_lowers) (defScope s_Gap_lowers) .none kV28 dc28 pm28 an28 cd28 ct28), sl28⟩) (c_28 : PySem.W.codeIn K cd28 "Gap.lowers" = true) (k_28 : PySem.W.keepIn K (.ref a28) = true)
    (a_29 : PySem.W.nsIn K mainGlobals "piece_places" = some (some (.ref a29)))
    (l_29 : K.lookup a29 = some ⟨oc29, od29, .func (PySem.W.fnOf "piece_places" "piece_places" (defArgs s_piece_places) (defBody s_piece_places) (defScope s_piece_places) .none kV29 dc29 pm29 an29 cd29 ct29), sl29⟩) (c_29 : PySem.W.codeIn K cd29 "piece_places" = true) (k_29 : PySem.W.keepIn K (.ref a29) = true)
    (a_30 : PySem.W.nsIn K mainGlobals "at_cells" = some (some (.ref a30)))
    (l_30 : K.lookup a30 = some ⟨oc30, od30, .func (PySem.W.fnOf "at_cells" "at_cells" (defArgs s_at_cells) (defBody s_at_cells) (defScope s_at_cells) .none kV30 dc30 pm30 an30 cd30 ct30), sl30⟩) (c_30 : PySem.W.codeIn K cd30 "at_cells" = true) (k_30 : PySem.W.keepIn K (.ref a30) = true)
    (a_31 : PySem.W.nsIn K mainGlobals "piece" = some (some (.ref a31)))
    (l_31 : K.lookup a31 = some ⟨oc31, od31, .func (PySem.W.fnOf "piece" "piece" (defArgs s_piece) (defBody s_piece) (defScope s_piece) .none kV31 dc31 pm31 an31 cd31 ct31), sl31⟩) (c_31 : PySem.W.codeIn K cd31 "piece" = true) (k_31 : PySem.W.keepIn K (.ref a31) = true)
    (a_32 : PySem.W.nsIn K mainGlobals "_law_drawn" = some (some (.ref a32)))
    (l_32 : K.lookup a32 = some ⟨oc32, od32, .func (PySem.W.fnOf "_law_drawn" "_law_drawn" (defArgs s_law_drawn) (defBody s_law_drawn) (defScope s_law_drawn) .none kV32 dc32 pm32 an32 cd32 ct32), sl32⟩) (c_32 : PySem.W.codeIn K cd32 "_law_drawn" = true) (k_32 : PySem.W.keepIn K (.ref a32) = true)
    (a_33 : PySem.W.nsIn K mainGlobals "between" = some (some (.ref a33)))
    (l_33 : K.lookup a33 = some ⟨oc33, od33, .func (PySem.W.fnOf "between" "between" (defArgs s_between) (defBody s_between) (defScope s_between) .none kV33 dc33 pm33 an33 cd33 ct33), sl33⟩) (c_33 : PySem.W.codeIn K cd33 "between" = true) (k_33 : PySem.W.keepIn K (.ref a33) = true)
    (a_34 : PySem.W.nsIn K mainGlobals "lows_of" = some (some (.ref a34)))
    (l_34 : K.lookup a34 = some ⟨oc34, od34, .func (PySem.W.fnOf "lows_of" "lows_of" (defArgs s_lows_of) (defBody s_lows_of) (defScope s_lows_of) .none kV34 dc34 pm34 an34 cd34 ct34), sl34⟩) (c_34 : PySem.W.codeIn K cd34 "lows_of" = true) (k_34 : PySem.W.keepIn K (.ref a34) = true)
    (a_35 : PySem.W.nsIn K mainGlobals "apart" = some (some (.ref a35)))
    (l_35 : K.lookup a35 = some ⟨oc35, od35, .func (PySem.W.fnOf "apart" "apart" (defArgs s_apart) (defBody s_apart) (defScope s_apart) .none kV35 dc35 pm35 an35 cd35 ct35), sl35⟩) (c_35 : PySem.W.codeIn K cd35 "apart" = true) (k_35 : PySem.W.keepIn K (.ref a35) = true)
    (a_36 : PySem.W.nsIn K mainGlobals "joining" = some (some (.ref a36)))
    (l_36 : K.lookup a36 = some ⟨oc36, od36, .func (PySem.W.fnOf "joining" "joining" (defArgs s_joining) (defBody s_joining) (defScope s_joining) .none kV36 dc36 pm36 an36 cd36 ct36), sl36⟩) (c_36 : PySem.W.codeIn K cd36 "joining" = true) (k_36 : PySem.W.keepIn K (.ref a36) = true)
    (a_37 : PySem.W.nsIn K mainGlobals "along" = some (some (.ref a37)))
    (l_37 : K.lookup a37 = some ⟨oc37, od37, .func (PySem.W.fnOf "along" "along" (defArgs s_along) (defBody s_along) (defScope s_along) .none kV37 dc37 pm37 an37 cd37 ct37), sl37⟩) (c_37 : PySem.W.codeIn K cd37 "along" = true) (k_37 : PySem.W.keepIn K (.ref a37) = true)
    (a_38 : PySem.W.nsIn K mainGlobals "on_way" = some (some (.ref a38)))
    (l_38 : K.lookup a38 = some ⟨oc38, od38, .func (PySem.W.fnOf "on_way" "on_way" (defArgs s_on_way) (defBody s_on_way) (defScope s_on_way) .none kV38 dc38 pm38 an38 cd38 ct38), sl38⟩) (c_38 : PySem.W.codeIn K cd38 "on_way" = true) (k_38 : PySem.W.keepIn K (.ref a38) = true)
    (a_39 : PySem.W.nsIn K mainGlobals "beneath" = some (some (.ref a39)))
    (l_39 : K.lookup a39 = some ⟨oc39, od39, .func (PySem.W.fnOf "beneath" "beneath" (defArgs s_beneath) (defBody s_beneath) (defScope s_beneath) .none kV39 dc39 pm39 an39 cd39 ct39), sl39⟩) (c_39 : PySem.W.codeIn K cd39 "beneath" = true) (k_39 : PySem.W.keepIn K (.ref a39) = true)
    (a_40 : PySem.W.nsIn K mainGlobals "_law_touch" = some (some (.ref a40)))
    (l_40 : K.lookup a40 = some ⟨oc40, od40, .func (PySem.W.fnOf "_law_touch" "_law_touch" (defArgs s_law_touch) (defBody s_law_touch) (defScope s_law_touch) .none kV40 dc40 pm40 an40 (.ref tc) ct40), sl40⟩) (c_40 : PySem.W.codeIn K (.ref tc) "_law_touch" = true) (k_40 : PySem.W.keepIn K (.ref a40) = true)
    (a_41 : PySem.W.findIn K (.ref C15) "__init__" = some (some (.ref a41))) (i_41 : PySem.W.isFn K (.ref a41) = true)
    (l_41 : K.lookup a41 = some ⟨oc41, od41, .func (PySem.W.fnOf "__init__" "NoBeats.__init__" (defArgs s_NoBeats_init) (defBody s_NoBeats_init) (defScope s_NoBeats_init) .none kV41 dc41 pm41 an41 cd41 ct41), sl41⟩) (c_41 : PySem.W.codeIn K cd41 "NoBeats.__init__" = true) (k_41 : PySem.W.keepIn K (.ref a41) = true)
    (a_42 : PySem.W.nsIn K mainGlobals "_law_said" = some (some (.ref a42)))
    (l_42 : K.lookup a42 = some ⟨oc42, od42, .func (PySem.W.fnOf "_law_said" "_law_said" (defArgs s_law_said) (defBody s_law_said) (defScope s_law_said) .none kV42 dc42 pm42 an42 cd42 ct42), sl42⟩) (c_42 : PySem.W.codeIn K cd42 "_law_said" = true) (k_42 : PySem.W.keepIn K (.ref a42) = true)
    (a_43 : PySem.W.nsIn K mainGlobals "law" = some (some (.ref a43)))
    (l_43 : K.lookup a43 = some ⟨oc43, od43, .func (PySem.W.fnOf "law" "law" (defArgs s_law) (defBody s_law) (defScope s_law) .none kV43 dc43 pm43 an43 cd43 ct43), sl43⟩) (c_43 : PySem.W.codeIn K cd43 "law" = true) (k_43 : PySem.W.keepIn K (.ref a43) = true)
    (pg_1 : PySem.W.plainGet K C1 Str.empty = true) (hd_1 : PySem.W.hasDictIn K C1 = true) (po_1 : PySem.W.plainOver K C1 = true) (sa_1 : PySem.W.findIn K (.ref C1) "__setattr__" = some (some (.builtin "object.__setattr__")))
    (na_1_0 : PySem.W.findIn K (.ref C1) "turn" = some none)
    (na_1_1 : PySem.W.findIn K (.ref C1) "low_size" = some none)
    (na_1_2 : PySem.W.findIn K (.ref C1) "up_size" = some none)
    (na_1_3 : PySem.W.findIn K (.ref C1) "low_begin" = some none)
    (na_1_4 : PySem.W.findIn K (.ref C1) "up_begin" = some none)
    (na_1_5 : PySem.W.findIn K (.ref C1) "there" = some none)
    (na_1_6 : PySem.W.findIn K (.ref C1) "part" = some none)
    (na_1_7 : PySem.W.findIn K (.ref C1) "many" = some none)
    (pg_0 : PySem.W.plainGet K C0 Str.empty = true) (hd_0 : PySem.W.hasDictIn K C0 = true) (po_0 : PySem.W.plainOver K C0 = true) (sa_0 : PySem.W.findIn K (.ref C0) "__setattr__" = some (some (.builtin "object.__setattr__")))
    (na_0_0 : PySem.W.findIn K (.ref C0) "least" = some none)
    (na_0_1 : PySem.W.findIn K (.ref C0) "more" = some none)
    (lk_15 : K.lookup C15 = some (excClassObj nm_15 q_15 C15 N_15 bs_15 [.ref C7, .type "ArithmeticError", .type "Exception", .type "BaseException", .type "object"] true sn_15 sub_15 ab_15 col_15 dd_15 k0_15 k1_15 k2_15 k3_15 k5_15 "ArithmeticError.__new__"))
    (st_15 : PySem.W.findIn K (.ref C15) "__setattr__" = some (some (.builtin "object.__setattr__"))) (sx_15 : PySem.W.subIn K (.ref C15) (.type "BaseException") = some true) (ty_15 : PySem.W.typeIn K (.ref C15) = some (.type "type")) (kp_15 : PySem.W.keepIn K (.ref C15) = true)
    (it_15 : PySem.W.typeIn K (.ref a41) = some (.type "function"))
    (tk_15_beats : PySem.W.takerIn K C15 "beats" = some none)
    (xga_15 : PySem.W.findIn K (.ref (C15)) "__getattribute__" = some (some (.builtin "BaseException.__getattribute__")))
    (xgg_15 : PySem.W.findIn K (.ref (C15)) "__getattr__" = some none)
    (xhd_15 : PySem.W.hasDictIn K (C15) = true)
    (xha_15 : PySem.W.findIn K (.ref (C15)) "__class__" = some (some (.builtin "object.__class__")))
    (xmo_15 : PySem.W.mroIn K (C15) (.type "object") = some true)
    (xar_15 : PySem.W.subIn K (.ref (C15)) (.type "ArithmeticError") = some true)
    (xnf_15_beats : PySem.W.findIn K (.ref (C15)) "beats" = some none)
    (xhn : PySem.W.specialIn K (.builtin "object.__class__") "__get__" = some (some (.builtin "getset_descriptor.__get__")))
    (xht : PySem.W.takesIn K (.builtin "object.__class__") = some true)
    (xsl_7 : PySem.W.subIn K (.ref (C7)) (.ref (C7)) = some true)
    (xic_7 : PySem.W.isClsIn K (C7) = true)
    (xis_7 : PySem.W.typeIn K (.ref (C7)) = some (.type "type"))
    (xsl_10 : PySem.W.subIn K (.ref (C10)) (.ref (C10)) = some true)
    (xic_10 : PySem.W.isClsIn K (C10) = true)
    (xis_10 : PySem.W.typeIn K (.ref (C10)) = some (.type "type"))
    (xsl_14 : PySem.W.subIn K (.ref (C14)) (.ref (C14)) = some true)
    (xic_14 : PySem.W.isClsIn K (C14) = true)
    (xis_14 : PySem.W.typeIn K (.ref (C14)) = some (.type "type"))
    (xsl_15 : PySem.W.subIn K (.ref (C15)) (.ref (C15)) = some true)
    (xic_15 : PySem.W.isClsIn K (C15) = true)
    (xis_15 : PySem.W.typeIn K (.ref (C15)) = some (.type "type"))
    (xbe_7 : PySem.W.subIn K (.ref (C7)) (.type "BaseException") = some true)
    (xbe_10 : PySem.W.subIn K (.ref (C10)) (.type "BaseException") = some true)
    (xbe_14 : PySem.W.subIn K (.ref (C14)) (.type "BaseException") = some true)
    (xbe_15 : PySem.W.subIn K (.ref (C15)) (.type "BaseException") = some true)
    (xsu_15_10 : PySem.W.subIn K (.ref (C15)) (.ref (C10)) = some false)
    (xsu_15_14 : PySem.W.subIn K (.ref (C15)) (.ref (C14)) = some false)
    (xsu_15_7 : PySem.W.subIn K (.ref (C15)) (.ref (C7)) = some true)
    (z_len : PySem.W.nsIn K mainGlobals "len" = some none)
    (z_int : PySem.W.nsIn K mainGlobals "int" = some none)
    (z_range : PySem.W.nsIn K mainGlobals "range" = some none)
    (z_isinstance : PySem.W.nsIn K mainGlobals "isinstance" = some none)
    (z_bool : PySem.W.nsIn K mainGlobals "bool" = some none)
    (z_min : PySem.W.nsIn K mainGlobals "min" = some none)
    (z_max : PySem.W.nsIn K mainGlobals "max" = some none)
    (z_tuple : PySem.W.nsIn K mainGlobals "tuple" = some none)
    (z_str : PySem.W.nsIn K mainGlobals "str" = some none)
    (z_divmod : PySem.W.nsIn K mainGlobals "divmod" = some none)
    (z_sorted : PySem.W.nsIn K mainGlobals "sorted" = some none)
    (g_MOST : PySem.W.nsIn K mainGlobals "MOST" = some (some (.int 1000000000000000 t_MOST)))
    (g_SIDES : PySem.W.nsIn K mainGlobals "SIDES" = some (some (.ref q_SIDES))) (h_SIDES : K.lookup q_SIDES = some ⟨.type "tuple", dd_SIDES, .seq #[.str "in" t0_SIDES, .str "out" t1_SIDES] n_SIDES, sl_SIDES⟩)
    (tb_2 : h.get? tP = some (PySem.W.tabObj #[])) (tb_1 : PySem.W.codeHdIn K tc tP = true) (tb_3 : K.lookup tP = none)
    (plain : Plain) :
    ∃ (fd : FuncData) (c P : Addr), h.get? P = some (PySem.W.tabObj #[]) ∧ K.lookup P = none ∧ PySem.W.codeHdIn K c P = true ∧ (∀ (s : Shared) (v : Value), BindsTo s fd ⟨[v], []⟩ [("_law_script", v)]) ∧ ∀ base : Heap, K.In base → base.Ns mainGlobals mg → LamX.TabB base mg c P → FnOk l.prog w K mg base CX0 11 fa fd ["_law_script"] (spT K P) := by
  have e := hfa.symm.trans (PySem.W.mg_of X G a_43)
  cases e
  have cl0 : Cls K C0 := ⟨pg_0, hd_0, po_0, sa_0⟩
  have cl1 : Cls K C1 := ⟨pg_1, hd_1, po_1, sa_1⟩
  have F0 := fun_mk (st := s_law_cell_at) l_0 c_0 k_0
  have b0 := F0.binds (ps := ["_law_script", "_law_k"]) fun _ _ _ _ _ _ us hl => match us, hl with | [_, _], _ => rfl
  have F1 := fun_mk (st := s_law_source_of) l_1 c_1 k_1
  have b1 := F1.binds (ps := ["_law_cell"]) fun _ _ _ _ _ _ us hl => match us, hl with | [_], _ => rfl
  have F2 := fun_mk (st := s_law_next) l_2 c_2 k_2
  have b2 := F2.binds (ps := ["_law_source", "_law_many"]) fun _ _ _ _ _ _ us hl => match us, hl with | [_, _], _ => rfl
  have F3 := fun_mk (st := s_law_great) l_3 c_3 k_3
  have b3 := F3.binds (ps := ["_law_source", "_law_many"]) fun _ _ _ _ _ _ us hl => match us, hl with | [_, _], _ => rfl
  have F4 := fun_mk (st := s_law_drum) l_4 c_4 k_4
  have b4 := F4.binds (ps := ["_law_source"]) fun _ _ _ _ _ _ us hl => match us, hl with | [_], _ => rfl
  have F5 := fun_mk (st := s_is_whole) l_5 c_5 k_5
  have b5 := F5.binds (ps := ["thing"]) fun _ _ _ _ _ _ us hl => match us, hl with | [_], _ => rfl
  have F6 := fun_mk (st := s_Drum_init) l_6 c_6 k_6
  have b6 := F6.binds (ps := ["self", "first", "step"]) fun _ _ _ _ _ _ us hl => match us, hl with | [_, _, _], _ => rfl
  have F7 := fun_mk (st := s_law_one) l_7 c_7 k_7
  have b7 := F7.binds (ps := ["_law_source", "_law_some"]) fun _ _ _ _ _ _ us hl => match us, hl with | [_, _], _ => rfl
  have F8 := fun_mk (st := s_law_common) l_8 c_8 k_8
  have b8 := F8.binds (ps := ["_law_one_here", "_law_other"]) fun _ _ _ _ _ _ us hl => match us, hl with | [_, _], _ => rfl
  have F9 := fun_mk (st := s_law_begins) l_9 c_9 k_9
  have b9 := F9.binds (ps := ["_law_first", "_law_step", "_law_turn"]) fun _ _ _ _ _ _ us hl => match us, hl with | [_, _, _], _ => rfl
  have F10 := fun_mk (st := s_law_roll) l_10 c_10 k_10
  have b10 := F10.binds (ps := ["_law_source", "_law_first", "_law_step"]) fun _ _ _ _ _ _ us hl => match us, hl with | [_, _, _], _ => rfl
  have F11 := fun_mk (st := s_law_face) l_11 c_11 k_11
  have b11 := F11.binds (ps := ["_law_source", "_law_first", "_law_step", "_law_roll_here"]) fun _ _ _ _ _ _ us hl => match us, hl with | [_, _, _, _], _ => rfl
  have F12 := fun_mk (st := s_check_length) l_12 c_12 k_12
  have b12 := F12.binds (ps := ["length"]) fun _ _ _ _ _ _ us hl => match us, hl with | [_], _ => rfl
  have F13 := fun_mk (st := s_check_face) l_13 c_13 k_13
  have b13 := F13.binds (ps := ["length", "face"]) fun _ _ _ _ _ _ us hl => match us, hl with | [_, _], _ => rfl
  have F14 := fun_mk (st := s_check_roll) l_14 c_14 k_14
  have b14 := F14.binds (ps := ["length", "faces"]) fun _ _ _ _ _ _ us hl => match us, hl with | [_, _], _ => rfl
  have F15 := fun_mk (st := s_root_of) l_15 c_15 k_15
  have b15 := F15.binds (ps := ["number"]) fun _ _ _ _ _ _ us hl => match us, hl with | [_], _ => rfl
  have F16 := fun_mk (st := s_Drum_begins) l_16 c_16 k_16
  have b16 := F16.binds (ps := ["self", "turn"]) fun _ _ _ _ _ _ us hl => match us, hl with | [_, _], _ => rfl
  have F17 := fun_mk (st := s_Drum_turn_of) l_17 c_17 k_17
  have b17 := F17.binds (ps := ["self", "cell"]) fun _ _ _ _ _ _ us hl => match us, hl with | [_, _], _ => rfl
  have F18 := fun_mk (st := s_Drum_size) l_18 c_18 k_18
  have b18 := F18.binds (ps := ["self", "turn"]) fun _ _ _ _ _ _ us hl => match us, hl with | [_, _], _ => rfl
  have F19 := fun_mk (st := s_Drum_where) l_19 c_19 k_19
  have b19 := F19.binds (ps := ["self", "cell"]) fun _ _ _ _ _ _ us hl => match us, hl with | [_, _], _ => rfl
  have F20 := fun_mk (st := s_Drum_filled) l_20 c_20 k_20
  have b20 := F20.binds (ps := ["self", "length"]) fun _ _ _ _ _ _ us hl => match us, hl with | [_, _], _ => rfl
  have F21 := fun_mk (st := s_common) l_21 c_21 k_21
  have b21 := F21.binds (ps := ["one", "other"]) fun _ _ _ _ _ _ us hl => match us, hl with | [_, _], _ => rfl
  have F22 := fun_mk (st := s_Drum_first) l_22 c_22 k_22
  have b22 := F22.binds (ps := ["self"]) fun _ _ _ _ _ _ us hl => match us, hl with | [_], _ => rfl
  have F23 := fun_mk (st := s_Drum_step) l_23 c_23 k_23
  have b23 := F23.binds (ps := ["self"]) fun _ _ _ _ _ _ us hl => match us, hl with | [_], _ => rfl
  have F24 := fun_mk (st := s_parts_of) l_24 c_24 k_24
  have b24 := F24.binds (ps := ["drum"]) fun _ _ _ _ _ _ us hl => match us, hl with | [_], _ => rfl
  have F25 := fun_mk (st := s_Gap_init) l_25 c_25 k_25
  have b25 := F25.binds (ps := ["self", "drum", "length", "face"]) fun _ _ _ _ _ _ us hl => match us, hl with | [_, _, _, _], _ => rfl
  have F26 := fun_mk (st := s_Gap_uppers) l_26 c_26 k_26
  have b26 := F26.binds (ps := ["self"]) fun _ _ _ _ _ _ us hl => match us, hl with | [_], _ => rfl
  have F27 := fun_mk (st := s_Gap_under) l_27 c_27 k_27
  have b27 := F27.binds (ps := ["self", "place"]) fun _ _ _ _ _ _ us hl => match us, hl with | [_, _], _ => rfl
  have F28 := fun_mk (st := s_Gap_lowers) l_28 c_28 k_28
  have b28 := F28.binds (ps := ["self"]) fun _ _ _ _ _ _ us hl => match us, hl with | [_], _ => rfl
  have F29 := fun_mk (st := s_piece_places) l_29 c_29 k_29
  have b29 := F29.binds (ps := ["gap", "face"]) fun _ _ _ _ _ _ us hl => match us, hl with | [_, _], _ => rfl
  have F30 := fun_mk (st := s_at_cells) l_30 c_30 k_30
  have b30 := F30.binds (ps := ["begin", "stretch"]) fun _ _ _ _ _ _ us hl => match us, hl with | [_, _], _ => rfl
  have F31 := fun_mk (st := s_piece) l_31 c_31 k_31
  have b31 := F31.binds (ps := ["drum", "length", "face"]) fun _ _ _ _ _ _ us hl => match us, hl with | [_, _, _], _ => rfl
  have F32 := fun_mk (st := s_law_drawn) l_32 c_32 k_32
  have b32 := F32.binds (ps := ["_law_source", "_law_lowers", "_law_uppers"]) fun _ _ _ _ _ _ us hl => match us, hl with | [_, _, _], _ => rfl
  have F33 := fun_mk (st := s_between) l_33 c_33 k_33
  have b33 := F33.binds (ps := ["one", "other"]) fun _ _ _ _ _ _ us hl => match us, hl with | [_, _], _ => rfl
  have F34 := fun_mk (st := s_lows_of) l_34 c_34 k_34
  have b34 := F34.binds (ps := ["gap", "face"]) fun _ _ _ _ _ _ us hl => match us, hl with | [_, _], _ => rfl
  have F35 := fun_mk (st := s_apart) l_35 c_35 k_35
  have b35 := F35.binds (ps := ["drum", "length", "one", "other"]) fun _ _ _ _ _ _ us hl => match us, hl with | [_, _, _, _], _ => rfl
  have F36 := fun_mk (st := s_joining) l_36 c_36 k_36
  have b36 := F36.binds (ps := ["gap", "place"]) fun _ _ _ _ _ _ us hl => match us, hl with | [_, _], _ => rfl
  have F37 := fun_mk (st := s_along) l_37 c_37 k_37
  have b37 := F37.binds (ps := ["gap", "begin", "end", "many"]) fun _ _ _ _ _ _ us hl => match us, hl with | [_, _, _, _], _ => rfl
  have F38 := fun_mk (st := s_on_way) l_38 c_38 k_38
  have b38 := F38.binds (ps := ["drum", "length", "one", "other", "many"]) fun _ _ _ _ _ _ us hl => match us, hl with | [_, _, _, _, _], _ => rfl
  have F39 := fun_mk (st := s_beneath) l_39 c_39 k_39
  have b39 := F39.binds (ps := ["drum", "cell"]) fun _ _ _ _ _ _ us hl => match us, hl with | [_, _], _ => rfl
  have F40 := fun_mk (st := s_law_touch) l_40 c_40 k_40
  have b40 := F40.binds (ps := ["_law_drum_here", "_law_here", "_law_there"]) fun _ _ _ _ _ _ us hl => match us, hl with | [_, _, _], _ => rfl
  have F41 := fun_mk (st := s_NoBeats_init) l_41 c_41 k_41
  have b41 := F41.binds (ps := ["self", "beats"]) fun _ _ _ _ _ _ us hl => match us, hl with | [_, _], _ => rfl
  have F42 := fun_mk (st := s_law_said) l_42 c_42 k_42
  have b42 := F42.binds (ps := ["_law_drum_here", "_law_length", "_law_one_here", "_law_other", "_law_many"]) fun _ _ _ _ _ _ us hl => match us, hl with | [_, _, _, _, _], _ => rfl
  have F43 := fun_mk (st := s_law) l_43 c_43 k_43
  have b43 := F43.binds (ps := ["_law_script"]) fun _ _ _ _ _ _ us hl => match us, hl with | [_], _ => rfl
  exact ⟨_, tc, tP, tb_2, tb_3, tb_1, fun s v => .of_eq rfl, fun base _ _ TB => law_spT (ok_law (ad := fun n => if n = 1 then C1 else if n = 0 then C0 else if n = 7 then C7 else if n = 10 then C10 else if n = 14 then C14 else if n = 15 then C15 else 0) {
    TB := TB, cdL := rfl,
    a_law_cell_at := _, d_law_cell_at := _, F_law_cell_at := F0, b_law_cell_at := b0,
    m_law_cell_at := PySem.W.mg_of X G a_0,
    a_law_source_of := _, d_law_source_of := _, F_law_source_of := F1, b_law_source_of := b1,
    m_law_source_of := PySem.W.mg_of X G a_1,
    a_law_next := _, d_law_next := _, F_law_next := F2, b_law_next := b2,
    m_law_next := PySem.W.mg_of X G a_2,
    a_law_great := _, d_law_great := _, F_law_great := F3, b_law_great := b3,
    m_law_great := PySem.W.mg_of X G a_3,
    a_law_drum := _, d_law_drum := _, F_law_drum := F4, b_law_drum := b4,
    m_law_drum := PySem.W.mg_of X G a_4,
    a_is_whole := _, d_is_whole := _, F_is_whole := F5, b_is_whole := b5,
    m_is_whole := PySem.W.mg_of X G a_5,
    a_Drum_init := _, d_Drum_init := _, F_Drum_init := F6, b_Drum_init := b6,
    a_law_one := _, d_law_one := _, F_law_one := F7, b_law_one := b7,
    m_law_one := PySem.W.mg_of X G a_7,
    a_law_common := _, d_law_common := _, F_law_common := F8, b_law_common := b8,
    m_law_common := PySem.W.mg_of X G a_8,
    a_law_begins := _, d_law_begins := _, F_law_begins := F9, b_law_begins := b9,
    m_law_begins := PySem.W.mg_of X G a_9,
    a_law_roll := _, d_law_roll := _, F_law_roll := F10, b_law_roll := b10,
    m_law_roll := PySem.W.mg_of X G a_10,
    a_law_face := _, d_law_face := _, F_law_face := F11, b_law_face := b11,
    m_law_face := PySem.W.mg_of X G a_11,
    a_check_length := _, d_check_length := _, F_check_length := F12, b_check_length := b12,
    m_check_length := PySem.W.mg_of X G a_12,
    a_check_face := _, d_check_face := _, F_check_face := F13, b_check_face := b13,
    m_check_face := PySem.W.mg_of X G a_13,
    a_check_roll := _, d_check_roll := _, F_check_roll := F14, b_check_roll := b14,
    m_check_roll := PySem.W.mg_of X G a_14,
    a_root_of := _, d_root_of := _, F_root_of := F15, b_root_of := b15,
    m_root_of := PySem.W.mg_of X G a_15,
    a_Drum_begins := _, d_Drum_begins := _, F_Drum_begins := F16, b_Drum_begins := b16,
    me_Drum_begins := ⟨cl0, ⟨a_16, i_16, k_16⟩, (by show ¬ (("begins" : Str) ∈ nmTab 0); decide +kernel)⟩,
    a_Drum_turn_of := _, d_Drum_turn_of := _, F_Drum_turn_of := F17, b_Drum_turn_of := b17,
    me_Drum_turn_of := ⟨cl0, ⟨a_17, i_17, k_17⟩, (by show ¬ (("turn_of" : Str) ∈ nmTab 0); decide +kernel)⟩,
    a_Drum_size := _, d_Drum_size := _, F_Drum_size := F18, b_Drum_size := b18,
    me_Drum_size := ⟨cl0, ⟨a_18, i_18, k_18⟩, (by show ¬ (("size" : Str) ∈ nmTab 0); decide +kernel)⟩,
    a_Drum_where := _, d_Drum_where := _, F_Drum_where := F19, b_Drum_where := b19,
    me_Drum_where := ⟨cl0, ⟨a_19, i_19, k_19⟩, (by show ¬ (("where" : Str) ∈ nmTab 0); decide +kernel)⟩,
    a_Drum_filled := _, d_Drum_filled := _, F_Drum_filled := F20, b_Drum_filled := b20,
    me_Drum_filled := ⟨cl0, ⟨a_20, i_20, k_20⟩, (by show ¬ (("filled" : Str) ∈ nmTab 0); decide +kernel)⟩,
    a_common := _, d_common := _, F_common := F21, b_common := b21,
    m_common := PySem.W.mg_of X G a_21,
    a_Drum_first := _, d_Drum_first := _, F_Drum_first := F22, b_Drum_first := b22,
    me_Drum_first := ⟨cl0, ⟨a_22, i_22, k_22⟩, (by show ¬ (("first" : Str) ∈ nmTab 0); decide +kernel)⟩,
    a_Drum_step := _, d_Drum_step := _, F_Drum_step := F23, b_Drum_step := b23,
    me_Drum_step := ⟨cl0, ⟨a_23, i_23, k_23⟩, (by show ¬ (("step" : Str) ∈ nmTab 0); decide +kernel)⟩,
    a_parts_of := _, d_parts_of := _, F_parts_of := F24, b_parts_of := b24,
    m_parts_of := PySem.W.mg_of X G a_24,
    a_Gap_init := _, d_Gap_init := _, F_Gap_init := F25, b_Gap_init := b25,
    a_Gap_uppers := _, d_Gap_uppers := _, F_Gap_uppers := F26, b_Gap_uppers := b26,
    me_Gap_uppers := ⟨cl1, ⟨a_26, i_26, k_26⟩, (by show ¬ (("uppers" : Str) ∈ nmTab 1); decide +kernel)⟩,
    a_Gap_under := _, d_Gap_under := _, F_Gap_under := F27, b_Gap_under := b27,
    me_Gap_under := ⟨cl1, ⟨a_27, i_27, k_27⟩, (by show ¬ (("under" : Str) ∈ nmTab 1); decide +kernel)⟩,
    a_Gap_lowers := _, d_Gap_lowers := _, F_Gap_lowers := F28, b_Gap_lowers := b28,
    me_Gap_lowers := ⟨cl1, ⟨a_28, i_28, k_28⟩, (by show ¬ (("lowers" : Str) ∈ nmTab 1); decide +kernel)⟩,
    a_piece_places := _, d_piece_places := _, F_piece_places := F29, b_piece_places := b29,
    m_piece_places := PySem.W.mg_of X G a_29,
    a_at_cells := _, d_at_cells := _, F_at_cells := F30, b_at_cells := b30,
    m_at_cells := PySem.W.mg_of X G a_30,
    a_piece := _, d_piece := _, F_piece := F31, b_piece := b31,
    m_piece := PySem.W.mg_of X G a_31,
    a_law_drawn := _, d_law_drawn := _, F_law_drawn := F32, b_law_drawn := b32,
    m_law_drawn := PySem.W.mg_of X G a_32,
    a_between := _, d_between := _, F_between := F33, b_between := b33,
    m_between := PySem.W.mg_of X G a_33,
    a_lows_of := _, d_lows_of := _, F_lows_of := F34, b_lows_of := b34,
    m_lows_of := PySem.W.mg_of X G a_34,
    a_apart := _, d_apart := _, F_apart := F35, b_apart := b35,
    m_apart := PySem.W.mg_of X G a_35,
    a_joining := _, d_joining := _, F_joining := F36, b_joining := b36,
    m_joining := PySem.W.mg_of X G a_36,
    a_along := _, d_along := _, F_along := F37, b_along := b37,
    m_along := PySem.W.mg_of X G a_37,
    a_on_way := _, d_on_way := _, F_on_way := F38, b_on_way := b38,
    m_on_way := PySem.W.mg_of X G a_38,
    a_beneath := _, d_beneath := _, F_beneath := F39, b_beneath := b39,
    m_beneath := PySem.W.mg_of X G a_39,
    a_law_touch := _, d_law_touch := _, F_law_touch := F40, b_law_touch := b40,
    m_law_touch := PySem.W.mg_of X G a_40,
    a_NoBeats_init := _, d_NoBeats_init := _, F_NoBeats_init := F41, b_NoBeats_init := b41,
    a_law_said := _, d_law_said := _, F_law_said := F42, b_law_said := b42,
    m_law_said := PySem.W.mg_of X G a_42,
    a_law := _, d_law := _, F_law := F43, b_law := b43,
    m_law := PySem.W.mg_of X G a_43,
    mg_Gap := PySem.W.mg_of X G aC_1,
    mk_Gap := ⟨mk_1, a_25, i_25, kc_1⟩,
    fl_Gap_turn := ⟨cl1, na_1_0, (by show (nmTab 1).Nodup; decide +kernel), rfl, (by show (nmTab 1).length < 1000; decide)⟩,
    fl_Gap_low_size := ⟨cl1, na_1_1, (by show (nmTab 1).Nodup; decide +kernel), rfl, (by show (nmTab 1).length < 1000; decide)⟩,
    fl_Gap_up_size := ⟨cl1, na_1_2, (by show (nmTab 1).Nodup; decide +kernel), rfl, (by show (nmTab 1).length < 1000; decide)⟩,
    fl_Gap_low_begin := ⟨cl1, na_1_3, (by show (nmTab 1).Nodup; decide +kernel), rfl, (by show (nmTab 1).length < 1000; decide)⟩,
    fl_Gap_up_begin := ⟨cl1, na_1_4, (by show (nmTab 1).Nodup; decide +kernel), rfl, (by show (nmTab 1).length < 1000; decide)⟩,
    fl_Gap_there := ⟨cl1, na_1_5, (by show (nmTab 1).Nodup; decide +kernel), rfl, (by show (nmTab 1).length < 1000; decide)⟩,
    fl_Gap_part := ⟨cl1, na_1_6, (by show (nmTab 1).Nodup; decide +kernel), rfl, (by show (nmTab 1).length < 1000; decide)⟩,
    fl_Gap_many := ⟨cl1, na_1_7, (by show (nmTab 1).Nodup; decide +kernel), rfl, (by show (nmTab 1).length < 1000; decide)⟩,
    mg_Drum := PySem.W.mg_of X G aC_0,
    mk_Drum := ⟨mk_0, a_6, i_6, kc_0⟩,
    fl_Drum_least := ⟨cl0, na_0_0, (by show (nmTab 0).Nodup; decide +kernel), rfl, (by show (nmTab 0).length < 1000; decide)⟩,
    fl_Drum_more := ⟨cl0, na_0_1, (by show (nmTab 0).Nodup; decide +kernel), rfl, (by show (nmTab 0).length < 1000; decide)⟩,
    mg_WetError := PySem.W.mg_of X G aC_7,
    rd_7 := rd_7,
    sp_7 := sp_7,
    fi_7 := fi_7,
    mg_NoCell := PySem.W.mg_of X G aC_10,
    mg_NoFace := PySem.W.mg_of X G aC_14,
    mg_NoBeats := PySem.W.mg_of X G aC_15,
    rc_NoBeats := ⟨⟨_, _, _, _, _, _, _, _, _, _, _, _, _, _, _, lk_15, ref_tail⟩, over_of lk_15, st_15, sx_15, ty_15, kp_15⟩,
    ow_NoBeats := a_41,
    it_NoBeats := it_15,
    tk_NoBeats_beats := tk_15_beats,
    xga_15 := xga_15,
    xgg_15 := xgg_15,
    xhd_15 := xhd_15,
    xha_15 := xha_15,
    xmo_15 := xmo_15,
    xar_15 := xar_15,
    xnf_15_beats := xnf_15_beats,
    xhn := xhn,
    xht := xht,
    xsl_7 := xsl_7,
    xic_7 := xic_7,
    xis_7 := xis_7,
    xsl_10 := xsl_10,
    xic_10 := xic_10,
    xis_10 := xis_10,
    xsl_14 := xsl_14,
    xic_14 := xic_14,
    xis_14 := xis_14,
    xsl_15 := xsl_15,
    xic_15 := xic_15,
    xis_15 := xis_15,
    xbe_7 := xbe_7,
    xbe_10 := xbe_10,
    xbe_14 := xbe_14,
    xbe_15 := xbe_15,
    xsu_15_10 := xsu_15_10,
    xsu_15_14 := xsu_15_14,
    xsu_15_7 := xsu_15_7,
    n_len := PySem.W.mg_none_of X G z_len,
    n_int := PySem.W.mg_none_of X G z_int,
    n_range := PySem.W.mg_none_of X G z_range,
    n_isinstance := PySem.W.mg_none_of X G z_isinstance,
    n_bool := PySem.W.mg_none_of X G z_bool,
    n_min := PySem.W.mg_none_of X G z_min,
    n_max := PySem.W.mg_none_of X G z_max,
    n_tuple := PySem.W.mg_none_of X G z_tuple,
    n_str := PySem.W.mg_none_of X G z_str,
    n_divmod := PySem.W.mg_none_of X G z_divmod,
    n_sorted := PySem.W.mg_none_of X G z_sorted,
    g_MOST := ⟨_, PySem.W.mg_of X G g_MOST⟩,
    g_SIDES := ⟨_, PySem.W.mg_of X G g_SIDES, [V.str "in", V.str "out"], Or.inr ⟨_, _, _, h_SIDES, rfl, rfl, (by show 2 ≤ sizeLine; decide), (Paired.cons ⟨_, rfl⟩ (Paired.cons ⟨_, rfl⟩ Paired.nil))⟩, (RVs.cons RV.ofStr (RVs.cons RV.ofStr RVs.nil))⟩ }) plain⟩
end Lw
end
open PySem L2 Wm
local macro_rules | `(tactic| simp_arith [$ls,*]) => `(tactic| simp (disch := walk_at "okk") only [fnS, envOf, sSeq, sIf, sSet, sAsg, sDrop, sRet, sRetN, sPass, sBrk, sCnt, sPar, sSub, sFldS, asB, tAndS, tOrS, tNotS, tTruth, eIf, eAnd, eOr, eNot, eChain, eTup, eLst, eSlice, oNo, oSome, eBits, e2, e1, eN, eCall, eMeth, eMake, isIns, aCons, aNil, eVar, eC, R.bind, R.bindO, O.seq, dB, dTruth, dAdd, dSub, dLt, dLe, dGt, dGe, dIs, dIsNot, D.isN, dLen, dMax, dMin, dInt, dIx, items, dFld, dSetF, dSetIx, dIsi, D.ty, Ty.is, gN, gT, gAll, Option.bind, Option.map, new,
  List.map_cons, List.map_nil, List.length_cons, List.length_nil, List.replicate, List.getElem?_cons_zero, List.getElem?_cons_succ, List.cons_append, List.nil_append, List.set_cons_zero, List.set_cons_succ, Nat.reduceAdd, Nat.reduceSub, decide_true, decide_false, if_true, if_false, dMul_ok, dDiv_ok, dMod_ok, dPow_ok, dShl_ok, beq_self_eq_true, Bool.not_true, Bool.not_false, reduceIte, reduceCtorEq, Bool.false_eq_true, $ls,*])
local macro_rules | `(tactic| walk_at "bd") => `(tactic| (focus ((repeat' (first | assumption | exact bd_litE (by decide) | (with_reducible apply bd_mulE) | (with_reducible apply bd_addE) | (with_reducible apply bd_subE) | (with_reducible apply bd_div) | (with_reducible apply bd_neg))); done)))
local macro_rules | `(tactic| walk_at "bnd") => `(tactic| (apply bd_mono; walk_at "bd"; decide))
local macro_rules | `(tactic| walk_at "okk") => `(tactic| first | assumption | (apply mulOk_of; walk_at "bd"; walk_at "bd"; decide) | (apply divOk_of; (focus (first | assumption | omega)); walk_at "bnd") | decide | omega)
section
set_option exponentiation.threshold 9000
open PySem L2 Wm
namespace Lw
open PySem L2 Wm Sh
theorem keyOk2 {c d : Int} {s u : Bool} : KeyOk 1 [.tup [.int c, .str (sdS s)], .tup [.int d, .str (sdS u)]] := by
  refine ⟨by decide, rfl, [.str (sdS s), .str (sdS u)], rfl, ?_, Or.inr ?_, ?_⟩
  · intro a ha b hb
    simp only [List.mem_cons, List.not_mem_nil, or_false] at ha hb
    rcases ha with rfl | rfl <;> rcases hb with rfl | rfl <;> cases s <;> cases u <;> decide +kernel
  · intro a ha
    simp only [List.mem_cons, List.not_mem_nil, or_false] at ha
    rcases ha with rfl | rfl <;> exact ⟨fun z => (by cases z), fun xs z => (by cases z)⟩
  · intro a ha
    simp only [List.mem_cons, List.not_mem_nil, or_false] at ha
    rcases ha with rfl | rfl <;> simp [PyData.depth]
theorem mergeSort_two {α : Type} (le : α → α → Bool) (a b : α) : [a, b].mergeSort le = if le a b then [a, b] else [b, a] := by
  simp [List.mergeSort, List.MergeSort.Internal.splitInTwo, List.merge]
theorem srtK2 {c d : Int} {s : Bool} : srtK 1 [.tup [.int c, .str (sdS s)], .tup [.int d, .str (sdS (!s))]] = if s then [.tup [.int c, .str "in"], .tup [.int d, .str "out"]] else [.tup [.int d, .str "in"], .tup [.int c, .str "out"]] := by
  unfold srtK
  cases s
  · have e : PySem.W.dataLe false (fun x => pyD (atT 1 x)) (.tup [.int c, .str (sdS false)]) (.tup [.int d, .str (sdS (!false))]) = false := by
      have : PySem.W.dataLe false (fun x : PyData => x) (.str "out") (.str "in") = false := by decide +kernel
      exact this
    rw [mergeSort_two, e]
    rfl
  · have e : PySem.W.dataLe false (fun x => pyD (atT 1 x)) (.tup [.int c, .str (sdS true)]) (.tup [.int d, .str (sdS (!true))]) = true := by
      have : PySem.W.dataLe false (fun x : PyData => x) (.str "in") (.str "out") = true := by decide +kernel
      exact this
    rw [mergeSort_two, e]
    rfl
theorem dNe_io {h : Hm} : dNe (.tup [.str "in", .str "out"]) (.tup [.str "in", .str "out"]) h = .ok (.bl false) h := by
  unfold dNe pyO D.py pys
  simp only [D.py, pys, Option.map]
  rw [if_pos ⟨by decide +kernel, by decide +kernel⟩, show PyData.eqv (.tuple [.str "in", .str "out"]) (.tuple [.str "in", .str "out"]) = true by decide +kernel]
  rfl
section
variable {h : Hm} {n : Nat} {g a b v y l T k w : Int}
theorem touch_ok (sc : Sc h n g a b v y l T k) {s : Bool} {w' : Int} (i : InP (wd a b T) (wd a b (T + 1)) (lenM a b v y T k) s w) (i' : InP (wd a b T) (wd a b (T + 1)) (lenM a b v y T k) (!s) w') (t : if s then tch (wd a b T) (wd a b (T + 1)) w' w else tch (wd a b T) (wd a b (T + 1)) w w') :
    gcR h (F_law_touch [.obj n, fcD g a b T k s w, fcD g a b T k (!s) w'] h) = .ok (.bl true) h := by
  have T0 := sc.T0
  have k0 := sc.k0
  have k1 := sc.k1
  have bT := sc.bT
  obtain ⟨L, hL⟩ : ∃ L : Ob, L = .lst [fcD g a b T k s w, fcD g a b T k (!s) w'] := ⟨_, rfl⟩
  have key : ∀ (p q : Int), InP (wd a b T) (wd a b (T + 1)) (lenM a b v y T k) true p → tch (wd a b T) (wd a b (T + 1)) q p → srtK 1 [fcD g a b T k s w, fcD g a b T k (!s) w'] = [.tup [.int (cel g a b (T + 1) k p), .str "in"], .tup [.int (cel g a b T k q), .str "out"]] →
      gcR h (F_law_touch [.obj n, fcD g a b T k s w, fcD g a b T k (!s) w'] h) = .ok (.bl true) h := fun p q ip tc es => by
    have i2 := in_le sc ip
    simp only [if_true] at i2
    have eb : ∀ X Y : Ob, F_beneath [.obj n, .int (cel g a b (T + 1) k p)] (h ++ [X] ++ [Y]) = _ := fun X Y => beneath_cel (w := p) (((sc.d.lst X).lst Y)) T0 (bd_mono bT (by decide)) k0 k1 i2.1 i2.2
    obtain ⟨t1, t2⟩ := tc
    have c1 := cel_le (g := g) (a := a) (b := b) (t := T) (k := k) t1
    have c2 := cel_le (g := g) (a := a) (b := b) (t := T) (k := k) t2
    have ln : (h ++ [L])[h.length]? = some (.lst [fcD g a b T k s w, fcD g a b T k (!s) w']) := by rw [hL]; exact hnew
    have ko : KeyOk 1 [fcD g a b T k s w, fcD g a b T k (!s) w'] := keyOk2
    have sz : szOk [D.tup [.int (cel g a b (T + 1) k p), .str "in"], .tup [.int (cel g a b T k q), .str "out"]].length := szOk_of (by simp)
    have e : F_law_touch [.obj n, fcD g a b T k s w, fcD g a b T k (!s) w'] h = .ok (.bl true) (h ++ [L] ++ [.lst [.tup [.int (cel g a b (T + 1) k p), .str "in"], .tup [.int (cel g a b T k q), .str "out"]]]) := by
      have es1 : eSrtK 1 (eLst (aCons (eVar 1) (aCons (eVar 2) aNil))) [some (.obj n), some (fcD g a b T k s w), some (fcD g a b T k (!s) w'), none, none, none] h = .ok (.obj (h ++ [L]).length) (h ++ [L] ++ [.lst [.tup [.int (cel g a b (T + 1) k p), .str "in"], .tup [.int (cel g a b T k q), .str "out"]]]) := by
        unfold eSrtK
        simp_arith [sz2, ← hL, ln]
        simp only [hL]
        rw [if_pos ko, es]
      have seq : sAsgL [(gN 3), (gN 4)] (eSrtK 1 (eLst (aCons (eVar 1) (aCons (eVar 2) aNil)))) [some (.obj n), some (fcD g a b T k s w), some (fcD g a b T k (!s) w'), none, none, none] h = .nx [some (.obj n), some (fcD g a b T k s w), some (fcD g a b T k (!s) w'), some (.tup [.int (cel g a b (T + 1) k p), .str "in"]), some (.tup [.int (cel g a b T k q), .str "out"]), none] (h ++ [L] ++ [.lst [.tup [.int (cel g a b (T + 1) k p), .str "in"], .tup [.int (cel g a b T k q), .str "out"]]]) := by
        have l2 : (h ++ [L] ++ [Ob.lst [.tup [.int (cel g a b (T + 1) k p), .str "in"], .tup [.int (cel g a b T k q), .str "out"]]])[(h ++ [L]).length]? = some (.lst [.tup [.int (cel g a b (T + 1) k p), .str "in"], .tup [.int (cel g a b T k q), .str "out"]]) := hnew
        unfold sAsgL
        rw [es1]
        simp only [R.bindO, l2]
        rfl
      unfold F_law_touch b_law_touch
      have p0 : ∀ x y : D, atI [x, y] 0 = some x := fun _ _ => rfl
      have p1 : ∀ x y : D, atI [x, y] 1 = some y := fun _ _ => rfl
      simp_arith [seq, dNe_io, eb, gc_t2, c1, c2, p0, p1, if_pos (show szOk 2 from szOk_of (by decide))]
    rw [e, List.append_assoc]
    exact gc_keep rfl
  cases s
  · exact key w' w i' t srtK2
  · exact key w w' i t srtK2
end
theorem wy_uniq {E Z M m w w' w1 w2 : Int} {s s' s1 s2 : Bool} (P : Pc E Z M) (i : InP E Z M s w) (i' : InP E Z M s' w') (j : InP E Z M s1 w1) (j2 : InP E Z M s2 w2) (a1 : dst E Z s w s1 w1 = m) (a2 : dst E Z s1 w1 s' w' = dst E Z s w s' w' - m)
    (b1 : dst E Z s w s2 w2 = m) (b2 : dst E Z s2 w2 s' w' = dst E Z s w s' w' - m) : s1 = s2 ∧ w1 = w2 := by
  by_cases c1 : s = s1 ∧ w = w1
  · obtain ⟨rfl, rfl⟩ := c1
    rw [dst_eq] at a1
    exact dst_zero P i j2 (by omega)
  by_cases c2 : s = s2 ∧ w = w2
  · obtain ⟨rfl, rfl⟩ := c2
    rw [dst_eq] at b1
    have := dst_zero P i j (by omega)
    exact ⟨this.1.symm, this.2.symm⟩
  by_cases c3 : s1 = s' ∧ w1 = w'
  · obtain ⟨rfl, rfl⟩ := c3
    rw [dst_eq] at a2
    have := dst_zero P j2 i' (by omega)
    exact ⟨this.1.symm, this.2.symm⟩
  by_cases c4 : s2 = s' ∧ w2 = w'
  · obtain ⟨rfl, rfl⟩ := c4
    rw [dst_eq] at b2
    exact dst_zero P j i' (by omega)
  have l1 := dst_line P i j c1
  have l2 := dst_line P i j2 c2
  have l3 := dst_line P j i' c3
  have l4 := dst_line P j2 i' c4
  obtain ⟨r0, r1, r2, r3⟩ := ps_rng P j
  obtain ⟨t0, t1, t2, t3⟩ := ps_rng P j2
  obtain ⟨x0, x1, x2, x3⟩ := ps_rng P i
  obtain ⟨z0, z1, z2, z3⟩ := ps_rng P i'
  by_cases c5 : s = s' ∧ w = w'
  · obtain ⟨rfl, rfl⟩ := c5
    rw [dst_eq] at a2 b2
    have n1 : 0 ≤ dst E Z s w s1 w1 := dst_nn
    have n2 : 0 ≤ dst E Z s1 w1 s w := dst_nn
    exact (c1 (dst_zero P i j (by omega))).elim
  have l5 := dst_line P i i' c5
  have h1 : hr E Z s1 w1 = 0 := by split at l1 <;> split at l3 <;> split at l5 <;> omega
  have h2 : hr E Z s2 w2 = 0 := by split at l2 <;> split at l4 <;> split at l5 <;> omega
  have pe : ps E Z s1 w1 = ps E Z s2 w2 := by split at l1 <;> split at l2 <;> split at l3 <;> split at l4 <;> split at l5 <;> omega
  obtain ⟨u1, u2⟩ := sp_of P j h1
  obtain ⟨v1, v2⟩ := sp_of P j2 h2
  rw [← pe] at v1 v2
  exact ⟨u1.trans v1.symm, u2.trans v2.symm⟩
structure Wy (n : Nat) (g a b l : Int) (x z : D) (far : Int) (f : Int → D) : Prop where
  f0 : 0 ≤ far
  bf : bd 175 far
  fc : ∃ c s, x = .tup [.int c, .str (sdS s)]
  ff : ∀ m, ∃ c s, f m = .tup [.int c, .str (sdS s)]
  l1 : 1 ≤ l
  ck : ∀ H, F_check_face [.int l, x] H = .ok .non H
  ap : ∀ H, Dq H n g a b → gcR H (F_apart [.obj n, .int l, x, z] H) = .ok (.int far) H
  way : ∀ H m, Dq H n g a b → 0 ≤ m → m ≤ far → gcR H (F_on_way [.obj n, .int l, x, z, .int m] H) = .ok (f m) H
  a1 : ∀ H m, Dq H n g a b → 0 ≤ m → m ≤ far → gcR H (F_apart [.obj n, .int l, x, f m] H) = .ok (.int m) H
  a2 : ∀ H m, Dq H n g a b → 0 ≤ m → m ≤ far → gcR H (F_apart [.obj n, .int l, f m, z] H) = .ok (.int (far - m)) H
  back : ∀ H m, Dq H n g a b → 0 ≤ m → m ≤ far → gcR H (F_on_way [.obj n, .int l, z, x, .int (far - m)] H) = .ok (f m) H
  tc : ∀ H m, Dq H n g a b → 0 ≤ m → m < far → gcR H (F_law_touch [.obj n, f m, f (m + 1)] H) = .ok (.bl true) H
section
variable {h : Hm} {n : Nat} {g a b v y l T k w : Int}
theorem wy_pc (sc : Sc h n g a b v y l T k) {s s' : Bool} {w' : Int} (i : InP (wd a b T) (wd a b (T + 1)) (lenM a b v y T k) s w) (i' : InP (wd a b T) (wd a b (T + 1)) (lenM a b v y T k) s' w') :
    Wy n g a b l (fcD g a b T k s w) (fcD g a b T k s' w') (dst (wd a b T) (wd a b (T + 1)) s w s' w') (fun m => fcD g a b T k (wyS (wd a b T) (wd a b (T + 1)) s w s' w' m) (wyW (wd a b T) (wd a b (T + 1)) s w s' w' m)) := by
  have P := sc.pc
  have Z1 : 1 ≤ wd a b (T + 1) := by have := P.E1; have := P.EZ; omega
  obtain ⟨d0, bd0⟩ := dst_bd sc i i'
  have mk : ∀ H, Dq H n g a b → Sc H n g a b v y l T k := fun H d => sc.go d
  have wi := fun m (m0 : 0 ≤ m) (m1 : m ≤ dst (wd a b T) (wd a b (T + 1)) s w s' w') => wy_in P i i' m0 m1
  refine ⟨d0, bd0, ⟨_, _, rfl⟩, fun m => ⟨_, _, rfl⟩, sc.R.l1 sc.d, fun H => ck_fc sc i H, fun H d => apart_ok (mk H d) i i', fun H m d m0 m1 => ?_, fun H m d m0 m1 => ?_, fun H m d m0 m1 => ?_, fun H m d m0 m1 => ?_, fun H m d m0 m1 => ?_⟩
  · rw [way_ok (mk H d) i i' m0 m1, way_eq P i i' m0 m1]
  · obtain ⟨j, j1, _⟩ := wi m m0 m1
    have := apart_ok (mk H d) i j
    rw [j1] at this; exact this
  · obtain ⟨j, _, j2, _⟩ := wi m m0 m1
    have := apart_ok (mk H d) j i'
    rw [j2] at this; exact this
  · obtain ⟨j, j1, j2, _⟩ := wi m m0 m1
    have e0 : dst (wd a b T) (wd a b (T + 1)) s' w' s w = dst (wd a b T) (wd a b (T + 1)) s w s' w' := dst_symm
    have m0' : 0 ≤ dst (wd a b T) (wd a b (T + 1)) s w s' w' - m := by omega
    have m1' : dst (wd a b T) (wd a b (T + 1)) s w s' w' - m ≤ dst (wd a b T) (wd a b (T + 1)) s' w' s w := by rw [e0]; omega
    rw [way_ok (mk H d) i' i m0' m1', way_eq P i' i m0' m1']
    obtain ⟨j', k1, k2, _⟩ := wy_in P i' i m0' m1'
    rw [e0] at k2
    have := wy_uniq P i i' j j' j1 j2 (by rw [dst_symm, k2]; omega) (by rw [dst_symm, k1])
    rw [this.1, this.2]
  · obtain ⟨j, _⟩ := wi m m0 (by omega)
    obtain ⟨j', _⟩ := wi (m + 1) (by omega) (by omega)
    obtain ⟨t1, t2⟩ := dst_one Z1 (way_touch P i i' m0 m1)
    have q := touch_ok (mk H d) j (s := wyS (wd a b T) (wd a b (T + 1)) s w s' w' m) (by rw [← t1]; exact j') t2
    rw [← t1] at q
    exact q
theorem wy_lone (d : Dq h n g a b) (R : Rl g a b v y l) {x : D} (A : Af h n g a b v y l x) : Wy n g a b l x x 0 (fun _ => x) := by
  obtain ⟨c, s, e⟩ := A.tup d R
  have lx : ∀ j, x.lows j = true := fun j => by rw [e]; rfl
  have mz : ∀ m : Int, 0 ≤ m → m ≤ 0 → m = 0 := fun m a b => by omega
  refine ⟨by decide, by unfold bd; decide, ⟨c, s, e⟩, fun _ => ⟨c, s, e⟩, R.l1 d, A.ck d R, fun H dH => self_at d R A H n dH, fun H m dH m0 m1 => ?_, fun H m dH m0 m1 => ?_, fun H m dH m0 m1 => ?_, fun H m dH m0 m1 => ?_, fun H m dH m0 m1 => by omega⟩ <;> rw [mz m m0 m1]
  · exact way_self' d R A lx H n dH
  · exact self_at d R A H n dH
  · exact self_at d R A H n dH
  · exact way_self' d R A lx H n dH
end
theorem dNe_fc {h : Hm} {x : D} (fc : ∃ c s, x = .tup [.int c, .str (sdS s)]) : dNe x x h = .ok (.bl false) h := by
  obtain ⟨c, s, rfl⟩ := fc
  exact dNe_refl (q := .tuple [.int c, .str (sdS s)]) rfl sh_face
theorem gcX_non {h : Hm} {c : Nat} {o : D} (l : o.lows h.length = true) : gcX h (.exc c [o] h) = .exc c [o] h := by
  have := gcX_app (h := h) (g := []) (c := c) (fs := [o]) (by simp [lowsL, l])
  simpa using this
theorem ox_bad {h : Hm} {n : Nat} {l far : Int} {x z o : D} (ea : gcR h (F_apart [.obj n, .int l, x, z] h) = .ok (.int far) h) (bo : F_is_whole [o] h = .ok (.bl false) h ∨ ∃ i, o = .int i ∧ (i < 0 ∨ far < i)) :
    F_on_way_x [.obj n, .int l, x, z, o] h = .exc 15 [o] h := by
  unfold F_on_way_x b_on_way_x
  rcases bo with w | ⟨i, rfl, i1⟩
  · simp_arith [ea, w, gc_bl, sRaise, List.reverse_cons, List.reverse_nil]
  · have e : ¬ (0 ≤ i ∧ i ≤ far) := by omega
    by_cases c : 0 ≤ i
    · have c2 : ¬ i ≤ far := by omega
      simp_arith [ea, is_whole_int, gc_bl, c, c2, sRaise, List.reverse_cons, List.reverse_nil]
    · simp_arith [ea, is_whole_int, gc_bl, c, sRaise, List.reverse_cons, List.reverse_nil]
theorem said_ok {h : Hm} {a b c d o : D} (lw : o.lows h.length = true) (e : F_on_way_x [a, b, c, d, o] h = .exc 15 [o] h) : F_law_said [a, b, c, d, o] h = .ok (.obj h.length) (h ++ [.lst [o, .bl false]]) := by
  have et : sTry [15] F_on_way_x (aCons (eVar 0) (aCons (eVar 1) (aCons (eVar 2) (aCons (eVar 3) (aCons (eVar 4) aNil))))) sPass [(15, (some 6), (fun z c fs => (sSet 5 (eLst (aCons (eXf z c fs "beats" (eVar 6)) (aCons (e1 (dIsXt z c [10, 14]) (eVar 6)) aNil)))))), (7, none, (fun z c fs => (sSet 5 (eC (.str "other")))))]
      [some a, some b, some c, some d, some o, some (.str "none"), none] h = .nx [some a, some b, some c, some d, some o, some (.obj h.length), none] (h ++ [.lst [o, .bl false]]) := by
    refine try_first (ds := [a, b, c, d, o]) (h1 := h) (c := 15) (fs := [o]) (h2 := h) (by simp_arith []) (by rw [e]; exact gcX_non lw) rfl rfl fun z => ?_
    have l1 : (exNm 15).contains ("beats" : Str) = true := by decide +kernel
    have l2 : ((exNm 15).zip [o]).lookup ("beats" : Str) = some o := rfl
    have l3 : List.any [10, 14] (isSub 15) = false := by decide
    have s2 : (if szOk (0 + 1 + 1) then R.ok (D.obj h.length) (h ++ [Ob.lst [o, .bl false]]) else R.bad) = R.ok (D.obj h.length) (h ++ [Ob.lst [o, .bl false]]) := sz2
    simp_arith [bindI, eXf, l1, l2, l3, dIsXt, s2, noX, offO]
  unfold F_law_said b_law_said
  simp_arith [et]
theorem mem7 {v a b c d e f g : D} (h : v ∈ [a, b, c, d, e, f, g]) : v = a ∨ v = b ∨ v = c ∨ v = d ∨ v = e ∨ v = f ∨ v = g := by simpa using h
theorem sz5 : szOk (0 + 1 + 1 + 1 + 1 + 1) := szOk_of (by decide)
theorem sz7 : szOk (0 + 1 + 1 + 1 + 1 + 1 + 1 + 1) := szOk_of (by decide)
theorem p20e : (10 : Int) ^ (20 : Int).toNat = 100000000000000000000 := by decide
theorem pw20 : powOk 10 20 := by decide
end Lw
end
section
set_option exponentiation.threshold 9000
open PySem L2 Wm
namespace Lw
open PySem L2 Wm Sh
theorem rest20 {h : Hm} {n m j : Nat} {g a b l far t y x_cell : Int} {L : List D} {x z x0 lo up : D} {f : Int → D} {v13 v14 v15 v16 v17 v18 : Option D} (sx : Sx L m j h) (hj : j < 100) (nm : n ≠ m) (dq : Dq h n g a b) (W : Wy n g a b l x z far f) :
    Good ((sSeq c_law_b0_b10 (sSeq c_law_b0_b11 (sSeq c_law_b0_b12 (sSeq c_law_b0_b13 (sSeq c_law_b0_b14 c_law_b0_b15))))) [some (.obj 0), some (D.int x_cell), some (.obj m), some (.int (g * a)), some (.int (g * b)), some (.obj n), some (.tup [.int t, .int y, .int l]), some (.int l), some x0, some lo, some up, some x, some z, v13, v14, v15, v16, v17, v18] h) (fun e' h' => h'[3]? = some (Ob.lst L) ∧ ∃ e2, e' = some (D.obj 0) :: e2 ∧ e2.length = 17 + 1) (fun d _ => d = .bl true) := by
  have f0 := W.f0
  have bf := W.bf
  have dv2 : divOk 2 := by decide
  refine wp_seq (wp_set (d := .int far) (h1 := h) (by simp_arith [W.ap h dq]) ?_)
  simp only [List.set_cons_succ, List.set_cons_zero]
  obtain ⟨L5, hL5⟩ : ∃ L5 : List D, L5 = [.int 0, .int (if far < 1 then far else 1), .int (far / 2), .int (if far - 1 > 0 then far - 1 else 0), .int far] := ⟨_, rfl⟩
  have szL5 : szOk L5.length := szOk_of (by rw [hL5]; simp)
  have mn : ∀ H, dMin [.int 1, .int far] H = .ok (.int (if far < 1 then far else 1)) H := fun H => rfl
  have mx : ∀ H, dMax [.int 0, .int (far - 1)] H = .ok (.int (if far - 1 > 0 then far - 1 else 0)) H := fun H => rfl
  obtain ⟨hA, hhA⟩ : ∃ hA, hA = h ++ [Ob.lst L5] := ⟨_, rfl⟩
  have sA : Sx L m j hA := by rw [hhA]; exact sx.app _
  have dA : Dq hA n g a b := by rw [hhA]; exact dq.lst _
  have b1 : bd 8000 (far + 1) := bd_add (a := 7000) (bd_mono bf (by decide)) (bd_lit (by decide) (by decide)) (by decide)
  refine wp_seq (wp_set (d := .obj h.length) (h1 := hA) (by simp_arith [mn, mx, dDiv, dv2, if_pos sz5, ← hL5, ← hhA, if_pos szL5]) ?_)
  simp only [List.set_cons_succ, List.set_cons_zero]
  have lA : hA[h.length]? = some (.lst L5) := by rw [hhA]; exact hnew
  obtain ⟨r1, hB, r10, r11, eg1, wg1⟩ := great_ok (many := far + 1) sA.src (by omega) (by omega)
  obtain ⟨r2, hC, r20, r21, eg2, wg2⟩ := great_ok (many := far + 1) wg1.src (by omega) (by omega)
  have hm : h.length ≠ m := Nat.ne_of_gt sx.lt
  have lC : hC[h.length]? = some (.lst L5) := ((wg1.hk.trans wg2.hk).at_ _ (hlt lA) hm).trans lA
  have sC := (sA.dw wg1).dw wg2
  have dC : Dq hC n g a b := (wg1.hk.trans wg2.hk).dq dA nm
  obtain ⟨LS, hLS⟩ : ∃ LS : List D, LS = L5 ++ [.int r1, .int r2] := ⟨_, rfl⟩
  have mLS : ∀ z ∈ LS, ∃ B : Int, z = .int B ∧ 0 ≤ B ∧ B ≤ far := by
    intro z hz
    rw [hLS, hL5] at hz
    simp only [List.cons_append, List.nil_append, List.mem_cons, List.not_mem_nil, or_false] at hz
    rcases hz with rfl | rfl | rfl | rfl | rfl | rfl | rfl
    all_goals refine ⟨_, rfl, ?_, ?_⟩ <;> first | omega | (split <;> omega)
  obtain ⟨hD, hhD⟩ : ∃ hD, hD = hC ++ [Ob.lst [.int r1, .int r2]] := ⟨_, rfl⟩
  obtain ⟨hE, hhE⟩ : ∃ hE, hE = hD ++ [Ob.lst LS] := ⟨_, rfl⟩
  have s2' : szOk (0 + 1 + 1) := szOk_of (by decide)
  have lD1 : hD[h.length]? = some (.lst L5) := by rw [hhD, happ (hlt lC)]; exact lC
  have lD2 : hD[hC.length]? = some (.lst [.int r1, .int r2]) := by rw [hhD]; exact hnew
  have szS : szOk (L5.length + [D.int r1, .int r2].length) := szOk_of (by rw [hL5]; simp)
  have add : dAdd (.obj h.length) (.obj hC.length) hD = .ok (.obj hD.length) hE := by
    unfold dAdd
    simp only [lD1, lD2]
    unfold new
    rw [if_pos szS, hhE, hLS]
  refine wp_seq (wp_set (d := .obj hD.length) (h1 := hE) (by simp_arith [eg1, eg2, if_pos s2', if_pos (show szOk 2 from s2'), ← hhD, dAdd, lD1, lD2, if_pos (show szOk (L5.length + 2) from szS), ← hLS, ← hhE]) ?_)
  simp only [List.set_cons_succ, List.set_cons_zero]
  have sE : Sx L m (j + 3 + 3) hE := by rw [hhE, hhD]; exact (sC.app _).app _
  have dE : Dq hE n g a b := by rw [hhE, hhD]; exact (dC.lst _).lst _
  have lE : hE[hD.length]? = some (.lst LS) := by rw [hhE]; exact hnew
  clear eg1 eg2 add
  refine wp_seq (Good.mono (N := fun e h' => h' = hE ∧ ∃ v15 v16 v17, e = [some (.obj 0), some (D.int x_cell), some (.obj m), some (.int (g * a)), some (.int (g * b)), some (.obj n), some (.tup [.int t, .int y, .int l]), some (.int l), some x0, some lo, some up, some x, some z, some (.int far), some (.obj hD.length), v15, v16, v17, v18]) ?_ ?_)
  · refine wp_for (it := ⟨LS, fun h2 => h2[hD.length]? = some (.lst LS)⟩) (h1 := hE) (by unfold wSeq; simp_arith [lE]) (fun ys e h => h = hE ∧ (∀ z ∈ ys, ∃ B : Int, z = .int B ∧ 0 ≤ B ∧ B ≤ far) ∧ ∃ v15 v16 v17, e = [some (.obj 0), some (D.int x_cell), some (.obj m), some (.int (g * a)), some (.int (g * b)), some (.obj n), some (.tup [.int t, .int y, .int l]), some (.int l), some x0, some lo, some up, some x, some z, some (.int far), some (.obj hD.length), v15, v16, v17, v18]) ?_ ?_ ?_ ?_
    · exact ⟨rfl, mLS, _, _, _, rfl⟩
    · rintro ys e h ⟨rfl, _⟩; exact lE
    · rintro zz ys e h ⟨rfl, hys, v15, v16, v17, rfl⟩
      obtain ⟨B, rfl, B0, B1⟩ := hys _ List.mem_cons_self
      refine ⟨_, rfl, ?_⟩
      simp only [List.set_cons_succ, List.set_cons_zero]
      unfold B_law_b0_b13_b
      refine wp_seq (wp_set (d := f B) (h1 := h) (by simp_arith [W.way h B dE B0 B1]) ?_)
      simp only [List.set_cons_succ, List.set_cons_zero]
      refine wp_seq (wp_skip (h1 := h) (by simp_arith [W.a1 h B dE B0 B1, W.a2 h B dE B0 B1, dNe_int, eq_self]) ?_)
      refine wp_seq (wp_skip (h1 := h) (by simp_arith [W.back h B dE B0 B1, dNe_fc (W.ff B)]) ?_)
      by_cases c : B < far
      · unfold c_law_b0_b13_b3
        refine wp_if (b := true) (h1 := h) (by simp_arith [dLt, c]) (fun _ => ?_) (fun z => by cases z)
        unfold B_law_b0_b13_b3_t
        refine wp_seq (wp_set (d := f (B + 1)) (h1 := h) (by simp_arith [W.way h (B + 1) dE (by omega) (by omega)]) ?_)
        simp only [List.set_cons_succ, List.set_cons_zero]
        exact wp_skip (h1 := h) (by simp_arith [W.tc h B dE B0 c]) ⟨rfl, fun z hz => hys z (List.mem_cons_of_mem _ hz), _, _, _, rfl⟩
      · exact wp_skip (h1 := h) (by simp_arith [dLt, c]) ⟨rfl, fun z hz => hys z (List.mem_cons_of_mem _ hz), _, _, _, rfl⟩
    · rintro e h ⟨rfl, _, v15, v16, v17, rfl⟩; exact ⟨rfl, _, _, _, rfl⟩
  rintro e h' ⟨rfl, v15, v16, v17, rfl⟩
  -- what is no number
  obtain ⟨r3, hF, r30, r31, eg3, wg3⟩ := great_ok (many := 100000000000000000000) sE.src (by omega) (by decide)
  have sF := sE.dw wg3
  have dF : Dq hF n g a b := wg3.hk.dq dE nm
  obtain ⟨ov, hG, ovm, eo, sG, kG, lenG⟩ := Src.oneD sF.src [.int (far + 1), .int (-1), .non, .bl true, .str "0", .tup [.int 0], .int (far + r3 + 1)] (by omega) (by simp) (by simp) (by simp [D.lows, lowsL])
  have dG : Dq hG n g a b := kG.dq dF nm
  have l3G : hG[3]? = some (.lst L) := kG.three sF.m3 sF.l3
  refine wp_seq (wp_set (d := ov) (h1 := hG) (by simp_arith [dNeg, p20e, pw20, eg3, sz2, if_pos (show szOk (0 + 1) from szOk_of (by decide)), if_pos sz7, eo]) ?_)
  simp only [List.set_cons_succ, List.set_cons_zero]
  clear eg3 eo
  have px : (F_is_whole [ov] hG = .ok (.bl false) hG ∨ ∃ i, ov = .int i ∧ (i < 0 ∨ far < i)) ∧ ov.lows hG.length = true ∧ ∃ d, D.py ov = some d ∧ SeqAt.shaped (.list [d, .bool false]) = true ∧ PyData.eqv (.list [d, .bool false]) (.list [d, .bool false]) = true := by
    rcases mem7 ovm with rfl | rfl | rfl | rfl | rfl | rfl | rfl
    · exact ⟨Or.inr ⟨_, rfl, Or.inr (by omega)⟩, rfl, _, rfl, rfl, SeqAt.eqv_refl _ rfl⟩
    · exact ⟨Or.inr ⟨_, rfl, Or.inl (by decide)⟩, rfl, _, rfl, rfl, SeqAt.eqv_refl _ rfl⟩
    · exact ⟨Or.inl (is_whole_wh rfl), rfl, _, rfl, rfl, SeqAt.eqv_refl _ rfl⟩
    · exact ⟨Or.inl (is_whole_wh rfl), rfl, _, rfl, rfl, SeqAt.eqv_refl _ rfl⟩
    · exact ⟨Or.inl (is_whole_wh rfl), rfl, .str "0", rfl, by decide +kernel, by decide +kernel⟩
    · exact ⟨Or.inl (is_whole_wh rfl), rfl, _, rfl, rfl, SeqAt.eqv_refl _ rfl⟩
    · exact ⟨Or.inr ⟨_, rfl, Or.inr (by omega)⟩, rfl, _, rfl, rfl, SeqAt.eqv_refl _ rfl⟩
  obtain ⟨px1, px2, d, pd1, pd2, pd3⟩ := px
  have es := said_ok px2 (ox_bad (z := z) (W.ap hG dG) px1)
  have pl : ∀ (H : Hm) (i : Nat), H[i]? = some (.lst [ov, .bl false]) → pyO H (.obj i) = some (.list [d, .bool false]) := fun H i e => by
    unfold pyO
    simp only [e, pys, pd1, D.py]
    rfl
  have nn : dNe (.obj hG.length) (.obj (hG ++ [Ob.lst [ov, .bl false]]).length) (hG ++ [Ob.lst [ov, .bl false]] ++ [Ob.lst [ov, .bl false]]) = .ok (.bl false) (hG ++ [Ob.lst [ov, .bl false]] ++ [Ob.lst [ov, .bl false]]) := by
    unfold dNe
    rw [pl _ _ (by rw [happ (by simp)]; exact hnew), pl _ _ hnew]
    simp only [pd2, pd3, and_self, if_true]
    rfl
  refine wp_skip (h1 := hG ++ [Ob.lst [ov, .bl false]] ++ [Ob.lst [ov, .bl false]]) (by simp_arith [es, gc_obj, sz2, nn]) ?_
  exact ⟨by rw [List.append_assoc, happ (hlt l3G)]; exact l3G, _, rfl, rfl⟩
theorem plain : Plain := fun ns hl hb => law_loop (N := 17) (B := B_law_b0_b) (q := 6) ns hl hb fun L x_cell h e bx h3 he => by
  match e, he with
  | [v2, v3, v4, v5, v6, v7, v8, v9, v10, v11, v12, v13, v14, v15, v16, v17, v18], _ =>
  unfold B_law_b0_b
  obtain ⟨m, h1, e1, s2⟩ := src_start (h := h) bx h3
  refine wp_seq (wp_set (d := .obj m) (h1 := h1) (by simp_arith [e1]) ?_)
  clear e1 h3
  simp only [List.set_cons_succ, List.set_cons_zero]
  obtain ⟨f, st, h3, e5, w6, f1, f2, st0, st2⟩ := drumG_ok s2.src (by decide)
  have s4 := s2.dw w6
  refine wp_seq (wp_asg (d := .tup [.int f, .int st]) (h1 := h3) (by simp_arith [e5]) rfl ?_)
  clear e5
  simp only [List.set_cons_succ, List.set_cons_zero]
  obtain ⟨n, h7, hn_n, e9, s8, d_n, nm_n, k10⟩ := s4.drum (f := f) (st := st) (by omega) (by omega) (by omega) (by omega)
  refine wp_seq (wp_set (d := .obj n) (h1 := h7) (by simp_arith [hn_n, e9]) ?_)
  clear e9 hn_n
  simp only [List.set_cons_succ, List.set_cons_zero]
  obtain ⟨t, y, h20, er, w20, t1, t2, y1, y2⟩ := roll_ok s8.src (by decide) f1 f2 st0 st2
  have s20 := s8.dw w20
  have d20 := w20.hk.dr d_n nm_n
  refine wp_seq (wp_set (d := .tup [.int t, .int y, .int (beg f st t + y)]) (h1 := h20) (by simp_arith [er]) ?_)
  simp only [List.set_cons_succ, List.set_cons_zero]
  obtain ⟨g, a, b, hfa, hsb, _, _, dq⟩ := d20.dq f2 st2
  subst hfa
  subst hsb
  obtain ⟨l, hl⟩ : ∃ l, l = beg (g * a) (g * b) t + y := ⟨_, rfl⟩
  rw [← hl]
  refine wp_seq (wp_set (d := .int l) (h1 := h20) (by simp_arith [at32]) ?_)
  simp only [List.set_cons_succ, List.set_cons_zero]
  obtain ⟨x, h21, ef, w21, dx, Ax⟩ := aface (l := l) s20.src (by decide) dq nm_n f2 st2 t1 t2 y1 y2 hl
  have s21 := s20.dw w21
  refine wp_seq (wp_set (d := x) (h1 := h21) (by simp_arith [ef]) ?_)
  simp only [List.set_cons_succ, List.set_cons_zero]
  have R : Rl g a b t y l := ⟨hl, y1, by rw [← gwd]; exact y2, by omega, bd_lit (by omega) (by decide)⟩
  by_cases al : Afp h21 n g a b t y l x
  · obtain ⟨T, k, s, w, ex, sc, i⟩ := al
    have eP := piece_pc sc i
    rw [← ex] at eP
    refine wp_seq (wp_asg (d := .tup [lowD g a b t y T k, upD g a b t y T k]) (h1 := h21) (by simp_arith [eP]) rfl ?_)
    simp only [List.set_cons_succ, List.set_cons_zero]
    refine wp_seq (wp_set (d := x) (h1 := h21) (by simp_arith []) ?_)
    simp only [List.set_cons_succ, List.set_cons_zero]
    refine wp_seq (wp_set (d := x) (h1 := h21) (by simp_arith []) ?_)
    simp only [List.set_cons_succ, List.set_cons_zero]
    unfold c_law_b0_b9 B_law_b0_b9_t
    obtain ⟨s0, w0, h23, e0, w23, i0⟩ := drawn_ok s21.src (by decide) sc
    have sc23 := sc.keep (w23.hk.at_ n (hlt sc.d.dr.at_) nm_n)
    obtain ⟨s1, w1, h24, e1, w24, i1⟩ := drawn_ok w23.src (by decide) sc23
    have sc24 := sc23.keep (w24.hk.at_ n (hlt sc23.d.dr.at_) nm_n)
    have s24 := (s21.dw w23).dw w24
    refine wp_seq (wp_if (b := true) (h1 := h21) (by simp_arith [lowD, upD]) (fun _ => ?_) (fun z => by cases z))
    refine wp_seq (wp_set (d := fcD g a b T k s0 w0) (h1 := h23) (by simp_arith [e0]) ?_)
    simp only [List.set_cons_succ, List.set_cons_zero]
    refine wp_set (d := fcD g a b T k s1 w1) (h1 := h24) (by simp_arith [e1]) ?_
    simp only [List.set_cons_succ, List.set_cons_zero]
    exact rest20 s24 (by decide) nm_n sc24.d (wy_pc sc24 i0 i1)
  · obtain ⟨lo, up, hs, _, eP⟩ := Ax.lone_piece dx R al
    refine wp_seq (wp_asg (d := .tup [lo, up]) (h1 := h21) (by simp_arith [eP]) rfl ?_)
    simp only [List.set_cons_succ, List.set_cons_zero]
    refine wp_seq (wp_set (d := x) (h1 := h21) (by simp_arith []) ?_)
    simp only [List.set_cons_succ, List.set_cons_zero]
    refine wp_seq (wp_set (d := x) (h1 := h21) (by simp_arith []) ?_)
    simp only [List.set_cons_succ, List.set_cons_zero]
    have sk : tAndS (asB (Wm.e2 dIsNot (eVar 9) (eC .non))) (asB (Wm.e2 dIsNot (eVar 10) (eC .non))) [some (.obj 0), some (D.int x_cell), some (.obj m), some (.int (g * a)), some (.int (g * b)), some (.obj n), some (.tup [.int t, .int y, .int l]), some (.int l), some x, some lo, some up, some x, some x, v13, v14, v15, v16, v17, v18] h21 = .ok false h21 := by
      rcases hs with rfl | ⟨rfl, p, rfl⟩
      · simp_arith []
      · simp_arith []
    refine wp_seq (wp_skip (h1 := h21) sk ?_)
    exact rest20 s21 (by decide) nm_n dx (wy_lone dx R Ax)
end Lw
end
open PySem PySem.W PyProof.Rows
set_option maxRecDepth 100000 in
set_option maxHeartbeats 0 in
theorem PySem.Challenge.cw_wetmarks_k20_whole_the_only_way_holds : PySem.Challenge.rw_wetmarks_k20_whole_the_only_way.Holds := by
  w_on; o_law; k_head; (case hw => w_witness2)
  k_fill
  refine Wm.walkT (l := PySem.Challenge.rw_wetmarks_k20_whole_the_only_way) (k := 11) (x := "_law_script") rfl rfl ⟨rfl, by decide, by decide⟩ (fun w h Y => PySem.W.km_in_of Y) ?F
  case F =>
    intro w mg fa h Y KX G hmg
    refine' Lw.all_mk KX G hmg ?aC_1 ?mk_1 ?kc_1 ?aC_0 ?mk_0 ?kc_0 ?aC_7 ?rd_7 ?sp_7 ?fi_7 ?aC_10 ?aC_14 ?aC_15 ?a_0 ?l_0 ?c_0 ?k_0 ?a_1 ?l_1 ?c_1 ?k_1 ?a_2 ?l_2 ?c_2 ?k_2 ?a_3 ?l_3 ?c_3 ?k_3 ?a_4 ?l_4 ?c_4 ?k_4 ?a_5 ?l_5 ?c_5 ?k_5 ?a_6 ?i_6 ?l_6 ?c_6 ?k_6 ?a_7 ?l_7 ?c_7 ?k_7 ?a_8 ?l_8 ?c_8 ?k_8 ?a_9 ?l_9 ?c_9 ?k_9 ?a_10 ?l_10 ?c_10 ?k_10 ?a_11 ?l_11 ?c_11 ?k_11 ?a_12 ?l_12 ?c_12 ?k_12 ?a_13 ?l_13 ?c_13 ?k_13 ?a_14 ?l_14 ?c_14 ?k_14 ?a_15 ?l_15 ?c_15 ?k_15 ?a_16 ?i_16 ?l_16 ?c_16 ?k_16 ?a_17 ?i_17 ?l_17 ?c_17 ?k_17 ?a_18 ?i_18 ?l_18 ?c_18 ?k_18 ?a_19 ?i_19 ?l_19 ?c_19 ?k_19 ?a_20 ?i_20 ?l_20 ?c_20 ?k_20 ?a_21 ?l_21 ?c_21 ?k_21 ?a_22 ?i_22 ?l_22 ?c_22 ?k_22 ?a_23 ?i_23 ?l_23 ?c_23 ?k_23 ?a_24 ?l_24 ?c_24 ?k_24 ?a_25 ?i_25 ?l_25 ?c_25 ?k_25 ?a_26 ?i_26 ?l_26 ?c_26 ?k_26 ?a_27 ?i_27 ?l_27 ?c_27 ?k_27 ?a_28 ?i_28 ?l_28 ?c_28 ?k_28 ?a_29 ?l_29 ?c_29 ?k_29 ?a_30 ?l_30 ?c_30 ?k_30 ?a_31 ?l_31 ?c_31 ?k_31 ?a_32 ?l_32 ?c_32 ?k_32 ?a_33 ?l_33 ?c_33 ?k_33 ?a_34 ?l_34 ?c_34 ?k_34 ?a_35 ?l_35 ?c_35 ?k_35 ?a_36 ?l_36 ?c_36 ?k_36 ?a_37 ?l_37 ?c_37 ?k_37 ?a_38 ?l_38 ?c_38 ?k_38 ?a_39 ?l_39 ?c_39 ?k_39 ?a_40 ?l_40 ?c_40 ?k_40 ?a_41 ?i_41 ?l_41 ?c_41 ?k_41 ?a_42 ?l_42 ?c_42 ?k_42 ?a_43 ?l_43 ?c_43 ?k_43 ?pg_1 ?hd_1 ?po_1 ?sa_1 ?na_1_0 ?na_1_1 ?na_1_2 ?na_1_3 ?na_1_4 ?na_1_5 ?na_1_6 ?na_1_7 ?pg_0 ?hd_0 ?po_0 ?sa_0 ?na_0_0 ?na_0_1 ?lk_15 ?st_15 ?sx_15 ?ty_15 ?kp_15 ?it_15 ?tk_15_beats ?xga_15 ?xgg_15 ?xhd_15 ?xha_15 ?xmo_15 ?xar_15 ?xnf_15_beats ?xhn ?xht ?xsl_7 ?xic_7 ?xis_7 ?xsl_10 ?xic_10 ?xis_10 ?xsl_14 ?xic_14 ?xis_14 ?xsl_15 ?xic_15 ?xis_15 ?xbe_7 ?xbe_10 ?xbe_14 ?xbe_15 ?xsu_15_10 ?xsu_15_14 ?xsu_15_7 ?z_len ?z_int ?z_range ?z_isinstance ?z_bool ?z_min ?z_max ?z_tuple ?z_str ?z_divmod ?z_sorted ?g_MOST ?g_SIDES ?h_SIDES ?tb_2 ?tb_1 ?tb_3 ?plain
    (case aC_1 => k_is)
    (case mk_1 => k_is)
    (case kc_1 => k_is)
    (case aC_0 => k_is)
    (case mk_0 => k_is)
    (case kc_0 => k_is)
    (case aC_7 => k_is)
    (case rd_7 => k_is)
    (case sp_7 => k_is)
    (case fi_7 => k_is)
    (case aC_10 => k_is)
    (case aC_14 => k_is)
    (case aC_15 => k_is)
    (case a_0 => k_is)
    (case l_0 => k_is)
    (case c_0 => k_is)
    (case k_0 => k_is)
    (case a_1 => k_is)
    (case l_1 => k_is)
    (case c_1 => k_is)
    (case k_1 => k_is)
    (case a_2 => k_is)
    (case l_2 => k_is)
    (case c_2 => k_is)
    (case k_2 => k_is)
    (case a_3 => k_is)
    (case l_3 => k_is)
    (case c_3 => k_is)
    (case k_3 => k_is)
    (case a_4 => k_is)
    (case l_4 => k_is)
    (case c_4 => k_is)
    (case k_4 => k_is)
    (case a_5 => k_is)
    (case l_5 => k_is)
    (case c_5 => k_is)
    (case k_5 => k_is)
    (case a_6 => k_is)
    (case i_6 => k_is)
    (case l_6 => k_is)
    (case c_6 => k_is)
    (case k_6 => k_is)
    (case a_7 => k_is)
    (case l_7 => k_is)
    (case c_7 => k_is)
    (case k_7 => k_is)
    (case a_8 => k_is)
    (case l_8 => k_is)
    (case c_8 => k_is)
    (case k_8 => k_is)
    (case a_9 => k_is)
    (case l_9 => k_is)
    (case c_9 => k_is)
    (case k_9 => k_is)
    (case a_10 => k_is)
    (case l_10 => k_is)
    (case c_10 => k_is)
    (case k_10 => k_is)
    (case a_11 => k_is)
    (case l_11 => k_is)
    (case c_11 => k_is)
    (case k_11 => k_is)
    (case a_12 => k_is)
    (case l_12 => k_is)
    (case c_12 => k_is)
    (case k_12 => k_is)
    (case a_13 => k_is)
    (case l_13 => k_is)
    (case c_13 => k_is)
    (case k_13 => k_is)
    (case a_14 => k_is)
    (case l_14 => k_is)
    (case c_14 => k_is)
    (case k_14 => k_is)
    (case a_15 => k_is)
    (case l_15 => k_is)
    (case c_15 => k_is)
    (case k_15 => k_is)
    (case a_16 => k_is)
    (case i_16 => k_is)
    (case l_16 => k_is)
    (case c_16 => k_is)
    (case k_16 => k_is)
    (case a_17 => k_is)
    (case i_17 => k_is)
    (case l_17 => k_is)
    (case c_17 => k_is)
    (case k_17 => k_is)
    (case a_18 => k_is)
    (case i_18 => k_is)
    (case l_18 => k_is)
    (case c_18 => k_is)
    (case k_18 => k_is)
    (case a_19 => k_is)
    (case i_19 => k_is)
    (case l_19 => k_is)
    (case c_19 => k_is)
    (case k_19 => k_is)
    (case a_20 => k_is)
    (case i_20 => k_is)
    (case l_20 => k_is)
    (case c_20 => k_is)
    (case k_20 => k_is)
    (case a_21 => k_is)
    (case l_21 => k_is)
    (case c_21 => k_is)
    (case k_21 => k_is)
    (case a_22 => k_is)
    (case i_22 => k_is)
    (case l_22 => k_is)
    (case c_22 => k_is)
    (case k_22 => k_is)
    (case a_23 => k_is)
    (case i_23 => k_is)
    (case l_23 => k_is)
    (case c_23 => k_is)
    (case k_23 => k_is)
    (case a_24 => k_is)
    (case l_24 => k_is)
    (case c_24 => k_is)
    (case k_24 => k_is)
    (case a_25 => k_is)
    (case i_25 => k_is)
    (case l_25 => k_is)
    (case c_25 => k_is)
    (case k_25 => k_is)
    (case a_26 => k_is)
    (case i_26 => k_is)
    (case l_26 => k_is)
    (case c_26 => k_is)
    (case k_26 => k_is)
    (case a_27 => k_is)
    (case i_27 => k_is)
    (case l_27 => k_is)
    (case c_27 => k_is)
    (case k_27 => k_is)
    (case a_28 => k_is)
    (case i_28 => k_is)
    (case l_28 => k_is)
    (case c_28 => k_is)
    (case k_28 => k_is)
    (case a_29 => k_is)
    (case l_29 => k_is)
    (case c_29 => k_is)
    (case k_29 => k_is)
    (case a_30 => k_is)
    (case l_30 => k_is)
    (case c_30 => k_is)
    (case k_30 => k_is)
    (case a_31 => k_is)
    (case l_31 => k_is)
    (case c_31 => k_is)
    (case k_31 => k_is)
    (case a_32 => k_is)
    (case l_32 => k_is)
    (case c_32 => k_is)
    (case k_32 => k_is)
    (case a_33 => k_is)
    (case l_33 => k_is)
    (case c_33 => k_is)
    (case k_33 => k_is)
    (case a_34 => k_is)
    (case l_34 => k_is)
    (case c_34 => k_is)
    (case k_34 => k_is)
    (case a_35 => k_is)
    (case l_35 => k_is)
    (case c_35 => k_is)
    (case k_35 => k_is)
    (case a_36 => k_is)
    (case l_36 => k_is)
    (case c_36 => k_is)
    (case k_36 => k_is)
    (case a_37 => k_is)
    (case l_37 => k_is)
    (case c_37 => k_is)
    (case k_37 => k_is)
    (case a_38 => k_is)
    (case l_38 => k_is)
    (case c_38 => k_is)
    (case k_38 => k_is)
    (case a_39 => k_is)
    (case l_39 => k_is)
    (case c_39 => k_is)
    (case k_39 => k_is)
    (case a_40 => k_is)
    (case l_40 => k_is)
    (case c_40 => k_is)
    (case k_40 => k_is)
    (case a_41 => k_is)
    (case i_41 => k_is)
    (case l_41 => k_is)
    (case c_41 => k_is)
    (case k_41 => k_is)
    (case a_42 => k_is)
    (case l_42 => k_is)
    (case c_42 => k_is)
    (case k_42 => k_is)
    (case a_43 => k_is)
    (case l_43 => k_is)
    (case c_43 => k_is)
    (case k_43 => k_is)
    (case pg_1 => k_is)
    (case hd_1 => k_is)
    (case po_1 => k_is)
    (case sa_1 => k_is)
    (case na_1_0 => k_is)
    (case na_1_1 => k_is)
    (case na_1_2 => k_is)
    (case na_1_3 => k_is)
    (case na_1_4 => k_is)
    (case na_1_5 => k_is)
    (case na_1_6 => k_is)
    (case na_1_7 => k_is)
    (case pg_0 => k_is)
    (case hd_0 => k_is)
    (case po_0 => k_is)
    (case sa_0 => k_is)
    (case na_0_0 => k_is)
    (case na_0_1 => k_is)
    (case lk_15 => k_is)
    (case st_15 => k_is)
    (case sx_15 => k_is)
    (case ty_15 => k_is)
    (case kp_15 => k_is)
    (case it_15 => k_is)
    (case tk_15_beats => k_is)
    (case xga_15 => k_is)
    (case xgg_15 => k_is)
    (case xhd_15 => k_is)
    (case xha_15 => k_is)
    (case xmo_15 => k_is)
    (case xar_15 => k_is)
    (case xnf_15_beats => k_is)
    (case xhn => k_is)
    (case xht => k_is)
    (case xsl_7 => k_is)
    (case xic_7 => k_is)
    (case xis_7 => k_is)
    (case xsl_10 => k_is)
    (case xic_10 => k_is)
    (case xis_10 => k_is)
    (case xsl_14 => k_is)
    (case xic_14 => k_is)
    (case xis_14 => k_is)
    (case xsl_15 => k_is)
    (case xic_15 => k_is)
    (case xis_15 => k_is)
    (case xbe_7 => k_is)
    (case xbe_10 => k_is)
    (case xbe_14 => k_is)
    (case xbe_15 => k_is)
    (case xsu_15_10 => k_is)
    (case xsu_15_14 => k_is)
    (case xsu_15_7 => k_is)
    (case z_len => k_is)
    (case z_int => k_is)
    (case z_range => k_is)
    (case z_isinstance => k_is)
    (case z_bool => k_is)
    (case z_min => k_is)
    (case z_max => k_is)
    (case z_tuple => k_is)
    (case z_str => k_is)
    (case z_divmod => k_is)
    (case z_sorted => k_is)
    (case g_MOST => k_is)
    (case g_SIDES => k_is)
    (case h_SIDES => k_is)
    (case tb_2 => exact PySem.W.km_tabs_of Y _ (.head _))
    (case tb_1 => kernel_rfl)
    (case tb_3 => kernel_rfl)
    (case plain => exact Lw.plain)
