import PyProof.Rows.All
import Wide.All
import OpenK.AllK
import Wide.FinOn
import PyProof.EqAt
import PyProof.EqKinds
import PyProof.TupleCall
import HandS.ForMost
import HandS.ForExc
import HandS.Walk
import HandS.Defaults
import HandS.Flow
import HandS.TupAny
import HandS.TupLe
import HandS.Wide
import HandS.IsInst
import HandS.Style
import HandS.TupMul
import HandS.Deep
import HandS.RaiseMore
import HandS.WordsList
import HandS.Zip
import KE.GoesMore
import HandS.ExcOwn
import HandS.CallLocal
import HandS.Text
import HandS.SortOrd
import HandS.SortInts
import HandS.SortRule
import HandS.TupSets
import HandS.TryMany
import HandS.ExcIs
import HandS.HeadHook1
import PyProof.ExcBaseAll.ValueError
import KE.KStateDown
import HandS.Ends
import HandS.More
import HandS.Words
import HandS.WordsExc
import HandS.Head0
import HandS.Head1
import HandS.Head2
import HandS.HeadEnd
import HandS.HeadHook2
import HandS.HeadHook4
import PySem.Challenge.RW_heightsfortiles_k09_main_rows_over_or_ba
import HandS.Codes
set_option Elab.async false
set_option linter.all false
set_option maxRecDepth 100000
set_option maxHeartbeats 2000000
/-! Dv1: plain data, what shows it in the abstract heap, the state by slots, results, the lifted readings. -/
namespace Dv
open PySem PySem.Spec PyProof.Rows L2

/-- plain data: lists and tuples are trees; scr: the script; fn: a def by its number -/
inductive D where
  | non | bl (b : Bool) | int (i : Int) | str (s : Str) | tup (ds : List D) | lst (ds : List D) | fn (k : Nat) | ty (n : String) | scr (ns : List Int)

/-- what the text fixes: its written part, where the defs stand, where the exception classes stand -/
structure Tx where
  K : PySem.W.Frag
  fa : Nat → Addr
  ca : Nat → Addr

abbrev AP' := Addr → Prop
/-- a list of the written part -/
def WrL (K : PySem.W.Frag) (a : Addr) (xs : List V) : Prop :=
  ∃ (o : Obj) (its : Array Value) (n : Nat), K.lookup a = some o ∧ o.cls = .type "list" ∧ o.dict = none ∧ o.data = .seq its n ∧ its.size ≤ sizeLine ∧ Vals xs its.toList
/-- a tuple of the written part -/
def WrT (K : PySem.W.Frag) (a : Addr) (xs : List V) : Prop :=
  ∃ (o : Obj) (its : Array Value) (n : Nat), K.lookup a = some o ∧ o.cls = .type "tuple" ∧ o.data = .seq its n ∧ its.size ≤ sizeLine ∧ Vals xs its.toList

mutual
/-- the value v shows the data d; every list in it stands at an address of Z (and stays as it is) -/
def Rep (T : Tx) (Z : AP') (H : Hp) : D → V → Prop
  | .non, v => v = .non
  | .bl b, v => v = .bl b
  | .int i, v => v = .int i
  | .str s, v => v = .str s
  | .ty n, v => v = .ty n
  | .fn k, v => v = .ref (T.fa k)
  | .scr ns, v => ∃ a, v = .ref a ∧ ((Z a ∧ ∃ o, H a = some (.frz o (.lst (ns.map V.int)))) ∨ WrL T.K a (ns.map V.int))
  | .tup ds, v => ∃ a vs, v = .ref a ∧ ((Z a ∧ H a = some (.tup vs)) ∨ WrT T.K a vs) ∧ RepL T Z H ds vs
  | .lst ds, v => ∃ a vs, v = .ref a ∧ (Z a ∧ H a = some (.lst vs)) ∧ RepL T Z H ds vs
def RepL (T : Tx) (Z : AP') (H : Hp) : List D → List V → Prop
  | [], vs => vs = []
  | d :: ds, vs => ∃ v r, vs = v :: r ∧ Rep T Z H d v ∧ RepL T Z H ds r
end

/-- nothing at Z, F was changed; Z grows -/
structure Ext (Z F : AP') (H : Hp) (Z' : AP') (H' : Hp) : Prop where
  sub : ∀ a, Z a → Z' a
  keep : ∀ a o, Z a ∨ F a → H a = some o → H' a = some o

section
variable {T : Tx} {Z Z' Z1 Z2 F F' F1 : AP'} {H H' H1 H2 : Hp} {d : D} {ds es : List D} {v : V} {vs ws : List V}
mutual
theorem Rep.mono (hs : ∀ a, Z a → Z' a) (hk : ∀ a o, Z a → H a = some o → H' a = some o) : ∀ (d : D) (v : V), Rep T Z H d v → Rep T Z' H' d v
  | .non, v, h => h
  | .bl _, v, h => h
  | .int _, v, h => h
  | .str _, v, h => h
  | .ty _, v, h => h
  | .fn _, v, h => h
  | .scr ns, v, h => by
    obtain ⟨a, e, q⟩ := h
    refine ⟨a, e, ?_⟩
    rcases q with ⟨z, o, q⟩ | q
    · exact .inl ⟨hs a z, o, hk a _ z q⟩
    · exact .inr q
  | .tup ds, v, h => by
    obtain ⟨a, vs, e, q, r⟩ := h
    refine ⟨a, vs, e, ?_, RepL.mono hs hk ds vs r⟩
    rcases q with ⟨z, q⟩ | q
    · exact .inl ⟨hs a z, hk a _ z q⟩
    · exact .inr q
  | .lst ds, v, h => by
    obtain ⟨a, vs, e, ⟨z, q⟩, r⟩ := h
    exact ⟨a, vs, e, ⟨hs a z, hk a _ z q⟩, RepL.mono hs hk ds vs r⟩
theorem RepL.mono (hs : ∀ a, Z a → Z' a) (hk : ∀ a o, Z a → H a = some o → H' a = some o) : ∀ (ds : List D) (vs : List V), RepL T Z H ds vs → RepL T Z' H' ds vs
  | [], vs, h => h
  | d :: ds, vs, h => by
    obtain ⟨v, r, e, h1, h2⟩ := h
    exact ⟨v, r, e, Rep.mono hs hk d v h1, RepL.mono hs hk ds r h2⟩
end
theorem Rep.ext (e : Ext Z F H Z' H') (h : Rep T Z H d v) : Rep T Z' H' d v := Rep.mono e.sub (fun a o z => e.keep a o (.inl z)) d v h
theorem RepL.ext (e : Ext Z F H Z' H') (h : RepL T Z H ds vs) : RepL T Z' H' ds vs := RepL.mono e.sub (fun a o z => e.keep a o (.inl z)) ds vs h
theorem RepL.nil : RepL T Z H [] [] := rfl
theorem RepL.cons (h : Rep T Z H d v) (r : RepL T Z H ds vs) : RepL T Z H (d :: ds) (v :: vs) := ⟨v, vs, rfl, h, r⟩
theorem RepL.length : ∀ {ds : List D} {vs : List V}, RepL T Z H ds vs → vs.length = ds.length
  | [], vs, h => by rw [show vs = [] from h]; rfl
  | d :: ds, vs, h => by
    obtain ⟨v, r, e, _, h2⟩ := h
    rw [e, List.length_cons, List.length_cons, RepL.length h2]
theorem RepL.get : ∀ {ds : List D} {vs : List V} {i : Nat} {d : D}, RepL T Z H ds vs → ds[i]? = some d → ∃ v, vs[i]? = some v ∧ Rep T Z H d v
  | [], _, _, _, _, e => by simp at e
  | d :: ds, vs, 0, d', h, e => by
    obtain ⟨v, r, e1, h1, h2⟩ := h
    simp at e
    subst e e1
    exact ⟨v, rfl, h1⟩
  | d :: ds, vs, i + 1, d', h, e => by
    obtain ⟨v, r, e1, h1, h2⟩ := h
    subst e1
    obtain ⟨w, e2, q⟩ := RepL.get (i := i) h2 (by simpa using e)
    exact ⟨w, by simpa using e2, q⟩
theorem RepL.of_get : ∀ {ds : List D} {vs : List V}, vs.length = ds.length → (∀ (i : Nat) (d : D) (v : V), ds[i]? = some d → vs[i]? = some v → Rep T Z H d v) → RepL T Z H ds vs
  | [], vs, h, _ => List.length_eq_zero_iff.mp h
  | d :: ds, [], h, _ => by simp at h
  | d :: ds, v :: vs, h, k => ⟨v, vs, rfl, k 0 d v rfl rfl, RepL.of_get (by simpa using h) fun i d' v' e1 e2 => k (i + 1) d' v' (by simpa using e1) (by simpa using e2)⟩
theorem RepL.getV (h : RepL T Z H ds vs) {i : Nat} (e : vs[i]? = some v) : ∃ d, ds[i]? = some d ∧ Rep T Z H d v := by
  have hl := h.length
  have hi : i < ds.length := by rw [← hl]; exact (List.getElem?_eq_some_iff.mp e).1
  obtain ⟨w, e2, q⟩ := h.get (List.getElem?_eq_getElem hi)
  rw [e] at e2
  cases e2
  exact ⟨_, List.getElem?_eq_getElem hi, q⟩
theorem RepL.append : ∀ {ds es : List D} {vs ws : List V}, RepL T Z H ds vs → RepL T Z H es ws → RepL T Z H (ds ++ es) (vs ++ ws)
  | [], es, vs, ws, h, k => by rw [show vs = [] from h]; exact k
  | d :: ds, es, vs, ws, h, k => by
    obtain ⟨v, r, e1, h1, h2⟩ := h
    subst e1
    exact ⟨v, r ++ ws, rfl, h1, RepL.append h2 k⟩
theorem RepL.one (h : Rep T Z H d v) : RepL T Z H [d] [v] := .cons h .nil
theorem RepL.drop : ∀ (n : Nat) {ds : List D} {vs : List V}, RepL T Z H ds vs → RepL T Z H (ds.drop n) (vs.drop n)
  | 0, _, _, h => h
  | n + 1, [], vs, h => by rw [show vs = [] from h]; exact rfl
  | n + 1, d :: ds, vs, h => by
    obtain ⟨v, r, e1, h1, h2⟩ := h
    subst e1
    exact RepL.drop n h2
theorem RepL.take : ∀ (n : Nat) {ds : List D} {vs : List V}, RepL T Z H ds vs → RepL T Z H (ds.take n) (vs.take n)
  | 0, _, _, h => rfl
  | n + 1, [], vs, h => by rw [show vs = [] from h]; exact rfl
  | n + 1, d :: ds, vs, h => by
    obtain ⟨v, r, e1, h1, h2⟩ := h
    subst e1
    exact ⟨v, _, rfl, h1, RepL.take n h2⟩
theorem RepL.set (r : Rep T Z H d v) : ∀ (n : Nat) {ds : List D} {vs : List V}, RepL T Z H ds vs → RepL T Z H (ds.set n d) (vs.set n v)
  | _, [], vs, h => by rw [show vs = [] from h]; exact rfl
  | 0, d' :: ds, vs, h => by
    obtain ⟨v', r', e1, h1, h2⟩ := h
    subst e1
    exact ⟨v, r', rfl, r, h2⟩
  | n + 1, d' :: ds, vs, h => by
    obtain ⟨v', r', e1, h1, h2⟩ := h
    subst e1
    exact ⟨v', _, rfl, h1, RepL.set r n h2⟩
theorem RepL.eraseIdx : ∀ (n : Nat) {ds : List D} {vs : List V}, RepL T Z H ds vs → RepL T Z H (ds.eraseIdx n) (vs.eraseIdx n)
  | _, [], vs, h => by rw [show vs = [] from h]; exact rfl
  | 0, d' :: ds, vs, h => by
    obtain ⟨v', r', e1, h1, h2⟩ := h
    subst e1
    exact h2
  | n + 1, d' :: ds, vs, h => by
    obtain ⟨v', r', e1, h1, h2⟩ := h
    subst e1
    exact ⟨v', _, rfl, h1, RepL.eraseIdx n h2⟩
theorem RepL.rep (h : RepL T Z H ds vs) : ∀ k : Nat, RepL T Z H (List.replicate k ds).flatten (List.replicate k vs).flatten
  | 0 => rfl
  | k + 1 => by
    rw [List.replicate_succ, List.replicate_succ, List.flatten_cons, List.flatten_cons]
    exact h.append (RepL.rep h k)
theorem RepL.reverse : ∀ {ds : List D} {vs : List V}, RepL T Z H ds vs → RepL T Z H ds.reverse vs.reverse
  | [], vs, h => by rw [show vs = [] from h]; exact rfl
  | d :: ds, vs, h => by
    obtain ⟨v, r, e1, h1, h2⟩ := h
    subst e1
    rw [List.reverse_cons, List.reverse_cons]
    exact (RepL.reverse h2).append (.one h1)
theorem RepL.ints : ∀ {ns : List Int} {vs : List V}, RepL T Z H (ns.map D.int) vs → vs = ns.map V.int
  | [], vs, h => h
  | n :: ns, vs, h => by
    obtain ⟨v, r, e1, h1, h2⟩ := h
    rw [e1, show v = .int n from h1, RepL.ints h2]
    rfl
theorem RepL.of_ints : ∀ (ns : List Int), RepL T Z H (ns.map D.int) (ns.map V.int)
  | [] => rfl
  | n :: ns => ⟨_, _, rfl, rfl, RepL.of_ints ns⟩
theorem RepL.of_strs : ∀ (ns : List Str), RepL T Z H (ns.map D.str) (ns.map V.str)
  | [] => rfl
  | n :: ns => ⟨_, _, rfl, rfl, RepL.of_strs ns⟩
theorem RepL.strs : ∀ {ns : List Str} {vs : List V}, RepL T Z H (ns.map D.str) vs → vs = ns.map V.str
  | [], vs, h => h
  | n :: ns, vs, h => by
    obtain ⟨v, r, e1, h1, h2⟩ := h
    rw [e1, show v = .str n from h1, RepL.strs h2]
    rfl
theorem RepL.bls : ∀ {ns : List Bool} {vs : List V}, RepL T Z H (ns.map D.bl) vs → vs = ns.map V.bl
  | [], vs, h => h
  | n :: ns, vs, h => by
    obtain ⟨v, r, e1, h1, h2⟩ := h
    rw [e1, show v = .bl n from h1, RepL.bls h2]
    rfl

theorem Ext.refl : Ext Z F H Z H := ⟨fun _ h => h, fun _ _ _ h => h⟩
theorem Ext.trans (a : Ext Z F H Z1 H1) (b : Ext Z1 F1 H1 Z2 H2) (hF : ∀ x, F x → F1 x) : Ext Z F H Z2 H2 :=
  ⟨fun x h => b.sub x (a.sub x h), fun x o h e => b.keep x o (h.elim (fun z => .inl (a.sub x z)) fun z => .inr (hF x z)) (a.keep x o h e)⟩
/-- a new object -/
theorem Ext.new {p : Addr} {o : HO} (hz : ∀ a, Z a → H a ≠ none) (hf : ∀ a, F a → H a ≠ none) (hp : H p = none) (hs : ∀ a, Z a → Z' a) : Ext Z F H Z' (upd H p o) :=
  ⟨hs, fun a u h e => by rw [upd_ne (fun z => by rw [z, hp] at e; cases e)]; exact e⟩
end

/-! ### slots -/
/-- a slot: nothing is known; it holds frozen data; it alone holds a list -/
inductive Sl where
  | un | fz (d : D) | ow (ds : List D)
abbrev FS := List Sl

structure SR (T : Tx) (Z F : AP') (τ : FS) (σ : L2.St) (H : Hp) : Prop where
  zt : ∀ a, Z a → H a ≠ none
  ft : ∀ a, F a → H a ≠ none
  zf : ∀ a, Z a → ¬ F a
  len : τ.length = σ.length
  fz : ∀ (i : Nat) (d : D), τ[i]? = some (Sl.fz d) → ∃ v : V, σ[i]? = some (some v) ∧ Rep T Z H d v
  ow : ∀ (i : Nat) (ds : List D), τ[i]? = some (Sl.ow ds) → ∃ (a : Addr) (vs : List V), σ[i]? = some (some (V.ref a)) ∧ H a = some (.lst vs) ∧ RepL T Z H ds vs ∧ ¬ Z a ∧ ¬ F a
  ap : ∀ (i j : Nat) (ds es : List D) (a : Addr), τ[i]? = some (Sl.ow ds) → τ[j]? = some (Sl.ow es) → σ[i]? = some (some (V.ref a)) → σ[j]? = some (some (V.ref a)) → i = j

/-- a result of an expression: frozen data; a new list that nothing else holds; what slot i holds -/
inductive RV where
  | val (d : D) | fr (ds : List D) | sl (i : Nat)
def look (τ : FS) : RV → Option D
  | .val d => some d
  | .fr ds => some (.lst ds)
  | .sl i => match τ[i]? with
    | some (.fz d) => some d
    | some (.ow ds) => some (.lst ds)
    | _ => none
/-- the address of a new list -/
def frOf (r : RV) (v : V) (a : Addr) : Prop := (∃ ds, r = .fr ds) ∧ v = .ref a
def RepV (T : Tx) (Z F : AP') (τ : FS) (σ : L2.St) (H : Hp) (v : V) : RV → Prop
  | .val d => Rep T Z H d v
  | .fr ds => ∃ a vs, v = .ref a ∧ H a = some (.lst vs) ∧ RepL T Z H ds vs ∧ ¬ Z a ∧ ¬ F a ∧ ∀ (i : Nat) (es : List D), τ[i]? = some (Sl.ow es) → σ[i]? ≠ some (some (V.ref a))
  | .sl i => σ[i]? = some (some v)
def RepVs (T : Tx) (Z : AP') (τ : FS) (σ : L2.St) (H : Hp) : AP' → List V → List RV → Prop
  | _, [], [] => True
  | F, v :: vs, r :: rs => RepV T Z F τ σ H v r ∧ RepVs T Z τ σ H (fun a => F a ∨ frOf r v a) vs rs
  | _, _, _ => False
/-- what may be read of a value now: a list may still be written later -/
def Sh (T : Tx) (Z : AP') (H : Hp) : D → V → Prop
  | .lst ds, v => ∃ a vs, v = .ref a ∧ H a = some (.lst vs) ∧ RepL T Z H ds vs
  | d, v => Rep T Z H d v
def ShL (T : Tx) (Z : AP') (H : Hp) : List D → List V → Prop
  | [], vs => vs = []
  | d :: ds, vs => ∃ v r, vs = v :: r ∧ Sh T Z H d v ∧ ShL T Z H ds r

section
variable {T : Tx} {Z Z' Z1 Z2 F F' F1 : AP'} {H H' H1 H2 : Hp} {d : D} {ds es : List D} {v w : V} {vs ws : List V} {τ τ' τ1 τ2 : FS} {σ σ' : L2.St} {r r2 : RV} {rs : List RV}
theorem Rep.sh (h : Rep T Z H d v) : Sh T Z H d v := by
  cases d with
  | lst ds => obtain ⟨a, vs, e, ⟨_, q⟩, k⟩ := h; exact ⟨a, vs, e, q, k⟩
  | _ => exact h
theorem SR.sh (S : SR T Z F τ σ H) (h : RepV T Z F τ σ H v r) (e : look τ r = some d) : Sh T Z H d v := by
  cases r with
  | val d' => cases e; exact Rep.sh h
  | fr ds => cases e; obtain ⟨a, vs, e, q, k, _⟩ := h; exact ⟨a, vs, e, q, k⟩
  | sl i =>
    have h : σ[i]? = some (some v) := h
    have e : (match τ[i]? with
      | some (Sl.fz d) => some d
      | some (Sl.ow ds) => some (D.lst ds)
      | _ => none) = some d := e
    cases q : τ[i]? with
    | none => rw [q] at e; cases e
    | some s =>
      rw [q] at e
      cases s with
      | un => cases e
      | fz d' =>
        cases e
        obtain ⟨w, e2, k⟩ := S.fz i _ q
        rw [h] at e2
        cases e2
        exact k.sh
      | ow ds =>
        cases e
        obtain ⟨a, vs, e2, k1, k2, _⟩ := S.ow i _ q
        rw [h] at e2
        cases e2
        exact ⟨a, vs, rfl, k1, k2⟩
theorem SR.wide (S : SR T Z F1 τ σ H) (h : ∀ a, F a → F1 a) : SR T Z F τ σ H :=
  ⟨S.zt, fun a z => S.ft a (h a z), fun a z q => S.zf a z (h a q), S.len, S.fz, fun i ds e => by
    obtain ⟨a, vs, h1, h2, h3, h4, h5⟩ := S.ow i ds e
    exact ⟨a, vs, h1, h2, h3, h4, fun q => h5 (h a q)⟩, S.ap⟩
/-- while the next part runs, a new list stays as it is -/
theorem SR.addF (S : SR T Z F τ σ H) (h : RepV T Z F τ σ H v r) : SR T Z (fun a => F a ∨ frOf r v a) τ σ H := by
  refine ⟨S.zt, fun a z => ?_, fun a z q => ?_, S.len, S.fz, fun i ds e => ?_, S.ap⟩
  · rcases z with z | ⟨⟨ds, rfl⟩, rfl⟩
    · exact S.ft a z
    · obtain ⟨b, vs, e, q, _⟩ := h
      cases e
      rw [q]
      exact fun z => nomatch z
  · rcases q with q | ⟨⟨ds, rfl⟩, rfl⟩
    · exact S.zf a z q
    · obtain ⟨b, vs, e, _, _, nz, _⟩ := h
      cases e
      exact nz z
  · obtain ⟨a, vs, h1, h2, h3, h4, h5⟩ := S.ow i ds e
    refine ⟨a, vs, h1, h2, h3, h4, fun q => ?_⟩
    rcases q with q | ⟨⟨es, rfl⟩, rfl⟩
    · exact h5 q
    · obtain ⟨b, ws, e2, _, _, _, _, no⟩ := h
      cases e2
      exact no i ds e h1
theorem RepV.carry (h : RepV T Z1 F τ1 σ H1 v r) (e : Ext Z1 (fun a => F a ∨ frOf r v a) H1 Z2 H2) (S : SR T Z2 (fun a => F a ∨ frOf r v a) τ2 σ H2) : RepV T Z2 F τ2 σ H2 v r := by
  cases r with
  | val d => exact Rep.ext e h
  | fr ds =>
    obtain ⟨a, vs, e1, q, k, nz, nf, no⟩ := h
    have hf : F a ∨ frOf (.fr ds) v a := .inr ⟨⟨ds, rfl⟩, e1⟩
    refine ⟨a, vs, e1, e.keep a _ (.inr hf) q, RepL.ext e k, fun z => S.zf a z hf, nf, fun i es q2 q3 => ?_⟩
    obtain ⟨b, ws, h1, _, _, _, h5⟩ := S.ow i es q2
    rw [q3] at h1
    cases h1
    exact h5 hf
  | sl i => exact h
theorem RepV.wide (h : RepV T Z F1 τ σ H v r) (k : ∀ a, F a → F1 a) : RepV T Z F τ σ H v r := by
  cases r with
  | val d => exact h
  | fr ds =>
    obtain ⟨a, vs, e1, q, k2, nz, nf, no⟩ := h
    exact ⟨a, vs, e1, q, k2, nz, fun z => nf (k a z), no⟩
  | sl i => exact h
theorem RepVs.sh : ∀ {F : AP'} {vs : List V} {rs : List RV} {ds : List D}, SR T Z F τ σ H → RepVs T Z τ σ H F vs rs → rs.mapM (look τ) = some ds → ShL T Z H ds vs
  | F, [], [], ds, _, _, e => by
    cases e
    exact rfl
  | F, v :: vs, r :: rs, ds, S, h, e => by
    obtain ⟨h1, h2⟩ := h
    rw [List.mapM_cons] at e
    cases q : look τ r with
    | none => rw [q] at e; cases e
    | some d =>
      rw [q] at e
      cases q2 : rs.mapM (look τ) with
      | none => rw [q2] at e; cases e
      | some ds' =>
        rw [q2] at e
        cases e
        exact ⟨v, vs, rfl, SR.sh S h1 q, RepVs.sh (S.addF h1) h2 q2⟩
  | F, [], _ :: _, _, _, h, _ => h.elim
  | F, _ :: _, [], _, _, h, _ => h.elim
end
end Dv

set_option Elab.async false
set_option linter.all false
set_option maxRecDepth 100000
set_option maxHeartbeats 2000000
/-! Dv2: results, the lifted readings, one after another, freezing. -/
namespace Dv
open PySem PySem.Spec PyProof.Rows L2

/-- an exception: the number of its class, its own field -/
structure Ex where
  c : Nat
  p : Option (Str × D)
inductive Res (α : Type) where
  | ok (a : α) (τ : FS) | ex (x : Ex) (τ : FS) | no
def bindR {α β : Type} (r : Res α) (g : α → FS → Res β) : Res β := match r with
  | .ok a τ => g a τ
  | .ex x τ => .ex x τ
  | .no => .no
def ExR (T : Tx) (Z : AP') (H : Hp) (x : Ex) (cls : Value) (dx : Option Addr) : Prop :=
  cls = .ref (T.ca x.c) ∧ match x.p with
    | none => dx = none
    | some (n, d) => ∃ a v, dx = some a ∧ Z a ∧ H a = some (.xd [(n, v)]) ∧ Rep T Z H d v
abbrev Rel (α β : Type) := AP' → AP' → FS → L2.St → Hp → β → α → Prop
def PostR {α β : Type} (T : Tx) (W : WX) (rel : Rel α β) (Z F : AP') (H : Hp) (σ : L2.St) (r : Res α) (Q : β → Hp → Prop) : Prop := match r with
  | .ok a τ' => ∀ v Z' H', Ext Z F H Z' H' → SR T Z' F τ' σ H' → rel Z' F τ' σ H' v a → Q v H'
  | .ex x τ' => ∀ cls dx Z' H', Ext Z F H Z' H' → SR T Z' F τ' σ H' → ExR T Z' H' x cls dx → W cls dx σ H'
  | .no => False
def tWR {α β : Type} (T : Tx) (W : WX) (rel : Rel α β) (f : FS → Res α) : L2.St → Hp → (β → Hp → Prop) → Prop := fun σ H Q =>
  ∃ Z F τ, SR T Z F τ σ H ∧ PostR T W rel Z F H σ (f τ) Q
abbrev relE (T : Tx) : Rel RV V := fun Z F τ σ H v r => RepV T Z F τ σ H v r
abbrev relA (T : Tx) : Rel (List RV) (List V) := fun Z F τ σ H vs rs => RepVs T Z τ σ H F vs rs
abbrev relB : Rel Bool Bool := fun _ _ _ _ _ b c => b = c
abbrev tW (T : Tx) (W : WX) (f : FS → Res RV) : TE := tWR T W (relE T) f
abbrev tWA (T : Tx) (W : WX) (f : FS → Res (List RV)) : TA := tWR T W (relA T) f
abbrev tWT (T : Tx) (W : WX) (f : FS → Res Bool) : TT := tWR T W relB f

section
variable {T : Tx} {W : WX} {Z Z' Z1 Z2 F F' F1 : AP'} {H H' H1 H2 : Hp} {d : D} {ds es : List D} {v w : V} {vs ws : List V} {τ τ' τ1 τ2 : FS} {σ σ' : L2.St} {r r2 : RV} {rs : List RV}
variable {α β γ δ : Type} {rel : Rel α β} {rel2 : Rel γ δ}
theorem Ext.narrow (e : Ext Z F1 H Z' H') (h : ∀ a, F a → F1 a) : Ext Z F H Z' H' := ⟨e.sub, fun a o z => e.keep a o (z.imp id (h a))⟩
theorem PostR.later {r : Res α} {Q : β → Hp → Prop} (e : Ext Z F H Z1 H1) (h : PostR T W rel Z F H σ r Q) : PostR T W rel Z1 F H1 σ r Q := by
  cases r with
  | ok a τ' => exact fun v Z' H' e' S k => h v Z' H' (e.trans e' fun _ x => x) S k
  | ex x τ' => exact fun c d Z' H' e' S k => h c d Z' H' (e.trans e' fun _ x => x) S k
  | no => exact h
/-- one part, then the rest -/
theorem bindF {f : FS → Res α} {g : α → FS → Res γ} {Q : δ → Hp → Prop} {K : β → Hp → Prop} (S : SR T Z F1 τ σ H) (hF : ∀ a, F a → F1 a) (h : PostR T W rel2 Z F H σ (bindR (f τ) g) Q)
    (k : ∀ x r τ2 Z2 H2, Ext Z F1 H Z2 H2 → SR T Z2 F1 τ2 σ H2 → rel Z2 F1 τ2 σ H2 x r → PostR T W rel2 Z2 F H2 σ (g r τ2) Q → K x H2) : tWR T W rel f σ H K := by
  refine ⟨Z, F1, τ, S, ?_⟩
  cases e : f τ with
  | ok a τ' =>
    rw [e] at h
    exact fun v Z' H' e' S' q => k v a τ' Z' H' e' S' q (PostR.later (e'.narrow hF) h)
  | ex x τ' =>
    rw [e] at h
    exact fun c d Z' H' e' S' q => h c d Z' H' (e'.narrow hF) (S'.wide hF) q
  | no =>
    rw [e] at h
    exact h
theorem bind1 {f : FS → Res α} {g : α → FS → Res γ} {Q : δ → Hp → Prop} {K : β → Hp → Prop} (S : SR T Z F τ σ H) (h : PostR T W rel2 Z F H σ (bindR (f τ) g) Q)
    (k : ∀ x r τ2 Z2 H2, Ext Z F H Z2 H2 → SR T Z2 F τ2 σ H2 → rel Z2 F τ2 σ H2 x r → PostR T W rel2 Z2 F H2 σ (g r τ2) Q → K x H2) : tWR T W rel f σ H K := bindF S (fun _ x => x) h k

/-! ### new objects -/
theorem SR.new {p : Addr} {o : HO} (S : SR T Z F τ σ H) (hp : H p = none) : SR T Z F τ σ (upd H p o) := by
  have k : ∀ a u, H a = some u → upd H p o a = some u := fun a u e => by rw [upd_ne (ne_of_none e hp)]; exact e
  have nz : ∀ a, H a ≠ none → upd H p o a ≠ none := fun a h => by
    cases q : H a with
    | none => exact absurd q h
    | some u => rw [k a u q]; exact fun z => nomatch z
  exact ⟨fun a z => nz a (S.zt a z), fun a z => nz a (S.ft a z), S.zf, S.len, fun i d e => by
    obtain ⟨v, h1, h2⟩ := S.fz i d e
    exact ⟨v, h1, Rep.mono (fun _ z => z) (fun a u _ => k a u) d v h2⟩, fun i ds e => by
    obtain ⟨a, vs, h1, h2, h3, h4, h5⟩ := S.ow i ds e
    exact ⟨a, vs, h1, k _ _ h2, RepL.mono (fun _ z => z) (fun a u _ => k a u) ds vs h3, h4, h5⟩, S.ap⟩
/-- an object joins what is frozen -/
theorem SR.addZ {p : Addr} (S : SR T Z F τ σ H) (hp : H p ≠ none) (hf : ¬ F p) (ho : ∀ (i : Nat) (es : List D), τ[i]? = some (Sl.ow es) → σ[i]? ≠ some (some (V.ref p))) : SR T (fun a => Z a ∨ a = p) F τ σ H := by
  refine ⟨fun a z => ?_, S.ft, fun a z => ?_, S.len, fun i d e => ?_, fun i ds e => ?_, S.ap⟩
  · rcases z with z | rfl
    · exact S.zt a z
    · exact hp
  · rcases z with z | rfl
    · exact S.zf a z
    · exact hf
  · obtain ⟨v, h1, h2⟩ := S.fz i d e
    exact ⟨v, h1, Rep.mono (fun _ z => .inl z) (fun _ _ _ h => h) d v h2⟩
  · obtain ⟨a, vs, h1, h2, h3, h4, h5⟩ := S.ow i ds e
    refine ⟨a, vs, h1, h2, RepL.mono (fun _ z => .inl z) (fun _ _ _ h => h) ds vs h3, fun z => ?_, h5⟩
    rcases z with z | rfl
    · exact h4 z
    · exact ho i ds e h1
theorem SR.notOwn {p : Addr} (S : SR T Z F τ σ H) (hp : H p = none) : ∀ (i : Nat) (es : List D), τ[i]? = some (Sl.ow es) → σ[i]? ≠ some (some (V.ref p)) := fun i es e q => by
  obtain ⟨a, vs, h1, h2, _⟩ := S.ow i es e
  rw [q] at h1
  cases h1
  rw [hp] at h2
  cases h2
theorem SR.notZ {p : Addr} (S : SR T Z F τ σ H) (hp : H p = none) : ¬ Z p := fun z => S.zt p z hp
theorem SR.notF {p : Addr} (S : SR T Z F τ σ H) (hp : H p = none) : ¬ F p := fun z => S.ft p z hp

/-! ### what an operation hands back -/
/-- something frozen; a new list; a new tuple -/
inductive Out where
  | sc (d : D) | nl (ds : List D) | nt (ds : List D)
def outV : Out → RV
  | .sc d => .val d
  | .nl ds => .fr ds
  | .nt ds => .val (.tup ds)
def OutOk (T : Tx) (Z : AP') (H : Hp) (Q : VK) : Out → Prop
  | .sc d => ∀ v, Rep T Z H d v → Q v H
  | .nl ds => ∀ p vs, H p = none → RepL T Z H ds vs → Q (.ref p) (upd H p (.lst vs))
  | .nt ds => ∀ p vs, H p = none → RepL T Z H ds vs → Q (.ref p) (upd H p (.tup vs))
theorem Ext.new1 {p : Addr} {o : HO} (S : SR T Z F τ σ H) (hp : H p = none) (hs : ∀ a, Z a → Z' a) : Ext Z F H Z' (upd H p o) :=
  ⟨hs, fun a u h e => by rw [upd_ne (ne_of_none e hp)]; exact e⟩
theorem out_done {o : Out} {Q : VK} (S : SR T Z F τ σ H) (h : PostR T W (relE T) Z F H σ (.ok (outV o) τ) Q) : OutOk T Z H Q o := by
  cases o with
  | sc d => exact fun v hv => h v Z H Ext.refl S hv
  | nl ds =>
    intro p vs hp hr
    have e : Ext Z F H Z (upd H p (.lst vs)) := Ext.new1 S hp fun _ z => z
    exact h _ Z _ e (S.new hp) ⟨p, vs, rfl, upd_same, RepL.ext e hr, S.notZ hp, S.notF hp, S.notOwn hp⟩
  | nt ds =>
    intro p vs hp hr
    have e : Ext Z F H (fun a => Z a ∨ a = p) (upd H p (.tup vs)) := Ext.new1 S hp fun _ z => .inl z
    refine h _ (fun a => Z a ∨ a = p) _ e ((S.new hp).addZ (by rw [upd_same]; exact fun z => nomatch z) (S.notF hp) (S.notOwn hp)) ?_
    exact ⟨p, vs, rfl, .inl ⟨.inr rfl, upd_same⟩, RepL.ext e hr⟩

/-! ### freezing -/
def frz (r : RV) (τ : FS) : Option (D × FS) := match r with
  | .val d => some (d, τ)
  | .fr ds => some (.lst ds, τ)
  | .sl i => match τ[i]? with
    | some (.fz d) => some (d, τ)
    | some (.ow ds) => some (.lst ds, τ.set i (.fz (.lst ds)))
    | _ => none
def frzAll : List RV → FS → Option (List D × FS)
  | [], τ => some ([], τ)
  | r :: rs, τ => match frz r τ with
    | some (d, τ1) => match frzAll rs τ1 with
      | some (ds, τ2) => some (d :: ds, τ2)
      | none => none
    | none => none
/-- an own list of slot i is frozen -/
theorem SR.freeze {i : Nat} (S : SR T Z F τ σ H) (e : τ[i]? = some (Sl.ow ds)) (hv : σ[i]? = some (some v)) :
    ∃ a, v = .ref a ∧ SR T (fun x => Z x ∨ x = a) F (τ.set i (.fz (.lst ds))) σ H ∧ Rep T (fun x => Z x ∨ x = a) H (.lst ds) v := by
  obtain ⟨a, vs, h1, h2, h3, h4, h5⟩ := S.ow i ds e
  rw [hv] at h1
  cases h1
  have hi : i < τ.length := (List.getElem?_eq_some_iff.mp e).1
  have rp : Rep T (fun x => Z x ∨ x = a) H (.lst ds) (.ref a) := ⟨a, vs, rfl, ⟨.inr rfl, h2⟩, RepL.mono (fun _ z => .inl z) (fun _ _ _ h => h) ds vs h3⟩
  have apart : ∀ (j : Nat) (es : List D), (τ.set i (.fz (.lst ds)))[j]? = some (Sl.ow es) → j ≠ i ∧ τ[j]? = some (Sl.ow es) := fun j es q => by
    by_cases hj : i = j
    · subst hj
      rw [List.getElem?_set_self hi] at q
      cases q
    · rw [List.getElem?_set_ne hj] at q
      exact ⟨Ne.symm hj, q⟩
  refine ⟨a, rfl, ⟨fun x z => ?_, S.ft, fun x z => ?_, by rw [List.length_set]; exact S.len, fun j d q => ?_, fun j es q => ?_, fun j k es fs b q1 q2 => S.ap j k es fs b (apart j es q1).2 (apart k fs q2).2⟩, rp⟩
  · rcases z with z | rfl
    · exact S.zt x z
    · rw [h2]; exact fun z => nomatch z
  · rcases z with z | rfl
    · exact S.zf x z
    · exact h5
  · by_cases hj : i = j
    · subst hj
      rw [List.getElem?_set_self hi] at q
      cases q
      exact ⟨_, hv, rp⟩
    · rw [List.getElem?_set_ne hj] at q
      obtain ⟨u, k1, k2⟩ := S.fz j d q
      exact ⟨u, k1, Rep.mono (fun _ z => .inl z) (fun _ _ _ h => h) d u k2⟩
  · obtain ⟨nj, q'⟩ := apart j es q
    obtain ⟨b, ws, k1, k2, k3, k4, k5⟩ := S.ow j es q'
    refine ⟨b, ws, k1, k2, RepL.mono (fun _ z => .inl z) (fun _ _ _ h => h) es ws k3, fun z => ?_, k5⟩
    rcases z with z | rfl
    · exact k4 z
    · exact nj (S.ap j i es ds b q' e k1 hv)
theorem frz_ok (S : SR T Z F τ σ H) (h : RepV T Z F τ σ H v r) (e : frz r τ = some (d, τ')) :
    ∃ Z', (∀ a, Z a → Z' a) ∧ SR T Z' F τ' σ H ∧ Rep T Z' H d v ∧ ∀ F2 w r2, (∀ a, F a ∨ frOf r v a → F2 a) → RepV T Z F2 τ σ H w r2 → RepV T Z' F2 τ' σ H w r2 := by
  cases r with
  | val d' =>
    cases e
    exact ⟨Z, fun _ z => z, S, h, fun _ _ _ _ q => q⟩
  | fr ds =>
    cases e
    obtain ⟨a, vs, e1, q, k, nz, nf, no⟩ := h
    subst e1
    refine ⟨fun x => Z x ∨ x = a, fun _ z => .inl z, S.addZ (by rw [q]; exact fun z => nomatch z) nf no, ⟨a, vs, rfl, ⟨.inr rfl, q⟩, RepL.mono (fun _ z => .inl z) (fun _ _ _ h => h) ds vs k⟩, fun F2 w r2 hF q2 => ?_⟩
    cases r2 with
    | val d2 => exact Rep.mono (fun _ z => .inl z) (fun _ _ _ h => h) _ _ q2
    | fr es =>
      obtain ⟨b, ws, f1, f2, f3, f4, f5, f6⟩ := q2
      refine ⟨b, ws, f1, f2, RepL.mono (fun _ z => .inl z) (fun _ _ _ h => h) es ws f3, fun z => ?_, f5, f6⟩
      rcases z with z | rfl
      · exact f4 z
      · exact f5 (hF _ (.inr ⟨⟨ds, rfl⟩, rfl⟩))
    | sl j => exact q2
  | sl i =>
    have h : σ[i]? = some (some v) := h
    have e : (match τ[i]? with
      | some (Sl.fz d) => some (d, τ)
      | some (Sl.ow ds) => some (D.lst ds, τ.set i (.fz (.lst ds)))
      | _ => none) = some (d, τ') := e
    cases q : τ[i]? with
    | none => rw [q] at e; cases e
    | some s =>
      rw [q] at e
      cases s with
      | un => cases e
      | fz d' =>
        cases e
        obtain ⟨w, e2, k⟩ := S.fz i _ q
        rw [h] at e2
        cases e2
        exact ⟨Z, fun _ z => z, S, k, fun _ _ _ _ q => q⟩
      | ow ds =>
        cases e
        obtain ⟨a, rfl, S', rp⟩ := S.freeze q h
        refine ⟨_, fun _ z => .inl z, S', rp, fun F2 w r2 hF q2 => ?_⟩
        cases r2 with
        | val d2 => exact Rep.mono (fun _ z => .inl z) (fun _ _ _ h => h) _ _ q2
        | fr es =>
          obtain ⟨b, ws, f1, f2, f3, f4, f5, f6⟩ := q2
          refine ⟨b, ws, f1, f2, RepL.mono (fun _ z => .inl z) (fun _ _ _ h => h) es ws f3, fun z => ?_, f5, fun j fs q3 => ?_⟩
          · rcases z with z | rfl
            · exact f4 z
            · exact f6 i ds q h
          · by_cases hj : i = j
            · subst hj
              rw [List.getElem?_set_self (List.getElem?_eq_some_iff.mp q).1] at q3
              cases q3
            · rw [List.getElem?_set_ne hj] at q3
              exact f6 j fs q3
        | sl j => exact q2
theorem RepVs.imp {Z' : AP'} {τ' : FS} : ∀ {F : AP'} {vs : List V} {rs : List RV}, (∀ F2 w r2, (∀ a, F a → F2 a) → RepV T Z F2 τ σ H w r2 → RepV T Z' F2 τ' σ H w r2) → RepVs T Z τ σ H F vs rs → RepVs T Z' τ' σ H F vs rs
  | F, [], [], _, _ => trivial
  | F, v :: vs, r :: rs, k, h => ⟨k F v r (fun _ z => z) h.1, RepVs.imp (fun F2 w r2 hF => k F2 w r2 fun a z => hF a (.inl z)) h.2⟩
  | F, [], _ :: _, _, h => h.elim
  | F, _ :: _, [], _, h => h.elim
theorem frzAll_ok : ∀ {F2 : AP'} {rs : List RV} {vs : List V} {ds : List D} {Z : AP'} {τ : FS}, (∀ a, F a → F2 a) → SR T Z F τ σ H → RepVs T Z τ σ H F2 vs rs → frzAll rs τ = some (ds, τ') →
    ∃ Z', (∀ a, Z a → Z' a) ∧ SR T Z' F τ' σ H ∧ RepL T Z' H ds vs
  | F2, [], [], ds, Z, τ, hF, S, _, e => by
    cases e
    exact ⟨Z, fun _ z => z, S, rfl⟩
  | F2, r :: rs, v :: vs, ds, Z, τ, hF, S, h, e => by
    obtain ⟨h1, h2⟩ := h
    unfold frzAll at e
    cases q : frz r τ with
    | none => rw [q] at e; cases e
    | some p =>
      obtain ⟨d, τ1⟩ := p
      rw [q] at e
      dsimp only at e
      cases q2 : frzAll rs τ1 with
      | none => rw [q2] at e; cases e
      | some p2 =>
        obtain ⟨ds', τ2⟩ := p2
        rw [q2] at e
        cases e
        obtain ⟨Z1, s1, S1, R1, k1⟩ := frz_ok S (h1.wide hF) q
        obtain ⟨Z2, s2, S2, R2⟩ := frzAll_ok (F2 := fun a => F2 a ∨ frOf r v a) (fun a z => .inl (hF a z)) S1
          (RepVs.imp (fun F3 w r2 hF3 q3 => k1 F3 w r2 (fun a z => hF3 a (z.imp (hF a) id)) q3) h2) q2
        exact ⟨Z2, fun a z => s2 a (s1 a z), S2, ⟨v, vs, rfl, Rep.mono s2 (fun _ _ _ h => h) d v R1, R2⟩⟩
  | F2, [], _ :: _, _, _, _, _, _, h, _ => h.elim
  | F2, _ :: _, [], _, _, _, _, _, h, _ => h.elim
end
end Dv

set_option Elab.async false
set_option linter.all false
set_option maxRecDepth 100000
set_option maxHeartbeats 2000000
/-! Dv3: expressions, lifted. -/
namespace Dv
open PySem PySem.Spec PyProof.Rows L2

/-- the context: the text's written part, where exceptions go, nothing is being handled, no name twice -/
structure GX (T : Tx) (X : Cx) (W : WX) : Prop where
  K : X.K = T.K
  tk : Takes X W
  nd : X.N.Nodup

theorem PE.mono {X : Cx} {e : Expr} {t t' : TE} (h : PE X e t) (k : ∀ σ H Q, t' σ H Q → t σ H Q) : PE X e t' := ⟨fun pins s σ H Q I hw => h.run pins s σ H Q I (k σ H Q hw)⟩
theorem PT.mono {X : Cx} {e : Expr} {t t' : TT} (h : PT X e t) (k : ∀ σ H Q, t' σ H Q → t σ H Q) : PT X e t' := ⟨fun pins s σ H Q I hw => h.run pins s σ H Q I (k σ H Q hw)⟩
theorem PW.mono {X : Cx} {e : Expr} {t t' : TT} (h : PW X e t) (k : ∀ σ H Q, t' σ H Q → t σ H Q) : PW X e t' := ⟨fun wh pins s σ H Q I hw => h.run wh pins s σ H Q I (k σ H Q hw)⟩
theorem PA.mono {X : Cx} {e : List Expr} {t t' : TA} (h : PA X e t) (k : ∀ σ H Q, t' σ H Q → t σ H Q) : PA X e t' := ⟨fun pos pins s σ H Q I hw => h.run pos pins s σ H Q I (k σ H Q hw)⟩
theorem PS.mono {X : Cx} {e : Stmt} {t t' : TS} (h : PS X e t) (k : ∀ D σ H, t' D σ H → t D σ H) : PS X e t' := ⟨fun pins s σ H D I hw => h.run pins s σ H D I (k D σ H hw)⟩
theorem PSs.mono {X : Cx} {e : List Stmt} {t t' : TS} (h : PSs X e t) (k : ∀ D σ H, t' D σ H → t D σ H) : PSs X e t' := ⟨fun pins s σ H D I hw => h.run pins s σ H D I (k D σ H hw)⟩

/-! ### what the operations do with data -/
def P2 (T : Tx) (r : R2) (g : D → D → Option Out) : Prop := ∀ Z H d e x y o Q, Sh T Z H d x → Sh T Z H e y → g d e = some o → OutOk T Z H Q o → r x y H Q
def P1 (T : Tx) (r : V → Hp → VK → Prop) (g : D → Option Out) : Prop := ∀ Z H d x o Q, Sh T Z H d x → g d = some o → OutOk T Z H Q o → r x H Q
def PN (T : Tx) (r : List V → Hp → VK → Prop) (g : List D → Option Out) : Prop := ∀ Z H ds xs o Q, ShL T Z H ds xs → g ds = some o → OutOk T Z H Q o → r xs H Q
def P1N (T : Tx) (r : V → List V → Hp → VK → Prop) (g : D → List D → Option Out) : Prop := ∀ Z H d ds x xs o Q, Sh T Z H d x → ShL T Z H ds xs → g d ds = some o → OutOk T Z H Q o → r x xs H Q
def fin (o : Option Out) (τ : FS) : Res RV := match o with
  | some o => .ok (outV o) τ
  | none => .no
def op2 (g : D → D → Option Out) (fa fb : FS → Res RV) (τ : FS) : Res RV := bindR (fa τ) fun ra τ1 => bindR (fb τ1) fun rb τ2 => match look τ2 ra, look τ2 rb with
  | some d, some e => fin (g d e) τ2
  | _, _ => .no
def op1 (g : D → Option Out) (fa : FS → Res RV) (τ : FS) : Res RV := bindR (fa τ) fun ra τ1 => match look τ1 ra with
  | some d => fin (g d) τ1
  | none => .no
def opN (g : List D → Option Out) (fa : FS → Res (List RV)) (τ : FS) : Res RV := bindR (fa τ) fun rs τ1 => match rs.mapM (look τ1) with
  | some ds => fin (g ds) τ1
  | none => .no
/-- the receiver is read behind the arguments -/
def op1N (g : D → List D → Option Out) (fo : FS → Res RV) (fa : FS → Res (List RV)) (τ : FS) : Res RV := bindR (fo τ) fun ro τ1 => bindR (fa τ1) fun rs τ2 => match look τ2 ro, rs.mapM (look τ2) with
  | some d, some ds => fin (g d ds) τ2
  | _, _ => .no

section
variable {T : Tx} {X : Cx} {W : WX} {a b c e : Expr} {es : List Expr} {fa fb fc : FS → Res RV} {fs : FS → Res (List RV)} {ft fu : FS → Res Bool} {pos pos' p : Pos} {Z F : AP'} {τ τ' : FS} {σ : L2.St} {H : Hp}
theorem fin_ok {o : Option Out} {Q : VK} (S : SR T Z F τ σ H) (h : PostR T W (relE T) Z F H σ (fin o τ) Q) : ∃ u, o = some u ∧ OutOk T Z H Q u := by
  cases o with
  | none => exact h.elim
  | some u => exact ⟨u, rfl, out_done S h⟩

/-! names, constants -/
def evVar (i : Nat) (τ : FS) : Res RV := match τ[i]? with
  | some (.fz _) => .ok (.sl i) τ
  | some (.ow _) => .ok (.sl i) τ
  | _ => .no
theorem r_var {i : Nat} (h : PE X e (tVar i)) : PE X e (tW T W (evVar i)) := by
  refine PE.mono h fun σ H Q ⟨Z, F, τ, S, h⟩ => ?_
  unfold evVar at h
  cases q : τ[i]? with
  | none => rw [q] at h; exact h.elim
  | some s =>
    rw [q] at h
    cases s with
    | un => exact h.elim
    | fz d =>
      obtain ⟨v, e, _⟩ := S.fz i d q
      exact ⟨v, e, h v Z H Ext.refl S e⟩
    | ow ds =>
      obtain ⟨a, vs, e, _⟩ := S.ow i ds q
      exact ⟨_, e, h _ Z H Ext.refl S e⟩
def evC (d : D) (τ : FS) : Res RV := .ok (.val d) τ
theorem r_const {v : V} {d : D} (h : PE X e (tC v)) (k : ∀ Z H, Rep T Z H d v) : PE X e (tW T W (evC d)) :=
  PE.mono h fun σ H Q ⟨Z, F, τ, S, h⟩ => h v Z H Ext.refl S (k Z H)

/-! operators -/
theorem r_op2 {g : D → D → Option Out} {r : R2} (h : ∀ {ta tb : TE}, PE X a ta → PE X b tb → PE X e (tOp r ta tb)) (hg : P2 T r g) (ha : PE X a (tW T W fa)) (hb : PE X b (tW T W fb)) : PE X e (tW T W (op2 g fa fb)) := by
  refine PE.mono (h ha hb) fun σ H Q ⟨Z, F, τ, S, h⟩ => ?_
  refine bind1 S h fun x ra τ1 Z1 H1 E1 S1 R1 h1 => ?_
  refine bindF (S1.addF R1) (fun _ => .inl) h1 fun y rb τ2 Z2 H2 E2 S2 R2 h2 => ?_
  have R1' := R1.carry E2 S2
  have S2' := S2.wide (F := F) fun _ => .inl
  cases q1 : look τ2 ra with
  | none => rw [q1] at h2; exact h2.elim
  | some d =>
    cases q2 : look τ2 rb with
    | none => rw [q1, q2] at h2; exact h2.elim
    | some d' =>
      rw [q1, q2] at h2
      obtain ⟨o, e, ok⟩ := fin_ok S2' h2
      exact hg Z2 H2 d d' x y o Q (S2'.sh R1' q1) (S2.sh R2 q2) e ok
theorem r_op1 {g : D → Option Out} {r : V → Hp → VK → Prop} (h : ∀ {ta : TE}, PE X a ta → PE X e (tUn r ta)) (hg : P1 T r g) (ha : PE X a (tW T W fa)) : PE X e (tW T W (op1 g fa)) := by
  refine PE.mono (h ha) fun σ H Q ⟨Z, F, τ, S, h⟩ => ?_
  refine bind1 S h fun x ra τ1 Z1 H1 E1 S1 R1 h1 => ?_
  cases q1 : look τ1 ra with
  | none => rw [q1] at h1; exact h1.elim
  | some d =>
    rw [q1] at h1
    obtain ⟨o, e, ok⟩ := fin_ok S1 h1
    exact hg Z1 H1 d x o Q (S1.sh R1 q1) e ok
theorem r_opN {g : List D → Option Out} {r : List V → Hp → VK → Prop} (h : ∀ {t : TA}, PA X es t → PE X e (tCB r t)) (hg : PN T r g) (ha : PA X es (tWA T W fs)) : PE X e (tW T W (opN g fs)) := by
  refine PE.mono (h ha) fun σ H Q ⟨Z, F, τ, S, h⟩ => ?_
  refine bind1 S h fun xs rs τ1 Z1 H1 E1 S1 R1 h1 => ?_
  cases q1 : rs.mapM (look τ1) with
  | none => rw [q1] at h1; exact h1.elim
  | some ds =>
    rw [q1] at h1
    obtain ⟨o, e, ok⟩ := fin_ok S1 h1
    exact hg Z1 H1 ds xs o Q (RepVs.sh S1 R1 q1) e ok

/-! arguments -/
def evNil (τ : FS) : Res (List RV) := .ok [] τ
def evCons (fa : FS → Res RV) (fs : FS → Res (List RV)) (τ : FS) : Res (List RV) := bindR (fa τ) fun r τ1 => bindR (fs τ1) fun rs τ2 => .ok (r :: rs) τ2
theorem r_nil : PA X [] (tWA T W evNil) := PA.mono pa_nil fun σ H Q ⟨Z, F, τ, S, h⟩ => h [] Z H Ext.refl S trivial
theorem r_cons (ha : PE X e (tW T W fa)) (hr : PA X es (tWA T W fs)) (hs : starEach (e :: es) X.env = (false, eval e X.env) :: starEach es X.env) : PA X (e :: es) (tWA T W (evCons fa fs)) := by
  refine PA.mono (pa_cons ha hr hs) fun σ H Q ⟨Z, F, τ, S, h⟩ => ?_
  refine bind1 S h fun x ra τ1 Z1 H1 E1 S1 R1 h1 => ?_
  refine bindF (S1.addF R1) (fun _ => .inl) h1 fun ys rs τ2 Z2 H2 E2 S2 R2 h2 => ?_
  exact h2 (x :: ys) Z2 H2 Ext.refl (S2.wide fun _ => .inl) ⟨R1.carry E2 S2, R2⟩

/-! displays -/
def evTup (fs : FS → Res (List RV)) (τ : FS) : Res RV := bindR (fs τ) fun rs τ1 => match frzAll rs τ1 with
  | some (ds, τ2) => if ds.length ≤ sizeLine then .ok (.val (.tup ds)) τ2 else .no
  | none => .no
def evLst (fs : FS → Res (List RV)) (τ : FS) : Res RV := bindR (fs τ) fun rs τ1 => match frzAll rs τ1 with
  | some (ds, τ2) => if ds.length ≤ sizeLine then .ok (.fr ds) τ2 else .no
  | none => .no
theorem r_tup {x1} (ha : PA X es (tWA T W fs)) : PE X (.Tuple es x1 pos) (tW T W (evTup fs)) := by
  refine PE.mono (pe_tup ha) fun σ H Q ⟨Z, F, τ, S, h⟩ => ?_
  refine bind1 S h fun xs rs τ1 Z1 H1 E1 S1 R1 h1 => ?_
  cases q : frzAll rs τ1 with
  | none => rw [q] at h1; exact h1.elim
  | some p =>
    obtain ⟨ds, τ2⟩ := p
    rw [q] at h1
    dsimp only at h1
    by_cases hl : ds.length ≤ sizeLine
    · rw [if_pos hl] at h1
      obtain ⟨Z2, s2, S2, R2⟩ := frzAll_ok (fun _ z => z) S1 R1 q
      refine ⟨by rw [R2.length]; exact hl, fun p hp => ?_⟩
      have e : Ext Z1 F H1 (fun a => Z2 a ∨ a = p) (upd H1 p (.tup xs)) := Ext.new1 S1 hp fun _ z => .inl (s2 _ z)
      refine h1 _ (fun a => Z2 a ∨ a = p) _ e ((S2.new hp).addZ (by rw [upd_same]; exact fun z => nomatch z) (S2.notF hp) (S2.notOwn hp)) ?_
      exact ⟨p, xs, rfl, .inl ⟨.inr rfl, upd_same⟩, RepL.ext (Ext.new1 S2 hp fun _ z => .inl z : Ext Z2 F H1 (fun a => Z2 a ∨ a = p) (upd H1 p (.tup xs))) R2⟩
    · rw [if_neg hl] at h1; exact h1.elim
theorem r_lst (ha : PA X es (tWA T W fs)) : PE X (.List es pos) (tW T W (evLst fs)) := by
  refine PE.mono (pe_lst ha) fun σ H Q ⟨Z, F, τ, S, h⟩ => ?_
  refine bind1 S h fun xs rs τ1 Z1 H1 E1 S1 R1 h1 => ?_
  cases q : frzAll rs τ1 with
  | none => rw [q] at h1; exact h1.elim
  | some p =>
    obtain ⟨ds, τ2⟩ := p
    rw [q] at h1
    dsimp only at h1
    by_cases hl : ds.length ≤ sizeLine
    · rw [if_pos hl] at h1
      obtain ⟨Z2, s2, S2, R2⟩ := frzAll_ok (fun _ z => z) S1 R1 q
      refine ⟨by rw [R2.length]; exact hl, fun p hp => ?_⟩
      have e : Ext Z1 F H1 Z2 (upd H1 p (.lst xs)) := Ext.new1 S1 hp s2
      have e2 : Ext Z2 F H1 Z2 (upd H1 p (.lst xs)) := Ext.new1 S2 hp fun _ z => z
      exact h1 _ Z2 _ e (S2.new hp) ⟨p, xs, rfl, upd_same, RepL.ext e2 R2, S2.notZ hp, S2.notF hp, S2.notOwn hp⟩
    · rw [if_neg hl] at h1; exact h1.elim

/-! truth -/
def truth : D → Option Bool
  | .non => some false
  | .bl b => some b
  | .int i => some (i != 0)
  | .str s => if s.length ≤ sizeLine then some ((s.length : Int) != 0) else none
  | .tup ds => some (!ds.isEmpty)
  | .lst ds => some (!ds.isEmpty)
  | _ => none
theorem RepL.isEmpty {ds : List D} {vs : List V} {Z : AP'} (r : RepL T Z H ds vs) : vs.isEmpty = ds.isEmpty := by
  cases ds with
  | nil => rw [show vs = [] from r]; rfl
  | cons d ds => obtain ⟨v, w, e, _⟩ := r; rw [e]; rfl
theorem wrT_sqT {K : PySem.W.Frag} {q : Addr} {xs : List V} (h : WrT K q xs) : SqT K H q xs := .inr h
theorem Rep.tupSq {ds : List D} {v : V} (h : Rep T Z H (.tup ds) v) : ∃ q vs, v = .ref q ∧ SqT T.K H q vs ∧ RepL T Z H ds vs := by
  obtain ⟨q, vs, e, k, r⟩ := h
  refine ⟨q, vs, e, ?_, r⟩
  rcases k with ⟨_, k⟩ | k
  · exact SqT.of k
  · exact .inr k
theorem truth_ok (G : X.K = T.K) {d : D} {x : V} {k : Bool} (h : Sh T Z H d x) (e : truth d = some k) : TruV X.K x H k := by
  rw [G]
  cases d with
  | non => cases e; cases (show x = .non from h); rfl
  | bl b =>
    have h : x = .bl b := h
    subst h
    cases e
    rfl
  | int i => cases e; cases (show x = .int i from h); rfl
  | str s =>
    have h : x = .str s := h
    subst h
    have e : (if s.length ≤ sizeLine then some ((s.length : Int) != 0) else none) = some k := e
    by_cases hl : s.length ≤ sizeLine
    · rw [if_pos hl] at e
      cases e
      exact ⟨hl, rfl⟩
    · rw [if_neg hl] at e; cases e
  | tup ds =>
    cases e
    obtain ⟨q, vs, rfl, sq, r⟩ := Rep.tupSq h
    exact .inr (.inl ⟨vs, sq, by rw [r.isEmpty]⟩)
  | lst ds =>
    cases e
    obtain ⟨q, vs, rfl, sq, r⟩ := h
    exact .inl ⟨vs, SqL.of sq, by rw [r.isEmpty]⟩
  | _ => cases e
def evTruth (fa : FS → Res RV) (τ : FS) : Res Bool := bindR (fa τ) fun r τ1 => match (look τ1 r).bind truth with
  | some k => .ok k τ1
  | none => .no
theorem look_truth {r : RV} {Q : Bool → Hp → Prop} (e : (look τ r).bind truth = some k) : ∃ d, look τ r = some d ∧ truth d = some k := by
  cases q : look τ r with
  | none => rw [q] at e; cases e
  | some d => rw [q] at e; exact ⟨d, rfl, e⟩
theorem t_truth (G : X.K = T.K) (ha : PE X a (tW T W fa)) (he : ∀ whole, isTrue a X.env whole = (do let v ← whole; standAt a.pos; holding [v] (truthy v))) : PT X a (tWT T W (evTruth fa)) := by
  refine PT.mono (pt_truth ha he) fun σ H Q ⟨Z, F, τ, S, h⟩ => ?_
  refine bind1 S h fun x r τ1 Z1 H1 E1 S1 R1 h1 => ?_
  cases q : (look τ1 r).bind truth with
  | none => rw [q] at h1; exact h1.elim
  | some k =>
    rw [q] at h1
    cases q2 : look τ1 r with
    | none => rw [q2] at q; cases q
    | some d =>
      rw [q2] at q
      exact ⟨k, truth_ok G (S1.sh R1 q2) q, h1 k Z1 H1 Ext.refl S1 rfl⟩
/-- a comparison as a test -/
def evBl (fa : FS → Res RV) (τ : FS) : Res Bool := bindR (fa τ) fun r τ1 => match look τ1 r with
  | some (.bl k) => .ok k τ1
  | _ => .no
theorem t_bl {t : TE} (h : PT X e (tTest t)) (ht : ∀ σ H Q, tW T W fa σ H Q → t σ H Q) : PT X e (tWT T W (evBl fa)) := by
  refine PT.mono h fun σ H Q ⟨Z, F, τ, S, h⟩ => ht σ H _ ?_
  refine bind1 S h fun x r τ1 Z1 H1 E1 S1 R1 h1 => ?_
  cases q : look τ1 r with
  | none => rw [q] at h1; exact h1.elim
  | some d =>
    rw [q] at h1
    cases d with
    | bl k => exact ⟨k, S1.sh R1 q, h1 k Z1 H1 Ext.refl S1 rfl⟩
    | _ => exact h1.elim
/-! and, or, not, conditional expressions -/
def evAndT (ft fu : FS → Res Bool) (τ : FS) : Res Bool := bindR (ft τ) fun k τ1 => if k = true then fu τ1 else .ok false τ1
def evOrT (ft fu : FS → Res Bool) (τ : FS) : Res Bool := bindR (ft τ) fun k τ1 => if k = true then .ok true τ1 else fu τ1
def evNotT (ft : FS → Res Bool) (τ : FS) : Res Bool := bindR (ft τ) fun k τ1 => .ok (!k) τ1
theorem PostR.goto {α β : Type} {rel : Rel α β} {f : FS → Res α} {Q : β → Hp → Prop} (S : SR T Z F τ σ H) (h : PostR T W rel Z F H σ (f τ) Q) : tWR T W rel f σ H Q := ⟨Z, F, τ, S, h⟩
theorem t_and1 {t : TT} (h : ∀ {t : TT}, PT X a t → PW X e t) (ha : PT X a (tWT T W ft)) : PW X e (tWT T W ft) := h ha
theorem t_and {rest : List Expr} (ha : PT X a (tWT T W ft)) (hb : PW X (.BoolOp .And (b :: rest) pos) (tWT T W fu)) : PW X (.BoolOp .And (a :: b :: rest) pos) (tWT T W (evAndT ft fu)) := by
  refine PW.mono (pw_and ha hb) fun σ H Q ⟨Z, F, τ, S, h⟩ => ?_
  refine bind1 S h fun x k τ1 Z1 H1 E1 S1 R1 h1 => ?_
  cases R1
  by_cases hx : x = true
  · rw [if_pos hx] at h1 ⊢
    exact PostR.goto S1 h1
  · rw [if_neg hx] at h1 ⊢
    exact h1 false Z1 H1 Ext.refl S1 rfl
theorem t_or {rest : List Expr} (ha : PT X a (tWT T W ft)) (hb : PW X (.BoolOp .Or (b :: rest) pos) (tWT T W fu)) : PW X (.BoolOp .Or (a :: b :: rest) pos) (tWT T W (evOrT ft fu)) := by
  refine PW.mono (pw_or ha hb) fun σ H Q ⟨Z, F, τ, S, h⟩ => ?_
  refine bind1 S h fun x k τ1 Z1 H1 E1 S1 R1 h1 => ?_
  cases R1
  by_cases hx : x = true
  · rw [if_pos hx] at h1 ⊢
    exact h1 true Z1 H1 Ext.refl S1 rfl
  · rw [if_neg hx] at h1 ⊢
    exact PostR.goto S1 h1
theorem t_not (ha : PT X a (tWT T W ft)) : PT X (.UnaryOp .Not a pos) (tWT T W (evNotT ft)) := by
  refine PT.mono (pt_not ha) fun σ H Q ⟨Z, F, τ, S, h⟩ => ?_
  refine bind1 S h fun x k τ1 Z1 H1 E1 S1 R1 h1 => ?_
  cases R1
  exact h1 (!x) Z1 H1 Ext.refl S1 rfl
def evIf {α : Type} (ft : FS → Res Bool) (fa fb : FS → Res α) (τ : FS) : Res α := bindR (ft τ) fun k τ1 => if k = true then fa τ1 else fb τ1
theorem r_ifE (hc : PT X c (tWT T W ft)) (ha : PE X a (tW T W fa)) (hb : PE X b (tW T W fb)) : PE X (.IfExp c a b pos) (tW T W (evIf ft fa fb)) := by
  refine PE.mono (pe_ifExp hc ha hb) fun σ H Q ⟨Z, F, τ, S, h⟩ => ?_
  refine bind1 S h fun x k τ1 Z1 H1 E1 S1 R1 h1 => ?_
  cases R1
  by_cases hx : x = true
  · rw [if_pos hx] at h1 ⊢
    exact PostR.goto S1 h1
  · rw [if_neg hx] at h1 ⊢
    exact PostR.goto S1 h1
def evAndV (fa fb : FS → Res RV) (τ : FS) : Res RV := bindR (fa τ) fun r τ1 => match (look τ1 r).bind truth with
  | some k => if k = true then fb τ1 else .ok r τ1
  | none => .no
def evOrV (fa fb : FS → Res RV) (τ : FS) : Res RV := bindR (fa τ) fun r τ1 => match (look τ1 r).bind truth with
  | some k => if k = true then .ok r τ1 else fb τ1
  | none => .no
def evNotV (fa : FS → Res RV) (τ : FS) : Res RV := bindR (fa τ) fun r τ1 => match (look τ1 r).bind truth with
  | some k => .ok (.val (.bl (!k))) τ1
  | none => .no
theorem r_one {op} {t : TE} (h : PE X a t) : PE X (.BoolOp op [a] pos) t := pe_one h
theorem r_and {rest : List Expr} (G : X.K = T.K) (ha : PE X a (tW T W fa)) (hb : PE X (.BoolOp .And (b :: rest) pos) (tW T W fb)) : PE X (.BoolOp .And (a :: b :: rest) pos) (tW T W (evAndV fa fb)) := by
  refine PE.mono (pe_andT ha hb) fun σ H Q ⟨Z, F, τ, S, h⟩ => ?_
  refine bind1 S h fun x r τ1 Z1 H1 E1 S1 R1 h1 => ?_
  cases q : (look τ1 r).bind truth with
  | none => rw [q] at h1; exact h1.elim
  | some k =>
    rw [q] at h1
    cases q2 : look τ1 r with
    | none => rw [q2] at q; cases q
    | some d =>
      rw [q2] at q
      refine ⟨k, truth_ok G (S1.sh R1 q2) q, ?_⟩
      dsimp only at h1
      by_cases hx : k = true
      · rw [if_pos hx] at h1 ⊢
        exact PostR.goto S1 h1
      · rw [if_neg hx] at h1 ⊢
        exact h1 x Z1 H1 Ext.refl S1 R1
theorem r_or {rest : List Expr} (G : X.K = T.K) (ha : PE X a (tW T W fa)) (hb : PE X (.BoolOp .Or (b :: rest) pos) (tW T W fb)) : PE X (.BoolOp .Or (a :: b :: rest) pos) (tW T W (evOrV fa fb)) := by
  refine PE.mono (pe_orT ha hb) fun σ H Q ⟨Z, F, τ, S, h⟩ => ?_
  refine bind1 S h fun x r τ1 Z1 H1 E1 S1 R1 h1 => ?_
  cases q : (look τ1 r).bind truth with
  | none => rw [q] at h1; exact h1.elim
  | some k =>
    rw [q] at h1
    cases q2 : look τ1 r with
    | none => rw [q2] at q; cases q
    | some d =>
      rw [q2] at q
      refine ⟨k, truth_ok G (S1.sh R1 q2) q, ?_⟩
      dsimp only at h1
      by_cases hx : k = true
      · rw [if_pos hx] at h1 ⊢
        exact h1 x Z1 H1 Ext.refl S1 R1
      · rw [if_neg hx] at h1 ⊢
        exact PostR.goto S1 h1
theorem r_not (G : X.K = T.K) (ha : PE X a (tW T W fa)) : PE X (.UnaryOp .Not a pos) (tW T W (evNotV fa)) := by
  refine PE.mono (pe_notT ha) fun σ H Q ⟨Z, F, τ, S, h⟩ => ?_
  refine bind1 S h fun x r τ1 Z1 H1 E1 S1 R1 h1 => ?_
  cases q : (look τ1 r).bind truth with
  | none => rw [q] at h1; exact h1.elim
  | some k =>
    rw [q] at h1
    cases q2 : look τ1 r with
    | none => rw [q2] at q; cases q
    | some d =>
      rw [q2] at q
      exact ⟨k, truth_ok G (S1.sh R1 q2) q, h1 _ Z1 H1 Ext.refl S1 rfl⟩
end
end Dv

set_option Elab.async false
set_option linter.all false
set_option maxRecDepth 100000
set_option maxHeartbeats 2000000
/-! Dv4: what the built-in operations do with data. -/
namespace Dv
open PySem PySem.Spec PyProof.Rows L2
/-! ### reading -/
section
variable {T : Tx} {Z : AP'} {H : Hp} {d : D} {ds : List D} {x v : V} {xs : List V}
theorem Sh.int {i : Int} (h : Sh T Z H (.int i) x) : x = .int i := h
theorem Sh.str {i : Str} (h : Sh T Z H (.str i) x) : x = .str i := h
theorem Sh.bl {i : Bool} (h : Sh T Z H (.bl i) x) : x = .bl i := h
theorem Sh.tup (h : Sh T Z H (.tup ds) x) : ∃ q vs, x = .ref q ∧ SqT T.K H q vs ∧ RepL T Z H ds vs := Rep.tupSq h
theorem Sh.lst (h : Sh T Z H (.lst ds) x) : ∃ q vs, x = .ref q ∧ H q = some (.lst vs) ∧ RepL T Z H ds vs := h
theorem Sh.scr {ns : List Int} (h : Sh T Z H (.scr ns) x) : ∃ q, x = .ref q ∧ SqL T.K H q (ns.map V.int) := by
  obtain ⟨a, e, q⟩ := h
  refine ⟨a, e, ?_⟩
  rcases q with ⟨_, o, q⟩ | q
  · exact .inl (.inr ⟨o, q⟩)
  · exact .inr q
theorem ShL.nil (h : ShL T Z H [] xs) : xs = [] := h
theorem ShL.one (h : ShL T Z H [d] xs) : ∃ x, xs = [x] ∧ Sh T Z H d x := by
  obtain ⟨v, r, e, h1, h2⟩ := h
  rw [show r = [] from h2] at e
  exact ⟨v, e, h1⟩
theorem ShL.two {d2 : D} (h : ShL T Z H [d, d2] xs) : ∃ x y, xs = [x, y] ∧ Sh T Z H d x ∧ Sh T Z H d2 y := by
  obtain ⟨v, r, e, h1, h2⟩ := h
  obtain ⟨y, e2, h3⟩ := ShL.one h2
  exact ⟨v, y, by rw [e, e2], h1, h3⟩
/-- all of a list are ints -/
def ints? : List D → Option (List Int)
  | [] => some []
  | .int i :: r => (ints? r).map (i :: ·)
  | _ => none
def bls? : List D → Option (List Bool)
  | [] => some []
  | .bl i :: r => (bls? r).map (i :: ·)
  | _ => none
def strs? : List D → Option (List Str)
  | [] => some []
  | .str i :: r => (strs? r).map (i :: ·)
  | _ => none
theorem ints?_eq : ∀ {ds : List D} {ns : List Int}, ints? ds = some ns → ds = ns.map D.int
  | [], ns, h => by cases h; rfl
  | d :: ds, ns, h => by
    cases d with
    | int i =>
      have h : (ints? ds).map (i :: ·) = some ns := h
      cases q : ints? ds with
      | none => rw [q] at h; cases h
      | some m => rw [q] at h; cases h; rw [ints?_eq q]; rfl
    | _ => cases h
theorem bls?_eq : ∀ {ds : List D} {ns : List Bool}, bls? ds = some ns → ds = ns.map D.bl
  | [], ns, h => by cases h; rfl
  | d :: ds, ns, h => by
    cases d with
    | bl i =>
      have h : (bls? ds).map (i :: ·) = some ns := h
      cases q : bls? ds with
      | none => rw [q] at h; cases h
      | some m => rw [q] at h; cases h; rw [bls?_eq q]; rfl
    | _ => cases h
theorem strs?_eq : ∀ {ds : List D} {ns : List Str}, strs? ds = some ns → ds = ns.map D.str
  | [], ns, h => by cases h; rfl
  | d :: ds, ns, h => by
    cases d with
    | str i =>
      have h : (strs? ds).map (i :: ·) = some ns := h
      cases q : strs? ds with
      | none => rw [q] at h; cases h
      | some m => rw [q] at h; cases h; rw [strs?_eq q]; rfl
    | _ => cases h
theorem ints?_map : ∀ (ns : List Int), ints? (ns.map D.int) = some ns
  | [] => rfl
  | n :: ns => by show (ints? (ns.map D.int)).map (n :: ·) = _; rw [ints?_map ns]; rfl
theorem strs?_map : ∀ (ns : List Str), strs? (ns.map D.str) = some ns
  | [] => rfl
  | n :: ns => by show (strs? (ns.map D.str)).map (n :: ·) = _; rw [strs?_map ns]; rfl
theorem bls?_map : ∀ (ns : List Bool), bls? (ns.map D.bl) = some ns
  | [] => rfl
  | n :: ns => by show (bls? (ns.map D.bl)).map (n :: ·) = _; rw [bls?_map ns]; rfl
end

/-! ### arithmetic -/
def oI (i : Int) : Option Out := some (.sc (.int i))
def oB (b : Bool) : Option Out := some (.sc (.bl b))
def oS (s : Str) : Option Out := some (.sc (.str s))
def dAdd : D → D → Option Out
  | .int i, .int j => oI (i + j)
  | .str a, .str b => if a.length + b.length ≤ sizeLine then oS (a ++ b) else none
  | .lst xs, .lst ys => if xs.length + ys.length ≤ sizeLine then some (.nl (xs ++ ys)) else none
  | .tup xs, .tup ys => if xs.length + ys.length ≤ sizeLine then (if xs.isEmpty then some (.sc (.tup ys)) else if ys.isEmpty then some (.sc (.tup xs)) else some (.nt (xs ++ ys))) else none
  | _, _ => none
def dSub : D → D → Option Out
  | .int i, .int j => oI (i - j)
  | _, _ => none
/-- one factor below 2 ^ 64, or together below a million bits -/
def mulOk (i j : Int) : Bool := decide (i.natAbs < 2 ^ 64) || decide (j.natAbs < 2 ^ 64) || decide (i.natAbs.log2 + j.natAbs.log2 < 1000000)
def dMul : D → D → Option Out
  | .int i, .int j => if mulOk i j then oI (i * j) else none
  | .lst xs, .int k => if -(2 ^ 63) ≤ k ∧ k < 2 ^ 63 ∧ xs.length * k.toNat ≤ sizeLine then some (.nl (List.replicate k.toNat xs).flatten) else none
  | .tup xs, .int k => if xs.isEmpty = false ∧ 2 ≤ k ∧ k ≤ 1000 ∧ xs.length ≤ 1000 then some (.nt (List.replicate k.toNat xs).flatten) else none
  | _, _ => none
def dDiv : D → D → Option Out
  | .int i, .int j => if 0 < j ∧ j.natAbs.log2 < 9000 then oI (i / j) else if j ≠ 0 ∧ j.natAbs < 1073741824 then oI (i.fdiv j) else none
  | _, _ => none
def dMod : D → D → Option Out
  | .int i, .int j => if 0 < j then oI (i % j) else if j ≠ 0 then oI (i.fmod j) else none
  | _, _ => none
def dPow : D → D → Option Out
  | .int i, .int j => if 0 ≤ j ∧ j ≤ 1000000 ∧ i.natAbs < 2 ^ 64 then oI (i ^ j.toNat) else none
  | _, _ => none
def dNeg : D → Option Out
  | .int i => oI (-i)
  | _ => none

section
variable {T : Tx} {X : Cx} {W : WX}
theorem CMulA.ok {i j : Int} (h : mulOk i j = true) : IntMulOk i j := by
  unfold mulOk at h
  simp only [Bool.or_eq_true, decide_eq_true_eq] at h
  rcases h with (h | h) | h
  · exact CMul.ok (.inl ⟨by omega, by omega⟩)
  · exact CMul.ok (.inr ⟨by omega, by omega⟩)
  · exact CMulW.ok h
abbrev rAdd4 (K : PySem.W.Frag) : R2 := fun x y H Q => rI0 (fun i j => .int (i + j)) x y H Q ∨ (∃ i j, x = .str i ∧ y = .str j ∧ i.length + j.length ≤ sizeLine ∧ Q (.str (i ++ j)) H) ∨ rCat x y H Q ∨ rCatA K x y H Q
theorem o_add (G : X.K = T.K) : OpR X (binaryOp .Add) (rAdd4 T.K) := G ▸ op_add.or (op_add_str.or (op_cat.or op_catA))
theorem p_add : P2 T (rAdd4 T.K) dAdd := by
  intro Z H d e x y o Q hx hy hg ok
  cases d with
  | int i =>
    cases e with
    | int j => cases hg; exact .inl ⟨i, j, hx, hy, ok _ rfl⟩
    | _ => cases hg
  | str i =>
    cases e with
    | str j =>
      have hg : (if i.length + j.length ≤ sizeLine then oS (i ++ j) else none) = some o := hg
      by_cases hl : i.length + j.length ≤ sizeLine
      · rw [if_pos hl] at hg
        cases hg
        exact .inr (.inl ⟨i, j, hx, hy, hl, ok _ rfl⟩)
      · rw [if_neg hl] at hg; cases hg
    | _ => cases hg
  | lst xs =>
    cases e with
    | lst ys =>
      have hg : (if xs.length + ys.length ≤ sizeLine then some (Out.nl (xs ++ ys)) else none) = some o := hg
      by_cases hl : xs.length + ys.length ≤ sizeLine
      · rw [if_pos hl] at hg
        cases hg
        obtain ⟨q, vs, rfl, k1, r1⟩ := Sh.lst hx
        obtain ⟨q', ws, rfl, k2, r2⟩ := Sh.lst hy
        exact .inr (.inr (.inl ⟨q, q', vs, ws, rfl, rfl, k1, k2, by rw [r1.length, r2.length]; exact hl, fun p hp => ok p _ hp (r1.append r2)⟩))
      · rw [if_neg hl] at hg; cases hg
    | _ => cases hg
  | tup xs =>
    cases e with
    | tup ys =>
      have hg : (if xs.length + ys.length ≤ sizeLine then (if xs.isEmpty then some (Out.sc (.tup ys)) else if ys.isEmpty then some (Out.sc (.tup xs)) else some (Out.nt (xs ++ ys))) else none) = some o := hg
      by_cases hl : xs.length + ys.length ≤ sizeLine
      · rw [if_pos hl] at hg
        obtain ⟨q, vs, e1, k1, r1⟩ := Sh.tup hx
        obtain ⟨q', ws, e2, k2, r2⟩ := Sh.tup hy
        have i1 := r1.isEmpty
        have i2 := r2.isEmpty
        refine .inr (.inr (.inr ⟨q, q', vs, ws, e1, e2, k1, k2, by rw [r1.length, r2.length]; exact hl, fun z => ?_, fun z z2 => ?_, fun z z2 p hp => ?_⟩))
        · rw [z] at i1
          rw [if_pos (show xs.isEmpty = true from i1.symm)] at hg
          cases hg
          rw [← e2]
          exact ok y hy
        · have n1 : ¬ xs.isEmpty = true := fun q => z (List.isEmpty_iff.mp (i1.trans q))
          rw [z2] at i2
          rw [if_neg n1, if_pos (show ys.isEmpty = true from i2.symm)] at hg
          cases hg
          rw [← e1]
          exact ok x hx
        · have n1 : ¬ xs.isEmpty = true := fun q => z (List.isEmpty_iff.mp (i1.trans q))
          have n2 : ¬ ys.isEmpty = true := fun q => z2 (List.isEmpty_iff.mp (i2.trans q))
          rw [if_neg n1, if_neg n2] at hg
          cases hg
          exact ok p _ hp (r1.append r2)
      · rw [if_neg hl] at hg; cases hg
    | _ => cases hg
  | _ => cases hg
theorem p_sub : P2 T (rI0 fun i j => .int (i - j)) dSub := by
  intro Z H d e x y o Q hx hy hg ok
  cases d with
  | int i =>
    cases e with
    | int j => cases hg; exact ⟨i, j, hx, hy, ok _ rfl⟩
    | _ => cases hg
  | _ => cases hg
abbrev rMul2 (K : PySem.W.Frag) : R2 := fun x y H Q => rI IntMulOk (fun i j => .int (i * j)) x y H Q ∨ (rRep x y H Q ∨ rRepT K x y H Q)
theorem o_mul (G : X.K = T.K) : OpR X (binaryOp .Mult) (rMul2 T.K) := G ▸ OpR.or (opI fun _ _ _ _ _ _ _ hc q => mul_int q hc) (op_rep.or op_repT)
theorem p_mul : P2 T (rMul2 T.K) dMul := by
  intro Z H d e x y o Q hx hy hg ok
  cases d with
  | int i =>
    cases e with
    | int j =>
      have hg : (if mulOk i j = true then oI (i * j) else none) = some o := hg
      by_cases h : mulOk i j = true
      · rw [if_pos h] at hg; cases hg; exact .inl ⟨i, j, hx, hy, CMulA.ok h, ok _ rfl⟩
      · rw [if_neg h] at hg; cases hg
    | _ => cases hg
  | lst xs =>
    cases e with
    | int k =>
      have hg : (if -(2 ^ 63) ≤ k ∧ k < 2 ^ 63 ∧ xs.length * k.toNat ≤ sizeLine then some (Out.nl (List.replicate k.toNat xs).flatten) else none) = some o := hg
      by_cases h : -(2 ^ 63) ≤ k ∧ k < 2 ^ 63 ∧ xs.length * k.toNat ≤ sizeLine
      · rw [if_pos h] at hg
        cases hg
        obtain ⟨q, vs, e1, k1, r1⟩ := Sh.lst hx
        exact .inr (.inl ⟨q, k, vs, e1, hy, k1, h.1, h.2.1, by rw [r1.length]; exact h.2.2, fun p hp => ok p _ hp (r1.rep _)⟩)
      · rw [if_neg h] at hg; cases hg
    | _ => cases hg
  | tup xs =>
    cases e with
    | int k =>
      have hg : (if xs.isEmpty = false ∧ 2 ≤ k ∧ k ≤ 1000 ∧ xs.length ≤ 1000 then some (Out.nt (List.replicate k.toNat xs).flatten) else none) = some o := hg
      by_cases h : xs.isEmpty = false ∧ 2 ≤ k ∧ k ≤ 1000 ∧ xs.length ≤ 1000
      · rw [if_pos h] at hg
        cases hg
        obtain ⟨q, vs, e1, k1, r1⟩ := Sh.tup hx
        have ne : vs ≠ [] := fun z => by
          have i1 := r1.isEmpty
          rw [z, h.1] at i1
          cases i1
        exact .inr (.inr ⟨q, k, vs, e1, hy, k1, ne, h.2.1, h.2.2.1, by rw [r1.length]; exact h.2.2.2, fun p hp => ok p _ hp (r1.rep _)⟩)
      · rw [if_neg h] at hg; cases hg
    | _ => cases hg
  | _ => cases hg
abbrev rDiv2 : R2 := fun x y H Q => rI CDivW (fun i j => .int (i / j)) x y H Q ∨ rI CDivN (fun i j => .int (i.fdiv j)) x y H Q
theorem o_div : OpR X (binaryOp .FloorDiv) rDiv2 := op_fdivW.or op_fdivN
theorem p_div : P2 T rDiv2 dDiv := by
  intro Z H d e x y o Q hx hy hg ok
  cases d with
  | int i =>
    cases e with
    | int j =>
      have hg : (if 0 < j ∧ j.natAbs.log2 < 9000 then oI (i / j) else if j ≠ 0 ∧ j.natAbs < 1073741824 then oI (i.fdiv j) else none) = some o := hg
      by_cases h : 0 < j ∧ j.natAbs.log2 < 9000
      · rw [if_pos h] at hg; cases hg; exact .inl ⟨i, j, hx, hy, h, ok _ rfl⟩
      · rw [if_neg h] at hg
        by_cases h2 : j ≠ 0 ∧ j.natAbs < 1073741824
        · rw [if_pos h2] at hg; cases hg; exact .inr ⟨i, j, hx, hy, h2, ok _ rfl⟩
        · rw [if_neg h2] at hg; cases hg
    | _ => cases hg
  | _ => cases hg
abbrev rMod2 : R2 := fun x y H Q => rI (fun _ j => 0 < j) (fun i j => .int (i % j)) x y H Q ∨ rI (fun _ j => j ≠ 0) (fun i j => .int (i.fmod j)) x y H Q
theorem o_mod : OpR X (binaryOp .Mod) rMod2 := op_mod.or op_modN
theorem p_mod : P2 T rMod2 dMod := by
  intro Z H d e x y o Q hx hy hg ok
  cases d with
  | int i =>
    cases e with
    | int j =>
      have hg : (if 0 < j then oI (i % j) else if j ≠ 0 then oI (i.fmod j) else none) = some o := hg
      by_cases h : 0 < j
      · rw [if_pos h] at hg; cases hg; exact .inl ⟨i, j, hx, hy, h, ok _ rfl⟩
      · rw [if_neg h] at hg
        by_cases h2 : j ≠ 0
        · rw [if_pos h2] at hg; cases hg; exact .inr ⟨i, j, hx, hy, h2, ok _ rfl⟩
        · rw [if_neg h2] at hg; cases hg
    | _ => cases hg
  | _ => cases hg
theorem p_pow : P2 T (rI CPow fun i j => .int (i ^ j.toNat)) dPow := by
  intro Z H d e x y o Q hx hy hg ok
  cases d with
  | int i =>
    cases e with
    | int j =>
      have hg : (if 0 ≤ j ∧ j ≤ 1000000 ∧ i.natAbs < 2 ^ 64 then oI (i ^ j.toNat) else none) = some o := hg
      by_cases h : 0 ≤ j ∧ j ≤ 1000000 ∧ i.natAbs < 2 ^ 64
      · rw [if_pos h] at hg; cases hg; exact ⟨i, j, hx, hy, h, ok _ rfl⟩
      · rw [if_neg h] at hg; cases hg
    | _ => cases hg
  | _ => cases hg
theorem p_neg : P1 T (rU fun i => .int (-i)) dNeg := by
  intro Z H d x o Q hx hg ok
  cases d with
  | int i => cases hg; exact ⟨i, hx, ok _ rfl⟩
  | _ => cases hg

/-! ### comparisons -/
def dCmpI (p : Int → Int → Bool) : D → D → Option Out
  | .int i, .int j => oB (p i j)
  | _, _ => none
theorem p_cmpI {p : Int → Int → Bool} : P2 T (rI0 fun i j => .bl (p i j)) (dCmpI p) := by
  intro Z H d e x y o Q hx hy hg ok
  cases d with
  | int i =>
    cases e with
    | int j => cases hg; exact ⟨i, j, hx, hy, ok _ rfl⟩
    | _ => cases hg
  | _ => cases hg
/-- < of ints and of tuples of ints -/
def dLt : D → D → Option Out
  | .int i, .int j => oB (decide (i < j))
  | .tup xs, .tup ys => match ints? xs, ints? ys with
    | some ns, some ms => oB (HT.lexLt ns ms)
    | _, _ => none
  | _, _ => none
abbrev rLt2 (K : PySem.W.Frag) : R2 := fun x y H Q => rI0 (fun i j => .bl (decide (i < j))) x y H Q ∨ rLtT K x y H Q
theorem o_lt (G : X.K = T.K) (hu : X.A.units < cLine) : OpR X (compareOp .Lt) (rLt2 T.K) := G ▸ op_lt.or (op_ltT hu)
theorem p_lt : P2 T (rLt2 T.K) dLt := by
  intro Z H d e x y o Q hx hy hg ok
  cases d with
  | int i =>
    cases e with
    | int j => cases hg; exact .inl ⟨i, j, hx, hy, ok _ rfl⟩
    | _ => cases hg
  | tup xs =>
    cases e with
    | tup ys =>
      have hg : (match ints? xs, ints? ys with
        | some ns, some ms => oB (HT.lexLt ns ms)
        | _, _ => none) = some o := hg
      cases q1 : ints? xs with
      | none => rw [q1] at hg; cases hg
      | some ns =>
        cases q2 : ints? ys with
        | none => rw [q1, q2] at hg; cases hg
        | some ms =>
          rw [q1, q2] at hg
          cases hg
          obtain ⟨q, vs, e1, k1, r1⟩ := Sh.tup hx
          obtain ⟨q', ws, e2, k2, r2⟩ := Sh.tup hy
          rw [ints?_eq q1] at r1
          rw [ints?_eq q2] at r2
          rw [r1.ints] at k1
          rw [r2.ints] at k2
          exact .inr ⟨q, q', ns, ms, e1, e2, k1, k2, ok _ rfl⟩
    | _ => cases hg
  | _ => cases hg

/-! ### == and != -/
mutual
def toP : D → Option PyData
  | .non => some .none
  | .bl b => some (.bool b)
  | .int i => some (.int i)
  | .str s => some (.str s)
  | .tup ds => (toPs ds).map .tuple
  | .lst ds => (toPs ds).map .list
  | .fn _ => none
  | .ty _ => none
  | .scr ns => some (.list (ns.map .int))
def toPs : List D → Option (List PyData)
  | [] => some []
  | d :: ds => match toP d, toPs ds with
    | some p, some ps => some (p :: ps)
    | _, _ => none
end
def shp (d : PyData) : Bool := SeqAt.shaped d
def dEq (d e : D) : Option Out := match toP d, toP e with
  | some p, some q => if SeqAt.shaped p && SeqAt.shaped q then oB (PyData.eqv p q) else none
  | _, _ => none
def dNe (d e : D) : Option Out := match toP d, toP e with
  | some p, some q => if SeqAt.shaped p && SeqAt.shaped q then oB (!PyData.eqv p q) else none
  | _, _ => none
theorem dpAll_ints {K : PySem.W.Frag} {H : Hp} : ∀ (ns : List Int), DpAll K H (ns.map V.int) (ns.map PyData.int)
  | [] => .nil
  | n :: ns => .cons (.int n) (dpAll_ints ns)
mutual
theorem rep_dp {Z : AP'} {H : Hp} : ∀ (d : D) (v : V) (p : PyData), Rep T Z H d v → toP d = some p → Dp T.K H v p
  | .non, v, p, h, e => by cases e; cases (show v = .non from h); exact .non
  | .bl b, v, p, h, e => by
    have h : v = .bl b := h
    subst h; cases e; exact .bl b
  | .int i, v, p, h, e => by
    have h : v = .int i := h
    subst h; cases e; exact .int i
  | .str s, v, p, h, e => by
    have h : v = .str s := h
    subst h; cases e; exact .str s
  | .fn k, v, p, h, e => by cases e
  | .ty n, v, p, h, e => by cases e
  | .scr ns, v, p, h, e => by
    cases e
    obtain ⟨q, rfl, k⟩ := Sh.scr (x := v) (T := T) (Z := Z) (H := H) h
    exact .lst k (dpAll_ints ns)
  | .tup ds, v, p, h, e => by
    have e : (toPs ds).map PyData.tuple = some p := e
    cases q : toPs ds with
    | none => rw [q] at e; cases e
    | some ps =>
      rw [q] at e
      cases e
      obtain ⟨a, vs, rfl, k, r⟩ := Rep.tupSq h
      exact .tup k (repL_dp ds vs ps r q)
  | .lst ds, v, p, h, e => by
    have e : (toPs ds).map PyData.list = some p := e
    cases q : toPs ds with
    | none => rw [q] at e; cases e
    | some ps =>
      rw [q] at e
      cases e
      obtain ⟨a, vs, rfl, ⟨_, k⟩, r⟩ := h
      exact .lst (SqL.of k) (repL_dp ds vs ps r q)
theorem repL_dp {Z : AP'} {H : Hp} : ∀ (ds : List D) (vs : List V) (ps : List PyData), RepL T Z H ds vs → toPs ds = some ps → DpAll T.K H vs ps
  | [], vs, ps, h, e => by
    cases e
    rw [show vs = [] from h]
    exact .nil
  | d :: ds, vs, ps, h, e => by
    obtain ⟨v, r, rfl, h1, h2⟩ := h
    have e : (match toP d, toPs ds with
      | some p, some ps => some (p :: ps)
      | _, _ => none) = some ps := e
    cases q1 : toP d with
    | none => rw [q1] at e; cases e
    | some p =>
      cases q2 : toPs ds with
      | none => rw [q1, q2] at e; cases e
      | some ps' =>
        rw [q1, q2] at e
        cases e
        exact .cons (rep_dp d v p h1 q1) (repL_dp ds r ps' h2 q2)
end
theorem sh_dp {Z : AP'} {H : Hp} {d : D} {v : V} {p : PyData} (h : Sh T Z H d v) (e : toP d = some p) : Dp T.K H v p := by
  cases d with
  | lst ds =>
    have e : (toPs ds).map PyData.list = some p := e
    cases q : toPs ds with
    | none => rw [q] at e; cases e
    | some ps =>
      rw [q] at e
      cases e
      obtain ⟨a, vs, rfl, k, r⟩ := Sh.lst h
      exact .lst (SqL.of k) (repL_dp ds vs ps r q)
  | _ => exact rep_dp _ v p h e
theorem o_eq (G : X.K = T.K) (hu : X.A.units + 64 < cLine) : OpR X (compareOp .Eq) (rEqD T.K) := G ▸ op_eqD hu
theorem o_ne (G : X.K = T.K) (hu : X.A.units + 64 < cLine) : OpR X (compareOp .NotEq) (rNeD T.K) := G ▸ op_neD hu
theorem p_eq : P2 T (rEqD T.K) dEq := by
  intro Z H d e x y o Q hx hy hg ok
  unfold dEq at hg
  cases q1 : toP d with
  | none => rw [q1] at hg; cases hg
  | some p =>
    cases q2 : toP e with
    | none => rw [q1, q2] at hg; cases hg
    | some p' =>
      rw [q1, q2] at hg
      dsimp only at hg
      by_cases h : (SeqAt.shaped p && SeqAt.shaped p') = true
      · rw [if_pos h] at hg
        cases hg
        obtain ⟨s1, s2⟩ := Bool.and_eq_true_iff.mp h
        exact ⟨p, p', sh_dp hx q1, sh_dp hy q2, s1, s2, ok _ rfl⟩
      · rw [if_neg h] at hg; cases hg
theorem p_ne : P2 T (rNeD T.K) dNe := by
  intro Z H d e x y o Q hx hy hg ok
  unfold dNe at hg
  cases q1 : toP d with
  | none => rw [q1] at hg; cases hg
  | some p =>
    cases q2 : toP e with
    | none => rw [q1, q2] at hg; cases hg
    | some p' =>
      rw [q1, q2] at hg
      dsimp only at hg
      by_cases h : (SeqAt.shaped p && SeqAt.shaped p') = true
      · rw [if_pos h] at hg
        cases hg
        obtain ⟨s1, s2⟩ := Bool.and_eq_true_iff.mp h
        exact ⟨p, p', sh_dp hx q1, sh_dp hy q2, s1, s2, ok _ rfl⟩
      · rw [if_neg h] at hg; cases hg
end
end Dv

set_option Elab.async false
set_option linter.all false
set_option maxRecDepth 100000
set_option maxHeartbeats 2000000
/-! Dv5: in, is, subscripts, slices, built-in calls. -/
namespace Dv
open PySem PySem.Spec PyProof.Rows L2
/-- data that is no list, tuple, as the value -/
def flV : D → Option V
  | .non => some .non
  | .bl b => some (.bl b)
  | .int i => some (.int i)
  | .str s => some (.str s)
  | _ => none
def flVs : List D → Option (List V)
  | [] => some []
  | d :: ds => match flV d, flVs ds with
    | some v, some vs => some (v :: vs)
    | _, _ => none
section
variable {T : Tx} {Z : AP'} {H : Hp} {d : D} {ds : List D} {x v : V} {xs vs : List V}
theorem flV_ok (h : Sh T Z H d x) (e : flV d = some v) : x = v ∧ flatV v = true := by
  cases d with
  | non => cases e; exact ⟨h, rfl⟩
  | bl b => cases e; exact ⟨h, rfl⟩
  | int b => cases e; exact ⟨h, rfl⟩
  | str b => cases e; exact ⟨h, rfl⟩
  | _ => cases e
theorem flVs_ok : ∀ {ds : List D} {xs vs : List V}, RepL T Z H ds xs → flVs ds = some vs → xs = vs ∧ vs.all flatV = true
  | [], xs, vs, h, e => by cases e; exact ⟨h, rfl⟩
  | d :: ds, xs, vs, h, e => by
    obtain ⟨y, r, rfl, h1, h2⟩ := h
    unfold flVs at e
    cases q1 : flV d with
    | none => rw [q1] at e; cases e
    | some w =>
      cases q2 : flVs ds with
      | none => rw [q1, q2] at e; cases e
      | some ws =>
        rw [q1, q2] at e
        cases e
        obtain ⟨e1, f1⟩ := flV_ok h1.sh q1
        obtain ⟨e2, f2⟩ := flVs_ok h2 q2
        refine ⟨by rw [e1, e2], ?_⟩
        rw [List.all_cons, f1, f2]
        rfl
end
/-! ### in, not in -/
def inD : D → D → Option Bool
  | .str s, .str z => match s.cps.toList with
    | [c] => some (decide (c ∈ z.cps.toList))
    | _ => none
  | d, .tup ds => match flV d, flVs ds with
    | some v, some vs => some (inV v vs)
    | _, _ => none
  | d, .lst ds => match toP d, toPs ds with
    | some p, some ps => if SeqAt.shaped p && SeqAt.shaped (.list ps) then some (ps.any fun z => PyData.eqv z p) else none
    | _, _ => none
  | _, _ => none
def dIn (d e : D) : Option Out := (inD d e).bind oB
def dNotIn (d e : D) : Option Out := (inD d e).bind fun b => oB (!b)
abbrev rIn3 (K : PySem.W.Frag) (n : Bool) : R2 := fun x y H Q => (∃ (c : Nat) (z : Str), x = .str ⟨#[c]⟩ ∧ y = .str z ∧ Q (.bl (if n then !decide (c ∈ z.cps.toList) else decide (c ∈ z.cps.toList))) H) ∨ rIn K n x y H Q ∨
  (∃ d ds, Dp K H x d ∧ Dp K H y (.list ds) ∧ SeqAt.shaped d = true ∧ SeqAt.shaped (.list ds) = true ∧ Q (.bl (if n then !ds.any fun z => PyData.eqv z d else ds.any fun z => PyData.eqv z d)) H)
section
variable {T : Tx} {X : Cx} {W : WX}
theorem o_in (G : X.K = T.K) (hu : X.A.units + 65 < cLine) : OpR X (compareOp .In) (rIn3 T.K false) := G ▸ op_in_sign.or (op_in_seq.or (op_inD hu))
theorem o_notIn (G : X.K = T.K) (hu : X.A.units + 65 < cLine) : OpR X (compareOp .NotIn) (rIn3 T.K true) := G ▸ op_notIn_sign.or (op_notIn_seq.or (op_notInD hu))
theorem in_ok {Z : AP'} {H : Hp} {d e : D} {x y : V} {b n : Bool} {Q : VK} (hx : Sh T Z H d x) (hy : Sh T Z H e y) (h : inD d e = some b) (q : Q (.bl (if n then !b else b)) H) : rIn3 T.K n x y H Q := by
  have tupC : ∀ {ds : List D}, Sh T Z H (.tup ds) y → (match flV d, flVs ds with
      | some v, some vs => some (inV v vs)
      | _, _ => none) = some b → rIn3 T.K n x y H Q := fun {ds} hy h => by
    cases q1 : flV d with
    | none => rw [q1] at h; cases h
    | some v =>
      cases q2 : flVs ds with
      | none => rw [q1, q2] at h; cases h
      | some vs =>
        rw [q1, q2] at h
        cases h
        obtain ⟨p, ws, rfl, k, r⟩ := Sh.tup hy
        obtain ⟨rfl, f1⟩ := flV_ok hx q1
        obtain ⟨rfl, f2⟩ := flVs_ok r q2
        exact .inr (.inl ⟨p, ws, rfl, .inr k, f1, f2, q⟩)
  have lstC : ∀ {ds : List D}, Sh T Z H (.lst ds) y → (match toP d, toPs ds with
      | some p, some ps => if SeqAt.shaped p && SeqAt.shaped (.list ps) then some (ps.any fun z => PyData.eqv z p) else none
      | _, _ => none) = some b → rIn3 T.K n x y H Q := fun {ds} hy h => by
    cases q1 : toP d with
    | none => rw [q1] at h; cases h
    | some p =>
      cases q2 : toPs ds with
      | none => rw [q1, q2] at h; cases h
      | some ps =>
        rw [q1, q2] at h
        dsimp only at h
        by_cases hs : (SeqAt.shaped p && SeqAt.shaped (.list ps)) = true
        · rw [if_pos hs] at h
          cases h
          obtain ⟨s1, s2⟩ := Bool.and_eq_true_iff.mp hs
          refine .inr (.inr ⟨p, ps, sh_dp hx q1, sh_dp hy ?_, s1, s2, ?_⟩)
          · show (toPs ds).map PyData.list = _
            rw [q2]; rfl
          · cases n <;> exact q
        · rw [if_neg hs] at h; cases h
  cases e with
  | str z =>
    cases d with
    | str s =>
      have h : (match s.cps.toList with
        | [c] => some (decide (c ∈ z.cps.toList))
        | _ => none) = some b := h
      cases q1 : s.cps.toList with
      | nil => rw [q1] at h; cases h
      | cons c r =>
        rw [q1] at h
        cases r with
        | cons _ _ => cases h
        | nil =>
          cases h
          refine .inl ⟨c, z, ?_, hy, by cases n <;> exact q⟩
          have hx : x = .str s := hx
          rw [hx]
          obtain ⟨cs⟩ := s
          congr 1
          have : cs = #[c] := by
            apply Array.toList_inj.mp
            exact q1
          rw [this]
    | _ => cases h
  | tup ds =>
    cases d with
    | str s => exact tupC hy h
    | _ => exact tupC hy h
  | lst ds =>
    cases d with
    | str s => exact lstC hy h
    | _ => exact lstC hy h
  | _ => cases d <;> cases h
theorem p_in : P2 T (rIn3 T.K false) dIn := by
  intro Z H d e x y o Q hx hy hg ok
  unfold dIn at hg
  cases q : inD d e with
  | none => rw [q] at hg; cases hg
  | some b => rw [q] at hg; cases hg; exact in_ok hx hy q (ok _ rfl)
theorem p_notIn : P2 T (rIn3 T.K true) dNotIn := by
  intro Z H d e x y o Q hx hy hg ok
  unfold dNotIn at hg
  cases q : inD d e with
  | none => rw [q] at hg; cases hg
  | some b => rw [q] at hg; cases hg; exact in_ok (n := true) hx hy q (ok _ rfl)

/-! ### is -/
def isNon : D → Bool
  | .non => true
  | _ => false
theorem isNon_ok {Z : AP'} {H : Hp} {d : D} {x : V} (h : Sh T Z H d x) : decide (x = V.non) = isNon d := by
  cases d with
  | non => rw [show x = .non from h]; rfl
  | bl b => rw [show x = .bl b from h]; rfl
  | int b => rw [show x = .int b from h]; rfl
  | str b => rw [show x = .str b from h]; rfl
  | ty b => rw [show x = .ty b from h]; rfl
  | fn b => rw [show x = .ref _ from h]; rfl
  | scr ns => obtain ⟨q, e, _⟩ := Sh.scr h; rw [e]; rfl
  | tup ds => obtain ⟨q, vs, e, _⟩ := Sh.tup h; rw [e]; rfl
  | lst ds => obtain ⟨q, vs, e, _⟩ := Sh.lst h; rw [e]; rfl
def isD (n : Bool) : D → D → Option Out
  | d, .non => oB (if n then !isNon d else isNon d)
  | .bl a, .bl b => oB (if n then !decide (a = b) else decide (a = b))
  | _, _ => none
abbrev rIs2 (n : Bool) : R2 := fun x y H Q => (y = .non ∧ Q (.bl (if n then !decide (x = .non) else decide (x = .non))) H) ∨ (∃ a b, x = .bl a ∧ y = .bl b ∧ Q (.bl (if n then !decide (a = b) else decide (a = b))) H)
theorem o_is : OpR X (compareOp .Is) (rIs2 false) := op_isN.or op_is_bl
theorem o_isNot : OpR X (compareOp .IsNot) (rIs2 true) := op_notN.or op_isnot_bl
theorem p_is {n : Bool} : P2 T (rIs2 n) (isD n) := by
  intro Z H d e x y o Q hx hy hg ok
  cases e with
  | non =>
    have hg : oB (if n then !isNon d else isNon d) = some o := by cases d <;> exact hg
    cases hg
    refine .inl ⟨hy, ?_⟩
    rw [isNon_ok hx]
    exact ok _ rfl
  | bl b =>
    cases d with
    | bl a => cases hg; exact .inr ⟨a, b, hx, hy, ok _ rfl⟩
    | _ => cases hg
  | _ => cases d <;> cases hg

/-! ### subscripts -/
theorem atI_len {α β : Type} {xs : List α} {ys : List β} (h : xs.length = ys.length) (i : Int) {y : β} (e : atI ys i = some y) : ∃ j : Nat, ys[j]? = some y ∧ ∀ x : α, xs[j]? = some x → atI xs i = some x := by
  unfold atI at e ⊢
  rw [h]
  cases q : ixN ys.length i with
  | none => rw [q] at e; cases e
  | some j => rw [q] at e; exact ⟨j, e, fun x hx => hx⟩
theorem RepL.atI {Z : AP'} {H : Hp} {ds : List D} {vs : List V} {d : D} {i : Int} (r : RepL T Z H ds vs) (e : L2.atI ds i = some d) : ∃ v, L2.atI vs i = some v ∧ Rep T Z H d v := by
  obtain ⟨j, e1, k⟩ := atI_len r.length i e
  obtain ⟨v, e2, h⟩ := r.get e1
  exact ⟨v, k v e2, h⟩
theorem atI_ints {ns : List Int} {i n : Int} (e : L2.atI ns i = some n) : L2.atI (ns.map V.int) i = some (.int n) := by
  obtain ⟨j, e1, k⟩ := atI_len (xs := ns.map V.int) (ys := ns) (by simp) i e
  exact k _ (by rw [List.getElem?_map, e1]; rfl)
def dIx : D → D → Option Out
  | .lst ds, .int i => (L2.atI ds i).map .sc
  | .tup ds, .int i => (L2.atI ds i).map .sc
  | .scr ns, .int i => (L2.atI ns i).bind oI
  | .str z, .int i => if z.length ≤ sizeLine then (L2.atI z.cps.toList i).bind fun c => oS ⟨#[c]⟩ else none
  | _, _ => none
theorem o_ix (G : X.K = T.K) : IxR X (rIx T.K) := G ▸ ix_seq
theorem p_ix : P2 T (rIx T.K) dIx := by
  intro Z H d e x y o Q hx hy hg ok
  cases d with
  | lst ds =>
    cases e with
    | int i =>
      have hg : (L2.atI ds i).map Out.sc = some o := hg
      cases q : L2.atI ds i with
      | none => rw [q] at hg; cases hg
      | some d =>
        rw [q] at hg
        cases hg
        obtain ⟨p, vs, rfl, k, r⟩ := Sh.lst hx
        obtain ⟨v, e1, h1⟩ := r.atI q
        exact .inl ⟨p, vs, i, v, rfl, hy, SqL.of k, e1, ok v h1⟩
    | _ => cases hg
  | tup ds =>
    cases e with
    | int i =>
      have hg : (L2.atI ds i).map Out.sc = some o := hg
      cases q : L2.atI ds i with
      | none => rw [q] at hg; cases hg
      | some d =>
        rw [q] at hg
        cases hg
        obtain ⟨p, vs, e0, k, r⟩ := Sh.tup hx
        obtain ⟨v, e1, h1⟩ := r.atI q
        exact .inr (.inl ⟨p, vs, i, v, e0, hy, k, e1, ok v h1⟩)
    | _ => cases hg
  | scr ns =>
    cases e with
    | int i =>
      have hg : (L2.atI ns i).bind oI = some o := hg
      cases q : L2.atI ns i with
      | none => rw [q] at hg; cases hg
      | some n =>
        rw [q] at hg
        cases hg
        obtain ⟨p, e0, k⟩ := Sh.scr hx
        exact .inl ⟨p, _, i, _, e0, hy, k, atI_ints q, ok _ rfl⟩
    | _ => cases hg
  | str z =>
    cases e with
    | int i =>
      have hg : (if z.length ≤ sizeLine then (L2.atI z.cps.toList i).bind fun c => oS ⟨#[c]⟩ else none) = some o := hg
      by_cases hl : z.length ≤ sizeLine
      · rw [if_pos hl] at hg
        cases q : L2.atI z.cps.toList i with
        | none => rw [q] at hg; cases hg
        | some c =>
          rw [q] at hg
          cases hg
          exact .inr (.inr ⟨z, i, c, hx, hy, hl, q, ok _ rfl⟩)
      · rw [if_neg hl] at hg; cases hg
    | _ => cases hg
  | _ => cases hg

/-! ### slices -/
def cutL {α : Type} (xs : List α) (lo hi : Option Int) : List α := (xs.drop (HT.sIx xs.length 0 lo)).take (HT.sIx xs.length xs.length hi - HT.sIx xs.length 0 lo)
def dSl (d : D) (lo hi : Option Int) : Option Out := match d with
  | .lst ds => some (.nl (cutL ds lo hi))
  | .scr ns => some (.nl ((cutL ns lo hi).map .int))
  | .tup ds => if HT.sIx ds.length 0 lo = 0 ∧ HT.sIx ds.length ds.length hi = ds.length then some (.sc (.tup ds)) else some (.nt (cutL ds lo hi))
  | .str z => if z.length ≤ sizeLine then oS (cutS z lo hi) else none
  | _ => none
abbrev rSl3 (K : PySem.W.Frag) : V → Option Int → Option Int → Hp → VK → Prop := fun x lo hi H Q => rSlL K x lo hi H Q ∨ rSlA K x lo hi H Q ∨ rSlS x lo hi H Q
theorem o_sl (G : X.K = T.K) : SlR X (rSl3 T.K) := G ▸ sl_list.or (sl_tupA.or sl_str)
theorem RepL.cut {Z : AP'} {H : Hp} {ds : List D} {vs : List V} (r : RepL T Z H ds vs) (lo hi : Option Int) : RepL T Z H (cutL ds lo hi) (cutV vs lo hi) := by
  unfold cutL cutV
  rw [r.length]
  exact (r.drop _).take _
theorem cut_ints {Z : AP'} {H : Hp} (ns : List Int) (lo hi : Option Int) : RepL T Z H ((cutL ns lo hi).map .int) (cutV (ns.map V.int) lo hi) := by
  have e : cutV (ns.map V.int) lo hi = (cutL ns lo hi).map V.int := by
    unfold cutL cutV
    rw [List.length_map, List.map_take, List.map_drop]
  rw [e]
  exact RepL.of_ints _
theorem sl_ok {Z : AP'} {H : Hp} {d : D} {x : V} {lo hi : Option Int} {o : Out} {Q : VK} (hx : Sh T Z H d x) (hg : dSl d lo hi = some o) (ok : OutOk T Z H Q o) : rSl3 T.K x lo hi H Q := by
  cases d with
  | lst ds =>
    cases hg
    obtain ⟨p, vs, rfl, k, r⟩ := Sh.lst hx
    exact .inl ⟨p, vs, rfl, SqL.of k, fun q hq => ok q _ hq (r.cut lo hi)⟩
  | scr ns =>
    cases hg
    obtain ⟨p, rfl, k⟩ := Sh.scr hx
    exact .inl ⟨p, _, rfl, k, fun q hq => ok q _ hq (cut_ints ns lo hi)⟩
  | tup ds =>
    have hg : (if HT.sIx ds.length 0 lo = 0 ∧ HT.sIx ds.length ds.length hi = ds.length then some (Out.sc (.tup ds)) else some (Out.nt (cutL ds lo hi))) = some o := hg
    obtain ⟨p, vs, e, k, r⟩ := Sh.tup hx
    refine .inr (.inl ⟨p, vs, e, k, fun z => ?_, fun z q hq => ?_⟩)
    · rw [r.length] at z
      rw [if_pos z] at hg
      cases hg
      rw [← e]
      exact ok x hx
    · rw [r.length] at z
      rw [if_neg z] at hg
      cases hg
      exact ok q _ hq (r.cut lo hi)
  | str z =>
    have hg : (if z.length ≤ sizeLine then oS (cutS z lo hi) else none) = some o := hg
    by_cases hl : z.length ≤ sizeLine
    · rw [if_pos hl] at hg
      cases hg
      exact .inr (.inr ⟨z, hx, hl, ok _ rfl⟩)
    · rw [if_neg hl] at hg; cases hg
  | _ => cases hg

/-! ### built-in calls -/
def cLen : List D → Option Out
  | [.lst ds] => oI ds.length
  | [.tup ds] => oI ds.length
  | [.scr ns] => oI ns.length
  | [.str z] => if z.length ≤ sizeLine then oI z.length else none
  | _ => none
abbrev rLen2 (K : PySem.W.Frag) : List V → Hp → VK → Prop := fun xs H Q => (∃ p ys, xs = [.ref p] ∧ (SqL K H p ys ∨ SqT K H p ys) ∧ Q (.int ys.length) H) ∨ (∃ z, xs = [.str z] ∧ z.length ≤ sizeLine ∧ Q (.int z.length) H)
theorem o_len (G : X.K = T.K) : CallR X (.builtin "len") (rLen2 T.K) := G ▸ call_len_seq.or call_len_str
theorem p_len : PN T (rLen2 T.K) cLen := by
  intro Z H ds xs o Q h hg ok
  match ds, hg, h with
  | [.lst es], hg, h =>
    cases hg
    obtain ⟨x, rfl, hx⟩ := h.one
    obtain ⟨p, vs, rfl, k, r⟩ := Sh.lst hx
    exact .inl ⟨p, vs, rfl, .inl (SqL.of k), by rw [r.length]; exact ok _ rfl⟩
  | [.tup es], hg, h =>
    cases hg
    obtain ⟨x, rfl, hx⟩ := h.one
    obtain ⟨p, vs, rfl, k, r⟩ := Sh.tup hx
    exact .inl ⟨p, vs, rfl, .inr k, by rw [r.length]; exact ok _ rfl⟩
  | [.scr ns], hg, h =>
    cases hg
    obtain ⟨x, rfl, hx⟩ := h.one
    obtain ⟨p, rfl, k⟩ := Sh.scr hx
    exact .inl ⟨p, _, rfl, .inl k, by rw [List.length_map]; exact ok _ rfl⟩
  | [.str z], hg, h =>
    have hg : (if z.length ≤ sizeLine then oI z.length else none) = some o := hg
    by_cases hl : z.length ≤ sizeLine
    · rw [if_pos hl] at hg
      cases hg
      obtain ⟨x, rfl, hx⟩ := h.one
      exact .inr ⟨z, by rw [show x = .str z from hx], hl, ok _ rfl⟩
    · rw [if_neg hl] at hg; cases hg
def cAbs : List D → Option Out
  | [.int i] => oI (if i < 0 then -i else i)
  | _ => none
theorem p_abs : PN T (fun xs H Q => ∃ i, xs = [.int i] ∧ Q (.int (if i < 0 then -i else i)) H) cAbs := by
  intro Z H ds xs o Q h hg ok
  match ds, hg, h with
  | [.int i], hg, h =>
    cases hg
    obtain ⟨x, rfl, hx⟩ := h.one
    exact ⟨i, by rw [show x = .int i from hx], ok _ rfl⟩
def cInt : List D → Option Out
  | [.int i] => oI i
  | [.bl k] => oI (if k then 1 else 0)
  | [.str a] => if a.length ≤ 640 then (PySem.intText? a).bind oI else none
  | _ => none
abbrev rInt3 : List V → Hp → VK → Prop := fun xs H Q => ((∃ i, xs = [.int i] ∧ Q (.int i) H) ∨ ∃ k, xs = [.bl k] ∧ Q (.int (if k then 1 else 0)) H) ∨ (∃ a n, xs = [.str a] ∧ PySem.intText? a = some n ∧ a.length ≤ 640 ∧ Q (.int n) H)
theorem o_int : CallR X (.type "int") rInt3 := call_int1.or call_int_str
theorem p_int : PN T rInt3 cInt := by
  intro Z H ds xs o Q h hg ok
  match ds, hg, h with
  | [.int i], hg, h =>
    cases hg
    obtain ⟨x, rfl, hx⟩ := h.one
    exact .inl (.inl ⟨i, by rw [show x = .int i from hx], ok _ rfl⟩)
  | [.bl k], hg, h =>
    cases hg
    obtain ⟨x, rfl, hx⟩ := h.one
    exact .inl (.inr ⟨k, by rw [show x = .bl k from hx], ok _ rfl⟩)
  | [.str a], hg, h =>
    have hg : (if a.length ≤ 640 then (PySem.intText? a).bind oI else none) = some o := hg
    by_cases hl : a.length ≤ 640
    · rw [if_pos hl] at hg
      cases q : PySem.intText? a with
      | none => rw [q] at hg; cases hg
      | some n =>
        rw [q] at hg
        cases hg
        obtain ⟨x, rfl, hx⟩ := h.one
        exact .inr ⟨a, n, by rw [show x = .str a from hx], q, hl, ok _ rfl⟩
    · rw [if_neg hl] at hg; cases hg
def cStr : List D → Option Out
  | [.int i] => if i.natAbs.log2 < 1920 then oS (toString i) else none
  | [.str a] => oS a
  | _ => none
abbrev rStr2 : List V → Hp → VK → Prop := fun xs H Q => (∃ i, xs = [.int i] ∧ i.natAbs.log2 < 1920 ∧ Q (.str (toString i)) H) ∨ ∃ a, xs = [.str a] ∧ Q (.str a) H
theorem o_str : CallR X (.type "str") rStr2 := call_str_int.or SkE.call_str_str
theorem p_str : PN T rStr2 cStr := by
  intro Z H ds xs o Q h hg ok
  match ds, hg, h with
  | [.str a], hg, h =>
    cases hg
    obtain ⟨x, rfl, hx⟩ := h.one
    exact .inr ⟨a, by rw [show x = .str a from hx], ok _ rfl⟩
  | [.int i], hg, h =>
    have hg : (if i.natAbs.log2 < 1920 then oS (toString i) else none) = some o := hg
    by_cases hl : i.natAbs.log2 < 1920
    · rw [if_pos hl] at hg
      cases hg
      obtain ⟨x, rfl, hx⟩ := h.one
      exact .inl ⟨i, by rw [show x = .int i from hx], hl, ok _ rfl⟩
    · rw [if_neg hl] at hg; cases hg
/-! ### sum, max, min of a tuple of ints -/
section
variable {prog : Program} {w : World} {A : Around} {E : Value → Shared → Prop} {s : Shared} {l : Addr} {xs : Array (Int × Tok)} {its : List Value} {ns : List Int} {Q : Value → Shared → Prop}
theorem iter_intTup (hl : s.heap.IsTuple l (intItems xs))
    (h : ∀ s₂ : Shared, s₂ = { s with heap := s.heap.push { cls := .type "tuple_iterator", data := .fields #[.ref l, .int 0 0] } } →
      (s₂.heap.IsTupleIter s.heap.objs.size l 0 ∧ s₂.heap.IsTuple l (intItems xs)) → (∀ b ∈ [s.heap.objs.size, l], b < s₂.heap.objs.size) → l ≠ s.heap.objs.size → Q (.ref s.heap.objs.size) s₂) :
    wpAny (model prog w) A (pyIter (.ref l)) Q E s := by
  have hlt : l < s.heap.objs.size := by obtain ⟨_, e, _⟩ := hl; exact Heap.lt_size e
  refine wpAny_pyIter_tuple hl (h _ rfl ⟨⟨_, Heap.get?_push_size _ rfl, rfl, rfl⟩, hl.push _⟩ (fun b hb => ?_) (Nat.ne_of_lt hlt))
  show b < (s.heap.push _).objs.size
  rw [Heap.size_push]
  rcases List.mem_cons.mp hb with rfl | hb
  · exact Nat.lt_succ_self _
  · rcases List.mem_cons.mp hb with rfl | hb
    · exact Nat.lt_succ_of_lt hlt
    · cases hb
theorem old_keptT {h' : Heap} (hk : ∀ b o, b ∉ [s.heap.objs.size] → (s.heap.push { cls := .type "tuple_iterator", data := .fields #[.ref l, .int 0 0] }).get? b = some o → h'.get? b = some o) :
    ∀ b o, s.heap.get? b = some o → h'.get? b = some o := fun b o e => by
  refine hk b o (fun hm => ?_) (Heap.get?_push_of_some _ e)
  rcases List.mem_cons.mp hm with e1 | hm
  · exact absurd (e1 ▸ Heap.lt_size e) (Nat.lt_irrefl _)
  · cases hm
theorem max_intTup (hh : A.handled = none) (hl : s.heap.IsTuple l (intItems xs)) (hne : 0 < xs.size)
    (h : ∀ v h' tk, (intItems xs)[argBest (fun i j => decide (numAt xs i > numAt xs j)) (xs.size - 1)]? = some v → (∀ b o, s.heap.get? b = some o → h'.get? b = some o) → Q v { s with heap := h', toks := tk }) :
    wpAny (model prog w) A (call (.builtin "max") [.ref l]) Q E s := by
  refine call_max_walk (iter_intTup hl fun s₂ e st hfp hlI => ?_)
  subst e
  refine ⟨_, _, _, _, _, _, _, rfl, Walks.tuple (A := A.in1) hh _ l hlI (intItems xs), st, hfp, by simpa [intItems] using hne, CmpOf.ints_gt (numAt xs) (fun _ _ => intItems_at), fun v h' tk hP hk => ?_⟩
  exact h v h' tk (by simpa [intItems] using hP) (old_keptT hk)
theorem min_intTup (hh : A.handled = none) (hl : s.heap.IsTuple l (intItems xs)) (hne : 0 < xs.size)
    (h : ∀ v h' tk, (intItems xs)[argBest (fun i j => decide (numAt xs i < numAt xs j)) (xs.size - 1)]? = some v → (∀ b o, s.heap.get? b = some o → h'.get? b = some o) → Q v { s with heap := h', toks := tk }) :
    wpAny (model prog w) A (call (.builtin "min") [.ref l]) Q E s := by
  refine call_min_walk (iter_intTup hl fun s₂ e st hfp hlI => ?_)
  subst e
  refine ⟨_, _, _, _, _, _, _, rfl, Walks.tuple (A := A.in1) hh _ l hlI (intItems xs), st, hfp, by simpa [intItems] using hne, CmpOf.ints_lt (numAt xs) (fun _ _ => intItems_at), fun v h' tk hP hk => ?_⟩
  exact h v h' tk (by simpa [intItems] using hP) (old_keptT hk)
theorem sum_intTup (hh : A.handled = none) (hl : s.heap.IsTuple l (intItems xs))
    (h : ∀ h' tk t', (∀ b o, s.heap.get? b = some o → h'.get? b = some o) → Q (.int (preSum (numAt xs) xs.size) t') { s with heap := h', toks := tk }) :
    wpAny (model prog w) A (call (.builtin "sum") [.ref l]) Q E s := by
  refine call_sum_walkG (iter_intTup hl fun s₂ e st hfp hlI => ?_)
  subst e
  refine ⟨_, _, _, _, _, _, numAt xs, rfl, Walks.tuple (A := A.in1) hh _ l hlI (intItems xs), st, hfp, (fun _ _ => intItems_at), fun h' tk t' hk => ?_⟩
  have := h h' tk t' (old_keptT hk)
  simpa [intItems] using this
theorem sum_rawT (hh : A.handled = none) (hl : s.heap.IsTuple l its.toArray) (hi : IntsAre its ns)
    (h : ∀ h' tk t', (∀ b o, s.heap.get? b = some o → h'.get? b = some o) → Q (.int ns.sum t') { s with heap := h', toks := tk }) : wpAny (model prog w) A (call (.builtin "sum") [.ref l]) Q E s := by
  obtain ⟨xs, e⟩ := hi.allInts.items
  have hn : numsOf (intItems xs).toList = ns := by rw [← e]; exact hi.numsOf
  rw [nums_intItems] at hn
  rw [e] at hl
  refine sum_intTup hh hl fun h' tk t' hk => ?_
  have := h h' tk t' hk
  rw [preSum_eq, List.take_of_length_le (by simp), hn]; exact this
theorem max_rawT (hh : A.handled = none) (hl : s.heap.IsTuple l its.toArray) (hi : IntsAre its ns) (hne : 0 < ns.length)
    (h : ∀ h' tk M t', (∀ b o, s.heap.get? b = some o → h'.get? b = some o) → M ∈ ns → (∀ a, a ∈ ns → a ≤ M) → Q (.int M t') { s with heap := h', toks := tk }) : wpAny (model prog w) A (call (.builtin "max") [.ref l]) Q E s := by
  obtain ⟨xs, e⟩ := hi.allInts.items
  have hn : numsOf (intItems xs).toList = ns := by rw [← e]; exact hi.numsOf
  rw [nums_intItems] at hn
  subst hn
  rw [e] at hl
  have hsz : 0 < xs.size := by simpa using hne
  refine max_intTup hh hl hsz fun v h' tk hv hk => ?_
  obtain ⟨t, rfl⟩ := intItems_at hv
  obtain ⟨h1, h2⟩ := argBest_gt (numAt xs) (xs.size - 1)
  refine h h' tk _ t hk ?_ fun a ha => ?_
  · rw [numAt_eq]; exact PySem.getD_mem (by rw [List.length_map, Array.length_toList]; omega)
  · obtain ⟨j, hj, rfl⟩ := mem_getD ha
    rw [List.length_map, Array.length_toList] at hj
    rw [← numAt_eq]; exact h2 j (by omega)
theorem min_rawT (hh : A.handled = none) (hl : s.heap.IsTuple l its.toArray) (hi : IntsAre its ns) (hne : 0 < ns.length)
    (h : ∀ h' tk M t', (∀ b o, s.heap.get? b = some o → h'.get? b = some o) → M ∈ ns → (∀ a, a ∈ ns → M ≤ a) → Q (.int M t') { s with heap := h', toks := tk }) : wpAny (model prog w) A (call (.builtin "min") [.ref l]) Q E s := by
  obtain ⟨xs, e⟩ := hi.allInts.items
  have hn : numsOf (intItems xs).toList = ns := by rw [← e]; exact hi.numsOf
  rw [nums_intItems] at hn
  subst hn
  rw [e] at hl
  have hsz : 0 < xs.size := by simpa using hne
  refine min_intTup hh hl hsz fun v h' tk hv hk => ?_
  obtain ⟨t, rfl⟩ := intItems_at hv
  obtain ⟨h1, h2⟩ := argBest_lt (numAt xs) (xs.size - 1)
  refine h h' tk _ t hk ?_ fun a ha => ?_
  · rw [numAt_eq]; exact PySem.getD_mem (by rw [List.length_map, Array.length_toList]; omega)
  · obtain ⟨j, hj, rfl⟩ := mem_getD ha
    rw [List.length_map, Array.length_toList] at hj
    rw [← numAt_eq]; exact h2 j (by omega)
end
section
variable {X : Cx}
def rSumT (K : PySem.W.Frag) : List V → Hp → VK → Prop := fun vs H Q => ∃ (a : Addr) (ns : List Int), vs = [V.ref a] ∧ SqT K H a (ns.map V.int) ∧ Q (.int ns.sum) H
def rMaxT (K : PySem.W.Frag) : List V → Hp → VK → Prop := fun vs H Q => ∃ (a : Addr) (ns : List Int), vs = [V.ref a] ∧ SqT K H a (ns.map V.int) ∧ 0 < ns.length ∧ ∀ m, m ∈ ns → (∀ y, y ∈ ns → y ≤ m) → Q (.int m) H
def rMinT (K : PySem.W.Frag) : List V → Hp → VK → Prop := fun vs H Q => ∃ (a : Addr) (ns : List Int), vs = [V.ref a] ∧ SqT K H a (ns.map V.int) ∧ 0 < ns.length ∧ ∀ m, m ∈ ns → (∀ y, y ∈ ns → m ≤ y) → Q (.int m) H
theorem cr_sumT (hc : X.calm = true) : CallR X (.builtin "sum") (rSumT X.K) := by
  intro pins s σ H vs us Q I r h
  obtain ⟨a, ns, rfl, hs, q⟩ := h
  obtain ⟨its, rv, hl, _⟩ := I.tuple hs
  have p' : s.heap.IsTuple a its.toArray := hl
  rw [Vals.ref1 r]
  exact sum_rawT (I.ok.hd hc) p' rv.ints fun h' tk t' hk => ⟨.int _, H, I.kept hk, ⟨_, rfl⟩, q⟩
theorem cr_maxT (hc : X.calm = true) : CallR X (.builtin "max") (rMaxT X.K) := by
  intro pins s σ H vs us Q I r h
  obtain ⟨a, ns, rfl, hs, hne, q⟩ := h
  obtain ⟨its, rv, hl, _⟩ := I.tuple hs
  have p' : s.heap.IsTuple a its.toArray := hl
  rw [Vals.ref1 r]
  exact max_rawT (I.ok.hd hc) p' rv.ints hne fun h' tk m t' hk h1 h2 => ⟨.int _, H, I.kept hk, ⟨_, rfl⟩, q m h1 h2⟩
theorem cr_minT (hc : X.calm = true) : CallR X (.builtin "min") (rMinT X.K) := by
  intro pins s σ H vs us Q I r h
  obtain ⟨a, ns, rfl, hs, hne, q⟩ := h
  obtain ⟨its, rv, hl, _⟩ := I.tuple hs
  have p' : s.heap.IsTuple a its.toArray := hl
  rw [Vals.ref1 r]
  exact min_rawT (I.ok.hd hc) p' rv.ints hne fun h' tk m t' hk h1 h2 => ⟨.int _, H, I.kept hk, ⟨_, rfl⟩, q m h1 h2⟩
end
def cSum : List D → Option Out
  | [.lst ds] => (ints? ds).bind fun ns => oI ns.sum
  | [.tup ds] => (ints? ds).bind fun ns => oI ns.sum
  | _ => none
abbrev rSum2 (K : PySem.W.Frag) : List V → Hp → VK → Prop := fun xs H Q => rSum K xs H Q ∨ rSumT K xs H Q
theorem p_sum : PN T (rSum2 T.K) cSum := by
  intro Z H ds xs o Q h hg ok
  match ds, hg, h with
  | [.lst es], hg, h =>
    have hg : ((ints? es).bind fun ns => oI ns.sum) = some o := hg
    cases q : ints? es with
    | none => rw [q] at hg; cases hg
    | some ns =>
      rw [q] at hg
      cases hg
      obtain ⟨x, rfl, hx⟩ := h.one
      obtain ⟨p, vs, rfl, k, r⟩ := Sh.lst hx
      rw [ints?_eq q] at r
      rw [r.ints] at k
      exact .inl ⟨p, ns, rfl, SqL.of k, ok _ rfl⟩
  | [.tup es], hg, h =>
    have hg : ((ints? es).bind fun ns => oI ns.sum) = some o := hg
    cases q : ints? es with
    | none => rw [q] at hg; cases hg
    | some ns =>
      rw [q] at hg
      cases hg
      obtain ⟨x, rfl, hx⟩ := h.one
      obtain ⟨p, vs, rfl, k, r⟩ := Sh.tup hx
      rw [ints?_eq q] at r
      rw [r.ints] at k
      exact .inr ⟨p, ns, rfl, k, ok _ rfl⟩
def maxL : List Int → Int
  | [] => 0
  | [x] => x
  | x :: r => max x (maxL r)
def minL : List Int → Int
  | [] => 0
  | [x] => x
  | x :: r => min x (minL r)
theorem maxL_ge : ∀ {ns : List Int} {n : Int}, n ∈ ns → n ≤ maxL ns
  | [x], n, h => by simp at h; subst h; exact Int.le_refl _
  | x :: y :: r, n, h => by
    show n ≤ max x (maxL (y :: r))
    rcases List.mem_cons.mp h with e | h
    · subst e; exact Int.le_max_left _ _
    · exact Int.le_trans (maxL_ge h) (Int.le_max_right _ _)
theorem maxL_mem : ∀ {ns : List Int}, ns ≠ [] → maxL ns ∈ ns
  | [], h => absurd rfl h
  | [x], _ => List.mem_cons_self
  | x :: y :: r, _ => by
    show max x (maxL (y :: r)) ∈ _
    have ih : maxL (y :: r) ∈ y :: r := maxL_mem (by simp)
    by_cases h : x ≤ maxL (y :: r)
    · rw [Int.max_eq_right h]; exact List.mem_cons_of_mem _ ih
    · rw [Int.max_eq_left (by omega)]; exact List.mem_cons_self
theorem minL_le : ∀ {ns : List Int} {n : Int}, n ∈ ns → minL ns ≤ n
  | [x], n, h => by simp at h; subst h; exact Int.le_refl _
  | x :: y :: r, n, h => by
    show min x (minL (y :: r)) ≤ n
    rcases List.mem_cons.mp h with e | h
    · subst e; exact Int.min_le_left _ _
    · exact Int.le_trans (Int.min_le_right _ _) (minL_le h)
theorem minL_mem : ∀ {ns : List Int}, ns ≠ [] → minL ns ∈ ns
  | [], h => absurd rfl h
  | [x], _ => List.mem_cons_self
  | x :: y :: r, _ => by
    show min x (minL (y :: r)) ∈ _
    have ih : minL (y :: r) ∈ y :: r := minL_mem (by simp)
    by_cases h : x ≤ minL (y :: r)
    · rw [Int.min_eq_left h]; exact List.mem_cons_self
    · rw [Int.min_eq_right (by omega)]; exact List.mem_cons_of_mem _ ih
def cMax : List D → Option Out
  | [.lst ds] => (ints? ds).bind fun ns => if ns.isEmpty then none else oI (maxL ns)
  | [.tup ds] => (ints? ds).bind fun ns => if ns.isEmpty then none else oI (maxL ns)
  | [.int i, .int j] => oI (if j > i then j else i)
  | _ => none
def cMin : List D → Option Out
  | [.lst ds] => (ints? ds).bind fun ns => if ns.isEmpty then none else oI (minL ns)
  | [.tup ds] => (ints? ds).bind fun ns => if ns.isEmpty then none else oI (minL ns)
  | [.int i, .int j] => oI (if j < i then j else i)
  | _ => none
abbrev rMax2 (K : PySem.W.Frag) : List V → Hp → VK → Prop := fun xs H Q => (rMax K xs H Q ∨ rMaxT K xs H Q) ∨ (∃ i j, xs = [.int i, .int j] ∧ Q (.int (if j > i then j else i)) H)
abbrev rMin2 (K : PySem.W.Frag) : List V → Hp → VK → Prop := fun xs H Q => (rMin K xs H Q ∨ rMinT K xs H Q) ∨ (∃ i j, xs = [.int i, .int j] ∧ Q (.int (if j < i then j else i)) H)
theorem o_sum (G : X.K = T.K) (hc : X.calm = true) : CallR X (.builtin "sum") (rSum2 T.K) := G ▸ (cr_sum hc).or (cr_sumT hc)
theorem o_max (G : X.K = T.K) (hc : X.calm = true) : CallR X (.builtin "max") (rMax2 T.K) := G ▸ ((cr_max hc).or (cr_maxT hc)).or (call_max2 hc)
theorem o_min (G : X.K = T.K) (hc : X.calm = true) : CallR X (.builtin "min") (rMin2 T.K) := G ▸ ((cr_min hc).or (cr_minT hc)).or (call_min2 hc)
theorem p_max : PN T (rMax2 T.K) cMax := by
  intro Z H ds xs o Q h hg ok
  match ds, hg, h with
  | [.lst es], hg, h =>
    have hg : ((ints? es).bind fun ns => if ns.isEmpty then none else oI (maxL ns)) = some o := hg
    cases q : ints? es with
    | none => rw [q] at hg; cases hg
    | some ns =>
      rw [q] at hg
      have hg : (if ns.isEmpty then none else oI (maxL ns)) = some o := hg
      cases ns with
      | nil => cases hg
      | cons n r =>
        cases hg
        obtain ⟨x, rfl, hx⟩ := h.one
        obtain ⟨p, vs, rfl, k, r'⟩ := Sh.lst hx
        rw [ints?_eq q] at r'
        rw [r'.ints] at k
        refine .inl (.inl ⟨p, _, rfl, SqL.of k, by simp, fun m hm ha => ?_⟩)
        have e : m = maxL (n :: r) := Int.le_antisymm (maxL_ge hm) (ha _ (maxL_mem (by simp)))
        rw [e]
        exact ok _ rfl
  | [.tup es], hg, h =>
    have hg : ((ints? es).bind fun ns => if ns.isEmpty then none else oI (maxL ns)) = some o := hg
    cases q : ints? es with
    | none => rw [q] at hg; cases hg
    | some ns =>
      rw [q] at hg
      have hg : (if ns.isEmpty then none else oI (maxL ns)) = some o := hg
      cases ns with
      | nil => cases hg
      | cons n r =>
        cases hg
        obtain ⟨x, rfl, hx⟩ := h.one
        obtain ⟨p, vs, rfl, k, r'⟩ := Sh.tup hx
        rw [ints?_eq q] at r'
        rw [r'.ints] at k
        refine .inl (.inr ⟨p, _, rfl, k, by simp, fun m hm ha => ?_⟩)
        have e : m = maxL (n :: r) := Int.le_antisymm (maxL_ge hm) (ha _ (maxL_mem (by simp)))
        rw [e]
        exact ok _ rfl
  | [.int i, .int j], hg, h =>
    cases hg
    obtain ⟨x, y, rfl, hx, hy⟩ := h.two
    exact .inr ⟨i, j, by rw [show x = .int i from hx, show y = .int j from hy], ok _ rfl⟩
theorem p_min : PN T (rMin2 T.K) cMin := by
  intro Z H ds xs o Q h hg ok
  match ds, hg, h with
  | [.lst es], hg, h =>
    have hg : ((ints? es).bind fun ns => if ns.isEmpty then none else oI (minL ns)) = some o := hg
    cases q : ints? es with
    | none => rw [q] at hg; cases hg
    | some ns =>
      rw [q] at hg
      have hg : (if ns.isEmpty then none else oI (minL ns)) = some o := hg
      cases ns with
      | nil => cases hg
      | cons n r =>
        cases hg
        obtain ⟨x, rfl, hx⟩ := h.one
        obtain ⟨p, vs, rfl, k, r'⟩ := Sh.lst hx
        rw [ints?_eq q] at r'
        rw [r'.ints] at k
        refine .inl (.inl ⟨p, _, rfl, SqL.of k, by simp, fun m hm ha => ?_⟩)
        have e : m = minL (n :: r) := Int.le_antisymm (ha _ (minL_mem (by simp))) (minL_le hm)
        rw [e]
        exact ok _ rfl
  | [.tup es], hg, h =>
    have hg : ((ints? es).bind fun ns => if ns.isEmpty then none else oI (minL ns)) = some o := hg
    cases q : ints? es with
    | none => rw [q] at hg; cases hg
    | some ns =>
      rw [q] at hg
      have hg : (if ns.isEmpty then none else oI (minL ns)) = some o := hg
      cases ns with
      | nil => cases hg
      | cons n r =>
        cases hg
        obtain ⟨x, rfl, hx⟩ := h.one
        obtain ⟨p, vs, rfl, k, r'⟩ := Sh.tup hx
        rw [ints?_eq q] at r'
        rw [r'.ints] at k
        refine .inl (.inr ⟨p, _, rfl, k, by simp, fun m hm ha => ?_⟩)
        have e : m = minL (n :: r) := Int.le_antisymm (ha _ (minL_mem (by simp))) (minL_le hm)
        rw [e]
        exact ok _ rfl
  | [.int i, .int j], hg, h =>
    cases hg
    obtain ⟨x, y, rfl, hx, hy⟩ := h.two
    exact .inr ⟨i, j, by rw [show x = .int i from hx, show y = .int j from hy], ok _ rfl⟩
def cAny : List D → Option Out
  | [.lst ds] => (bls? ds).bind fun bs => oB (bs.any id)
  | _ => none
def cAll : List D → Option Out
  | [.lst ds] => (bls? ds).bind fun bs => oB (bs.all id)
  | _ => none
theorem o_any (G : X.K = T.K) (hc : X.calm = true) : CallR X (.builtin "any") (rAny T.K) := G ▸ cr_any hc
theorem o_all (G : X.K = T.K) (hc : X.calm = true) : CallR X (.builtin "all") (rAll T.K) := G ▸ cr_all hc
theorem p_any : PN T (rAny T.K) cAny := by
  intro Z H ds xs o Q h hg ok
  match ds, hg, h with
  | [.lst es], hg, h =>
    have hg : ((bls? es).bind fun bs => oB (bs.any id)) = some o := hg
    cases q : bls? es with
    | none => rw [q] at hg; cases hg
    | some ns =>
      rw [q] at hg
      cases hg
      obtain ⟨x, rfl, hx⟩ := h.one
      obtain ⟨p, vs, rfl, k, r⟩ := Sh.lst hx
      rw [bls?_eq q] at r
      rw [r.bls] at k
      exact ⟨p, ns, rfl, SqL.of k, ok _ rfl⟩
theorem p_all : PN T (rAll T.K) cAll := by
  intro Z H ds xs o Q h hg ok
  match ds, hg, h with
  | [.lst es], hg, h =>
    have hg : ((bls? es).bind fun bs => oB (bs.all id)) = some o := hg
    cases q : bls? es with
    | none => rw [q] at hg; cases hg
    | some ns =>
      rw [q] at hg
      cases hg
      obtain ⟨x, rfl, hx⟩ := h.one
      obtain ⟨p, vs, rfl, k, r⟩ := Sh.lst hx
      rw [bls?_eq q] at r
      rw [r.bls] at k
      exact ⟨p, ns, rfl, SqL.of k, ok _ rfl⟩
def cList : List D → Option Out
  | [.lst ds] => some (.nl ds)
  | [.tup ds] => some (.nl ds)
  | [.scr ns] => some (.nl (ns.map .int))
  | _ => none
def cTuple : List D → Option Out
  | [.lst ds] => some (.nt ds)
  | [.tup ds] => some (.sc (.tup ds))
  | [.scr ns] => some (.nt (ns.map .int))
  | _ => none
theorem o_list (G : X.K = T.K) : CallR X (.type "list") (fun xs H Q => ∃ p ys, xs = [.ref p] ∧ (SqL T.K H p ys ∨ SqT T.K H p ys) ∧ ∀ l, H l = none → Q (.ref l) (upd H l (.lst ys))) := G ▸ call_list_of
theorem o_tuple (G : X.K = T.K) : CallR X (.type "tuple") (fun xs H Q => ∃ p ys, xs = [.ref p] ∧ ((SqL T.K H p ys ∧ ∀ l, H l = none → Q (.ref l) (upd H l (.tup ys))) ∨ (SqT T.K H p ys ∧ Q (.ref p) H))) := G ▸ call_tuple_of
theorem p_list : PN T (fun xs H Q => ∃ p ys, xs = [.ref p] ∧ (SqL T.K H p ys ∨ SqT T.K H p ys) ∧ ∀ l, H l = none → Q (.ref l) (upd H l (.lst ys))) cList := by
  intro Z H ds xs o Q h hg ok
  match ds, hg, h with
  | [.lst es], hg, h =>
    cases hg
    obtain ⟨x, rfl, hx⟩ := h.one
    obtain ⟨p, vs, rfl, k, r⟩ := Sh.lst hx
    exact ⟨p, vs, rfl, .inl (SqL.of k), fun l hl => ok l _ hl r⟩
  | [.tup es], hg, h =>
    cases hg
    obtain ⟨x, rfl, hx⟩ := h.one
    obtain ⟨p, vs, rfl, k, r⟩ := Sh.tup hx
    exact ⟨p, vs, rfl, .inr k, fun l hl => ok l _ hl r⟩
  | [.scr ns], hg, h =>
    cases hg
    obtain ⟨x, rfl, hx⟩ := h.one
    obtain ⟨p, rfl, k⟩ := Sh.scr hx
    exact ⟨p, _, rfl, .inl k, fun l hl => ok l _ hl (RepL.of_ints ns)⟩
theorem p_tuple : PN T (fun xs H Q => ∃ p ys, xs = [.ref p] ∧ ((SqL T.K H p ys ∧ ∀ l, H l = none → Q (.ref l) (upd H l (.tup ys))) ∨ (SqT T.K H p ys ∧ Q (.ref p) H))) cTuple := by
  intro Z H ds xs o Q h hg ok
  match ds, hg, h with
  | [.lst es], hg, h =>
    cases hg
    obtain ⟨x, rfl, hx⟩ := h.one
    obtain ⟨p, vs, rfl, k, r⟩ := Sh.lst hx
    exact ⟨p, vs, rfl, .inl ⟨SqL.of k, fun l hl => ok l _ hl r⟩⟩
  | [.tup es], hg, h =>
    cases hg
    obtain ⟨x, rfl, hx⟩ := h.one
    obtain ⟨p, vs, e, k, r⟩ := Sh.tup hx
    exact ⟨p, vs, by rw [e], .inr ⟨k, by rw [← e]; exact ok x hx⟩⟩
  | [.scr ns], hg, h =>
    cases hg
    obtain ⟨x, rfl, hx⟩ := h.one
    obtain ⟨p, rfl, k⟩ := Sh.scr hx
    exact ⟨p, _, rfl, .inl ⟨k, fun l hl => ok l _ hl (RepL.of_ints ns)⟩⟩
/-! isinstance -/
def tyName : D → Option String
  | .non => some "NoneType"
  | .bl _ => some "bool"
  | .int _ => some "int"
  | .str _ => some "str"
  | .tup _ => some "tuple"
  | .lst _ => some "list"
  | .scr _ => some "list"
  | _ => none
def tys? : List D → Option (List String)
  | [] => some []
  | .ty b :: r => (tys? r).map (b :: ·)
  | _ => none
def kitS (a : String) : List String → Option Bool
  | [] => some false
  | b :: r => match kitB a b with
    | some true => some true
    | some false => kitS a r
    | none => none
def cIsi : List D → Option Out
  | [d, .ty b] => (tyName d).bind fun a => (kitB a b).bind oB
  | [d, .tup cs] => (tyName d).bind fun a => (tys? cs).bind fun ns => (kitS a ns).bind oB
  | _ => none
abbrev rIsi3 (K : PySem.W.Frag) : List V → Hp → VK → Prop := fun xs H Q => rIsi K xs H Q ∨ rIsiT K xs H Q ∨ rIsiK K xs H Q
theorem o_isi (G : X.K = T.K) : CallR X (.builtin "isinstance") (rIsi3 T.K) := G ▸ call_isi.or (call_isiT.or call_isiK)
theorem sqT_ty {K : PySem.W.Frag} {H : Hp} {Z : AP'} {a : Addr} {vs : List V} (h : (Z a ∧ H a = some (.tup vs)) ∨ WrT K a vs) : TyX K H (.ref a) (.type "tuple") := by
  rcases h with ⟨_, h⟩ | ⟨o, its, n, h, c, _⟩
  · exact .base (.tup h)
  · exact .kTuple h c
theorem ty_ok {Z : AP'} {H : Hp} {d : D} {x : V} {a : String} (h : Sh T Z H d x) (e : tyName d = some a) : TyX T.K H x (.type a) := by
  cases d with
  | non => cases e; rw [show x = .non from h]; exact .base .non
  | bl b => cases e; rw [show x = .bl b from h]; exact .base (.bl b)
  | int b => cases e; rw [show x = .int b from h]; exact .base (.int b)
  | str b => cases e; rw [show x = .str b from h]; exact .base (.str b)
  | scr ns =>
    cases e
    obtain ⟨q, rfl, k⟩ := h
    rcases k with ⟨_, o, k⟩ | ⟨o, its, n, k, c, _⟩
    · exact .base (.frz k)
    · exact .kList k c
  | tup ds => cases e; obtain ⟨q, vs, rfl, k, _⟩ := h; exact sqT_ty k
  | lst ds => cases e; obtain ⟨q, vs, rfl, k, _⟩ := Sh.lst h; exact .base (.lst k)
  | _ => cases e
theorem tys?_ok {Z : AP'} {H : Hp} : ∀ {cs : List D} {vs : List V} {ns : List String}, RepL T Z H cs vs → tys? cs = some ns → vs = ns.map V.ty
  | [], vs, ns, h, e => by cases e; exact h
  | d :: cs, vs, ns, h, e => by
    obtain ⟨v, r, rfl, h1, h2⟩ := h
    cases d with
    | ty n =>
      have e : (tys? cs).map (n :: ·) = some ns := e
      cases q : tys? cs with
      | none => rw [q] at e; cases e
      | some m =>
        rw [q] at e
        cases e
        rw [tys?_ok h2 q, show v = .ty n from h1]
        rfl
    | _ => cases e
theorem clsV_tys : ∀ (ns : List String), Paired ClsV (ns.map V.ty) (ns.map Value.type)
  | [] => .nil
  | n :: ns => .cons (.ty n) (clsV_tys ns)
theorem kitS_ok {K : PySem.W.Frag} {a : String} : ∀ {ns : List String} {b : Bool}, kitS a ns = some b → PySem.W.kitAny K (.type a) (ns.map Value.type) = some b
  | [], b, e => by cases e; exact kitAny_nil
  | n :: ns, b, e => by
    have e : (match kitB a n with
      | some true => some true
      | some false => kitS a ns
      | none => none) = some b := e
    cases q : kitB a n with
    | none => rw [q] at e; cases e
    | some c =>
      rw [q] at e
      cases c with
      | false => exact kitAny_cons (kit_ty q) (fun _ => kitS_ok e) fun z => nomatch z
      | true => cases e; exact kitAny_cons (kit_ty q) (fun z => nomatch z) fun _ => rfl
theorem p_isi : PN T (rIsi3 T.K) cIsi := by
  intro Z H ds xs o Q h hg ok
  match ds, hg, h with
  | [d, .ty b], hg, h =>
    have hg : ((tyName d).bind fun a => (kitB a b).bind oB) = some o := hg
    cases q1 : tyName d with
    | none => rw [q1] at hg; cases hg
    | some a =>
      rw [q1] at hg
      have hg : (kitB a b).bind oB = some o := hg
      cases q2 : kitB a b with
      | none => rw [q2] at hg; cases hg
      | some k =>
        rw [q2] at hg
        cases hg
        obtain ⟨x, y, rfl, hx, hy⟩ := h.two
        have hy : y = .ty b := hy
        subst hy
        exact .inl ⟨x, _, _, _, k, rfl, .ty b, ty_ok hx q1, kit_ty q2, ok _ rfl⟩
  | [d, .tup cs], hg, h =>
    have hg : ((tyName d).bind fun a => (tys? cs).bind fun ns => (kitS a ns).bind oB) = some o := hg
    cases q1 : tyName d with
    | none => rw [q1] at hg; cases hg
    | some a =>
      rw [q1] at hg
      have hg : ((tys? cs).bind fun ns => (kitS a ns).bind oB) = some o := hg
      cases q2 : tys? cs with
      | none => rw [q2] at hg; cases hg
      | some ns =>
        rw [q2] at hg
        have hg : (kitS a ns).bind oB = some o := hg
        cases q3 : kitS a ns with
        | none => rw [q3] at hg; cases hg
        | some k =>
          rw [q3] at hg
          cases hg
          obtain ⟨x, y, rfl, hx, hy⟩ := h.two
          obtain ⟨tp, vs, rfl, hk, r⟩ := hy
          rw [tys?_ok r q2] at hk
          rcases hk with ⟨_, hk⟩ | hk
          · exact .inr (.inl ⟨x, tp, _, _, _, k, rfl, hk, clsV_tys ns, ty_ok hx q1, kitS_ok q3, ok _ rfl⟩)
          · obtain ⟨ob, its, n, e, c, dt, _, vl⟩ := hk
            obtain ⟨oc, od, odt, osl⟩ := ob
            have c : oc = .type "tuple" := c
            have dt : odt = .seq its n := dt
            subst c dt
            have ei : its.toList = ns.map Value.type := ClsV.all (clsV_tys ns) vl
            refine .inr (.inr ⟨x, tp, od, its.toList, n, osl, _, k, rfl, by simpa using e, ty_ok hx q1, ?_, ok _ rfl⟩)
            rw [ei]
            exact kitS_ok q3
end
end Dv

set_option Elab.async false
set_option linter.all false
set_option maxRecDepth 100000
set_option maxHeartbeats 2000000
/-! Dv6: statements, lifted. -/
namespace Dv
open PySem PySem.Spec PyProof.Rows L2
/-- how a statement ends -/
inductive SO where
  | nx | rt (r : RV) | bk | ct
/-- the slots at P stay -/
def PinEq (P : Nat → Bool) (σ σ' : L2.St) : Prop := ∀ j : Nat, P j = true → σ'[j]? = σ[j]?
def PostS (T : Tx) (W : WX) (P : Nat → Bool) (Z F : AP') (H : Hp) (σ : L2.St) (r : Res SO) (D : Ends) : Prop := match r with
  | .ok .nx τ' => ∀ σ' Z' H', PinEq P σ σ' → Ext Z F H Z' H' → SR T Z' F τ' σ' H' → D.nx σ' H'
  | .ok (.rt r) τ' => ∀ v σ' Z' H', PinEq P σ σ' → Ext Z F H Z' H' → SR T Z' F τ' σ' H' → RepV T Z' F τ' σ' H' v r → D.rt v H'
  | .ok .bk τ' => ∀ σ' Z' H', PinEq P σ σ' → Ext Z F H Z' H' → SR T Z' F τ' σ' H' → D.bk σ' H'
  | .ok .ct τ' => ∀ σ' Z' H', PinEq P σ σ' → Ext Z F H Z' H' → SR T Z' F τ' σ' H' → D.ct σ' H'
  | .ex x τ' => ∀ cls dx σ' Z' H', PinEq P σ σ' → Ext Z F H Z' H' → SR T Z' F τ' σ' H' → ExR T Z' H' x cls dx → W cls dx σ' H'
  | .no => False
def tS (T : Tx) (W : WX) (P : Nat → Bool) (f : FS → Res SO) : TS := fun D σ H => ∃ Z F τ, SR T Z F τ σ H ∧ PostS T W P Z F H σ (f τ) D

section
variable {T : Tx} {X : Cx} {W : WX} {P : Nat → Bool} {Z Z' Z1 Z2 F F' F1 : AP'} {H H' H1 H2 : Hp} {d : D} {ds es : List D} {v w : V} {vs ws : List V} {τ τ' τ1 τ2 : FS} {σ σ' σ1 : L2.St} {r r2 : RV} {rs : List RV}
variable {α β : Type} {rel : Rel α β}
theorem PinEq.refl : PinEq P σ σ := fun _ _ => rfl
theorem PinEq.trans (a : PinEq P σ σ1) (b : PinEq P σ1 σ') : PinEq P σ σ' := fun j h => (b j h).trans (a j h)
theorem PostS.later {r : Res SO} {D : Ends} (p : PinEq P σ σ1) (e : Ext Z F H Z1 H1) (h : PostS T W P Z F H σ r D) : PostS T W P Z1 F H1 σ1 r D := by
  cases r with
  | ok a τ' =>
    cases a with
    | nx => exact fun σ' Z' H' q e' S => h σ' Z' H' (p.trans q) (e.trans e' fun _ x => x) S
    | rt r => exact fun v σ' Z' H' q e' S => h v σ' Z' H' (p.trans q) (e.trans e' fun _ x => x) S
    | bk => exact fun σ' Z' H' q e' S => h σ' Z' H' (p.trans q) (e.trans e' fun _ x => x) S
    | ct => exact fun σ' Z' H' q e' S => h σ' Z' H' (p.trans q) (e.trans e' fun _ x => x) S
  | ex x τ' => exact fun c d σ' Z' H' q e' S => h c d σ' Z' H' (p.trans q) (e.trans e' fun _ x => x) S
  | no => exact h
theorem bindSF {f : FS → Res α} {g : α → FS → Res SO} {D : Ends} {K : β → Hp → Prop} (S : SR T Z F1 τ σ H) (hF : ∀ a, F a → F1 a) (h : PostS T W P Z F H σ (bindR (f τ) g) D)
    (k : ∀ x r τ2 Z2 H2, Ext Z F1 H Z2 H2 → SR T Z2 F1 τ2 σ H2 → rel Z2 F1 τ2 σ H2 x r → PostS T W P Z2 F H2 σ (g r τ2) D → K x H2) : tWR T W rel f σ H K := by
  refine ⟨Z, F1, τ, S, ?_⟩
  cases e : f τ with
  | ok a τ' =>
    rw [e] at h
    exact fun v Z' H' e' S' q => k v a τ' Z' H' e' S' q (PostS.later PinEq.refl (e'.narrow hF) h)
  | ex x τ' =>
    rw [e] at h
    exact fun c d Z' H' e' S' q => h c d σ Z' H' PinEq.refl (e'.narrow hF) (S'.wide hF) q
  | no =>
    rw [e] at h
    exact h
theorem bindS {f : FS → Res α} {g : α → FS → Res SO} {D : Ends} {K : β → Hp → Prop} (S : SR T Z F τ σ H) (h : PostS T W P Z F H σ (bindR (f τ) g) D)
    (k : ∀ x r τ2 Z2 H2, Ext Z F H Z2 H2 → SR T Z2 F τ2 σ H2 → rel Z2 F τ2 σ H2 x r → PostS T W P Z2 F H2 σ (g r τ2) D → K x H2) : tWR T W rel f σ H K := bindSF S (fun _ x => x) h k
theorem PostS.goto {f : FS → Res SO} {D : Ends} (S : SR T Z F τ σ H) (h : PostS T W P Z F H σ (f τ) D) : tS T W P f D σ H := ⟨Z, F, τ, S, h⟩

/-! blocks -/
def evNx (τ : FS) : Res SO := .ok .nx τ
def evSeq (f g : FS → Res SO) (τ : FS) : Res SO := match f τ with
  | .ok .nx τ1 => g τ1
  | r => r
theorem PostS.seq {f g : FS → Res SO} {D : Ends} (h : PostS T W P Z F H σ (evSeq f g τ) D) : PostS T W P Z F H σ (f τ) { D with nx := fun σ' H' => tS T W P g D σ' H' } := by
  unfold evSeq at h
  cases e : f τ with
  | ok a τ' =>
    rw [e] at h
    cases a with
    | nx => exact fun σ' Z' H' q e' S => ⟨Z', F, τ', S, PostS.later q e' h⟩
    | rt r => exact h
    | bk => exact h
    | ct => exact h
  | ex x τ' => rw [e] at h; exact h
  | no => rw [e] at h; exact h
theorem b_nil : PSs X [] (tS T W P evNx) := PSs.mono pss_nil fun D σ H ⟨Z, F, τ, S, h⟩ => h σ Z H PinEq.refl Ext.refl S
theorem b_cons {st : Stmt} {rest : List Stmt} {f g : FS → Res SO} (h1 : PS X st (tS T W P f)) (h2 : PSs X rest (tS T W P g)) : PSs X (st :: rest) (tS T W P (evSeq f g)) :=
  PSs.mono (pss_cons h1 h2) fun D σ H ⟨Z, F, τ, S, h⟩ => ⟨Z, F, τ, S, PostS.seq h⟩
theorem b_one {st : Stmt} {f : FS → Res SO} (h1 : PS X st (tS T W P f)) : PSs X [st] (tS T W P f) := pss_one h1
def evBk (τ : FS) : Res SO := .ok .bk τ
def evCt (τ : FS) : Res SO := .ok .ct τ
theorem s_pass {pos} : PS X (.Pass pos) (tS T W P evNx) := PS.mono ps_pass fun D σ H ⟨Z, F, τ, S, h⟩ => h σ Z H PinEq.refl Ext.refl S
theorem s_break {pos} : PS X (.Break pos) (tS T W P evBk) := PS.mono ps_break fun D σ H ⟨Z, F, τ, S, h⟩ => h σ Z H PinEq.refl Ext.refl S
theorem s_continue {pos} : PS X (.Continue pos) (tS T W P evCt) := PS.mono ps_continue fun D σ H ⟨Z, F, τ, S, h⟩ => h σ Z H PinEq.refl Ext.refl S
def evDrop (fe : FS → Res RV) (τ : FS) : Res SO := bindR (fe τ) fun _ τ1 => .ok .nx τ1
theorem s_expr {e : Expr} {fe : FS → Res RV} {pos} (he : PE X e (tW T W fe)) (hs : swapsWith e none pos.line X.env = pure false) : PS X (.Expr e pos) (tS T W P (evDrop fe)) := by
  refine PS.mono (ps_expr he hs) fun D σ H ⟨Z, F, τ, S, h⟩ => ?_
  exact bindS S h fun x r τ1 Z1 H1 E1 S1 R1 h1 => h1 σ Z1 H1 PinEq.refl Ext.refl S1
/-- a returned slot's own list goes -/
def outR (r : RV) (τ : FS) : Option (RV × FS) := match r with
  | .sl i => match τ[i]? with
    | some (.fz d) => some (.val d, τ)
    | some (.ow ds) => some (.fr ds, τ.set i .un)
    | _ => none
  | r => some (r, τ)
def evRet (P : Nat → Bool) (fe : FS → Res RV) (τ : FS) : Res SO := bindR (fe τ) fun r τ1 => match r with
  | .sl i => match τ1[i]? with
    | some (.fz d) => .ok (.rt (.val d)) τ1
    | some (.ow ds) => if P i then .ok (.rt (.val (.lst ds))) (τ1.set i (.fz (.lst ds))) else .ok (.rt (.fr ds)) (τ1.set i .un)
    | _ => .no
  | r => .ok (.rt r) τ1
theorem SR.unset {i : Nat} (S : SR T Z F τ σ H) : SR T Z F (τ.set i .un) σ H := by
  have back : ∀ (j : Nat) (s : Sl), (τ.set i .un)[j]? = some s → s ≠ .un → τ[j]? = some s ∧ j ≠ i := fun j s e ne => by
    by_cases hj : i = j
    · subst hj
      by_cases hl : i < τ.length
      · rw [List.getElem?_set_self hl] at e; exact absurd (Option.some.inj e).symm ne
      · rw [List.getElem?_eq_none (by simpa using hl)] at e; cases e
    · rw [List.getElem?_set_ne hj] at e; exact ⟨e, Ne.symm hj⟩
  exact ⟨S.zt, S.ft, S.zf, by rw [List.length_set]; exact S.len, fun j d e => S.fz j d (back j _ e (fun z => nomatch z)).1, fun j ds e => S.ow j ds (back j _ e (fun z => nomatch z)).1,
    fun j k ds es a e1 e2 => S.ap j k ds es a (back j _ e1 (fun z => nomatch z)).1 (back k _ e2 (fun z => nomatch z)).1⟩
theorem s_ret {e : Expr} {fe : FS → Res RV} {pos} (he : PE X e (tW T W fe)) : PS X (.Return (some e) pos) (tS T W P (evRet P fe)) := by
  refine PS.mono (ps_ret he) fun D σ H ⟨Z, F, τ, S, h⟩ => ?_
  refine bindS S h fun x r τ1 Z1 H1 E1 S1 R1 h1 => ?_
  cases r with
  | val d => exact h1 x σ Z1 H1 PinEq.refl Ext.refl S1 R1
  | fr ds => exact h1 x σ Z1 H1 PinEq.refl Ext.refl S1 R1
  | sl i =>
    dsimp only at h1
    have R1 : σ[i]? = some (some x) := R1
    cases q : τ1[i]? with
    | none => rw [q] at h1; exact h1.elim
    | some s =>
      rw [q] at h1
      cases s with
      | un => exact h1.elim
      | fz d =>
        obtain ⟨v, e1, k⟩ := S1.fz i d q
        rw [R1] at e1
        cases e1
        exact h1 x σ Z1 H1 PinEq.refl Ext.refl S1 k
      | ow ds =>
        dsimp only at h1
        by_cases hp : P i = true
        · rw [if_pos hp] at h1
          obtain ⟨a, rfl, S2, rp⟩ := S1.freeze q R1
          exact h1 _ σ _ H1 PinEq.refl ⟨fun _ z => .inl z, fun _ _ _ h => h⟩ S2 rp
        · rw [if_neg hp] at h1
          obtain ⟨a, vs, e1, k1, k2, k3, k4⟩ := S1.ow i ds q
          rw [R1] at e1
          cases e1
          refine h1 _ σ Z1 H1 PinEq.refl Ext.refl S1.unset ⟨a, vs, rfl, k1, k2, k3, k4, fun j es e2 e3 => ?_⟩
          by_cases hj : i = j
          · subst hj
            rw [List.getElem?_set_self (List.getElem?_eq_some_iff.mp q).1] at e2
            cases e2
          · rw [List.getElem?_set_ne hj] at e2
            exact hj (S1.ap i j ds es a q e2 R1 e3)
def evRetN (τ : FS) : Res SO := .ok (.rt (.val .non)) τ
theorem s_retN {pos} : PS X (.Return none pos) (tS T W P evRetN) := PS.mono ps_retN fun D σ H ⟨Z, F, τ, S, h⟩ => h .non σ Z H PinEq.refl Ext.refl S rfl
theorem s_if {c : Expr} {a b : List Stmt} {ft : FS → Res Bool} {fa fb : FS → Res SO} {pos} (hc : PT X c (tWT T W ft)) (ha : PSs X a (tS T W P fa)) (hb : PSs X b (tS T W P fb)) : PS X (.If c a b pos) (tS T W P (evIf ft fa fb)) := by
  refine PS.mono (ps_if hc ha hb) fun D σ H ⟨Z, F, τ, S, h⟩ => ?_
  refine bindS S h fun x k τ1 Z1 H1 E1 S1 R1 h1 => ?_
  cases R1
  by_cases hx : x = true
  · rw [if_pos hx] at h1 ⊢
    exact PostS.goto S1 h1
  · rw [if_neg hx] at h1 ⊢
    exact PostS.goto S1 h1

/-! ### targets -/
def PostG (T : Tx) (P : Nat → Bool) (Z F : AP') (H : Hp) (σ : L2.St) (r : Res Unit) (Q : L2.St → Hp → Prop) : Prop := match r with
  | .ok _ τ' => ∀ σ' Z' H', PinEq P σ σ' → Ext Z F H Z' H' → SR T Z' F τ' σ' H' → Q σ' H'
  | _ => False
def tG (T : Tx) (P : Nat → Bool) (g : RV → FS → Res Unit) : TG := fun v σ H Q => ∃ Z F τ r, SR T Z F τ σ H ∧ RepV T Z F τ σ H v r ∧ PostG T P Z F H σ (g r τ) Q
def tGs (T : Tx) (P : Nat → Bool) (g : List D → FS → Res Unit) : TGs := fun vs σ H Q => ∃ Z F τ ds, SR T Z F τ σ H ∧ RepL T Z H ds vs ∧ PostG T P Z F H σ (g ds τ) Q
theorem PostG.later {r : Res Unit} {Q : L2.St → Hp → Prop} (p : PinEq P σ σ1) (e : Ext Z F H Z1 H1) (h : PostG T P Z F H σ r Q) : PostG T P Z1 F H1 σ1 r Q := by
  cases r with
  | ok a τ' => exact fun σ' Z' H' q e' S => h σ' Z' H' (p.trans q) (e.trans e' fun _ x => x) S
  | ex x τ' => exact h
  | no => exact h
def storeN (P : Nat → Bool) (i : Nat) (r : RV) (τ : FS) : Res Unit := if P i = true ∨ τ.length ≤ i then .no else match r with
  | .val d => .ok () (τ.set i (.fz d))
  | .fr ds => .ok () (τ.set i (.ow ds))
  | .sl j => match τ[j]? with
    | some (.fz d) => .ok () (τ.set i (.fz d))
    | some (.ow ds) => .ok () ((τ.set j (.fz (.lst ds))).set i (.fz (.lst ds)))
    | _ => .no
theorem SR.setFz {i : Nat} (S : SR T Z F τ σ H) (hi : i < τ.length) (h : Rep T Z H d v) : SR T Z F (τ.set i (.fz d)) (σ.set i (some v)) H := by
  have hs : i < σ.length := by rw [← S.len]; exact hi
  refine ⟨S.zt, S.ft, S.zf, by simp [S.len], fun j e q => ?_, fun j es q => ?_, fun j k es fs a q1 q2 q3 q4 => ?_⟩
  · by_cases hj : i = j
    · subst hj
      rw [List.getElem?_set_self hi] at q
      cases q
      exact ⟨v, by rw [List.getElem?_set_self hs], h⟩
    · rw [List.getElem?_set_ne hj] at q ⊢
      exact S.fz j e q
  · by_cases hj : i = j
    · subst hj
      rw [List.getElem?_set_self hi] at q
      cases q
    · rw [List.getElem?_set_ne hj] at q ⊢
      exact S.ow j es q
  · by_cases hj : i = j
    · subst hj; rw [List.getElem?_set_self hi] at q1; cases q1
    · by_cases hk : i = k
      · subst hk; rw [List.getElem?_set_self hi] at q2; cases q2
      · rw [List.getElem?_set_ne hj] at q1 q3
        rw [List.getElem?_set_ne hk] at q2 q4
        exact S.ap j k es fs a q1 q2 q3 q4
theorem SR.setOw {i : Nat} (S : SR T Z F τ σ H) (hi : i < τ.length) (h : RepV T Z F τ σ H v (.fr ds)) : SR T Z F (τ.set i (.ow ds)) (σ.set i (some v)) H := by
  obtain ⟨a, vs, rfl, k1, k2, k3, k4, k5⟩ := h
  have hs : i < σ.length := by rw [← S.len]; exact hi
  refine ⟨S.zt, S.ft, S.zf, by simp [S.len], fun j e q => ?_, fun j es q => ?_, fun j k es fs b q1 q2 q3 q4 => ?_⟩
  · by_cases hj : i = j
    · subst hj; rw [List.getElem?_set_self hi] at q; cases q
    · rw [List.getElem?_set_ne hj] at q ⊢
      exact S.fz j e q
  · by_cases hj : i = j
    · subst hj
      rw [List.getElem?_set_self hi] at q
      cases q
      exact ⟨a, vs, by rw [List.getElem?_set_self hs], k1, k2, k3, k4⟩
    · rw [List.getElem?_set_ne hj] at q ⊢
      exact S.ow j es q
  · by_cases hj : i = j
    · subst hj
      by_cases hk : i = k
      · exact hk
      · rw [List.getElem?_set_self hs] at q3
        cases q3
        rw [List.getElem?_set_ne hk] at q2 q4
        exact absurd q4 (k5 k fs q2)
    · by_cases hk : i = k
      · subst hk
        rw [List.getElem?_set_self hs] at q4
        cases q4
        rw [List.getElem?_set_ne hj] at q1 q3
        exact absurd q3 (k5 j es q1)
      · rw [List.getElem?_set_ne hj] at q1 q3
        rw [List.getElem?_set_ne hk] at q2 q4
        exact S.ap j k es fs b q1 q2 q3 q4
theorem store_pin {i : Nat} (h : ¬ P i = true) : PinEq P σ (σ.set i (some v)) := fun j hj => by
  by_cases e : i = j
  · subst e; exact absurd hj h
  · rw [List.getElem?_set_ne e]
theorem storeN_ok {i : Nat} {Q : L2.St → Hp → Prop} (S : SR T Z F τ σ H) (R : RepV T Z F τ σ H v r) (h : PostG T P Z F H σ (storeN P i r τ) Q) : Q (σ.set i (some v)) H := by
  unfold storeN at h
  by_cases hc : P i = true ∨ τ.length ≤ i
  · rw [if_pos hc] at h; exact h.elim
  · rw [if_neg hc] at h
    have hp : ¬ P i = true := fun z => hc (.inl z)
    have hi : i < τ.length := Nat.lt_of_not_le fun z => hc (.inr z)
    cases r with
    | val d => exact h _ Z H (store_pin hp) Ext.refl (S.setFz hi R)
    | fr ds => exact h _ Z H (store_pin hp) Ext.refl (S.setOw hi R)
    | sl j =>
      dsimp only at h
      have R : σ[j]? = some (some v) := R
      cases q : τ[j]? with
      | none => rw [q] at h; exact h.elim
      | some s =>
        rw [q] at h
        cases s with
        | un => exact h.elim
        | fz d =>
          obtain ⟨w, e, k⟩ := S.fz j d q
          rw [R] at e
          cases e
          exact h _ Z H (store_pin hp) Ext.refl (S.setFz hi k)
        | ow ds =>
          obtain ⟨a, rfl, S2, rp⟩ := S.freeze q R
          exact h _ _ H (store_pin hp) ⟨fun _ z => .inl z, fun _ _ _ h => h⟩ (S2.setFz (by simpa using hi) rp)
theorem g_name {e : Expr} {i : Nat} (h : PG X e (gName i)) : PG X e (tG T P (storeN P i)) := ⟨fun pins s σ H v u Q I r hw => by
  obtain ⟨Z, F, τ, rv, S, R, hq⟩ := hw
  exact h.run pins s σ H v u Q I r (storeN_ok S R hq)⟩
def gsNil (ds : List D) (τ : FS) : Res Unit := match ds with
  | [] => .ok () τ
  | _ => .no
def gsCons (g : RV → FS → Res Unit) (gs : List D → FS → Res Unit) (ds : List D) (τ : FS) : Res Unit := match ds with
  | d :: r => match g (.val d) τ with
    | .ok _ τ1 => gs r τ1
    | _ => .no
  | [] => .no
theorem gs_nil : PGs X [] (tGs T P gsNil) := ⟨fun pins s σ H vs us Q I r hw => by
  obtain ⟨Z, F, τ, ds, S, R, hq⟩ := hw
  cases ds with
  | nil => exact pgs_nil.run pins s σ H vs us Q I r ⟨R, hq σ Z H PinEq.refl Ext.refl S⟩
  | cons d ds => exact hq.elim⟩
theorem gs_cons {e : Expr} {es : List Expr} {g : RV → FS → Res Unit} {gs : List D → FS → Res Unit} (h1 : PG X e (tG T P g)) (h2 : PGs X es (tGs T P gs))
    (hs : (assignEach (e :: es) X.env).map (·.2) = assign e X.env :: (assignEach es X.env).map (·.2)) : PGs X (e :: es) (tGs T P (gsCons g gs)) := ⟨fun pins s σ H vs us Q I r hw => by
  obtain ⟨Z, F, τ, ds, S, R, hq⟩ := hw
  cases ds with
  | nil => exact hq.elim
  | cons d ds =>
    obtain ⟨v, rr, rfl, R1, R2⟩ := R
    refine (pgs_cons h1 h2 hs).run pins s σ H _ us Q I r ⟨v, rr, rfl, Z, F, τ, .val d, S, R1, ?_⟩
    unfold gsCons at hq
    dsimp only at hq
    cases q : g (.val d) τ with
    | ok a τ' =>
      rw [q] at hq
      exact fun σ' Z' H' p e S' => ⟨Z', F, τ', ds, S', RepL.ext e R2, PostG.later p e hq⟩
    | ex x τ' => rw [q] at hq; exact hq.elim
    | no => rw [q] at hq; exact hq.elim⟩
def gTupE (n : Nat) (gs : List D → FS → Res Unit) (r : RV) (τ : FS) : Res Unit := match look τ r with
  | some (.tup ds) => if ds.length = n then gs ds τ else .no
  | some (.lst ds) => if ds.length = n then gs ds τ else .no
  | _ => .no
theorem g_tup {es : List Expr} {k : Nat} {pos : Pos} {gs : List D → FS → Res Unit} {n : Nat} (G : X.K = T.K) (hc : X.calm = true) (h : PGs X es (tGs T P gs))
    (hn : (assignEach es X.env).length = n) (hst : (assignEach es X.env).findIdx? (·.1) = none) : PG X (.Tuple es k pos) (tG T P (gTupE n gs)) := ⟨fun pins s σ H v u Q I r hw => by
  obtain ⟨Z, F, τ, rv, S, R, hq⟩ := hw
  unfold gTupE at hq
  cases q : look τ rv with
  | none => rw [q] at hq; exact hq.elim
  | some d =>
    rw [q] at hq
    have sh := S.sh R q
    cases d with
    | tup ds =>
      dsimp only at hq
      by_cases hl : ds.length = n
      · rw [if_pos hl] at hq
        obtain ⟨a, vs, e, k1, r1⟩ := Sh.tup sh
        rw [← G] at k1
        exact (pg_tup (k := k) hc h hn hst).run pins s σ H v u Q I r ⟨a, vs, e, k1, by rw [r1.length]; exact hl, Z, F, τ, ds, S, r1, hq⟩
      · rw [if_neg hl] at hq; exact hq.elim
    | lst ds =>
      dsimp only at hq
      by_cases hl : ds.length = n
      · rw [if_pos hl] at hq
        obtain ⟨a, vs, e, k1, r1⟩ := Sh.lst sh
        exact (pg_lst (k := k) hc h hn hst).run pins s σ H v u Q I r ⟨a, vs, e, SqL.of k1, by rw [r1.length]; exact hl, Z, F, τ, ds, S, r1, hq⟩
      · rw [if_neg hl] at hq; exact hq.elim
    | _ => exact hq.elim⟩
def evAsg (fe : FS → Res RV) (g : RV → FS → Res Unit) (τ : FS) : Res SO := bindR (fe τ) fun r τ1 => match g r τ1 with
  | .ok _ τ2 => .ok .nx τ2
  | _ => .no
theorem asg_ok {g : RV → FS → Res Unit} {D : Ends} (h1 : PostS T W P Z F H σ (match g r τ with
    | .ok _ τ2 => .ok .nx τ2
    | _ => .no) D) : PostG T P Z F H σ (g r τ) D.nx := by
  cases q : g r τ with
  | ok a τ' => rw [q] at h1; exact h1
  | ex x τ' => rw [q] at h1; exact h1.elim
  | no => rw [q] at h1; exact h1.elim
theorem s_asg {tg e : Expr} {fe : FS → Res RV} {g : RV → FS → Res Unit} {pos : Pos} (he : PE X e (tW T W fe)) (hg : PG X tg (tG T P g)) (hs : swapsWithSole [tg] e pos.line X.env = pure false) (hw : swappedStores [tg] e X.env = pure none)
    (h1 : (assignEach [tg] X.env).map (·.2) = [assign tg X.env]) : PS X (.Assign [tg] e pos) (tS T W P (evAsg fe g)) := by
  refine PS.mono (ps_asg he hg hs hw h1) fun D σ H ⟨Z, F, τ, S, h⟩ => ?_
  exact bindS S h fun x r τ1 Z1 H1 E1 S1 R1 h1 => ⟨Z1, F, τ1, r, S1, R1, asg_ok h1⟩
end
end Dv

set_option Elab.async false
set_option linter.all false
set_option maxRecDepth 100000
set_option maxHeartbeats 2000000
/-! Dv7: own lists written, methods, slices, chains, several names at once. -/
namespace Dv
open PySem PySem.Spec PyProof.Rows L2
section
variable {T : Tx} {X : Cx} {W : WX} {P : Nat → Bool} {Z Z' Z1 Z2 F F' F1 : AP'} {H H' H1 H2 : Hp} {d : D} {ds es : List D} {v w : V} {vs ws : List V} {τ τ' τ1 τ2 : FS} {σ σ' σ1 : L2.St} {r r2 : RV} {rs : List RV} {a : Addr}
/-! ### an own list is written -/
theorem Ext.write (hz : ¬ Z a) (hf : ¬ F a) {o : HO} : Ext Z F H Z (upd H a o) := ⟨fun _ z => z, fun b u z e => by
  rw [upd_ne (fun q => by subst q; exact z.elim hz hf)]; exact e⟩
theorem SR.write {j : Nat} {o : List V} (S : SR T Z F τ σ H) (e : τ[j]? = some (Sl.ow ds)) (hv : σ[j]? = some (some (.ref a))) (hr : RepL T Z H es ws) :
    Ext Z F H Z (upd H a (.lst ws)) ∧ SR T Z F (τ.set j (.ow es)) σ (upd H a (.lst ws)) := by
  obtain ⟨b, vs, h1, h2, h3, h4, h5⟩ := S.ow j ds e
  rw [hv] at h1
  cases h1
  have hj : j < τ.length := (List.getElem?_eq_some_iff.mp e).1
  have E : Ext Z F H Z (upd H a (.lst ws)) := Ext.write h4 h5
  refine ⟨E, ⟨fun x z => ?_, fun x z => ?_, S.zf, by rw [List.length_set]; exact S.len, fun i d q => ?_, fun i fs q => ?_, fun i k fs gs b q1 q2 q3 q4 => ?_⟩⟩
  · rw [upd_ne (fun q => by subst q; exact h4 z)]; exact S.zt x z
  · rw [upd_ne (fun q => by subst q; exact h5 z)]; exact S.ft x z
  · by_cases hi : j = i
    · subst hi; rw [List.getElem?_set_self hj] at q; cases q
    · rw [List.getElem?_set_ne hi] at q
      obtain ⟨u, k1, k2⟩ := S.fz i d q
      exact ⟨u, k1, Rep.ext E k2⟩
  · by_cases hi : j = i
    · subst hi
      rw [List.getElem?_set_self hj] at q
      cases q
      exact ⟨a, ws, hv, upd_same, RepL.ext E hr, h4, h5⟩
    · rw [List.getElem?_set_ne hi] at q
      obtain ⟨b, us, k1, k2, k3, k4, k5⟩ := S.ow i fs q
      have nb : b ≠ a := fun z => by subst z; exact hi (S.ap j i ds fs b e q hv k1)
      exact ⟨b, us, k1, by rw [upd_ne nb]; exact k2, RepL.ext E k3, k4, k5⟩
  · have back : ∀ (i : Nat) (fs : List D), (τ.set j (.ow es))[i]? = some (Sl.ow fs) → ∃ gs, τ[i]? = some (Sl.ow gs) := fun i fs q => by
      by_cases hi : j = i
      · subst hi; exact ⟨_, e⟩
      · rw [List.getElem?_set_ne hi] at q; exact ⟨_, q⟩
    obtain ⟨fs', q1'⟩ := back i fs q1
    obtain ⟨gs', q2'⟩ := back k gs q2
    exact S.ap i k fs' gs' b q1' q2' q3 q4
/-! x[i] = e -/
def isOw (j : Nat) (τ : FS) : Bool := match τ[j]? with
  | some (.ow _) => true
  | _ => false
theorem isOw_at {j : Nat} (S : SR T Z F τ σ H) (h : isOw j τ = true) : ∃ a, σ[j]? = some (some (V.ref a)) ∧ ∃ vs, H a = some (.lst vs) := by
  unfold isOw at h
  cases q : τ[j]? with
  | none => rw [q] at h; cases h
  | some s =>
    rw [q] at h
    cases s with
    | ow ds =>
      obtain ⟨a, vs, h1, h2, _⟩ := S.ow j ds q
      exact ⟨a, h1, vs, h2⟩
    | _ => cases h
def gSetI (j : Nat) (fi : FS → Res RV) (r : RV) (τ : FS) : Res Unit := if isOw j τ = true then (match fi τ with
  | .ok ri τ1 => match look τ1 ri, frz r τ1 with
    | some (.int k), some (d, τ2) => match τ2[j]? with
      | some (.ow ds) => match ixN ds.length k with
        | some n => .ok () (τ2.set j (.ow (ds.set n d)))
        | none => .no
      | _ => .no
    | _, _ => .no
  | _ => .no) else .no
theorem g_set {o i : Expr} {j : Nat} {fi : FS → Res RV} {pos : Pos} (ho : PE X o (tVar j)) (hi : PE X i (tW T W fi))
    (ha : ∀ v, assign (.Subscript o i pos) X.env v = (do
      let ov ← holding [v] (eval o X.env)
      let iv ← holding [v, ov] (eval i X.env)
      standAt pos
      holding [v, ov, iv] (setItem ov iv v)
      release [v, ov, iv] [])) : PG X (.Subscript o i pos) (tG T P (gSetI j fi)) := ⟨fun pins s σ H v u Q I rv hw => by
  obtain ⟨Z, F, τ, r, S, R, hq⟩ := hw
  unfold gSetI at hq
  by_cases hj : isOw j τ = true
  case neg => rw [if_neg hj] at hq; exact hq.elim
  rw [if_pos hj] at hq
  obtain ⟨a, hσ, _⟩ := isOw_at S hj
  refine (pg_sub ho hi set_list ha).run pins s σ H v u Q I rv ?_
  cases e : fi τ with
  | ex x τ' => rw [e] at hq; exact hq.elim
  | no => rw [e] at hq; exact hq.elim
  | ok ri τ1 =>
    rw [e] at hq
    dsimp only at hq
    cases q1 : look τ1 ri with
    | none => rw [q1] at hq; exact hq.elim
    | some di =>
      cases di with
      | int k =>
        cases q2 : frz r τ1 with
        | none => rw [q1, q2] at hq; exact hq.elim
        | some p =>
          obtain ⟨d, τ2⟩ := p
          rw [q1, q2] at hq
          dsimp only at hq
          cases q3 : τ2[j]? with
          | none => rw [q3] at hq; exact hq.elim
          | some sl =>
            cases sl with
            | ow ds =>
              rw [q3] at hq
              dsimp only at hq
              cases q4 : ixN ds.length k with
              | none => rw [q4] at hq; exact hq.elim
              | some n =>
                rw [q4] at hq
                refine ⟨.ref a, hσ, Z, _, τ, S.addF R, ?_⟩
                rw [e]
                intro y Z1 H1 E1 S1 R1
                obtain ⟨Z2, s2, S2, R2, _⟩ := frz_ok (S1.wide (F := F) fun _ => .inl) (R.carry E1 S1) q2
                obtain ⟨b, vs, h1, h2, h3, h4, h5⟩ := S2.ow j ds q3
                rw [hσ] at h1
                cases h1
                have hy : y = .int k := S1.sh R1 q1
                refine ⟨a, vs, k, n, rfl, hy, h2, by rw [h3.length]; exact q4, ?_⟩
                obtain ⟨E3, S3⟩ := S2.write (o := []) q3 hσ (h3.set R2 n)
                exact hq σ Z2 _ PinEq.refl ⟨fun x z => E3.sub x (s2 x (E1.sub x z)), fun x o z k => E3.keep x o (z.imp (fun z => s2 x (E1.sub x z)) id) (E1.keep x o (z.imp id .inl) k)⟩ S3
            | _ => rw [q3] at hq; exact hq.elim
      | _ => rw [q1] at hq; exact hq.elim⟩

/-! ### methods -/
/-- a method of a built-in type that only reads -/
theorem tyV_lst {H : Hp} {a : Addr} {K : PySem.W.Frag} (h : H a = some (.lst vs)) : tyV K "list" (.ref a) H := .inl ⟨rfl, vs, SqL.of h⟩
def tyD : D → Option String
  | .str _ => some "str"
  | .lst _ => some "list"
  | .scr _ => some "list"
  | _ => none
theorem tyD_ok {x : V} {s : String} (h : Sh T Z H d x) (e : tyD d = some s) : tyV T.K s x H := by
  cases d with
  | str z => cases e; rw [show x = .str z from h]; rfl
  | lst es => cases e; obtain ⟨a, vs, rfl, k, _⟩ := Sh.lst h; exact tyV_lst k
  | scr ns => cases e; obtain ⟨a, rfl, k⟩ := Sh.scr h; exact .inl ⟨rfl, _, k⟩
  | _ => cases e
def opM (s : String) (g : D → List D → Option Out) (fo : FS → Res RV) (fa : FS → Res (List RV)) (τ : FS) : Res RV := bindR (fo τ) fun ro τ1 => if ((look τ1 ro).bind tyD) = some s then bindR (fa τ1) fun rs τ2 => (match look τ2 ro, rs.mapM (look τ2) with
  | some d, some ds => fin (g d ds) τ2
  | _, _ => .no) else .no
theorem r_opM {s : String} {o e : Expr} {es : List Expr} {g : D → List D → Option Out} {rd : V → List V → Hp → VK → Prop} {fo : FS → Res RV} {fs : FS → Res (List RV)} (G : X.K = T.K) (h : ∀ {to : TE} {t : TA}, PE X o to → PA X es t → PE X e (tBM X.K s rd to t)) (hg : P1N T rd g)
    (ho : PE X o (tW T W fo)) (ha : PA X es (tWA T W fs)) : PE X e (tW T W (opM s g fo fs)) := by
  refine PE.mono (h ho ha) fun σ H Q ⟨Z, F, τ, S, h⟩ => ?_
  refine bind1 S h fun x ro τ1 Z1 H1 E1 S1 R1 h1 => ?_
  by_cases ht : ((look τ1 ro).bind tyD) = some s
  · rw [if_pos ht] at h1
    cases q0 : look τ1 ro with
    | none => rw [q0] at ht; cases ht
    | some d0 =>
      rw [q0] at ht
      refine ⟨by rw [G]; exact tyD_ok (S1.sh R1 q0) ht, ?_⟩
      refine bindF (S1.addF R1) (fun _ => .inl) h1 fun ys rs τ2 Z2 H2 E2 S2 R2 h2 => ?_
      have R1' := R1.carry E2 S2
      have S2' := S2.wide (F := F) fun _ => .inl
      cases q1 : look τ2 ro with
      | none => rw [q1] at h2; exact h2.elim
      | some d =>
        cases q2 : rs.mapM (look τ2) with
        | none => rw [q1, q2] at h2; exact h2.elim
        | some ds =>
          rw [q1, q2] at h2
          obtain ⟨u, e, ok⟩ := fin_ok S2' h2
          exact hg Z2 H2 d ds x ys u Q (S2'.sh R1' q1) (RepVs.sh S2 R2 q2) e ok
  · rw [if_neg ht] at h1; exact h1.elim
/-- x.append(e) -/
def evApp (j : Nat) (fa : FS → Res RV) (τ : FS) : Res RV := if isOw j τ = true then bindR (fa τ) fun r τ1 => (match frz r τ1 with
  | some (d, τ2) => match τ2[j]? with
    | some (.ow ds) => if ds.length < sizeLine then .ok (.val .non) (τ2.set j (.ow (ds ++ [d]))) else .no
    | _ => .no
  | none => .no) else .no
theorem r_app {j : Nat} {o e c : Expr} {fa : FS → Res RV} (h : ∀ {to : TE} {t : TA}, PE X o to → PA X [e] t → PE X c (tBM X.K "list" rAppend to t)) (hs : starEach [e] X.env = (false, eval e X.env) :: starEach [] X.env) (ho : PE X o (tVar j)) (ha : PE X e (tW T W fa)) :
    PE X c (tW T W (evApp j fa)) := by
  refine PE.mono (h ho (pa_cons ha pa_nil hs)) fun σ H Q ⟨Z, F, τ, S, h⟩ => ?_
  unfold evApp at h
  by_cases hj : isOw j τ = true
  case neg => rw [if_neg hj] at h; exact h.elim
  rw [if_pos hj] at h
  obtain ⟨a, hσ, vs0, hl0⟩ := isOw_at S hj
  refine ⟨_, hσ, tyV_lst hl0, ?_⟩
  refine bind1 S h fun y r τ1 Z1 H1 E1 S1 R1 h1 => ?_
  show rAppend _ _ _ _
  cases q : frz r τ1 with
  | none => rw [q] at h1; exact h1.elim
  | some p =>
    obtain ⟨d, τ2⟩ := p
    rw [q] at h1
    dsimp only at h1
    cases q3 : τ2[j]? with
    | none => rw [q3] at h1; exact h1.elim
    | some sl =>
      cases sl with
      | ow ds =>
        rw [q3] at h1
        dsimp only at h1
        by_cases hl : ds.length < sizeLine
        · rw [if_pos hl] at h1
          obtain ⟨Z2, s2, S2, R2, _⟩ := frz_ok S1 R1 q
          obtain ⟨b, vs, k1, k2, k3, k4, k5⟩ := S2.ow j ds q3
          rw [hσ] at k1
          cases k1
          obtain ⟨E3, S3⟩ := S2.write (o := []) q3 hσ (k3.append (.one R2))
          refine ⟨a, vs, y, rfl, rfl, k2, by rw [k3.length]; exact hl, ?_⟩
          exact h1 .non Z2 _ ⟨fun x z => E3.sub x (s2 x z), fun x o z k => E3.keep x o (z.imp (s2 x) id) k⟩ S3 rfl
        · rw [if_neg hl] at h1; exact h1.elim
      | _ => rw [q3] at h1; exact h1.elim
/-- x.extend(e), e a list -/
def evExt (j : Nat) (fa : FS → Res RV) (τ : FS) : Res RV := if isOw j τ = true then bindR (fa τ) fun r τ1 => (match look τ1 r, τ1[j]? with
  | some (.lst es), some (.ow ds) => if ds.length + es.length ≤ sizeLine then .ok (.val .non) (τ1.set j (.ow (ds ++ es))) else .no
  | _, _ => .no) else .no
theorem r_ext {j : Nat} {o e c : Expr} {fa : FS → Res RV} (h : ∀ {to : TE} {t : TA}, PE X o to → PA X [e] t → PE X c (tBM X.K "list" rExtend to t)) (hs : starEach [e] X.env = (false, eval e X.env) :: starEach [] X.env) (ho : PE X o (tVar j)) (ha : PE X e (tW T W fa)) :
    PE X c (tW T W (evExt j fa)) := by
  refine PE.mono (h ho (pa_cons ha pa_nil hs)) fun σ H Q ⟨Z, F, τ, S, h⟩ => ?_
  unfold evExt at h
  by_cases hj : isOw j τ = true
  case neg => rw [if_neg hj] at h; exact h.elim
  rw [if_pos hj] at h
  obtain ⟨a, hσ, vs0, hl0⟩ := isOw_at S hj
  refine ⟨_, hσ, tyV_lst hl0, ?_⟩
  refine bind1 S h fun y r τ1 Z1 H1 E1 S1 R1 h1 => ?_
  show rExtend _ _ _ _
  cases q : look τ1 r with
  | none => rw [q] at h1; exact h1.elim
  | some d =>
    cases d with
    | lst es =>
      cases q3 : τ1[j]? with
      | none => rw [q, q3] at h1; exact h1.elim
      | some sl =>
        cases sl with
        | ow ds =>
          rw [q, q3] at h1
          dsimp only at h1
          by_cases hl : ds.length + es.length ≤ sizeLine
          · rw [if_pos hl] at h1
            obtain ⟨b, vs, k1, k2, k3, k4, k5⟩ := S1.ow j ds q3
            rw [hσ] at k1
            cases k1
            obtain ⟨b, ws, rfl, m1, m2⟩ := Sh.lst (S1.sh R1 q)
            obtain ⟨E3, S3⟩ := S1.write (o := []) q3 hσ (k3.append m2)
            refine ⟨a, b, vs, ws, rfl, rfl, k2, m1, by rw [k3.length, m2.length]; exact hl, ?_⟩
            exact h1 .non Z1 _ E3 S3 rfl
          · rw [if_neg hl] at h1; exact h1.elim
        | _ => rw [q, q3] at h1; exact h1.elim
    | _ => rw [q] at h1; exact h1.elim
/-- x.pop() -/
def evPop (j : Nat) (τ : FS) : Res RV := match τ[j]? with
  | some (.ow ds) => match ds[ds.length - 1]? with
    | some d => .ok (.val d) (τ.set j (.ow ds.dropLast))
    | none => .no
  | _ => .no
theorem RepL.dropLast : ∀ {ds : List D} {vs : List V}, RepL T Z H ds vs → RepL T Z H ds.dropLast vs.dropLast := fun {ds vs} h => by
  rw [List.dropLast_eq_take, List.dropLast_eq_take, h.length]
  exact h.take _
theorem r_pop {j : Nat} {o c : Expr} (h : ∀ {to : TE}, PE X o to → PE X c (tBM0 X.K "list" rPop to)) (ho : PE X o (tVar j)) : PE X c (tW T W (evPop j)) := by
  refine PE.mono (h ho) fun σ H Q ⟨Z, F, τ, S, h⟩ => ?_
  unfold evPop at h
  cases q3 : τ[j]? with
  | none => rw [q3] at h; exact h.elim
  | some sl =>
    cases sl with
    | ow ds =>
      rw [q3] at h
      dsimp only at h
      obtain ⟨a, vs, k1, k2, k3, k4, k5⟩ := S.ow j ds q3
      cases q : ds[ds.length - 1]? with
      | none => rw [q] at h; exact h.elim
      | some d =>
        rw [q] at h
        obtain ⟨y, e1, ry⟩ := k3.get q
        obtain ⟨E3, S3⟩ := S.write (o := []) q3 k1 k3.dropLast
        refine ⟨_, k1, tyV_lst k2, a, vs, y, rfl, rfl, k2, by rw [k3.length]; exact e1, ?_⟩
        exact h y Z _ E3 S3 (Rep.ext E3 ry)
    | _ => rw [q3] at h; exact h.elim
/-- x.pop(i) -/
def evPopAt (j : Nat) (fa : FS → Res RV) (τ : FS) : Res RV := if isOw j τ = true then bindR (fa τ) fun r τ1 => (match look τ1 r, τ1[j]? with
  | some (.int i), some (.ow ds) => if 0 ≤ i ∧ i < 2 ^ 62 then (match ds[i.toNat]? with
    | some d => .ok (.val d) (τ1.set j (.ow (ds.eraseIdx i.toNat)))
    | none => .no) else .no
  | _, _ => .no) else .no
theorem seqIndex_nat {i : Int} {n : Nat} (h0 : 0 ≤ i) (h : i.toNat < n) : seqIndex? i n = some i.toNat := by
  have := ixN_seq (n := n) (i := i) (j := i.toNat) (by unfold ixN; rw [if_pos h0, if_pos (by omega)])
  exact this.1
theorem r_popAt {j : Nat} {o e c : Expr} {fa : FS → Res RV} (h : ∀ {to : TE} {t : TA}, PE X o to → PA X [e] t → PE X c (tBM X.K "list" rPopAt to t)) (hs : starEach [e] X.env = (false, eval e X.env) :: starEach [] X.env) (ho : PE X o (tVar j)) (ha : PE X e (tW T W fa)) :
    PE X c (tW T W (evPopAt j fa)) := by
  refine PE.mono (h ho (pa_cons ha pa_nil hs)) fun σ H Q ⟨Z, F, τ, S, h⟩ => ?_
  unfold evPopAt at h
  by_cases hj : isOw j τ = true
  case neg => rw [if_neg hj] at h; exact h.elim
  rw [if_pos hj] at h
  obtain ⟨a, hσ, vs0, hl0⟩ := isOw_at S hj
  refine ⟨_, hσ, tyV_lst hl0, ?_⟩
  refine bind1 S h fun y r τ1 Z1 H1 E1 S1 R1 h1 => ?_
  show rPopAt _ _ _ _
  cases q : look τ1 r with
  | none => rw [q] at h1; exact h1.elim
  | some d =>
    cases d with
    | int i =>
      cases q3 : τ1[j]? with
      | none => rw [q, q3] at h1; exact h1.elim
      | some sl =>
        cases sl with
        | ow ds =>
          rw [q, q3] at h1
          dsimp only at h1
          by_cases hl : 0 ≤ i ∧ i < 2 ^ 62
          · rw [if_pos hl] at h1
            cases q4 : ds[i.toNat]? with
            | none => rw [q4] at h1; exact h1.elim
            | some d =>
              rw [q4] at h1
              obtain ⟨b, vs, k1, k2, k3, k4, k5⟩ := S1.ow j ds q3
              rw [hσ] at k1
              cases k1
              obtain ⟨z, e1, rz⟩ := k3.get q4
              have hy : y = .int i := S1.sh R1 q
              subst hy
              obtain ⟨E3, S3⟩ := S1.write (o := []) q3 hσ (k3.eraseIdx i.toNat)
              refine ⟨a, vs, i, i.toNat, z, rfl, rfl, k2, by omega, by omega, seqIndex_nat hl.1 (List.getElem?_eq_some_iff.mp e1).1, e1, ?_⟩
              exact h1 z Z1 _ E3 S3 (Rep.ext E3 rz)
          · rw [if_neg hl] at h1; exact h1.elim
        | _ => rw [q, q3] at h1; exact h1.elim
    | _ => rw [q] at h1; exact h1.elim

/-! ### slices -/
def pOpt (T : Tx) (W : WX) (f : Option (FS → Res RV)) : TO := fun σ H Q => match f with
  | none => Q none H
  | some f => tW T W f σ H fun x H1 => ∃ i, x = .int i ∧ Q (some i) H1
def pRes (f : Option (FS → Res RV)) (τ : FS) : Res (Option Int) := match f with
  | none => .ok none τ
  | some f => bindR (f τ) fun r τ1 => match look τ1 r with
    | some (.int i) => .ok (some i) τ1
    | _ => .no
def evSl (fe : FS → Res RV) (fl fh : Option (FS → Res RV)) (τ : FS) : Res RV := bindR (fe τ) fun r τ1 => bindR (pRes fl τ1) fun lo τ2 => bindR (pRes fh τ2) fun hi τ3 => match look τ3 r with
  | some d => fin (dSl d lo hi) τ3
  | none => .no
theorem pRes_ok {γ δ : Type} {rel2 : Rel γ δ} {f : Option (FS → Res RV)} {g : Option Int → FS → Res γ} {Q : δ → Hp → Prop} {K : Option Int → Hp → Prop} (S : SR T Z F1 τ σ H) (hF : ∀ a, F a → F1 a) (h : PostR T W rel2 Z F H σ (bindR (pRes f τ) g) Q)
    (k : ∀ x τ2 Z2 H2, Ext Z F1 H Z2 H2 → SR T Z2 F1 τ2 σ H2 → PostR T W rel2 Z2 F H2 σ (g x τ2) Q → K x H2) : pOpt T W f σ H K := by
  cases f with
  | none => exact k none τ Z H Ext.refl S h
  | some f =>
    have e : bindR (pRes (some f) τ) g = bindR (f τ) fun r τ1 => bindR (match look τ1 r with
      | some (.int i) => .ok (some i) τ1
      | _ => .no) g := by
      show bindR (bindR (f τ) _) g = _
      cases f τ <;> rfl
    rw [e] at h
    refine bindF S hF h fun x r τ1 Z1 H1 E1 S1 R1 h1 => ?_
    cases q : look τ1 r with
    | none => rw [q] at h1; exact h1.elim
    | some d =>
      cases d with
      | int i =>
        rw [q] at h1
        exact ⟨i, S1.sh R1 q, k (some i) τ1 Z1 H1 E1 S1 h1⟩
      | _ => rw [q] at h1; exact h1.elim
theorem o_none : PO X none (pOpt T W none) := po_none
theorem o_some {e : Expr} {f : FS → Res RV} (h : PE X e (tW T W f)) : PO X (some e) (pOpt T W (some f)) := po_some h
theorem r_slice {e : Expr} {lo hi : Option Expr} {p2 pos : Pos} {fe : FS → Res RV} {fl fh : Option (FS → Res RV)} (G : X.K = T.K) (he : PE X e (tW T W fe)) (hl : PO X lo (pOpt T W fl)) (hh : PO X hi (pOpt T W fh)) :
    PE X (.Subscript e (.Slice lo hi none p2) pos) (tW T W (evSl fe fl fh)) := by
  refine PE.mono (pe_slice (o_sl G) he hl hh) fun σ H Q ⟨Z, F, τ, S, h⟩ => ?_
  refine bind1 S h fun x r τ1 Z1 H1 E1 S1 R1 h1 => ?_
  refine pRes_ok (S1.addF R1) (fun _ => .inl) h1 fun lo τ2 Z2 H2 E2 S2 h2 => ?_
  refine pRes_ok S2 (fun _ => .inl) h2 fun hi τ3 Z3 H3 E3 S3 h3 => ?_
  have R1' := R1.carry (E2.trans E3 fun _ z => z) S3
  have S3' := S3.wide (F := F) fun _ => .inl
  cases q1 : look τ3 r with
  | none => rw [q1] at h3; exact h3.elim
  | some d =>
    rw [q1] at h3
    obtain ⟨u, e, ok⟩ := fin_ok S3' h3
    exact sl_ok (S3'.sh R1' q1) e ok

/-! ### chains of two comparisons -/
def evChain (g g' : D → D → Option Out) (fa fb fc : FS → Res RV) (τ : FS) : Res RV := bindR (fa τ) fun ra τ1 => bindR (fb τ1) fun rb τ2 => match look τ2 ra, look τ2 rb with
  | some da, some db => match g da db with
    | some (.sc (.bl k)) => if k = true then bindR (fc τ2) fun rc τ3 => (match look τ3 rb, look τ3 rc with
      | some db', some dc => fin (g' db' dc) τ3
      | _, _ => .no) else .ok (.val (.bl false)) τ2
    | _ => .no
  | _, _ => .no
theorem chain_ok {g g' : D → D → Option Out} {rd rd' : R2} {fa fb fc : FS → Res RV} {Q : VK} (hg : P2 T rd g) (hg' : P2 T rd' g') (hw : tW T W (evChain g g' fa fb fc) σ H Q) : tChain rd rd' (tW T W fa) (tW T W fb) (tW T W fc) σ H Q := by
  obtain ⟨Z, F, τ, S, h⟩ := hw
  refine bind1 S h fun x ra τ1 Z1 H1 E1 S1 R1 h1 => ?_
  refine bindF (S1.addF R1) (fun _ => .inl) h1 fun y rb τ2 Z2 H2 E2 S2 R2 h2 => ?_
  have R1' := R1.carry E2 S2
  have S2' := S2.wide (F := F) fun _ => .inl
  have R2' := R2.wide (F := F) fun _ => .inl
  cases q1 : look τ2 ra with
  | none => rw [q1] at h2; exact h2.elim
  | some da =>
    cases q2 : look τ2 rb with
    | none => rw [q1, q2] at h2; exact h2.elim
    | some db =>
      rw [q1, q2] at h2
      dsimp only at h2
      cases q3 : g da db with
      | none => rw [q3] at h2; exact h2.elim
      | some o =>
        rw [q3] at h2
        cases o with
        | sc d =>
          cases d with
          | bl k =>
            dsimp only at h2
            refine hg Z2 H2 da db x y _ _ (S2'.sh R1' q1) (S2'.sh R2' q2) q3 fun v hv => ⟨k, hv, ?_⟩
            by_cases hk : k = true
            · rw [if_pos hk] at h2 ⊢
              refine bindF (S2'.addF R2') (fun _ => .inl) h2 fun z rc τ3 Z3 H3 E3 S3 R3 h3 => ?_
              have R2'' := R2'.carry E3 S3
              have S3' := S3.wide (F := F) fun _ => .inl
              cases q4 : look τ3 rb with
              | none => rw [q4] at h3; exact h3.elim
              | some db' =>
                cases q5 : look τ3 rc with
                | none => rw [q4, q5] at h3; exact h3.elim
                | some dc =>
                  rw [q4, q5] at h3
                  obtain ⟨u, e, ok⟩ := fin_ok S3' h3
                  exact hg' Z3 H3 db' dc y z u Q (S3'.sh R2'' q4) (S3.sh R3 q5) e ok
            · rw [if_neg hk] at h2 ⊢
              exact h2 _ Z2 H2 Ext.refl S2' rfl
          | _ => exact h2.elim
        | _ => exact h2.elim

/-! ### a, b = x, y stored at once -/
def prep (r : RV) (τ : FS) : Option (Sl × FS) := match r with
  | .fr ds => some (.ow ds, τ)
  | r => (frz r τ).map fun p => (.fz p.1, p.2)
def preps : List RV → FS → Option (List Sl × FS)
  | [], τ => some ([], τ)
  | r :: rs, τ => match prep r τ with
    | some (s, τ1) => match preps rs τ1 with
      | some (ss, τ2) => some (s :: ss, τ2)
      | none => none
    | none => none
def SlOk (T : Tx) (Z F : AP') (τ : FS) (σ : L2.St) (H : Hp) (v : V) : Sl → Prop
  | .un => False
  | .fz d => Rep T Z H d v
  | .ow ds => RepV T Z F τ σ H v (.fr ds)
def frS (s : Sl) (v : V) (a : Addr) : Prop := (∃ ds, s = .ow ds) ∧ v = .ref a
def SlVs (T : Tx) (Z : AP') (τ : FS) (σ : L2.St) (H : Hp) : AP' → List V → List Sl → Prop
  | _, [], [] => True
  | F, v :: vs, s :: ss => SlOk T Z F τ σ H v s ∧ SlVs T Z τ σ H (fun a => F a ∨ frS s v a) vs ss
  | _, _, _ => False
theorem prep_ok {s : Sl} (S : SR T Z F τ σ H) (h : RepV T Z F τ σ H v r) (e : prep r τ = some (s, τ')) :
    ∃ Z', (∀ a, Z a → Z' a) ∧ SR T Z' F τ' σ H ∧ SlOk T Z' F τ' σ H v s ∧ (∀ F2 w r2, (∀ a, F a → F2 a) → RepV T Z F2 τ σ H w r2 → RepV T Z' F2 τ' σ H w r2) ∧ (∀ a, frS s v a → frOf r v a) := by
  have gen : (∀ a, ¬ frOf r v a) → (frz r τ).map (fun p => (Sl.fz p.1, p.2)) = some (s, τ') → ∃ Z', (∀ a, Z a → Z' a) ∧ SR T Z' F τ' σ H ∧ SlOk T Z' F τ' σ H v s ∧ (∀ F2 w r2, (∀ a, F a → F2 a) → RepV T Z F2 τ σ H w r2 → RepV T Z' F2 τ' σ H w r2) ∧ (∀ a, frS s v a → frOf r v a) := fun nf e => by
    cases q : frz r τ with
    | none => rw [q] at e; cases e
    | some p =>
      obtain ⟨d, τ1⟩ := p
      rw [q] at e
      cases e
      obtain ⟨Z', a1, a2, a3, a4⟩ := frz_ok S h q
      exact ⟨Z', a1, a2, a3, fun F2 w r2 hF => a4 F2 w r2 fun a z => z.elim (hF a) fun z => (nf a z).elim, fun a z => by obtain ⟨⟨ds, e⟩, _⟩ := z; cases e⟩
  cases r with
  | fr ds =>
    cases e
    exact ⟨Z, fun _ z => z, S, h, fun _ _ _ _ q => q, fun a z => ⟨⟨ds, rfl⟩, z.2⟩⟩
  | val d => exact gen (fun a z => by obtain ⟨⟨ds, e⟩, _⟩ := z; cases e) e
  | sl i => exact gen (fun a z => by obtain ⟨⟨ds, e⟩, _⟩ := z; cases e) e
theorem SlVs.wide : ∀ {F F1 : AP'} {vs : List V} {ss : List Sl}, (∀ a, F a → F1 a) → SlVs T Z τ σ H F1 vs ss → SlVs T Z τ σ H F vs ss
  | F, F1, [], [], _, h => trivial
  | F, F1, v :: vs, s :: ss, k, h => by
    refine ⟨?_, SlVs.wide (fun a z => z.imp (k a) id) h.2⟩
    cases s with
    | un => exact h.1
    | fz d => exact h.1
    | ow ds =>
      have h1 : RepV T Z F1 τ σ H v (.fr ds) := h.1
      exact h1.wide k
  | F, F1, [], _ :: _, _, h => h.elim
  | F, F1, _ :: _, [], _, h => h.elim
theorem SlOk.imp {Z' : AP'} {τ' : FS} {s : Sl} (k : ∀ r2, RepV T Z F τ σ H v r2 → RepV T Z' F τ' σ H v r2) (h : SlOk T Z F τ σ H v s) : SlOk T Z' F τ' σ H v s := by
  cases s with
  | un => exact h
  | fz d => exact k (.val d) h
  | ow ds => exact k (.fr ds) h
theorem preps_ok : ∀ {F2 : AP'} {rs : List RV} {vs : List V} {ss : List Sl} {Z : AP'} {τ : FS}, (∀ a, F a → F2 a) → SR T Z F τ σ H → RepVs T Z τ σ H F2 vs rs → preps rs τ = some (ss, τ') →
    ∃ Z', (∀ a, Z a → Z' a) ∧ SR T Z' F τ' σ H ∧ SlVs T Z' τ' σ H F2 vs ss ∧ ∀ F3 w r2, (∀ a, F a → F3 a) → RepV T Z F3 τ σ H w r2 → RepV T Z' F3 τ' σ H w r2
  | F2, [], [], ss, Z, τ, hF, S, _, e => by
    cases e
    exact ⟨Z, fun _ z => z, S, trivial, fun _ _ _ _ q => q⟩
  | F2, r :: rs, v :: vs, ss, Z, τ, hF, S, h, e => by
    obtain ⟨h1, h2⟩ := h
    unfold preps at e
    cases q : prep r τ with
    | none => rw [q] at e; cases e
    | some p =>
      obtain ⟨s, τ1⟩ := p
      rw [q] at e
      dsimp only at e
      cases q2 : preps rs τ1 with
      | none => rw [q2] at e; cases e
      | some p2 =>
        obtain ⟨ss', τ2⟩ := p2
        rw [q2] at e
        cases e
        have S0 : SR T Z F τ σ H := S
        obtain ⟨Z1, s1, S1, R1, k1, f1⟩ := prep_ok S (h1.wide hF) q
        obtain ⟨Z2, s2, S2, R2, k2⟩ := preps_ok (F2 := fun a => F2 a ∨ frOf r v a) (fun a z => .inl (hF a z)) S1
          (RepVs.imp (fun F3 w r2 hF3 q3 => k1 F3 w r2 (fun a z => hF3 a (.inl (hF a z))) q3) h2) q2
        refine ⟨Z2, fun a z => s2 a (s1 a z), S2, ⟨?_, R2.wide fun a z => z.imp id (f1 a)⟩, fun F3 w r2 hF3 q3 => k2 F3 w r2 hF3 (k1 F3 w r2 hF3 q3)⟩
        -- the first one, with the wider frame
        cases s with
        | un => exact R1
        | fz d => exact k2 F v (.val d) (fun _ z => z) R1
        | ow ds =>
          cases r with
          | fr es =>
            cases q
            exact k2 F2 v (.fr _) hF (k1 F2 v (.fr _) hF h1)
          | val d => cases q
          | sl i =>
            have q : (frz (.sl i) τ).map (fun p => (Sl.fz p.1, p.2)) = some (Sl.ow ds, τ1) := q
            cases q5 : frz (.sl i) τ with
            | none => rw [q5] at q; cases q
            | some p => rw [q5] at q; cases q
  | F2, [], _ :: _, _, _, _, _, _, h, _ => h.elim
  | F2, _ :: _, [], _, _, _, _, _, h, _ => h.elim
theorem SR.setSl {i : Nat} {s : Sl} (S : SR T Z F τ σ H) (hi : i < τ.length) (h : SlOk T Z F τ σ H v s) : SR T Z F (τ.set i s) (σ.set i (some v)) H := by
  cases s with
  | un => exact h.elim
  | fz d => exact S.setFz hi h
  | ow ds => exact S.setOw hi h
/-- behind the store of one, the others -/
theorem SlVs.set {i : Nat} {s : Sl} (hi : i < τ.length) (hs : i < σ.length) : ∀ {F2 : AP'} {vs : List V} {ss : List Sl}, (∀ a, frS s v a → F2 a) → SlVs T Z τ σ H F2 vs ss → SlVs T Z (τ.set i s) (σ.set i (some v)) H F2 vs ss
  | F2, [], [], _, h => trivial
  | F2, w :: ws, t :: ts, k, h => by
    refine ⟨?_, SlVs.set hi hs (fun a z => .inl (k a z)) h.2⟩
    cases t with
    | un => exact h.1
    | fz d => exact h.1
    | ow ds =>
      obtain ⟨b, us, e, m1, m2, m3, m4, m5⟩ := h.1
      refine ⟨b, us, e, m1, m2, m3, m4, fun j es q1 q2 => ?_⟩
      by_cases hj : i = j
      · subst hj
        rw [List.getElem?_set_self hi] at q1
        rw [List.getElem?_set_self hs] at q2
        cases q1
        cases q2
        exact m4 (k b ⟨⟨es, rfl⟩, rfl⟩)
      · rw [List.getElem?_set_ne hj] at q1 q2
        exact m5 j es q1 q2
  | F2, [], _ :: _, _, h => h.elim
  | F2, _ :: _, [], _, h => h.elim
def setSls : List Nat → List Sl → FS → FS
  | i :: is, s :: ss, τ => setSls is ss (τ.set i s)
  | _, _, τ => τ
def setVs : List Nat → List V → L2.St → L2.St
  | i :: is, v :: vs, σ => setVs is vs (σ.set i (some v))
  | _, _, σ => σ
def okIx (P : Nat → Bool) (n : Nat) (is : List Nat) : Bool := is.all fun i => !P i && decide (i < n)
theorem setSls_len : ∀ (is : List Nat) (ss : List Sl) (τ : FS), (setSls is ss τ).length = τ.length
  | [], _, _ => rfl
  | _ :: _, [], _ => rfl
  | i :: is, s :: ss, τ => by
    show (setSls is ss (τ.set i s)).length = _
    rw [setSls_len is ss, List.length_set]
theorem setSls_ok : ∀ {is : List Nat} {ss : List Sl} {vs : List V} {F2 : AP'} {τ : FS} {σ : L2.St}, (∀ a, F a → F2 a) → okIx P τ.length is = true → is.length = ss.length → SR T Z F τ σ H → SlVs T Z τ σ H F2 vs ss → SR T Z F (setSls is ss τ) (setVs is vs σ) H ∧ PinEq P σ (setVs is vs σ)
  | [], [], [], _, _, _, _, _, _, S, _ => ⟨S, PinEq.refl⟩
  | i :: is, s :: ss, v :: vs, F2, τ, σ, hF, ho, hl, S, h => by
    have ho : (!P i && decide (i < τ.length)) = true ∧ okIx P τ.length is = true := by
      unfold okIx at ho ⊢
      rw [List.all_cons] at ho
      exact Bool.and_eq_true_iff.mp ho
    obtain ⟨o1, o2⟩ := ho
    obtain ⟨p1, p2⟩ := Bool.and_eq_true_iff.mp o1
    have hi : i < τ.length := of_decide_eq_true p2
    have hs : i < σ.length := by rw [← S.len]; exact hi
    have np : ¬ P i = true := fun z => by rw [z] at p1; cases p1
    have h1 : SlOk T Z F τ σ H v s := by
      cases s with
      | un => exact h.1
      | fz d => exact h.1
      | ow ds => exact RepV.wide (r := .fr ds) h.1 hF
    obtain ⟨a, b⟩ := setSls_ok (is := is) (ss := ss) (vs := vs) (F2 := fun a => F2 a ∨ frS s v a) (fun a z => .inl (hF a z)) (by rw [List.length_set]; exact o2) (by simpa using hl) (S.setSl hi h1) (h.2.set hi hs fun a z => .inr z)
    exact ⟨a, (store_pin np).trans b⟩
  | _ :: _, [], _, _, _, _, _, _, hl, _, _ => by simp at hl
  | [], _ :: _, _, _, _, _, _, _, hl, _, _ => by simp at hl
  | _ :: _, _ :: _, [], _, _, _, _, _, _, _, h => h.elim
  | [], [], _ :: _, _, _, _, _, _, _, _, h => h.elim
def evPar (P : Nat → Bool) (is : List Nat) (fs : FS → Res (List RV)) (τ : FS) : Res SO := bindR (fs τ) fun rs τ1 => match preps rs τ1 with
  | some (ss, τ2) => if okIx P τ2.length is = true ∧ is.length = ss.length then .ok .nx (setSls is ss τ2) else .no
  | none => .no
theorem par_ok {is : List Nat} {D : Ends} {xs : List V} (S1 : SR T Z F τ σ H) (R1 : RepVs T Z τ σ H F xs rs) (h1 : PostS T W P Z F H σ (match preps rs τ with
  | some (ss, τ2) => if okIx P τ2.length is = true ∧ is.length = ss.length then .ok .nx (setSls is ss τ2) else .no
  | none => .no) D) : xs.length = is.length ∧ D.nx (setVs is xs σ) H := by
  cases q : preps rs τ with
  | none => rw [q] at h1; exact h1.elim
  | some p =>
    obtain ⟨ss, τ2⟩ := p
    rw [q] at h1
    dsimp only at h1
    by_cases hc : okIx P τ2.length is = true ∧ is.length = ss.length
    · rw [if_pos hc] at h1
      obtain ⟨Z2, s2, S2, R2, _⟩ := preps_ok (fun _ z => z) S1 R1 q
      obtain ⟨S3, pe⟩ := setSls_ok (fun _ z => z) hc.1 hc.2 S2 R2
      have lens : ∀ {F2 : AP'} {vs : List V} {ss : List Sl}, SlVs T Z2 τ2 σ H F2 vs ss → vs.length = ss.length := by
        intro F2 vs
        induction vs generalizing F2 with
        | nil => intro ss h; cases ss with
          | nil => rfl
          | cons _ _ => exact h.elim
        | cons v vs ih => intro ss h; cases ss with
          | nil => exact h.elim
          | cons s ss => rw [List.length_cons, List.length_cons, ih h.2]
      exact ⟨by rw [lens R2, hc.2], h1 _ Z2 H pe ⟨s2, fun _ _ _ h => h⟩ S3⟩
    · rw [if_neg hc] at h1; exact h1.elim
theorem s_par2 {i j : Nat} {st : Stmt} {a b : Expr} {fs : FS → Res (List RV)} (h : ∀ {ta : TA}, PA X [a, b] ta → PS X st (tPar i j ta)) (ha : PA X [a, b] (tWA T W fs)) : PS X st (tS T W P (evPar P [i, j] fs)) := by
  refine PS.mono (h ha) fun D σ H ⟨Z, F, τ, S, h⟩ => ?_
  refine bindS S h fun xs rs τ1 Z1 H1 E1 S1 R1 h1 => ?_
  obtain ⟨hl, hn⟩ := par_ok S1 R1 h1
  match xs, hl, hn with
  | [v, w], _, hn => exact ⟨v, w, rfl, hn⟩
theorem s_par3 {i j k : Nat} {st : Stmt} {a b c : Expr} {fs : FS → Res (List RV)} (h : ∀ {ta : TA}, PA X [a, b, c] ta → PS X st (tPar3 i j k ta)) (ha : PA X [a, b, c] (tWA T W fs)) : PS X st (tS T W P (evPar P [i, j, k] fs)) := by
  refine PS.mono (h ha) fun D σ H ⟨Z, F, τ, S, h⟩ => ?_
  refine bindS S h fun xs rs τ1 Z1 H1 E1 S1 R1 h1 => ?_
  obtain ⟨hl, hn⟩ := par_ok S1 R1 h1
  match xs, hl, hn with
  | [v, w, u], _, hn => exact ⟨v, w, u, rfl, hn⟩
end
end Dv

set_option Elab.async false
set_option linter.all false
set_option maxRecDepth 100000
set_option maxHeartbeats 2000000
/-! Dv8: what loops walk; for, while. -/
namespace Dv
open PySem PySem.Spec PyProof.Rows L2
abbrev F0 : AP' := fun _ => False
def Yld (T : Tx) (Z : AP') (H : Hp) (d : D) (x : V) (H3 : Hp) : Prop := (H3 = H ∧ Rep T Z H d x) ∨ ∃ p ds vs, x = .ref p ∧ H p = none ∧ H3 = upd H p (.tup vs) ∧ d = .tup ds ∧ RepL T Z H ds vs
structure ItOk (T : Tx) (Z : AP') (H : Hp) (ds : List D) (J : It) : Prop where
  go : ∀ (Z2 : AP') (H2 : Hp) (i : Nat), Ext Z F0 H Z2 H2 → i < ds.length → J.go i H2
  stop : ∀ (Z2 : AP') (H2 : Hp), Ext Z F0 H Z2 H2 → J.stop ds.length H2
  yld : ∀ (Z2 : AP') (H2 : Hp) (i : Nat) (d : D) (x : V) (H3 : Hp), Ext Z F0 H Z2 H2 → ds[i]? = some d → J.yld i H2 x H3 → Yld T Z2 H2 d x H3
abbrev relI (T : Tx) : Rel (List D) It := fun Z _ _ _ H J ds => ItOk T Z H ds J
abbrev tI (T : Tx) (W : WX) (f : FS → Res (List D)) : TI := tWR T W (relI T) f
def toTup (H : Hp) (x : V) (d : D) : Prop := True
/-! zip of a list with a tuple -/
/-- the list at a, the tuple at b as they stand at each turn, the items in new pairs -/
def ItzM (K : PySem.W.Frag) (a b : Addr) : It :=
  ⟨fun i H => ∃ (xs ys : List V) (x y : V), SqL K H a xs ∧ SqT K H b ys ∧ xs[i]? = some x ∧ ys[i]? = some y,
    fun i H v H' => ∃ T x y, v = .ref T ∧ H T = none ∧ H' = upd H T (.tup [x, y]) ∧ (∀ xs, SqL K H a xs → xs[i]? = some x) ∧ ∀ ys, SqT K H b ys → ys[i]? = some y,
    fun i H => ∃ xs ys : List V, SqL K H a xs ∧ SqT K H b ys ∧ (i ≤ xs.length ∧ i ≤ ys.length) ∧ (i = xs.length ∨ i = ys.length)⟩
theorem sep_of {z TI TO i1 i2 a b : Addr} (D : ZipApart z TI TO i1 i2 a b) : ZipSep2 z TI TO i1 i2 [i1, a] [i2, b] := by
  refine ⟨D.TIz, D.TOz, D.TITO, D.TIi1, by simp, ?_, ?_, D.TIi2, by simp, ?_, ?_, ?_, ?_⟩
  · simp only [List.mem_cons, List.not_mem_nil, or_false, not_or]; exact ⟨D.i1z.symm, D.l1z.symm⟩
  · simp only [List.mem_cons, List.not_mem_nil, or_false, not_or]; exact ⟨D.TOi1, D.l1TO.symm⟩
  · simp only [List.mem_cons, List.not_mem_nil, or_false, not_or]; exact ⟨D.i2z.symm, D.l2z.symm⟩
  · simp only [List.mem_cons, List.not_mem_nil, or_false, not_or]; exact ⟨D.TOi2, D.l2TO.symm⟩
  · simp only [List.mem_cons, List.not_mem_nil, or_false, not_or]; exact ⟨D.i12, D.l2i1.symm⟩
  · simp only [List.mem_cons, List.not_mem_nil, or_false, not_or]; exact ⟨D.i12.symm, D.l1i2.symm⟩
theorem turn_zipM {P : Program} {w : World} {K : PySem.W.Frag} {elts : List Expr} {kk : Nat} {tpos : Pos} {a b z TI TO i1 i2 : Addr} (D : ZipApart z TI TO i1 i2 a b) :
    Turn P w K (.Tuple elts kk tpos) (ItzM K a b) [z, TI, TO, i1, i2] z (fun i h => IsZip h z TI TO .none ∧ IsTupOf2 h TI (.ref i1) (.ref i2) ∧ (∃ x y, IsTupOf2 h TO x y) ∧ h.IsListIter i1 a i ∧ h.IsTupleIter i2 b i) where
  mem := by simp
  obj := fun i h st c hc => by
    obtain ⟨hz, hTI, ⟨x, y, hTO⟩, ⟨o1, e1, _, d1⟩, ⟨o2, e2, _, d2⟩⟩ := st
    have e' : c = z ∨ c = TI ∨ c = TO ∨ c = i1 ∨ c = i2 := by simpa using hc
    rcases e' with q | q | q | q | q
    · rw [q]; exact ⟨_, hz, fun v q => nomatch q⟩
    · rw [q]; exact ⟨_, hTI, fun v q => nomatch q⟩
    · rw [q]; exact ⟨_, hTO, fun v q => nomatch q⟩
    · rw [q]; exact ⟨o1, e1, fun v q => by rw [d1] at q; cases q⟩
    · rw [q]; exact ⟨o2, e2, fun v q => by rw [d2] at q; cases q⟩
  keep := fun i h h' st k => by
    obtain ⟨hz, hTI, ⟨x, y, hTO⟩, h1, h2⟩ := st
    exact ⟨k z (by simp) _ hz, k TI (by simp) _ hTI, ⟨x, y, k TO (by simp) _ hTO⟩, h1.at fun o q => k i1 (by simp) o q, h2.at fun o q => k i2 (by simp) o q⟩
  item := by
    intro X hP hw hK hc i pins s σ H E I hf st hg
    subst hP hw hK
    obtain ⟨hz, hTI, ⟨x0, y0, hTO⟩, h1, h2⟩ := st
    obtain ⟨xs, ys, x, y, hqx, hqy, hx, hy⟩ := hg
    obtain ⟨its, rv, p, _⟩ := I.list hqx
    obtain ⟨its2, rv2, p2, _⟩ := I.tuple hqy
    have p2' : s.heap.IsTuple b its2.toArray := p2
    obtain ⟨u, hu, ru⟩ := rv.get hx
    obtain ⟨u2, hu2, ru2⟩ := rv2.get hy
    have hzl : z < s.heap.objs.size := Heap.lt_size hz
    have n1 : i < its.toArray.size := by
      have := (List.getElem?_eq_some_iff.mp hu).1
      simpa using this
    have n2 : i < its2.toArray.size := by
      have := (List.getElem?_eq_some_iff.mp hu2).1
      simpa using this
    refine wpAny_pyNext_zipD2_item (sep_of D) (Draws.list (A := X.A.in1) (I.ok.hd hc) i1 a D.l1i1 its.toArray) (Draws.tuple (A := X.A.in1) (I.ok.hd hc) i2 b D.l2i2 its2.toArray) hz hTI hTO ⟨h1, p.isList⟩ ⟨h2, p2'⟩ n1 n2 fun x1 x2 h' tk e1 e2 z' TO' g1 g2 hT hsz hk => ?_
    obtain ⟨h1', _⟩ := g1
    obtain ⟨h2', _⟩ := g2
    have e1 : x1 = u := by
      have e3 : its.toArray[i]? = some u := by simpa using hu
      rw [e3] at e1; cases e1; rfl
    have e2 : x2 = u2 := by
      have e3 : its2.toArray[i]? = some u2 := by simpa using hu2
      rw [e3] at e2; cases e2; rfl
    subst e1
    subst e2
    refine ⟨_, rfl, wpAny_letOwnedTupleGo_zip (s := { s with heap := h', toks := tk }) z' fun h'' z'' sb => ?_⟩
    have hT2 : h''.get? s.heap.objs.size = some { cls := .type "tuple", data := .seq #[x1, x2] } := (sb.2 _ (Nat.ne_of_gt hzl)).trans hT
    have new : ObjOk X.prog X.w (upd H s.heap.objs.size (.tup [x, y])) h'' s.heap.objs.size (.tup [x, y]) :=
      ⟨by show 2 ≤ sizeLine; decide, [x1, x2], .cons ru (.cons ru2 .nil), ⟨_, hT2, rfl, _, rfl⟩⟩
    have I1 : Inv X pins σ (upd H s.heap.objs.size (.tup [x, y])) { s with heap := h'', toks := tk } :=
      I.turnedNew (t' := tk) (ch := [z, TI, TO, i1, i2]) (fun c o hb q => (sb.2 c (fun q' => hb (by simp [q']))).trans (hk c o (fun q' => hb (by simp [q'])) (fun q' => hb (by simp [q'])) (fun q' => hb (by simp [q'])) (fun q' => hb (by simp [q'])) q)) hf (Nat.le_refl _) new
    refine ⟨.ref s.heap.objs.size, _, I1, rfl, ⟨_, x, y, rfl, I.hok.fresh (Nat.le_refl _), rfl, fun l hl => by rw [I.list_inj hl hqx]; exact hx, fun l hl => by rw [I.tuple_inj hl hqy]; exact hy⟩, ⟨z'', ?_, ⟨x1, x2, ?_⟩, ?_, ?_⟩, fun c hcm => ?_⟩
    · exact (sb.2 _ D.TIz).trans (hk _ _ D.TIz D.TITO D.TIi1 D.TIi2 hTI)
    · exact (sb.2 _ D.TOz).trans TO'
    · exact h1'.at fun o q => (sb.2 _ D.i1z).trans q
    · exact h2'.at fun o q => (sb.2 _ D.i2z).trans q
    · have hlt : c < s.heap.objs.size := by
        have e' : c = z ∨ c = TI ∨ c = TO ∨ c = i1 ∨ c = i2 := by simpa using hcm
        rcases e' with q | q | q | q | q
        · rw [q]; exact hzl
        · rw [q]; exact Heap.lt_size hTI
        · rw [q]; exact Heap.lt_size hTO
        · rw [q]; obtain ⟨_, e1, _⟩ := h1; exact Heap.lt_size e1
        · rw [q]; obtain ⟨_, e2, _⟩ := h2; exact Heap.lt_size e2
      rw [upd_ne (Nat.ne_of_lt hlt)]
      exact (hf c hcm).1
  done := by
    intro X hP hw hK hc i pins s σ H E I hf st hg
    subst hP hw hK
    obtain ⟨hz, hTI, ⟨x0, y0, hTO⟩, h1, h2⟩ := st
    obtain ⟨xs, ys, hqx, hqy, hle, hend⟩ := hg
    obtain ⟨its, rv, p, _⟩ := I.list hqx
    obtain ⟨its2, rv2, p2, _⟩ := I.tuple hqy
    have p2' : s.heap.IsTuple b its2.toArray := p2
    have l1 := rv.length
    have l2 := rv2.length
    refine wpAny_pyNext_zipD2_end (i := i) (sep_of D) (Draws.list (A := X.A.in1) (I.ok.hd hc) i1 a D.l1i1 its.toArray) (Draws.tuple (A := X.A.in1) (I.ok.hd hc) i2 b D.l2i2 its2.toArray) hz hTI hTO ⟨h1, p.isList⟩ ⟨h2, p2'⟩ (by simp; omega) (by simp; omega) (by simp; omega) fun h' tk hk => ⟨rfl, I.turnedL (t' := tk) (ch := [z, TI, TO, i1, i2]) (fun c o hb q =>
      hk c o (fun q' => hb (by simp [q'])) (fun q' => hb (by simp [q'])) (fun q' => hb (by simp [q'])) (fun q' => hb (by simp [q'])) q) hf⟩
  self := fun A i s Q E st h => wpAny_pyIter_zip st.1 h
def iZip3 (K : PySem.W.Frag) (ta : TA) : TI := fun σ H R => ta σ H fun vs H1 => ∃ a b xs ys, vs = [.ref a, .ref b] ∧ ((SqL K H1 a xs ∧ SqL K H1 b ys ∧ R (Itz K a b) H1) ∨ (SqT K H1 a xs ∧ SqT K H1 b ys ∧ R (RZ.ItzT K a b) H1) ∨ (SqL K H1 a xs ∧ SqT K H1 b ys ∧ R (ItzM K a b) H1))
theorem pi_zip3 {X : Cx} {e e2 : Expr} {ta : TA} {p pos tpos : Pos} {elts : List Expr} {kk : Nat} (hg : Gl X "zip") (hm : X.mg "zip" = none) (ha : PA X [e, e2] ta)
    (hs : starEach [e, e2] X.env = (false, eval e X.env) :: starEach [e2] X.env := by rfl) (hpl : (backTo pos (starEach [e2] X.env)).any (·.1) = false := by rfl) :
    PI X (.Tuple elts kk tpos) (.Call (.Name "zip" p) [e, e2] [] pos) (iZip3 X.K ta) := by
  refine ⟨fun pins s σ H R I h => ?_⟩
  refine Call_ (ld_blt I hg hm PyProof.Rows.boot_zip (PyProof.Rows.callWith_type1 (thn (ha.run pos pins s σ H _ I h) fun us s1 ⟨vs, H1, I1, r1, q1⟩ => ?_) hs hpl))
  obtain ⟨a, b, xs, ys, ex, q1⟩ := q1
  subst ex
  cases r1 with
  | cons r rr =>
    cases rr with
    | cons r' rr =>
      cases rr
      cases r
      cases r'
      have fresh5 : ∀ c, c ∈ [s1.heap.objs.size + 4, s1.heap.objs.size + 2, s1.heap.objs.size + 3, s1.heap.objs.size, s1.heap.objs.size + 1] → FpOk X pins H1 c := fun c hcm => by
        have e' : c = s1.heap.objs.size + 4 ∨ c = s1.heap.objs.size + 2 ∨ c = s1.heap.objs.size + 3 ∨ c = s1.heap.objs.size ∨ c = s1.heap.objs.size + 1 := by simpa using hcm
        have hle : s1.heap.objs.size ≤ c := by omega
        exact I1.fpOk hle (I1.hok.fresh hle)
      rcases q1 with ⟨hqx, hqy, q⟩ | ⟨hqx, hqy, q⟩ | ⟨hqx, hqy, q⟩
      · obtain ⟨its, rv, p1, _⟩ := I1.list hqx
        obtain ⟨its2, rv2, p2, _⟩ := I1.list hqy
        refine call_zip_2 p1.isList p2.isList fun h' hz hTI hTO h1 h2 hsz hk => wpAny_pyIter_zip hz ?_
        have I2 : Inv X pins σ H1 { s1 with heap := h' } := I1.kept (t' := s1.toks) hk
        exact ⟨s1.heap.objs.size + 4, [s1.heap.objs.size + 4, s1.heap.objs.size + 2, s1.heap.objs.size + 3, s1.heap.objs.size, s1.heap.objs.size + 1], _, _, H1, rfl, I2, turn_zip (PySem.W.ktu_apart s1.heap.objs.size a b p1.lt p2.lt), ⟨hz, hTI, ⟨_, _, hTO⟩, h1, h2⟩, fresh5, q⟩
      · obtain ⟨its, rv, p1, _⟩ := I1.tuple hqx
        obtain ⟨its2, rv2, p2, _⟩ := I1.tuple hqy
        obtain ⟨o1, ho1, _⟩ := id p1
        obtain ⟨o2, ho2, _⟩ := id p2
        refine RZ.call_zipT (show s1.heap.IsTuple a its.toArray from p1) (show s1.heap.IsTuple b its2.toArray from p2) fun h' hz hTI hTO h1 h2 hsz hk => wpAny_pyIter_zip hz ?_
        have I2 : Inv X pins σ H1 { s1 with heap := h' } := I1.kept (t' := s1.toks) hk
        exact ⟨s1.heap.objs.size + 4, [s1.heap.objs.size + 4, s1.heap.objs.size + 2, s1.heap.objs.size + 3, s1.heap.objs.size, s1.heap.objs.size + 1], _, _, H1, rfl, I2, RZ.turn_zipT (PySem.W.ktu_apart s1.heap.objs.size a b (Heap.lt_size ho1) (Heap.lt_size ho2)), ⟨hz, hTI, ⟨_, _, hTO⟩, h1, h2⟩, fresh5, q⟩
      · obtain ⟨its, rv, p1, _⟩ := I1.list hqx
        obtain ⟨its2, rv2, p2, _⟩ := I1.tuple hqy
        obtain ⟨o2, ho2, _⟩ := id p2
        refine zip_begins2 (begins_list a its.toArray) (begins_tuple b its2.toArray) p1.isList (show s1.heap.IsTuple b its2.toArray from p2) fun h' hz hTI hTO h1 h2 hsz hk => wpAny_pyIter_zip hz ?_
        have I2 : Inv X pins σ H1 { s1 with heap := h' } := I1.kept (t' := s1.toks) hk
        exact ⟨s1.heap.objs.size + 4, [s1.heap.objs.size + 4, s1.heap.objs.size + 2, s1.heap.objs.size + 3, s1.heap.objs.size, s1.heap.objs.size + 1], _, _, H1, rfl, I2, turn_zipM (PySem.W.ktu_apart s1.heap.objs.size a b p1.lt (Heap.lt_size ho2)), ⟨hz, hTI, ⟨_, _, hTO⟩, ⟨_, h1, rfl, rfl⟩, ⟨_, h2, rfl, rfl⟩⟩, fresh5, q⟩
section
variable {T : Tx} {X : Cx} {W : WX} {P : Nat → Bool} {Z Z' Z1 Z2 F F' F1 : AP'} {H H' H1 H2 : Hp} {d : D} {ds es : List D} {v w : V} {vs ws xs ys : List V} {τ τ' τ1 τ2 : FS} {σ σ' σ1 : L2.St} {r r2 : RV} {rs : List RV} {a b : Addr} {tg : Expr} {pins : List (Addr × Obj)} {s : Shared}
/-! ### making an iterator -/
theorem it_lst {R : It → Hp → Prop} (I : Inv X pins σ H s) (h : SqL X.K H a xs) (q : R (Itl X.K a) H) : wpAny (model X.prog X.w) X.A (pyIter (.ref a)) (PIE X pins σ tg R) X.xe s := by
  obtain ⟨its, rv, p, _⟩ := I.list h
  refine wpAny_pyIter_list p.isList ⟨_, [s.heap.objs.size], _, _, H, rfl, ?_, turn_list a _, ⟨_, Heap.get?_push_size _ rfl, rfl, rfl⟩, ?_, q⟩
  · exact I.kept (t' := s.toks) fun _ _ e => Heap.get?_push_of_some _ e
  · intro b hb
    obtain rfl : b = s.heap.objs.size := by simpa using hb
    exact I.fpOk (Nat.le_refl _) (I.hok.fresh (Nat.le_refl _))
theorem it_tup {R : It → Hp → Prop} (I : Inv X pins σ H s) (h : SqT X.K H a xs) (q : R (Itt X.K a) H) : wpAny (model X.prog X.w) X.A (pyIter (.ref a)) (PIE X pins σ tg R) X.xe s := by
  obtain ⟨its, rv, p, _⟩ := I.tuple h
  have p' : s.heap.IsTuple a its.toArray := p
  refine wpAny_pyIter_tuple p' ⟨_, [s.heap.objs.size], _, _, H, rfl, ?_, turn_tuple a _, ⟨_, Heap.get?_push_size _ rfl, rfl, rfl⟩, ?_, q⟩
  · exact I.kept (t' := s.toks) fun _ _ e => Heap.get?_push_of_some _ e
  · intro b hb
    obtain rfl : b = s.heap.objs.size := by simpa using hb
    exact I.fpOk (Nat.le_refl _) (I.hok.fresh (Nat.le_refl _))
/-- a list or a tuple -/
def iAny (K : PySem.W.Frag) (tl : TE) : TI := fun σ H R => tl σ H fun x H1 => (∃ a xs, x = .ref a ∧ SqL K H1 a xs ∧ R (Itl K a) H1) ∨ ∃ a xs, x = .ref a ∧ SqT K H1 a xs ∧ R (Itt K a) H1
theorem pi_any {l : Expr} {tl : TE} (hl : PE X l tl) : PI X tg l (iAny X.K tl) := ⟨fun pins s σ H R I h => by
  refine thn (hl.run pins s σ H _ I h) fun v s1 ⟨x, H1, I1, r1, q1⟩ => ?_
  rcases q1 with ⟨a, xs, rfl, k, q⟩ | ⟨a, xs, rfl, k, q⟩
  · cases r1; exact it_lst I1 k q
  · cases r1; exact it_tup I1 k q⟩
theorem PI.mono {it : Expr} {t t' : TI} (h : PI X tg it t) (k : ∀ σ H R, t' σ H R → t σ H R) : PI X tg it t' := ⟨fun pins s σ H R I hw => h.run pins s σ H R I (k σ H R hw)⟩

/-! ### what is walked -/
theorem FL_sq {K : PySem.W.Frag} (h : Z a ∧ H a = some (.lst vs)) (e : Ext Z F0 H Z2 H2) : SqL K H2 a vs := SqL.of (e.keep a _ (.inl h.1) h.2)
theorem FT_sq (h : (Z a ∧ H a = some (.tup vs)) ∨ WrT T.K a vs) (e : Ext Z F0 H Z2 H2) : SqT T.K H2 a vs := by
  rcases h with ⟨z, h⟩ | h
  · exact SqT.of (e.keep a _ (.inl z) h)
  · exact .inr h
theorem scr_sq {ns : List Int} (h : (Z a ∧ ∃ o, H a = some (.frz o (.lst (ns.map V.int)))) ∨ WrL T.K a (ns.map V.int)) (e : Ext Z F0 H Z2 H2) : SqL T.K H2 a (ns.map V.int) := by
  rcases h with ⟨z, o, h⟩ | h
  · exact .inl (.inr ⟨o, e.keep a _ (.inl z) h⟩)
  · exact .inr h
theorem itOk_lst {K : PySem.W.Frag} (hk : K = T.K) (sq : ∀ Z2 H2, Ext Z F0 H Z2 H2 → SqL T.K H2 a vs) (r : RepL T Z H ds vs) : ItOk T Z H ds (Itl K a) := by
  subst hk
  refine ⟨fun Z2 H2 i e hi => ?_, fun Z2 H2 e => ⟨vs, sq Z2 H2 e, by rw [r.length]; exact Nat.le_refl _⟩, fun Z2 H2 i d x H3 e hd y => ?_⟩
  · have hv : i < vs.length := by rw [r.length]; exact hi
    exact ⟨vs, vs[i], sq Z2 H2 e, List.getElem?_eq_getElem hv⟩
  · obtain ⟨rfl, hy⟩ := y
    obtain ⟨v, e1, h1⟩ := r.get hd
    rw [hy vs (sq Z2 _ e)] at e1
    cases e1
    exact .inl ⟨rfl, Rep.ext e h1⟩
theorem itOk_tup {K : PySem.W.Frag} (hk : K = T.K) (sq : ∀ Z2 H2, Ext Z F0 H Z2 H2 → SqT T.K H2 a vs) (r : RepL T Z H ds vs) : ItOk T Z H ds (Itt K a) := by
  subst hk
  refine ⟨fun Z2 H2 i e hi => ?_, fun Z2 H2 e => ⟨vs, sq Z2 H2 e, by rw [r.length]; exact Nat.le_refl _⟩, fun Z2 H2 i d x H3 e hd y => ?_⟩
  · have hv : i < vs.length := by rw [r.length]; exact hi
    exact ⟨vs, vs[i], sq Z2 H2 e, List.getElem?_eq_getElem hv⟩
  · obtain ⟨rfl, hy⟩ := y
    obtain ⟨v, e1, h1⟩ := r.get hd
    rw [hy vs (sq Z2 _ e)] at e1
    cases e1
    exact .inl ⟨rfl, Rep.ext e h1⟩
def seqItems (r : RV) (τ : FS) : Res (List D) := match frz r τ with
  | some (.lst ds, τ2) => .ok ds τ2
  | some (.tup ds, τ2) => .ok ds τ2
  | some (.scr ns, τ2) => .ok (ns.map .int) τ2
  | _ => .no
def evItems (fe : FS → Res RV) (τ : FS) : Res (List D) := bindR (fe τ) seqItems
theorem i_any {l : Expr} {fe : FS → Res RV} (G : X.K = T.K) (he : PE X l (tW T W fe)) : PI X tg l (tI T W (evItems fe)) := by
  refine PI.mono (pi_any he) fun σ H R ⟨Z, F, τ, S, h⟩ => ?_
  refine bind1 S h fun x r τ1 Z1 H1 E1 S1 R1 h1 => ?_
  unfold seqItems at h1
  cases q : frz r τ1 with
  | none => rw [q] at h1; exact h1.elim
  | some p =>
    obtain ⟨d, τ2⟩ := p
    rw [q] at h1
    obtain ⟨Z2, s2, S2, R2, _⟩ := frz_ok S1 R1 q
    have e2 : Ext Z1 F H1 Z2 H1 := ⟨s2, fun _ _ _ h => h⟩
    cases d with
    | lst ds =>
      obtain ⟨a, vs, rfl, k, r1⟩ := R2
      exact .inl ⟨a, vs, rfl, SqL.of k.2, h1 _ Z2 H1 e2 S2 (itOk_lst G (fun _ _ e => FL_sq k e) r1)⟩
    | tup ds =>
      obtain ⟨a, vs, rfl, k, r1⟩ := R2
      exact .inr ⟨a, vs, rfl, by rw [G]; exact FT_sq k Ext.refl, h1 _ Z2 H1 e2 S2 (itOk_tup G (fun _ _ e => FT_sq k e) r1)⟩
    | scr ns =>
      obtain ⟨a, rfl, k⟩ := R2
      exact .inl ⟨a, _, rfl, by rw [G]; exact scr_sq k Ext.refl, h1 _ Z2 H1 e2 S2 (itOk_lst G (fun _ _ e => scr_sq k e) (RepL.of_ints ns))⟩
    | _ => exact h1.elim
/-! a text, sign by sign -/
def signs (z : Str) : List D := z.cps.toList.map fun c => .str ⟨#[c]⟩
def evSigns (fe : FS → Res RV) (τ : FS) : Res (List D) := bindR (fe τ) fun r τ1 => match look τ1 r with
  | some (.str z) => .ok (signs z) τ1
  | _ => .no
theorem i_str {l : Expr} {fe : FS → Res RV} (he : PE X l (tW T W fe)) : PI X tg l (tI T W (evSigns fe)) := by
  refine PI.mono (pi_str he) fun σ H R ⟨Z, F, τ, S, h⟩ => ?_
  refine bind1 S h fun x r τ1 Z1 H1 E1 S1 R1 h1 => ?_
  cases q : look τ1 r with
  | none => rw [q] at h1; exact h1.elim
  | some d =>
    cases d with
    | str z =>
      rw [q] at h1
      have hl : (signs z).length = z.cps.size := by unfold signs; rw [List.length_map, Array.length_toList]
      refine ⟨z, S1.sh R1 q, h1 _ Z1 H1 Ext.refl S1 ⟨fun Z2 H2 i e hi => by rw [hl] at hi; exact hi, fun Z2 H2 e => by rw [hl]; exact Nat.le_refl _, fun Z2 H2 i d x H3 e hd y => ?_⟩⟩
      obtain ⟨rfl, c, hc, rfl⟩ := y
      unfold signs at hd
      rw [List.getElem?_map, Array.getElem?_toList, hc] at hd
      cases hd
      exact .inl ⟨rfl, rfl⟩
    | _ => rw [q] at h1; exact h1.elim
/-! ranges -/
def rngD (lo : Int) (n : Nat) : List D := (List.range n).map fun (i : Nat) => .int (lo + i)
theorem itOk_rng (lo : Int) (n : Nat) : ItOk T Z H (rngD lo n) (Itr lo n) := by
  have hl : (rngD lo n).length = n := by unfold rngD; rw [List.length_map, List.length_range]
  refine ⟨fun Z2 H2 i e hi => by rw [hl] at hi; exact hi, fun Z2 H2 e => by rw [hl]; exact Nat.le_refl _, fun Z2 H2 i d x H3 e hd y => ?_⟩
  obtain ⟨rfl, rfl⟩ := y
  unfold rngD at hd
  rw [List.getElem?_map] at hd
  cases q : (List.range n)[i]? with
  | none => rw [q] at hd; cases hd
  | some j =>
    rw [q] at hd
    have : j = i := by
      obtain ⟨h1, h2⟩ := List.getElem?_eq_some_iff.mp q
      rw [List.getElem_range] at h2
      exact h2.symm
    subst this
    cases hd
    exact .inl ⟨rfl, rfl⟩
def inR (i : Int) : Bool := decide (-(2 ^ 62) ≤ i) && decide (i < 2 ^ 62)
theorem inR_ok {i : Int} (h : inR i = true) : -(2 ^ 62) ≤ i ∧ i < 2 ^ 62 := by
  obtain ⟨h1, h2⟩ := Bool.and_eq_true_iff.mp h
  exact ⟨of_decide_eq_true h1, of_decide_eq_true h2⟩
def rngOf1 : List D → Option (List D)
  | [.int j] => if inR j then some (rngD 0 j.toNat) else none
  | _ => none
def rngOf2 : List D → Option (List D)
  | [.int i, .int j] => if inR i && inR j then some (rngD i (j - i).toNat) else none
  | _ => none
def evRng (g : List D → Option (List D)) (fs : FS → Res (List RV)) (τ : FS) : Res (List D) := bindR (fs τ) fun rs τ1 => match (rs.mapM (look τ1)).bind g with
  | some ds => .ok ds τ1
  | none => .no
theorem rng_at {g : List D → Option (List D)} {R : It → Hp → Prop} (S1 : SR T Z F τ σ H) (R1 : RepVs T Z τ σ H F vs rs) (h1 : PostR T W (relI T) Z F H σ (match (rs.mapM (look τ)).bind g with
  | some ds => .ok ds τ
  | none => .no) R) : ∃ es ds, ShL T Z H es vs ∧ g es = some ds ∧ ∀ J, ItOk T Z H ds J → R J H := by
  cases q : (rs.mapM (look τ)).bind g with
  | none => rw [q] at h1; exact h1.elim
  | some ds =>
    rw [q] at h1
    cases q1 : rs.mapM (look τ) with
    | none => rw [q1] at q; cases q
    | some es =>
      rw [q1] at q
      exact ⟨es, ds, RepVs.sh S1 R1 q1, q, fun J ok => h1 J Z H Ext.refl S1 ok⟩
theorem i_rng1 {e it : Expr} {fs : FS → Res (List RV)} (h : ∀ {ta : TA}, PA X [e] ta → PI X tg it (iRng1 ta)) (ha : PA X [e] (tWA T W fs)) : PI X tg it (tI T W (evRng rngOf1 fs)) := by
  refine PI.mono (h ha) fun σ H R ⟨Z, F, τ, S, h⟩ => ?_
  refine bind1 S h fun xs rs τ1 Z1 H1 E1 S1 R1 h1 => ?_
  obtain ⟨es, ds, sh, q, fin⟩ := rng_at S1 R1 h1
  match es, q, sh with
  | [.int j], q, sh =>
    have q : (if inR j then some (rngD 0 j.toNat) else none) = some ds := q
    by_cases hj : inR j = true
    · rw [if_pos hj] at q
      cases q
      obtain ⟨x, rfl, hx⟩ := sh.one
      obtain ⟨b1, b2⟩ := inR_ok hj
      exact ⟨j, by rw [show x = .int j from hx], b1, b2, fin _ (itOk_rng 0 j.toNat)⟩
    · rw [if_neg hj] at q; cases q
theorem i_rng2 {e e2 it : Expr} {fs : FS → Res (List RV)} (h : ∀ {ta : TA}, PA X [e, e2] ta → PI X tg it (iRng2 ta)) (ha : PA X [e, e2] (tWA T W fs)) : PI X tg it (tI T W (evRng rngOf2 fs)) := by
  refine PI.mono (h ha) fun σ H R ⟨Z, F, τ, S, h⟩ => ?_
  refine bind1 S h fun xs rs τ1 Z1 H1 E1 S1 R1 h1 => ?_
  obtain ⟨es, ds, sh, q, fin⟩ := rng_at S1 R1 h1
  match es, q, sh with
  | [.int i, .int j], q, sh =>
    have q : (if inR i && inR j then some (rngD i (j - i).toNat) else none) = some ds := q
    by_cases hj : (inR i && inR j) = true
    · rw [if_pos hj] at q
      cases q
      obtain ⟨x, y, rfl, hx, hy⟩ := sh.two
      obtain ⟨c1, c2⟩ := Bool.and_eq_true_iff.mp hj
      obtain ⟨b1, b2⟩ := inR_ok c1
      obtain ⟨b3, b4⟩ := inR_ok c2
      exact ⟨i, j, by rw [show x = .int i from hx, show y = .int j from hy], ⟨b1, b2, b3, b4⟩, fin _ (itOk_rng i (j - i).toNat)⟩
    · rw [if_neg hj] at q; cases q
/-! enumerate, zip -/
def enumD (ds : List D) : List D := ds.mapIdx fun i d => .tup [.int (i : Nat), d]
def zipD (ds es : List D) : List D := (ds.zip es).map fun p => .tup [p.1, p.2]
theorem enumD_get {i : Nat} {e : D} (h : (enumD ds)[i]? = some e) : ∃ d, ds[i]? = some d ∧ e = .tup [.int (i : Nat), d] := by
  unfold enumD at h
  rw [List.getElem?_mapIdx] at h
  cases q : ds[i]? with
  | none => rw [q] at h; cases h
  | some d => rw [q] at h; cases h; exact ⟨d, rfl, rfl⟩
theorem zipD_get {i : Nat} {e : D} (h : (zipD ds es)[i]? = some e) : ∃ d d2, ds[i]? = some d ∧ es[i]? = some d2 ∧ e = .tup [d, d2] := by
  unfold zipD at h
  rw [List.getElem?_map] at h
  cases q : (ds.zip es)[i]? with
  | none => rw [q] at h; cases h
  | some p =>
    rw [q] at h
    cases h
    obtain ⟨h1, h2⟩ := List.getElem?_zip_eq_some.mp q
    exact ⟨p.1, p.2, h1, h2, rfl⟩
/-- the arguments are frozen, then read as lists -/
def frzI (g : List D → Option (List D)) (fs : FS → Res (List RV)) (τ : FS) : Res (List D) := bindR (fs τ) fun rs τ1 => match frzAll rs τ1 with
  | some (ds, τ2) => match g ds with
    | some es => .ok es τ2
    | none => .no
  | none => .no
theorem frzI_at {g : List D → Option (List D)} {R : It → Hp → Prop} (S1 : SR T Z F τ σ H) (R1 : RepVs T Z τ σ H F vs rs) (h1 : PostR T W (relI T) Z F H σ (match frzAll rs τ with
  | some (ds, τ2) => match g ds with
    | some es => .ok es τ2
    | none => .no
  | none => .no) R) : ∃ Z2 es ds, RepL T Z2 H es vs ∧ g es = some ds ∧ ∀ J, ItOk T Z2 H ds J → R J H := by
  cases q : frzAll rs τ with
  | none => rw [q] at h1; exact h1.elim
  | some p =>
    obtain ⟨es, τ2⟩ := p
    rw [q] at h1
    dsimp only at h1
    cases q1 : g es with
    | none => rw [q1] at h1; exact h1.elim
    | some ds =>
      rw [q1] at h1
      obtain ⟨Z2, s2, S2, R2⟩ := frzAll_ok (fun _ z => z) S1 R1 q
      exact ⟨Z2, es, ds, R2, q1, fun J ok => h1 J Z2 H ⟨s2, fun _ _ _ h => h⟩ S2 ok⟩
def enumOf : List D → Option (List D)
  | [.lst ds] => some (enumD ds)
  | _ => none
theorem i_enum {e it : Expr} {fs : FS → Res (List RV)} (G : X.K = T.K) (h : ∀ {ta : TA}, PA X [e] ta → PI X tg it (iEnum X.K ta)) (ha : PA X [e] (tWA T W fs)) : PI X tg it (tI T W (frzI enumOf fs)) := by
  refine PI.mono (h ha) fun σ H R ⟨Z, F, τ, S, h⟩ => ?_
  refine bind1 S h fun xs rs τ1 Z1 H1 E1 S1 R1 h1 => ?_
  obtain ⟨Z2, es, ds, r, q, fin⟩ := frzI_at S1 R1 h1
  match es, q, r with
  | [.lst ds], q, r =>
    cases q
    obtain ⟨v, w, rfl, ⟨a, vs, rfl, k, r1⟩, hw⟩ := r
    have hw : w = [] := hw
    subst hw
    have hl : (enumD ds).length = ds.length := by unfold enumD; rw [List.length_mapIdx]
    refine ⟨a, vs, rfl, SqL.of k.2, fin _ ?_⟩
    rw [G]
    refine ⟨fun Z3 H3 i e hi => ?_, fun Z3 H3 e => ⟨vs, FL_sq k e, by rw [hl, r1.length]; exact Nat.le_refl _⟩, fun Z3 H3 i d x H4 e hd y => ?_⟩
    · have hv : i < vs.length := by rw [r1.length, ← hl]; exact hi
      exact ⟨vs, vs[i], FL_sq k e, List.getElem?_eq_getElem hv⟩
    · obtain ⟨p, x', rfl, hp, rfl, hx⟩ := y
      obtain ⟨d', e1, rfl⟩ := enumD_get hd
      obtain ⟨v, e2, h2⟩ := r1.get e1
      have e3 := hx vs (FL_sq k e)
      rw [e2] at e3
      cases e3
      exact .inr ⟨p, _, _, rfl, hp, rfl, rfl, .cons rfl (.one (Rep.ext e h2))⟩
def zipOf : List D → Option (List D)
  | [.lst ds, .lst es] => some (zipD ds es)
  | [.tup ds, .tup es] => some (zipD ds es)
  | [.lst ds, .tup es] => some (zipD ds es)
  | _ => none
theorem i_zip {e e2 it : Expr} {fs : FS → Res (List RV)} (G : X.K = T.K) (h : ∀ {ta : TA}, PA X [e, e2] ta → PI X tg it (iZip3 X.K ta)) (ha : PA X [e, e2] (tWA T W fs)) : PI X tg it (tI T W (frzI zipOf fs)) := by
  refine PI.mono (h ha) fun σ H R ⟨Z, F, τ, S, h⟩ => ?_
  refine bind1 S h fun xs rs τ1 Z1 H1 E1 S1 R1 h1 => ?_
  obtain ⟨Z2, es, ds, r, q, fin⟩ := frzI_at S1 R1 h1
  have hl : ∀ ds es : List D, (zipD ds es).length = min ds.length es.length := fun ds es => by unfold zipD; rw [List.length_map, List.length_zip]
  match es, q, r with
  | [.lst ds, .lst es], q, r =>
    cases q
    obtain ⟨v, w, rfl, ⟨a, vs, rfl, k, r1⟩, v', w', rfl, ⟨b, us, rfl, k', r2⟩, hw⟩ := r
    have hw : w' = [] := hw
    subst hw
    refine ⟨a, b, vs, us, rfl, .inl ⟨SqL.of k.2, SqL.of k'.2, fin _ ?_⟩⟩
    rw [G]
    refine ⟨fun Z3 H3 i e hi => ?_, fun Z3 H3 e => ⟨vs, us, FL_sq k e, FL_sq k' e, ?_⟩, fun Z3 H3 i d x H4 e hd y => ?_⟩
    · rw [hl] at hi
      have h1 : i < vs.length := by rw [r1.length]; omega
      have h2 : i < us.length := by rw [r2.length]; omega
      exact ⟨vs, us, vs[i], us[i], FL_sq k e, FL_sq k' e, List.getElem?_eq_getElem h1, List.getElem?_eq_getElem h2⟩
    · rw [hl, r1.length, r2.length]
      omega
    · obtain ⟨p, x1, x2, rfl, hp, rfl, f1, f2⟩ := y
      obtain ⟨d1, d2, e1, e2, rfl⟩ := zipD_get hd
      obtain ⟨v1, g1, k1⟩ := r1.get e1
      obtain ⟨v2, g2, k2⟩ := r2.get e2
      have c1 := f1 vs (FL_sq k e)
      have c2 := f2 us (FL_sq k' e)
      rw [g1] at c1
      rw [g2] at c2
      cases c1
      cases c2
      exact .inr ⟨p, _, _, rfl, hp, rfl, rfl, .cons (Rep.ext e k1) (.one (Rep.ext e k2))⟩
  | [.tup ds, .tup es], q, r =>
    cases q
    obtain ⟨v, w, rfl, ⟨a, vs, rfl, k, r1⟩, v', w', rfl, ⟨b, us, rfl, k', r2⟩, hw⟩ := r
    have hw : w' = [] := hw
    subst hw
    refine ⟨a, b, vs, us, rfl, .inr (.inl ⟨by rw [G]; exact FT_sq k Ext.refl, by rw [G]; exact FT_sq k' Ext.refl, fin _ ?_⟩)⟩
    rw [G]
    refine ⟨fun Z3 H3 i e hi => ?_, fun Z3 H3 e => ⟨vs, us, FT_sq k e, FT_sq k' e, ?_⟩, fun Z3 H3 i d x H4 e hd y => ?_⟩
    · rw [hl] at hi
      have h1 : i < vs.length := by rw [r1.length]; omega
      have h2 : i < us.length := by rw [r2.length]; omega
      exact ⟨vs, us, vs[i], us[i], FT_sq k e, FT_sq k' e, List.getElem?_eq_getElem h1, List.getElem?_eq_getElem h2⟩
    · rw [hl, r1.length, r2.length]
      omega
    · obtain ⟨p, x1, x2, rfl, hp, rfl, f1, f2⟩ := y
      obtain ⟨d1, d2, e1, e2, rfl⟩ := zipD_get hd
      obtain ⟨v1, g1, k1⟩ := r1.get e1
      obtain ⟨v2, g2, k2⟩ := r2.get e2
      have c1 := f1 vs (FT_sq k e)
      have c2 := f2 us (FT_sq k' e)
      rw [g1] at c1
      rw [g2] at c2
      cases c1
      cases c2
      exact .inr ⟨p, _, _, rfl, hp, rfl, rfl, .cons (Rep.ext e k1) (.one (Rep.ext e k2))⟩
  | [.lst ds, .tup es], q, r =>
    cases q
    obtain ⟨v, w, rfl, ⟨a, vs, rfl, k, r1⟩, v', w', rfl, ⟨b, us, rfl, k', r2⟩, hw⟩ := r
    have hw : w' = [] := hw
    subst hw
    refine ⟨a, b, vs, us, rfl, .inr (.inr ⟨SqL.of k.2, by rw [G]; exact FT_sq k' Ext.refl, fin _ ?_⟩)⟩
    rw [G]
    refine ⟨fun Z3 H3 i e hi => ?_, fun Z3 H3 e => ⟨vs, us, FL_sq k e, FT_sq k' e, ?_⟩, fun Z3 H3 i d x H4 e hd y => ?_⟩
    · rw [hl] at hi
      have h1 : i < vs.length := by rw [r1.length]; omega
      have h2 : i < us.length := by rw [r2.length]; omega
      exact ⟨vs, us, vs[i], us[i], FL_sq k e, FT_sq k' e, List.getElem?_eq_getElem h1, List.getElem?_eq_getElem h2⟩
    · rw [hl, r1.length, r2.length]
      exact ⟨⟨by omega, by omega⟩, by omega⟩
    · obtain ⟨p, x1, x2, rfl, hp, rfl, f1, f2⟩ := y
      obtain ⟨d1, d2, e1, e2, rfl⟩ := zipD_get hd
      obtain ⟨v1, g1, k1⟩ := r1.get e1
      obtain ⟨v2, g2, k2⟩ := r2.get e2
      have c1 := f1 vs (FL_sq k e)
      have c2 := f2 us (FT_sq k' e)
      rw [g1] at c1
      rw [g2] at c2
      cases c1
      cases c2
      exact .inr ⟨p, _, _, rfl, hp, rfl, rfl, .cons (Rep.ext e k1) (.one (Rep.ext e k2))⟩

/-! ### for -/
def forL (ga : RV → FS → Res Unit) (fb : FS → Res SO) : List D → FS → Res SO
  | [], τ => .ok .nx τ
  | d :: r, τ => match ga (.val d) τ with
    | .ok _ τ1 => match fb τ1 with
      | .ok .nx τ2 => forL ga fb r τ2
      | .ok .ct τ2 => forL ga fb r τ2
      | .ok .bk τ2 => .ok .nx τ2
      | x => x
    | _ => .no
def evFor (fi : FS → Res (List D)) (ga : RV → FS → Res Unit) (fb : FS → Res SO) (τ : FS) : Res SO := bindR (fi τ) fun ds τ1 => forL ga fb ds τ1
theorem SR.yld (S : SR T Z F τ σ H) {x : V} {H3 : Hp} (y : Yld T Z H d x H3) : ∃ Z3, Ext Z F H Z3 H3 ∧ SR T Z3 F τ σ H3 ∧ Rep T Z3 H3 d x := by
  rcases y with ⟨rfl, y⟩ | ⟨p, ds, vs, rfl, hp, rfl, rfl, y⟩
  · exact ⟨Z, Ext.refl, S, y⟩
  · have e : Ext Z F H (fun a => Z a ∨ a = p) (upd H p (.tup vs)) := Ext.new1 S hp fun _ z => .inl z
    exact ⟨_, e, (S.new hp).addZ (by rw [upd_same]; exact fun z => nomatch z) (S.notF hp) (S.notOwn hp), p, vs, rfl, .inl ⟨.inr rfl, upd_same⟩, RepL.ext e y⟩
theorem Ext.toF0 (e : Ext Z F H Z' H') : Ext Z F0 H Z' H' := ⟨e.sub, fun a o z => e.keep a o (z.elim .inl fun z => z.elim)⟩
theorem s_for {iter : Expr} {body : List Stmt} {fi : FS → Res (List D)} {ga : RV → FS → Res Unit} {fb : FS → Res SO} {pos : Pos} (hp : PassesOwn (model X.prog X.w) X.A X.env X.xe) (hc : X.calm = true)
    (hi : PI X tg iter (tI T W fi)) (hg : PG X tg (tG T P ga)) (hb : PSs X body (tS T W P fb)) (hs : ∀ x, foldedSetIterable iter X.env x = pure x) : PS X (.For tg iter body [] pos) (tS T W P (evFor fi ga fb)) := by
  refine PS.mono (ps_for hp hc hi hg hb hs) fun D σ H ⟨Z, F, τ, S, h⟩ => ?_
  refine bindS S h fun J ds τ1 Z1 H1 E1 S1 R1 h1 => ?_
  refine ⟨fun i m σ H => i ≤ ds.length ∧ m = ds.length - i ∧ ∃ Z2 τ2, Ext Z1 F0 H1 Z2 H ∧ SR T Z2 F τ2 σ H ∧ PostS T W P Z2 F H σ (forL ga fb (ds.drop i) τ2) D, ⟨ds.length, Nat.zero_le _, rfl, Z1, τ1, Ext.refl, S1, h1⟩, ?_⟩
  rintro i m σ2 H2 ⟨hi, rfl, Z2, τ2, E2, S2, h2⟩
  by_cases hlt : i < ds.length
  · have hd : ds.drop i = ds[i] :: ds.drop (i + 1) := (List.drop_eq_getElem_cons hlt)
    rw [hd] at h2
    unfold forL at h2
    refine .inr ⟨R1.go Z2 H2 i E2 hlt, fun σ' H' => ∃ Z3 τ3, Ext Z1 F0 H1 Z3 H' ∧ SR T Z3 F τ3 σ' H' ∧ PostS T W P Z3 F H' σ' (forL ga fb (ds.drop (i + 1)) τ3) D, fun σ' H' ⟨Z3, τ3, a, b, c⟩ => ⟨_, by omega, hlt, rfl, Z3, τ3, a, b, c⟩, fun x H3 y => ?_⟩
    obtain ⟨Z3, E3, S3, R3⟩ := S2.yld (R1.yld Z2 H2 i _ x H3 E2 (List.getElem?_eq_getElem hlt) y)
    refine ⟨Z3, F, τ2, .val ds[i], S3, R3, ?_⟩
    cases q : ga (.val ds[i]) τ2 with
    | ex x τ' => rw [q] at h2; exact h2.elim
    | no => rw [q] at h2; exact h2.elim
    | ok u τ3 =>
      rw [q] at h2
      dsimp only at h2
      intro σ4 Z4 H4 P4 E4 S4
      have E24 : Ext Z2 F H2 Z4 H4 := E3.trans E4 fun _ z => z
      have E14 : Ext Z1 F0 H1 Z4 H4 := E2.trans (E24.toF0) fun _ z => z
      refine ⟨Z4, F, τ3, S4, ?_⟩
      cases q2 : fb τ3 with
      | no => rw [q2] at h2; exact h2.elim
      | ex x τ' =>
        rw [q2] at h2
        exact fun c dx σ5 Z5 H5 P5 E5 S5 k => h2 c dx σ5 Z5 H5 (P4.trans P5) (E24.trans E5 fun _ z => z) S5 k
      | ok f τ4 =>
        rw [q2] at h2
        cases f with
        | nx => exact fun σ5 Z5 H5 P5 E5 S5 => ⟨Z5, τ4, E14.trans E5.toF0 (fun _ z => z), S5, PostS.later (P4.trans P5) (E24.trans E5 fun _ z => z) h2⟩
        | ct => exact fun σ5 Z5 H5 P5 E5 S5 => ⟨Z5, τ4, E14.trans E5.toF0 (fun _ z => z), S5, PostS.later (P4.trans P5) (E24.trans E5 fun _ z => z) h2⟩
        | bk => exact fun σ5 Z5 H5 P5 E5 S5 => h2 σ5 Z5 H5 (P4.trans P5) (E24.trans E5 fun _ z => z) S5
        | rt r => exact fun v σ5 Z5 H5 P5 E5 S5 k => h2 v σ5 Z5 H5 (P4.trans P5) (E24.trans E5 fun _ z => z) S5 k
  · have e : i = ds.length := by omega
    subst e
    rw [List.drop_length] at h2
    exact .inl ⟨R1.stop Z2 H2 E2, h2 σ2 Z2 H2 PinEq.refl Ext.refl S2⟩

/-! ### while -/
def whL (ft : FS → Res Bool) (fb : FS → Res SO) : Nat → FS → Res SO
  | 0, _ => .no
  | n + 1, τ => bindR (ft τ) fun k τ1 => if k = true then (match fb τ1 with
    | .ok .nx τ2 => whL ft fb n τ2
    | .ok .ct τ2 => whL ft fb n τ2
    | .ok .bk τ2 => .ok .nx τ2
    | x => x) else .ok .nx τ1
theorem s_while {c : Expr} {body : List Stmt} {ft : FS → Res Bool} {fb : FS → Res SO} {n : Nat} {pos : Pos} (hp : PassesOwn (model X.prog X.w) X.A X.env X.xe) (hc : PT X c (tWT T W ft)) (hb : PSs X body (tS T W P fb)) :
    PS X (.While c body [] pos) (tS T W P (whL ft fb n)) := by
  refine PS.mono (ps_while hp hc hb) fun D σ H ⟨Z, F, τ, S, h⟩ => ?_
  refine ⟨fun m σ H => tS T W P (whL ft fb m) D σ H, ⟨n, Z, F, τ, S, h⟩, ?_⟩
  rintro m σ2 H2 ⟨Z2, F2, τ2, S2, h2⟩
  cases m with
  | zero => exact h2.elim
  | succ m =>
    refine bindS S2 h2 fun x k τ3 Z3 H3 E3 S3 R3 h3 => ?_
    cases R3
    by_cases hx : x = true
    · rw [if_pos hx] at h3 ⊢
      refine ⟨fun σ' H' => tS T W P (whL ft fb m) D σ' H', fun σ' H' q => ⟨m, Nat.lt_succ_self _, q⟩, Z3, F2, τ3, S3, ?_⟩
      cases q2 : fb τ3 with
      | no => rw [q2] at h3; exact h3.elim
      | ex x τ' => rw [q2] at h3; exact h3
      | ok f τ4 =>
        rw [q2] at h3
        cases f with
        | nx => exact fun σ5 Z5 H5 P5 E5 S5 => ⟨Z5, F2, τ4, S5, PostS.later P5 E5 h3⟩
        | ct => exact fun σ5 Z5 H5 P5 E5 S5 => ⟨Z5, F2, τ4, S5, PostS.later P5 E5 h3⟩
        | bk => exact h3
        | rt r => exact h3
    · rw [if_neg hx] at h3 ⊢
      exact h3 σ2 Z3 H3 PinEq.refl Ext.refl S3
end
end Dv

set_option Elab.async false
set_option linter.all false
set_option maxRecDepth 100000
set_option maxHeartbeats 2000000
/-! Dv9: list comprehensions. -/
namespace Dv
open PySem PySem.Spec PyProof.Rows L2
abbrev WF : WX := fun _ _ _ _ => False
/-- all slots but those -/
def only (vs : List Nat) (j : Nat) : Bool := !vs.contains j
def wipeT (vs : List Nat) (τ : FS) : FS := τ.mapIdx fun i s => if vs.contains i then .un else s
/-- the slots vs as at first, the others as they are now -/
def mergeT (vs : List Nat) (τ0 τ : FS) : FS := τ.mapIdx fun i s => if vs.contains i then (τ0[i]?.getD .un) else s
section
variable {T : Tx} {X : Cx} {W : WX} {P : Nat → Bool} {Z Z' Z1 Z2 F F' F1 : AP'} {H H' H1 H2 : Hp} {d : D} {ds es : List D} {v w : V} {vs ws xs ys : List V} {τ τ0 τ' τ1 τ2 : FS} {σ σ' σ1 : L2.St} {r r2 : RV} {rs : List RV} {a b : Addr} {is : List Nat}
theorem wipeT_get {i : Nat} : (wipeT is τ)[i]? = (τ[i]?).map fun s => if is.contains i then Sl.un else s := by
  unfold wipeT
  rw [List.getElem?_mapIdx]
theorem wipeT_of {i : Nat} {s : Sl} (h : (wipeT is τ)[i]? = some s) (ne : s ≠ .un) : τ[i]? = some s ∧ is.contains i = false := by
  rw [wipeT_get] at h
  cases q : τ[i]? with
  | none => rw [q] at h; cases h
  | some t =>
    rw [q] at h
    have h : (if is.contains i then Sl.un else t) = s := Option.some.inj h
    cases c : is.contains i with
    | true => rw [c] at h; exact absurd h.symm ne
    | false => rw [c] at h; exact ⟨by rw [show t = s from h], rfl⟩
theorem wipeT_len : (wipeT is τ).length = τ.length := by unfold wipeT; rw [List.length_mapIdx]
theorem wipe_out {i : Nat} : ∀ {is : List Nat}, is.contains i = false → (wipe σ is)[i]? = σ[i]?
  | [], _ => rfl
  | j :: is, h => by
    rw [List.contains_cons, Bool.or_eq_false_iff] at h
    have hne : j ≠ i := fun e => by subst e; simp at h
    unfold wipe
    rw [List.getElem?_set_ne hne]
    exact wipe_out h.2
theorem wipe_in {i : Nat} : ∀ {is : List Nat}, is.contains i = true → i < σ.length → (wipe σ is)[i]? = some none
  | [], h, _ => by cases h
  | j :: is, h, hl => by
    unfold wipe
    by_cases e : j = i
    · subst e
      rw [List.getElem?_set_self (by rw [wipe_length]; exact hl)]
    · rw [List.getElem?_set_ne e]
      refine wipe_in ?_ hl
      rw [List.contains_cons] at h
      have : (i == j) = false := by simpa using fun z => e z.symm
      rw [this] at h
      simpa using h
theorem wipe_same {σ2 : L2.St} (hl : σ2.length = σ.length) (h : PinEq (only is) (wipe σ is) σ2) : wipe σ2 is = wipe σ is := by
  apply List.ext_getElem?
  intro i
  cases c : is.contains i with
  | false =>
    rw [wipe_out c]
    exact h i (by unfold only; rw [c]; rfl)
  | true =>
    by_cases hi : i < σ.length
    · rw [wipe_in c hi, wipe_in c (by rw [hl]; exact hi)]
    · rw [List.getElem?_eq_none (by rw [wipe_length, hl]; omega), List.getElem?_eq_none (by rw [wipe_length]; omega)]
theorem SR.wipe (S : SR T Z F τ σ H) : SR T Z F (wipeT is τ) (L2.wipe σ is) H := by
  refine ⟨S.zt, S.ft, S.zf, by rw [wipeT_len, wipe_length]; exact S.len, fun i d e => ?_, fun i ds e => ?_, fun i j ds es a e1 e2 e3 e4 => ?_⟩
  · obtain ⟨e, c⟩ := wipeT_of e (fun z => nomatch z)
    rw [wipe_out c]
    exact S.fz i d e
  · obtain ⟨e, c⟩ := wipeT_of e (fun z => nomatch z)
    rw [wipe_out c]
    exact S.ow i ds e
  · obtain ⟨e1, c1⟩ := wipeT_of e1 (fun z => nomatch z)
    obtain ⟨e2, c2⟩ := wipeT_of e2 (fun z => nomatch z)
    rw [wipe_out c1] at e3
    rw [wipe_out c2] at e4
    exact S.ap i j ds es a e1 e2 e3 e4
/-- the lists that the wiped slots hold -/
def wOwn (is : List Nat) (τ : FS) (σ : L2.St) (a : Addr) : Prop := ∃ i ds, is.contains i = true ∧ τ[i]? = some (Sl.ow ds) ∧ σ[i]? = some (some (V.ref a))
theorem SR.wipeF (S : SR T Z F τ σ H) : SR T Z (fun a => F a ∨ wOwn is τ σ a) (wipeT is τ) (L2.wipe σ is) H := by
  have S' := S.wipe (is := is)
  refine ⟨S'.zt, fun a z => ?_, fun a z q => ?_, S'.len, S'.fz, fun i ds e => ?_, S'.ap⟩
  · rcases z with z | ⟨i, ds, _, e1, e2⟩
    · exact S.ft a z
    · obtain ⟨b, vs, h1, h2, _⟩ := S.ow i ds e1
      rw [e2] at h1
      cases h1
      rw [h2]
      exact fun z => nomatch z
  · rcases q with q | ⟨i, ds, _, e1, e2⟩
    · exact S.zf a z q
    · obtain ⟨b, vs, h1, _, _, h4, _⟩ := S.ow i ds e1
      rw [e2] at h1
      cases h1
      exact h4 z
  · obtain ⟨a, vs, h1, h2, h3, h4, h5⟩ := S'.ow i ds e
    refine ⟨a, vs, h1, h2, h3, h4, fun q => ?_⟩
    rcases q with q | ⟨j, es, cj, e1, e2⟩
    · exact h5 q
    · obtain ⟨e, c⟩ := wipeT_of e (fun z => nomatch z)
      rw [wipe_out c] at h1
      have := S.ap i j ds es a e e1 h1 e2
      subst this
      rw [c] at cj
      cases cj
/-- a frame's list is written -/
theorem SR.updF {p : Addr} {ws : List V} (S : SR T Z F τ σ H) (hp : F p) : SR T Z F τ σ (upd H p (.lst ws)) := by
  have k : ∀ a o, Z a → H a = some o → upd H p (.lst ws) a = some o := fun a o z e => by rw [upd_ne (fun q => by subst q; exact S.zf _ z hp)]; exact e
  refine ⟨fun a z => ?_, fun a z => ?_, S.zf, S.len, fun i d e => ?_, fun i ds e => ?_, S.ap⟩
  · rw [upd_ne (fun q => by subst q; exact S.zf _ z hp)]; exact S.zt a z
  · by_cases q : a = p
    · subst q; rw [upd_same]; exact fun z => nomatch z
    · rw [upd_ne q]; exact S.ft a z
  · obtain ⟨v, h1, h2⟩ := S.fz i d e
    exact ⟨v, h1, Rep.mono (fun _ z => z) k d v h2⟩
  · obtain ⟨a, vs, h1, h2, h3, h4, h5⟩ := S.ow i ds e
    exact ⟨a, vs, h1, by rw [upd_ne (fun q => by subst q; exact h5 hp)]; exact h2, RepL.mono (fun _ z => z) k ds vs h3, h4, h5⟩
theorem mergeT_get {i : Nat} : (mergeT is τ0 τ)[i]? = (τ[i]?).map fun s => if is.contains i then (τ0[i]?.getD .un) else s := by
  unfold mergeT
  rw [List.getElem?_mapIdx]
theorem mergeT_cases {i : Nat} {s : Sl} (h : (mergeT is τ0 τ)[i]? = some s) (ne : s ≠ .un) : (is.contains i = true ∧ τ0[i]? = some s) ∨ (is.contains i = false ∧ τ[i]? = some s) := by
  rw [mergeT_get] at h
  cases q : τ[i]? with
  | none => rw [q] at h; cases h
  | some t =>
    rw [q] at h
    have h : (if is.contains i then (τ0[i]?.getD .un) else t) = s := Option.some.inj h
    cases c : is.contains i with
    | true =>
      rw [c] at h
      have h : τ0[i]?.getD .un = s := h
      cases q0 : τ0[i]? with
      | none => rw [q0] at h; exact absurd h.symm ne
      | some s0 => rw [q0] at h; exact .inl ⟨rfl, by rw [show s0 = s from h]⟩
    | false => rw [c] at h; exact .inr ⟨rfl, by rw [show t = s from h]⟩
/-- behind the block: the wiped slots are as ahead of it -/
theorem SR.merge (S0 : SR T Z F τ0 σ H) (e : Ext Z (fun a => F a ∨ wOwn is τ0 σ a) H Z' H') (S : SR T Z' F' τ (L2.wipe σ is) H') (hF : ∀ a, F a ∨ wOwn is τ0 σ a → F' a) : SR T Z' F (mergeT is τ0 τ) σ H' := by
  refine ⟨S.zt, fun a z => S.ft a (hF a (.inl z)), fun a z q => S.zf a z (hF a (.inl q)), by unfold mergeT; rw [List.length_mapIdx, S.len, wipe_length], fun i d q => ?_, fun i ds q => ?_, fun i j ds es a q1 q2 q3 q4 => ?_⟩
  · rcases mergeT_cases q (fun z => nomatch z) with ⟨_, q⟩ | ⟨c, q⟩
    · obtain ⟨v, h1, h2⟩ := S0.fz i d q
      exact ⟨v, h1, Rep.ext e h2⟩
    · obtain ⟨v, h1, h2⟩ := S.fz i d q
      rw [wipe_out c] at h1
      exact ⟨v, h1, h2⟩
  · rcases mergeT_cases q (fun z => nomatch z) with ⟨c, q⟩ | ⟨c, q⟩
    · obtain ⟨a, vs, h1, h2, h3, h4, h5⟩ := S0.ow i ds q
      have hw : F a ∨ wOwn is τ0 σ a := .inr ⟨i, ds, c, q, h1⟩
      exact ⟨a, vs, h1, e.keep a _ (.inr hw) h2, RepL.ext e h3, fun z => S.zf a z (hF a hw), h5⟩
    · obtain ⟨a, vs, h1, h2, h3, h4, h5⟩ := S.ow i ds q
      rw [wipe_out c] at h1
      exact ⟨a, vs, h1, h2, h3, h4, fun z => h5 (hF a (.inl z))⟩
  · rcases mergeT_cases q1 (fun z => nomatch z) with ⟨c1, q1⟩ | ⟨c1, q1⟩ <;> rcases mergeT_cases q2 (fun z => nomatch z) with ⟨c2, q2⟩ | ⟨c2, q2⟩
    · exact S0.ap i j ds es a q1 q2 q3 q4
    · obtain ⟨b, vs, h1, _, _, _, h5⟩ := S.ow j es q2
      rw [wipe_out c2, q4] at h1
      cases h1
      exact absurd (hF a (.inr ⟨i, ds, c1, q1, q3⟩)) h5
    · obtain ⟨b, vs, h1, _, _, _, h5⟩ := S.ow i ds q1
      rw [wipe_out c1, q3] at h1
      cases h1
      exact absurd (hF a (.inr ⟨j, es, c2, q2, q4⟩)) h5
    · exact S.ap i j ds es a q1 q2 (by rw [wipe_out c1]; exact q3) (by rw [wipe_out c2]; exact q4)

/-! ### one clause -/
/-- the turns: acc is what the new list holds so far -/
def lcL (is : List Nat) (ga : RV → FS → Res Unit) (ft : FS → Res Bool) (fe : FS → Res RV) : List D → List D → FS → Res (List D)
  | acc, [], τ => .ok acc τ
  | acc, d :: r, τ => match ga (.val d) τ with
    | .ok _ τ1 => if τ1.length = τ.length then (match ft τ1 with
      | .ok true τ2 => (match fe τ2 with
        | .ok y τ3 => match frz y τ3 with
          | some (d', τ4) => if acc.length < sizeLine then lcL is ga ft fe (acc ++ [d']) r (wipeT is τ4) else .no
          | none => .no
        | _ => .no)
      | .ok false τ2 => lcL is ga ft fe acc r (wipeT is τ2)
      | _ => .no) else .no
    | _ => .no
def evLc (is : List Nat) (fi : FS → Res (List D)) (ga : RV → FS → Res Unit) (ft : FS → Res Bool) (fe : FS → Res RV) (τ : FS) : Res RV := bindR (fi τ) fun ds τ1 => match lcL is ga ft fe [] ds (wipeT is τ1) with
  | .ok acc τ2 => .ok (.fr acc) (mergeT is τ1 τ2)
  | _ => .no
theorem lc_ok {fi : FS → Res (List D)} {ga : RV → FS → Res Unit} {ft : FS → Res Bool} {fe : FS → Res RV} {Q : VK} (hw : tW T W (evLc is fi ga ft fe) σ H Q) :
    tLc (tI T W fi) (tG T (only is) ga) (tWT T WF ft) (tW T WF fe) is σ H Q := by
  obtain ⟨Z, F, τ, S, h⟩ := hw
  refine bind1 S h fun J ds τ1 Z1 H1 E1 S1 R1 h1 => ?_
  intro Dd hD
  -- the frame within: the new list, the wiped slots' lists
  have SN : SR T Z1 F τ1 σ (upd H1 Dd (.lst [])) := S1.new hD
  have SW := SN.wipeF (is := is)
  have EN : Ext Z1 (fun a => F a ∨ wOwn is τ1 σ a) H1 Z1 (upd H1 Dd (.lst [])) := ⟨fun _ z => z, fun a o z e => by rw [upd_ne (ne_of_none e hD)]; exact e⟩
  have nD : ¬ Z1 Dd := S1.notZ hD
  have nF : ¬ F Dd := S1.notF hD
  have nW : ¬ wOwn is τ1 σ Dd := fun ⟨i, es, _, e1, e2⟩ => S1.notOwn hD i es e1 e2
  -- the frame with the new list
  generalize hF2 : (fun a => (F a ∨ wOwn is τ1 σ a) ∨ a = Dd) = F2
  have hF2i : ∀ a, F a ∨ wOwn is τ1 σ a → F2 a := fun a z => by rw [← hF2]; exact .inl z
  have hF2D : F2 Dd := by rw [← hF2]; exact .inr rfl
  have SW2 : SR T Z1 F2 (wipeT is τ1) (L2.wipe σ is) (upd H1 Dd (.lst [])) := by
    rw [← hF2]
    refine ⟨SW.zt, fun a z => ?_, fun a z q => ?_, SW.len, SW.fz, fun i es e => ?_, SW.ap⟩
    · rcases z with z | rfl
      · exact SW.ft a z
      · rw [upd_same]; exact fun z => nomatch z
    · rcases q with q | rfl
      · exact SW.zf a z q
      · exact nD z
    · obtain ⟨a, vs, h1, h2, h3, h4, h5⟩ := SW.ow i es e
      refine ⟨a, vs, h1, h2, h3, h4, fun q => ?_⟩
      rcases q with q | rfl
      · exact h5 q
      · obtain ⟨e, c⟩ := wipeT_of e (fun z => nomatch z)
        rw [wipe_out c] at h1
        exact S1.notOwn hD i es e h1
  refine ⟨fun i m H => i ≤ ds.length ∧ m = ds.length - i ∧ ∃ Z2 τ2 acc vs, Ext Z1 (fun a => F a ∨ wOwn is τ1 σ a) H1 Z2 H ∧ SR T Z2 F2 τ2 (L2.wipe σ is) H ∧ H Dd = some (.lst vs) ∧ RepL T Z2 H acc vs ∧
      PostR T W (relE T) Z1 F H1 σ (match lcL is ga ft fe acc (ds.drop i) τ2 with
        | .ok acc τ2 => .ok (.fr acc) (mergeT is τ1 τ2)
        | _ => .no) Q, ⟨ds.length, Nat.zero_le _, rfl, Z1, wipeT is τ1, [], [], EN, SW2, upd_same, rfl, h1⟩, ?_⟩
  rintro i m H2 ⟨hi, rfl, Z2, τ2, acc, vs, E2, S2, hv, ra, h2⟩
  by_cases hlt : i < ds.length
  · have hd : ds.drop i = ds[i] :: ds.drop (i + 1) := List.drop_eq_getElem_cons hlt
    rw [hd] at h2
    unfold lcL at h2
    refine .inr ⟨R1.go Z2 H2 i E2.toF0 hlt, fun H' => ∃ Z2 τ2 acc vs, Ext Z1 (fun a => F a ∨ wOwn is τ1 σ a) H1 Z2 H' ∧ SR T Z2 F2 τ2 (L2.wipe σ is) H' ∧ H' Dd = some (.lst vs) ∧ RepL T Z2 H' acc vs ∧
      PostR T W (relE T) Z1 F H1 σ (match lcL is ga ft fe acc (ds.drop (i + 1)) τ2 with
        | .ok acc τ2 => .ok (.fr acc) (mergeT is τ1 τ2)
        | _ => .no) Q, fun H' q => ⟨_, by omega, hlt, rfl, q⟩, fun x H3 y => ?_⟩
    obtain ⟨Z3, E3, S3, R3⟩ := S2.yld (R1.yld Z2 H2 i _ x H3 E2.toF0 (List.getElem?_eq_getElem hlt) y)
    refine ⟨Z3, F2, τ2, .val ds[i], S3, R3, ?_⟩
    cases q : ga (.val ds[i]) τ2 with
    | ex x τ' => rw [q] at h2; exact h2.elim
    | no => rw [q] at h2; exact h2.elim
    | ok u τ3 =>
      rw [q] at h2
      dsimp only at h2
      by_cases hlen : τ3.length = τ2.length
      case neg => rw [if_neg hlen] at h2; exact h2.elim
      rw [if_pos hlen] at h2
      intro σ4 Z4 H4 P4 E4 S4
      have hw4 : L2.wipe σ4 is = L2.wipe σ is := by
        refine wipe_same ?_ P4
        rw [← S4.len, hlen, S2.len, wipe_length]
      have E24 : Ext Z2 F2 H2 Z4 H4 := E3.trans E4 fun _ z => z
      refine ⟨hw4, Z4, F2, τ3, S4, ?_⟩
      -- what goes on
      have next : ∀ {Z5 : AP'} {H5 : Hp} {τ5 : FS}, Ext Z4 F2 H4 Z5 H5 → SR T Z5 F2 τ5 σ4 H5 → Ext Z1 (fun a => F a ∨ wOwn is τ1 σ a) H1 Z5 H5 ∧ SR T Z5 F2 (wipeT is τ5) (L2.wipe σ is) H5 ∧ H5 Dd = some (.lst vs) ∧ RepL T Z5 H5 acc vs := fun {Z5 H5 τ5} E5 S5 => by
        have E25 : Ext Z2 F2 H2 Z5 H5 := E24.trans E5 fun _ z => z
        refine ⟨E2.trans (E25.narrow hF2i) fun _ z => z, ?_, E25.keep Dd _ (.inr hF2D) hv, RepL.ext E25 ra⟩
        rw [← hw4]
        exact S5.wipe
      cases q2 : ft τ3 with
      | ex x τ' => rw [q2] at h2; exact h2.elim
      | no => rw [q2] at h2; exact h2.elim
      | ok k τ4 =>
        rw [q2] at h2
        intro k' Z5 H5 E5 S5 hk
        have hk : k' = k := hk
        subst hk
        cases k' with
        | false =>
          obtain ⟨n1, n2, n3, n4⟩ := next E5 S5
          rw [if_neg Bool.false_ne_true]
          exact ⟨Z5, wipeT is τ4, acc, vs, n1, n2, n3, n4, h2⟩
        | true =>
          dsimp only at h2
          rw [if_pos rfl]
          refine ⟨Z5, F2, τ4, S5, ?_⟩
          cases q3 : fe τ4 with
          | ex x τ' => rw [q3] at h2; exact h2.elim
          | no => rw [q3] at h2; exact h2.elim
          | ok yr τ5 =>
            rw [q3] at h2
            dsimp only at h2
            intro yv Z6 H6 E6 S6 R6
            cases q4 : frz yr τ5 with
            | none => rw [q4] at h2; exact h2.elim
            | some p =>
              obtain ⟨d', τ6⟩ := p
              rw [q4] at h2
              dsimp only at h2
              by_cases hz : acc.length < sizeLine
              case neg => rw [if_neg hz] at h2; exact h2.elim
              rw [if_pos hz] at h2
              obtain ⟨Z7, s7, S7, R7, _⟩ := frz_ok S6 R6 q4
              have E7 : Ext Z6 F2 H6 Z7 H6 := ⟨s7, fun _ _ _ h => h⟩
              obtain ⟨n1, n2, n3, n4⟩ := next ((E5.trans E6 fun _ z => z).trans E7 fun _ z => z) S7
              have nZ7 : ¬ Z7 Dd := fun z => S7.zf Dd z hF2D
              have EU : Ext Z7 (fun a => F a ∨ wOwn is τ1 σ a) H6 Z7 (upd H6 Dd (.lst (vs ++ [yv]))) := Ext.write nZ7 fun z => z.elim nF nW
              refine ⟨vs, n3, by rw [n4.length]; exact hz, Z7, wipeT is τ6, acc ++ [d'], vs ++ [yv], n1.trans EU fun _ z => z, n2.updF hF2D, upd_same, RepL.ext EU (n4.append (.one R7)), h2⟩
  · have e : i = ds.length := by omega
    subst e
    rw [List.drop_length] at h2
    refine .inl ⟨R1.stop Z2 H2 E2.toF0, ?_⟩
    refine h2 (.ref Dd) Z2 H2 (E2.narrow fun _ => .inl) (S1.merge E2 S2 hF2i) ⟨Dd, vs, rfl, hv, ra, fun z => S2.zf Dd z hF2D, nF, fun j es q1 q2 => ?_⟩
    rcases mergeT_cases q1 (fun z => nomatch z) with ⟨_, q1⟩ | ⟨c, q1⟩
    · exact S1.notOwn hD j es q1 q2
    · obtain ⟨b, us, k1, _, _, _, k5⟩ := S2.ow j es q1
      rw [wipe_out c, q2] at k1
      cases k1
      exact k5 hF2D
theorem PTs.mono {ifs : List Expr} {t t' : TT} (h : PTs X ifs t) (k : ∀ σ H Q, t' σ H Q → t σ H Q) : PTs X ifs t' := ⟨fun pins s σ H Q I hw => h.run pins s σ H Q I (k σ H Q hw)⟩
def evYes (τ : FS) : Res Bool := .ok true τ
theorem ts_nil : PTs X [] (tWT T W evYes) := PTs.mono pts_nil fun σ H Q ⟨Z, F, τ, S, h⟩ => h true Z H Ext.refl S rfl
theorem ts_one {c : Expr} {ft : FS → Res Bool} (h : PT X c (tWT T W ft)) : PTs X [c] (tWT T W ft) := pts_one h
theorem r_lc {elt tg iter : Expr} {ifs : List Expr} {scope : Scope} {own : List (Str × Nat)} {pos : Pos} {fi : FS → Res (List D)} {ga : RV → FS → Res Unit} {ft : FS → Res Bool} {fe : FS → Res RV} (hc : X.calm = true) (hN : X.N.Nodup) (hi : PI X tg iter (tI T W fi)) (ok : BlkOk X.N X.env.scope scope own)
    (hg : ∀ (s : Shared) (H : Hp) (C : Addr) (cl : List (Str × Addr)) (fp : List Addr), PG (X.blk s H scope (compEnvC scope cl C X.env) fp) tg (tG T (only (own.map (·.2))) ga))
    (ht : ∀ (s : Shared) (H : Hp) (C : Addr) (cl : List (Str × Addr)) (fp : List Addr), PTs (X.blk s H scope (compEnvC scope cl C X.env) fp) ifs (tWT T WF ft))
    (he : ∀ (s : Shared) (H : Hp) (C : Addr) (cl : List (Str × Addr)) (fp : List Addr), PE (X.blk s H scope (compEnvC scope cl C X.env) fp) elt (tW T WF fe)) (hs : ∀ x, foldedSetIterable iter X.env x = pure x) :
    PE X (.ListComp elt [⟨tg, iter, ifs, 0⟩] scope pos) (tW T W (evLc (own.map (·.2)) fi ga ft fe)) := PE.mono (pe_lc hc hN hi ok hg ht he hs) fun σ H Q h => lc_ok h
theorem s_setLc {i : Nat} {y : Str} {py : Pos} {elt tg iter : Expr} {ifs : List Expr} {scope : Scope} {own : List (Str × Nat)} {pos spos : Pos} {fi : FS → Res (List D)} {ga : RV → FS → Res Unit} {ft : FS → Res Bool} {fe : FS → Res RV} (hc : X.calm = true) (hN : X.N.Nodup) (hy : X.N[i]? = some y) (hyl : X.env.scope.names.lookup y = some .local)
    (hsw : swapsWith (.ListComp elt [⟨tg, iter, ifs, 0⟩] scope pos) (some (.Name y py)) spos.line X.env = pure true) (hi : PI X tg iter (tI T W fi)) (ok : BlkOk X.N X.env.scope scope own)
    (hg : ∀ (s : Shared) (H : Hp) (C : Addr) (cl : List (Str × Addr)) (fp : List Addr), PG (X.blk s H scope (compEnvC scope cl C X.env) fp) tg (tG T (only (own.map (·.2))) ga))
    (ht : ∀ (s : Shared) (H : Hp) (C : Addr) (cl : List (Str × Addr)) (fp : List Addr), PTs (X.blk s H scope (compEnvC scope cl C X.env) fp) ifs (tWT T WF ft))
    (he : ∀ (s : Shared) (H : Hp) (C : Addr) (cl : List (Str × Addr)) (fp : List Addr), PE (X.blk s H scope (compEnvC scope cl C X.env) fp) elt (tW T WF fe)) (hs : ∀ x, foldedSetIterable iter X.env x = pure x) :
    PS X (.Assign [.Name y py] (.ListComp elt [⟨tg, iter, ifs, 0⟩] scope pos) spos) (tS T W P (evAsg (evLc (own.map (·.2)) fi ga ft fe) (storeN P i))) := by
  refine PS.mono (ps_setLc hc hN hy hyl hsw hi ok hg ht he hs) fun D σ H ⟨Z, F, τ, S, h⟩ => ?_
  refine lc_ok (Q := fun x H1 => gName i x σ H1 D.nx) (bindS S h fun x r τ1 Z1 H1 E1 S1 R1 h1 => ?_)
  exact storeN_ok S1 R1 (asg_ok h1)
end
end Dv

set_option Elab.async false
set_option linter.all false
set_option maxRecDepth 100000
set_option maxHeartbeats 2000000
/-! Dv10: defs: a body's promise, calls. -/
namespace Dv
open PySem PySem.Spec PyProof.Rows L2
/-- an own list among the arguments is lent: its slot may not be stored to -/
def lent (ss : List Sl) (j : Nat) : Bool := match ss[j]? with
  | some (.ow _) => true
  | _ => false
/-- the lent ones as they are at the end -/
def outS (ss : List Sl) (τ : FS) : List Sl := ss.mapIdx fun j s => if lent ss j then (τ[j]?.getD .un) else .un
/-- a def's meaning from its body's -/
def defS (n : Nat) (body : (Nat → Bool) → FS → Res SO) (ss : List Sl) : Res RV := match body (lent ss) (ss ++ List.replicate (n - ss.length) .un) with
  | .ok .nx τ => .ok (.val .non) (outS ss τ)
  | .ok (.rt (.val d)) τ => .ok (.val d) (outS ss τ)
  | .ok (.rt (.fr ds)) τ => .ok (.fr ds) (outS ss τ)
  | .ex x τ => .ex x (outS ss τ)
  | _ => .no
/-- what a def promises -/
def spD (T : Tx) (np : Nat) (f : List Sl → Res RV) : Sp := fun vs H Q E => vs.length = np ∧ ∃ Z F ss, SR T Z F ss (vs.map some) H ∧ match f ss with
  | .ok r ss' => ∀ v Z' H', Ext Z F H Z' H' → SR T Z' F ss' (vs.map some) H' → RepV T Z' F ss' (vs.map some) H' v r → Q v H'
  | .ex x ss' => ∀ cls dx Z' H', Ext Z F H Z' H' → SR T Z' F ss' (vs.map some) H' → ExR T Z' H' x cls dx → E cls dx H'
  | .no => False
def passR (τ : FS) : RV → Option Sl
  | .val d => some (.fz d)
  | .fr ds => some (.ow ds)
  | .sl i => match τ[i]? with
    | some (.fz d) => some (.fz d)
    | some (.ow ds) => some (.ow ds)
    | _ => none
/-- the caller's own lists that are lent, by their slots -/
def lentBy (τ : FS) : List RV → List Nat
  | [] => []
  | .sl i :: rs => if isOw i τ then i :: lentBy τ rs else lentBy τ rs
  | _ :: rs => lentBy τ rs
/-- they come back -/
def wb (τ0 : FS) : List RV → List Sl → FS → FS
  | .sl i :: rs, s :: ss, τ => wb τ0 rs ss (if isOw i τ0 then τ.set i s else τ)
  | _ :: rs, _ :: ss, τ => wb τ0 rs ss τ
  | _, _, τ => τ
def callR (f : List Sl → Res RV) (rs : List RV) (τ : FS) : Res RV := if (lentBy τ rs).Nodup then (match rs.mapM (passR τ) with
  | some ss => match f ss with
    | .ok r ss' => if ss'.length = ss.length then .ok r (wb τ rs ss' τ) else .no
    | .ex x ss' => if ss'.length = ss.length then .ex x (wb τ rs ss' τ) else .no
    | .no => .no
  | none => .no) else .no
def evCall (f : List Sl → Res RV) (fs : FS → Res (List RV)) (τ : FS) : Res RV := bindR (fs τ) fun rs τ1 => callR f rs τ1
section
variable {T : Tx} {X : Cx} {W : WX} {P : Nat → Bool} {Z Z' Z1 Z2 F F' F1 : AP'} {H H' H1 H2 : Hp} {d : D} {ds es : List D} {v w : V} {vs ws xs ys : List V} {τ τ0 τ' τ1 τ2 : FS} {σ σ' σ1 : L2.St} {r r2 : RV} {rs : List RV} {a b : Addr} {ss ss' : List Sl}
theorem outS_get {j : Nat} {s : Sl} (h : (outS ss τ)[j]? = some s) (ne : s ≠ .un) : lent ss j = true ∧ τ[j]? = some s := by
  unfold outS at h
  rw [List.getElem?_mapIdx] at h
  cases q : ss[j]? with
  | none => rw [q] at h; cases h
  | some t =>
    rw [q] at h
    have h : (if lent ss j then (τ[j]?.getD .un) else .un) = s := Option.some.inj h
    cases c : lent ss j with
    | false => rw [c] at h; exact absurd h.symm ne
    | true =>
      rw [c] at h
      have h : τ[j]?.getD .un = s := h
      cases q2 : τ[j]? with
      | none => rw [q2] at h; exact absurd h.symm ne
      | some u => rw [q2] at h; exact ⟨rfl, by rw [show u = s from h]⟩
theorem outS_len : (outS ss τ).length = ss.length := by unfold outS; rw [List.length_mapIdx]
theorem lent_lt {j : Nat} (h : lent ss j = true) : j < ss.length := by
  unfold lent at h
  cases q : ss[j]? with
  | none => rw [q] at h; cases h
  | some s => exact (List.getElem?_eq_some_iff.mp q).1
theorem start_at {N : List Str} {j : Nat} (h : j < vs.length) : (L2.start N vs)[j]? = (vs.map some)[j]? := by
  unfold L2.start
  rw [List.getElem?_append_left (by simpa using h)]
/-- at the entry -/
theorem SR.entry {N : List Str} (S : SR T Z F ss (vs.map some) H) (hN : vs.length ≤ N.length) : SR T Z F (ss ++ List.replicate (N.length - ss.length) .un) (L2.start N vs) H := by
  have hl : ss.length = vs.length := by rw [S.len, List.length_map]
  have back : ∀ (i : Nat) (s : Sl), (ss ++ List.replicate (N.length - ss.length) .un)[i]? = some s → s ≠ .un → ss[i]? = some s ∧ i < vs.length := fun i s e ne => by
    by_cases hi : i < ss.length
    · rw [List.getElem?_append_left hi] at e; exact ⟨e, by omega⟩
    · rw [List.getElem?_append_right (by omega), List.getElem?_replicate] at e
      split at e
      · exact absurd (Option.some.inj e).symm ne
      · cases e
  refine ⟨S.zt, S.ft, S.zf, ?_, fun i d e => ?_, fun i ds e => ?_, fun i j ds es a e1 e2 e3 e4 => ?_⟩
  · unfold L2.start
    rw [List.length_append, List.length_append, List.length_replicate, List.length_replicate, List.length_map, hl]
  · obtain ⟨e, hi⟩ := back i _ e (fun z => nomatch z)
    rw [start_at hi]
    exact S.fz i d e
  · obtain ⟨e, hi⟩ := back i _ e (fun z => nomatch z)
    rw [start_at hi]
    exact S.ow i ds e
  · obtain ⟨e1, h1⟩ := back i _ e1 (fun z => nomatch z)
    obtain ⟨e2, h2⟩ := back j _ e2 (fun z => nomatch z)
    rw [start_at h1] at e3
    rw [start_at h2] at e4
    exact S.ap i j ds es a e1 e2 e3 e4
/-- at the end -/
theorem SR.leave {N : List Str} (hl : ss.length = vs.length) (p : PinEq (lent ss) (L2.start N vs) σ') (S : SR T Z F τ σ' H) : SR T Z F (outS ss τ) (vs.map some) H := by
  have at' : ∀ (j : Nat) (s : Sl), (outS ss τ)[j]? = some s → s ≠ .un → τ[j]? = some s ∧ (vs.map some)[j]? = σ'[j]? := fun j s e ne => by
    obtain ⟨c, e⟩ := outS_get e ne
    refine ⟨e, ?_⟩
    rw [p j c, start_at (by rw [← hl]; exact lent_lt c)]
  refine ⟨S.zt, S.ft, S.zf, by rw [outS_len, List.length_map, hl], fun i d e => ?_, fun i ds e => ?_, fun i j ds es a e1 e2 e3 e4 => ?_⟩
  · obtain ⟨e, q⟩ := at' i _ e (fun z => nomatch z)
    rw [q]
    exact S.fz i d e
  · obtain ⟨e, q⟩ := at' i _ e (fun z => nomatch z)
    rw [q]
    exact S.ow i ds e
  · obtain ⟨e1, q1⟩ := at' i _ e1 (fun z => nomatch z)
    obtain ⟨e2, q2⟩ := at' j _ e2 (fun z => nomatch z)
    rw [q1] at e3
    rw [q2] at e4
    exact S.ap i j ds es a e1 e2 e3 e4
theorem RepV.leave {N : List Str} (hl : ss.length = vs.length) (p : PinEq (lent ss) (L2.start N vs) σ') (R : RepV T Z F τ σ' H v r) (hr : ∀ i, r ≠ .sl i) : RepV T Z F (outS ss τ) (vs.map some) H v r := by
  cases r with
  | val d => exact R
  | sl i => exact absurd rfl (hr i)
  | fr ds =>
    obtain ⟨a, us, e, k1, k2, k3, k4, k5⟩ := R
    refine ⟨a, us, e, k1, k2, k3, k4, fun j es q1 q2 => ?_⟩
    obtain ⟨c, q⟩ := outS_get q1 (fun z => nomatch z)
    refine k5 j es q ?_
    rw [p j c, start_at (by rw [← hl]; exact lent_lt c)]
    exact q2
/-- a body's reading at the entry, from the promise -/
theorem body_ok {N : List Str} {body : (Nat → Bool) → FS → Res SO} {Q : VK} {E : XK} (hn : vs.length ≤ N.length) (S : SR T Z F ss (vs.map some) H) (h : match defS N.length body ss with
  | .ok r ss' => ∀ v Z' H', Ext Z F H Z' H' → SR T Z' F ss' (vs.map some) H' → RepV T Z' F ss' (vs.map some) H' v r → Q v H'
  | .ex x ss' => ∀ cls dx Z' H', Ext Z F H Z' H' → SR T Z' F ss' (vs.map some) H' → ExR T Z' H' x cls dx → E cls dx H'
  | .no => False) : tS T (fun cls d _ H => E cls d H) (lent ss) (body (lent ss)) { nx := fun _ H' => Q .non H', rt := Q } (L2.start N vs) H := by
  have hl : ss.length = vs.length := by rw [S.len, List.length_map]
  refine ⟨Z, F, _, S.entry hn, ?_⟩
  unfold defS at h
  cases q : body (lent ss) (ss ++ List.replicate (N.length - ss.length) .un) with
  | no => rw [q] at h; exact h.elim
  | ex x τ' =>
    rw [q] at h
    exact fun c dx σ' Z' H' p e S' k => h c dx Z' H' e (S'.leave hl p) k
  | ok f τ' =>
    rw [q] at h
    cases f with
    | nx => exact fun σ' Z' H' p e S' => h .non Z' H' e (S'.leave hl p) rfl
    | bk => exact h.elim
    | ct => exact h.elim
    | rt r =>
      cases r with
      | sl i => exact h.elim
      | val d => exact fun v σ' Z' H' p e S' R => h v Z' H' e (S'.leave hl p) (R.leave hl p fun _ z => nomatch z)
      | fr ds => exact fun v σ' Z' H' p e S' R => h v Z' H' e (S'.leave hl p) (R.leave hl p fun _ z => nomatch z)

/-! ### the arguments handed over -/
/-- what the callee may not touch: the caller's frame, its own lists that are not lent -/
def keptOwn (F : AP') (τ : FS) (σ : L2.St) (rs : List RV) (a : Addr) : Prop := F a ∨ ∃ (i : Nat) (ds : List D), τ[i]? = some (Sl.ow ds) ∧ σ[i]? = some (some (V.ref a)) ∧ RV.sl i ∉ rs
theorem isOw_iff {i : Nat} : isOw i τ = true ↔ ∃ ds, τ[i]? = some (Sl.ow ds) := by
  unfold isOw
  cases q : τ[i]? with
  | none => simp
  | some s => cases s <;> simp
theorem mem_lentBy {i : Nat} : ∀ {rs : List RV}, RV.sl i ∈ rs → isOw i τ = true → i ∈ lentBy τ rs
  | .sl j :: rs, h, ho => by
    unfold lentBy
    rcases List.mem_cons.mp h with e | h
    · cases e
      rw [if_pos ho]
      exact List.mem_cons_self
    · split
      · exact List.mem_cons_of_mem _ (mem_lentBy h ho)
      · exact mem_lentBy h ho
  | .val d :: rs, h, ho => by
    rcases List.mem_cons.mp h with e | h
    · cases e
    · exact mem_lentBy (rs := rs) h ho
  | .fr d :: rs, h, ho => by
    rcases List.mem_cons.mp h with e | h
    · cases e
    · exact mem_lentBy (rs := rs) h ho
theorem RepVs.len : ∀ {F : AP'} {vs : List V} {rs : List RV}, RepVs T Z τ σ H F vs rs → vs.length = rs.length
  | _, [], [], _ => rfl
  | _, v :: vs, r :: rs, h => by rw [List.length_cons, List.length_cons, RepVs.len h.2]
  | _, [], _ :: _, h => h.elim
  | _, _ :: _, [], h => h.elim
/-- each argument by itself; and that two of them that are own lists are not one -/
theorem RepVs.at : ∀ {F : AP'} {vs : List V} {rs : List RV} {j : Nat} {r : RV}, RepVs T Z τ σ H F vs rs → rs[j]? = some r → ∃ v, vs[j]? = some v ∧ RepV T Z F τ σ H v r
  | F, v :: vs, r :: rs, 0, r', h, e => by
    simp at e
    subst e
    exact ⟨v, rfl, h.1⟩
  | F, v :: vs, r :: rs, j + 1, r', h, e => by
    obtain ⟨u, e1, k⟩ := RepVs.at h.2 (show rs[j]? = some r' by simpa using e)
    exact ⟨u, by simpa using e1, k.wide fun _ => .inl⟩
  | _, [], [], _, _, _, e => by simp at e
  | _, [], _ :: _, _, _, h, _ => h.elim
  | _, _ :: _, [], _, _, h, _ => h.elim
theorem RepVs.two : ∀ {F : AP'} {vs : List V} {rs : List RV} {j k : Nat} {ds es : List D} {a : Addr}, RepVs T Z τ σ H F vs rs → rs[j]? = some (.fr ds) → rs[k]? = some (.fr es) → vs[j]? = some (.ref a) → vs[k]? = some (.ref a) → j = k
  | F, v :: vs, r :: rs, 0, 0, _, _, _, _, _, _, _, _ => rfl
  | F, v :: vs, r :: rs, 0, k + 1, ds, es, a, h, e1, e2, e3, e4 => by
    simp at e1 e3
    subst e1 e3
    obtain ⟨u, e5, b, us, e6, _, _, _, k4, _⟩ := RepVs.at h.2 (show rs[k]? = some (.fr es) by simpa using e2)
    rw [show vs[k]? = some (.ref a) by simpa using e4] at e5
    cases e5
    cases e6
    exact absurd (.inr ⟨⟨ds, rfl⟩, rfl⟩) k4
  | F, v :: vs, r :: rs, j + 1, 0, ds, es, a, h, e1, e2, e3, e4 => by
    simp at e2 e4
    subst e2 e4
    obtain ⟨u, e5, b, us, e6, _, _, _, k4, _⟩ := RepVs.at h.2 (show rs[j]? = some (.fr ds) by simpa using e1)
    rw [show vs[j]? = some (.ref a) by simpa using e3] at e5
    cases e5
    cases e6
    exact absurd (.inr ⟨⟨es, rfl⟩, rfl⟩) k4
  | F, v :: vs, r :: rs, j + 1, k + 1, ds, es, a, h, e1, e2, e3, e4 => by
    rw [RepVs.two h.2 (j := j) (k := k) (by simpa using e1) (by simpa using e2) (by simpa using e3) (by simpa using e4)]
  | _, [], [], _, _, _, _, _, _, e, _, _, _ => by simp at e
  | _, [], _ :: _, _, _, _, _, _, h, _, _, _, _ => h.elim
  | _, _ :: _, [], _, _, _, _, _, h, _, _, _, _ => h.elim
theorem mapM_at {α β : Type} {f : α → Option β} : ∀ {xs : List α} {ys : List β}, xs.mapM f = some ys → ys.length = xs.length ∧ ∀ (j : Nat) (y : β), ys[j]? = some y → ∃ x, xs[j]? = some x ∧ f x = some y
  | [], ys, h => by
    cases h
    exact ⟨rfl, fun j y e => by simp at e⟩
  | x :: xs, ys, h => by
    rw [List.mapM_cons] at h
    cases q : f x with
    | none => rw [q] at h; cases h
    | some y =>
      rw [q] at h
      cases q2 : xs.mapM f with
      | none => rw [q2] at h; cases h
      | some ys' =>
        rw [q2] at h
        cases h
        obtain ⟨l, k⟩ := mapM_at q2
        refine ⟨by simp [l], fun j z e => ?_⟩
        cases j with
        | zero => simp at e; subst e; exact ⟨x, rfl, q⟩
        | succ j => obtain ⟨u, e1, e2⟩ := k j z (by simpa using e); exact ⟨u, by simpa using e1, e2⟩
/-- two lent slots are told by two places -/
theorem lent_two : ∀ {rs : List RV} {j k i : Nat}, (lentBy τ rs).Nodup → isOw i τ = true → rs[j]? = some (.sl i) → rs[k]? = some (.sl i) → j = k
  | r :: rs, 0, 0, _, _, _, _, _ => rfl
  | r :: rs, 0, k + 1, i, nd, ho, e1, e2 => by
    simp at e1
    subst e1
    unfold lentBy at nd
    rw [if_pos ho] at nd
    exact absurd (mem_lentBy (List.mem_of_getElem? (show rs[k]? = some (.sl i) by simpa using e2)) ho) (List.nodup_cons.mp nd).1
  | r :: rs, j + 1, 0, i, nd, ho, e1, e2 => by
    simp at e2
    subst e2
    unfold lentBy at nd
    rw [if_pos ho] at nd
    exact absurd (mem_lentBy (List.mem_of_getElem? (show rs[j]? = some (.sl i) by simpa using e1)) ho) (List.nodup_cons.mp nd).1
  | r :: rs, j + 1, k + 1, i, nd, ho, e1, e2 => by
    have nd' : (lentBy τ rs).Nodup := by
      cases r with
      | val d => exact nd
      | fr d => exact nd
      | sl l =>
        unfold lentBy at nd
        split at nd
        · exact (List.nodup_cons.mp nd).2
        · exact nd
    rw [lent_two nd' ho (j := j) (k := k) (by simpa using e1) (by simpa using e2)]
  | [], _, _, _, _, _, e, _ => by simp at e
theorem passR_cases {s : Sl} (h : passR τ r = some s) : (∃ d, s = .fz d ∧ (r = .val d ∨ ∃ i, r = .sl i ∧ τ[i]? = some (Sl.fz d))) ∨ (∃ ds, s = .ow ds ∧ (r = .fr ds ∨ ∃ i, r = .sl i ∧ τ[i]? = some (Sl.ow ds))) := by
  cases r with
  | val d => cases h; exact .inl ⟨d, rfl, .inl rfl⟩
  | fr ds => cases h; exact .inr ⟨ds, rfl, .inl rfl⟩
  | sl i =>
    have h : (match τ[i]? with
      | some (Sl.fz d) => some (Sl.fz d)
      | some (Sl.ow ds) => some (Sl.ow ds)
      | _ => none) = some s := h
    cases q : τ[i]? with
    | none => rw [q] at h; cases h
    | some t =>
      rw [q] at h
      cases t with
      | un => cases h
      | fz d => cases h; exact .inl ⟨d, rfl, .inr ⟨i, rfl, q⟩⟩
      | ow ds => cases h; exact .inr ⟨ds, rfl, .inr ⟨i, rfl, q⟩⟩
theorem SR.pass (S : SR T Z F τ σ H) (R : RepVs T Z τ σ H F vs rs) (nd : (lentBy τ rs).Nodup) (hp : rs.mapM (passR τ) = some ss) : SR T Z (keptOwn F τ σ rs) ss (vs.map some) H := by
  obtain ⟨hl, hget⟩ := mapM_at hp
  have lv := R.len
  have valAt : ∀ (j : Nat) (s : Sl), ss[j]? = some s → ∃ r v, rs[j]? = some r ∧ passR τ r = some s ∧ vs[j]? = some v ∧ (vs.map some)[j]? = some (some v) ∧ RepV T Z F τ σ H v r := fun j s e => by
    obtain ⟨r, e1, e2⟩ := hget j s e
    obtain ⟨v, e3, k⟩ := R.at e1
    exact ⟨r, v, e1, e2, e3, by rw [List.getElem?_map, e3]; rfl, k⟩
  refine ⟨S.zt, fun a z => ?_, fun a z q => ?_, by rw [hl, List.length_map, lv], fun j d e => ?_, fun j ds e => ?_, fun j k ds es a e1 e2 e3 e4 => ?_⟩
  · rcases z with z | ⟨i, ds, e1, e2, _⟩
    · exact S.ft a z
    · obtain ⟨b, us, h1, h2, _⟩ := S.ow i ds e1
      rw [e2] at h1
      cases h1
      rw [h2]
      exact fun z => nomatch z
  · rcases q with q | ⟨i, ds, e1, e2, _⟩
    · exact S.zf a z q
    · obtain ⟨b, us, h1, _, _, h4, _⟩ := S.ow i ds e1
      rw [e2] at h1
      cases h1
      exact h4 z
  · obtain ⟨r, v, e1, e2, e3, e4, k⟩ := valAt j _ e
    refine ⟨v, e4, ?_⟩
    rcases passR_cases e2 with ⟨d', q, h⟩ | ⟨ds, q, _⟩
    · cases q
      rcases h with rfl | ⟨i, rfl, q⟩
      · exact k
      · obtain ⟨u, h1, h2⟩ := S.fz i d q
        rw [show σ[i]? = some (some v) from k] at h1
        cases h1
        exact h2
    · cases q
  · obtain ⟨r, v, e1, e2, e3, e4, k⟩ := valAt j _ e
    rcases passR_cases e2 with ⟨d', q, _⟩ | ⟨ds', q, h⟩
    · cases q
    · cases q
      rcases h with rfl | ⟨i, rfl, q⟩
      · obtain ⟨a, us, rfl, k1, k2, k3, k4, k5⟩ := k
        refine ⟨a, us, e4, k1, k2, k3, fun z => ?_⟩
        rcases z with z | ⟨i, fs, q1, q2, _⟩
        · exact k4 z
        · exact k5 i fs q1 q2
      · obtain ⟨a, us, h1, h2, h3, h4, h5⟩ := S.ow i ds q
        rw [show σ[i]? = some (some v) from k] at h1
        cases h1
        refine ⟨a, us, e4, h2, h3, h4, fun z => ?_⟩
        rcases z with z | ⟨i', fs, q1, q2, q3⟩
        · exact h5 z
        · have := S.ap i i' ds fs a q q1 k q2
          subst this
          exact q3 (List.mem_of_getElem? e1)
  · obtain ⟨r1, v1, a1, a2, a3, a4, b1⟩ := valAt j _ e1
    obtain ⟨r2, v2, c1, c2, c3, c4, b2⟩ := valAt k _ e2
    rw [a4] at e3
    rw [c4] at e4
    cases e3
    cases e4
    rcases passR_cases a2 with ⟨_, q, _⟩ | ⟨ds', q, h⟩
    · cases q
    cases q
    rcases passR_cases c2 with ⟨_, q, _⟩ | ⟨es', q, h'⟩
    · cases q
    cases q
    rcases h with rfl | ⟨i, rfl, q⟩ <;> rcases h' with rfl | ⟨i', rfl, q'⟩
    · exact R.two a1 c1 a3 c3
    · obtain ⟨b, us, e, _, _, _, _, k5⟩ := b1
      cases e
      exact absurd b2 (k5 i' es q')
    · obtain ⟨b, us, e, _, _, _, _, k5⟩ := b2
      cases e
      exact absurd b1 (k5 i ds q)
    · have := S.ap i i' ds es a q q' b1 b2
      subst this
      exact lent_two nd (isOw_iff.mpr ⟨ds, q⟩) a1 c1
theorem wb_len : ∀ {rs : List RV} {ss : List Sl} {τ : FS}, (wb τ0 rs ss τ).length = τ.length
  | [], _, _ => rfl
  | .val d :: rs, [], _ => rfl
  | .fr d :: rs, [], _ => rfl
  | .sl d :: rs, [], _ => rfl
  | .val d :: rs, s :: ss, τ => wb_len (rs := rs) (ss := ss)
  | .fr d :: rs, s :: ss, τ => wb_len (rs := rs) (ss := ss)
  | .sl i :: rs, s :: ss, τ => by
    show (wb τ0 rs ss (if isOw i τ0 then τ.set i s else τ)).length = _
    rw [wb_len]
    split
    · rw [List.length_set]
    · rfl
/-- a slot behind the call: as it was, or what came back -/
theorem wb_get {i : Nat} {s : Sl} : ∀ {rs : List RV} {ss : List Sl} {τ : FS}, ss.length = rs.length → i < τ.length → (wb τ0 rs ss τ)[i]? = some s →
    ((RV.sl i ∉ rs ∨ isOw i τ0 = false) ∧ τ[i]? = some s) ∨ (isOw i τ0 = true ∧ ∃ j : Nat, rs[j]? = some (RV.sl i) ∧ ss[j]? = some s)
  | [], _, τ, _, _, h => .inl ⟨.inl (by simp), h⟩
  | .val d :: rs, s' :: ss, τ, hl, hi, h => by
    rcases wb_get (rs := rs) (ss := ss) (by simpa using hl) hi h with ⟨q, e⟩ | ⟨o, j, e1, e2⟩
    · exact .inl ⟨q.imp (fun z m => by rcases List.mem_cons.mp m with e | m; cases e; exact z m) id, e⟩
    · exact .inr ⟨o, j + 1, by simpa using e1, by simpa using e2⟩
  | .fr d :: rs, s' :: ss, τ, hl, hi, h => by
    rcases wb_get (rs := rs) (ss := ss) (by simpa using hl) hi h with ⟨q, e⟩ | ⟨o, j, e1, e2⟩
    · exact .inl ⟨q.imp (fun z m => by rcases List.mem_cons.mp m with e | m; cases e; exact z m) id, e⟩
    · exact .inr ⟨o, j + 1, by simpa using e1, by simpa using e2⟩
  | .sl k :: rs, s' :: ss, τ, hl, hi, h => by
    have h : (wb τ0 rs ss (if isOw k τ0 then τ.set k s' else τ))[i]? = some s := h
    rcases wb_get (rs := rs) (ss := ss) (by simpa using hl) (by split <;> simp [hi]) h with ⟨q, e⟩ | ⟨o, j, e1, e2⟩
    · by_cases hk : k = i
      · subst hk
        cases c : isOw k τ0 with
        | true =>
          rw [c] at e
          rw [if_pos rfl, List.getElem?_set_self hi] at e
          exact .inr ⟨rfl, 0, rfl, by simpa using e⟩
        | false =>
          rw [c] at e
          exact .inl ⟨.inr rfl, by simpa using e⟩
      · have e' : τ[i]? = some s := by
          split at e
          · rw [List.getElem?_set_ne hk] at e; exact e
          · exact e
        refine .inl ⟨q.imp (fun z m => ?_) id, e'⟩
        rcases List.mem_cons.mp m with e | m
        · cases e; exact hk rfl
        · exact z m
    · exact .inr ⟨o, j + 1, by simpa using e1, by simpa using e2⟩
  | .val _ :: _, [], _, hl, _, _ => by simp at hl
  | .fr _ :: _, [], _, hl, _, _ => by simp at hl
  | .sl _ :: _, [], _, hl, _, _ => by simp at hl
theorem SR.back (S : SR T Z F τ σ H) (R : RepVs T Z τ σ H F vs rs) (nd : (lentBy τ rs).Nodup) (hl : ss'.length = rs.length) (e : Ext Z (keptOwn F τ σ rs) H Z' H') (S' : SR T Z' (keptOwn F τ σ rs) ss' (vs.map some) H') : SR T Z' F (wb τ rs ss' τ) σ H' := by
  have lv := R.len
  have lt : ∀ {i : Nat} {s : Sl}, (wb τ rs ss' τ)[i]? = some s → i < τ.length := fun {i s} h => by
    have := (List.getElem?_eq_some_iff.mp h).1
    rw [wb_len] at this
    exact this
  have val : ∀ {i j : Nat}, rs[j]? = some (.sl i) → ∀ x, (vs.map some)[j]? = some x → σ[i]? = some x := fun {i j} h x hx => by
    obtain ⟨v, e3, k⟩ := R.at h
    rw [List.getElem?_map, e3] at hx
    cases hx
    exact k
  have kept : ∀ {i : Nat} {ds : List D} {a : Addr}, τ[i]? = some (Sl.ow ds) → σ[i]? = some (some (V.ref a)) → (RV.sl i ∉ rs ∨ isOw i τ = false) → keptOwn F τ σ rs a := fun {i ds a} h1 h2 h3 => by
    rcases h3 with h3 | h3
    · exact .inr ⟨i, ds, h1, h2, h3⟩
    · rw [isOw_iff.mpr ⟨ds, h1⟩] at h3; cases h3
  refine ⟨S'.zt, fun a z => S'.ft a (.inl z), fun a z q => S'.zf a z (.inl q), by rw [wb_len]; exact S.len, fun i d q => ?_, fun i ds q => ?_, fun i j ds es a q1 q2 q3 q4 => ?_⟩
  · rcases wb_get hl (lt q) q with ⟨_, q⟩ | ⟨_, j, e1, e2⟩
    · obtain ⟨v, h1, h2⟩ := S.fz i d q
      exact ⟨v, h1, Rep.ext e h2⟩
    · obtain ⟨v, h1, h2⟩ := S'.fz j d e2
      exact ⟨v, val e1 _ h1, h2⟩
  · rcases wb_get hl (lt q) q with ⟨n, q⟩ | ⟨_, j, e1, e2⟩
    · obtain ⟨a, us, h1, h2, h3, h4, h5⟩ := S.ow i ds q
      have kp := kept q h1 n
      exact ⟨a, us, h1, e.keep a _ (.inr kp) h2, RepL.ext e h3, fun z => S'.zf a z kp, h5⟩
    · obtain ⟨a, us, h1, h2, h3, h4, h5⟩ := S'.ow j ds e2
      exact ⟨a, us, val e1 _ h1, h2, h3, h4, fun z => h5 (.inl z)⟩
  · rcases wb_get hl (lt q1) q1 with ⟨n1, q1⟩ | ⟨o1, j1, a1, b1⟩ <;> rcases wb_get hl (lt q2) q2 with ⟨n2, q2⟩ | ⟨o2, j2, a2, b2⟩
    · exact S.ap i j ds es a q1 q2 q3 q4
    · obtain ⟨b, us, h1, _, _, _, h5⟩ := S'.ow j2 es b2
      have := val a2 _ h1
      rw [q4] at this
      cases this
      exact absurd (kept q1 q3 n1) h5
    · obtain ⟨b, us, h1, _, _, _, h5⟩ := S'.ow j1 ds b1
      have := val a1 _ h1
      rw [q3] at this
      cases this
      exact absurd (kept q2 q4 n2) h5
    · obtain ⟨c1, us, h1, _⟩ := S'.ow j1 ds b1
      obtain ⟨c2, us2, h2, _⟩ := S'.ow j2 es b2
      have z1 := val a1 _ h1
      have z2 := val a2 _ h2
      rw [q3] at z1
      rw [q4] at z2
      cases z1
      cases z2
      have := S'.ap j1 j2 ds es a b1 b2 h1 h2
      subst this
      rw [a1] at a2
      cases a2
      rfl
theorem RepV.back (S : SR T Z F τ σ H) (R : RepVs T Z τ σ H F vs rs) (hl : ss'.length = rs.length) (hr : ∀ i, r ≠ .sl i) (k : RepV T Z' (keptOwn F τ σ rs) ss' (vs.map some) H' v r) : RepV T Z' F (wb τ rs ss' τ) σ H' v r := by
  cases r with
  | val d => exact k
  | sl i => exact absurd rfl (hr i)
  | fr ds =>
    obtain ⟨a, us, e, k1, k2, k3, k4, k5⟩ := k
    refine ⟨a, us, e, k1, k2, k3, fun z => k4 (.inl z), fun i es q1 q2 => ?_⟩
    have hi : i < τ.length := by
      have := (List.getElem?_eq_some_iff.mp q1).1
      rw [wb_len] at this
      exact this
    rcases wb_get hl hi q1 with ⟨n, q⟩ | ⟨_, j, e1, e2⟩
    · rcases n with n | n
      · exact k4 (.inr ⟨i, es, q, q2, n⟩)
      · rw [isOw_iff.mpr ⟨es, q⟩] at n; cases n
    · obtain ⟨u, e3, kk⟩ := R.at e1
      refine k5 j es e2 ?_
      rw [List.getElem?_map, e3]
      rw [show σ[i]? = some (some u) from kk] at q2
      cases q2
      rfl
/-- a call, from the promise -/
def noSl (f : List Sl → Res RV) : Prop := ∀ ss i ss', f ss ≠ .ok (.sl i) ss'
theorem call_sp {f : List Sl → Res RV} {np : Nat} {Q : VK} (nf : noSl f) (hn : rs.length = np) (S : SR T Z F τ σ H) (R : RepVs T Z τ σ H F vs rs) (h : PostR T W (relE T) Z F H σ (callR f rs τ) Q) : spD T np f vs H Q (WE W σ) := by
  unfold callR at h
  by_cases nd : (lentBy τ rs).Nodup
  case neg => rw [if_neg nd] at h; exact h.elim
  rw [if_pos nd] at h
  cases q : rs.mapM (passR τ) with
  | none => rw [q] at h; exact h.elim
  | some ss =>
    rw [q] at h
    have hl := (mapM_at q).1
    refine ⟨R.len.trans hn, Z, _, ss, S.pass R nd q, ?_⟩
    dsimp only at h
    cases q2 : f ss with
    | no => rw [q2] at h; exact h.elim
    | ok r ss' =>
      rw [q2] at h
      dsimp only at h
      by_cases h3 : ss'.length = ss.length
      · rw [if_pos h3] at h
        exact fun v Z' H' e S' k => h v Z' H' (e.narrow fun _ => .inl) (S.back R nd (h3.trans hl) e S') (k.back S R (h3.trans hl) fun i z => nf ss i ss' (by rw [q2, z]))
      · rw [if_neg h3] at h; exact h.elim
    | ex x ss' =>
      rw [q2] at h
      dsimp only at h
      by_cases h3 : ss'.length = ss.length
      · rw [if_pos h3] at h
        exact fun c dx Z' H' e S' k => h c dx Z' H' (e.narrow fun _ => .inl) (S.back R nd (h3.trans hl) e S') k
      · rw [if_neg h3] at h; exact h.elim
theorem defS_noSl {n : Nat} {body : (Nat → Bool) → FS → Res SO} : noSl (defS n body) := fun ss i ss' h => by
  unfold defS at h
  split at h <;> cases h
end
end Dv

set_option Elab.async false
set_option linter.all false
set_option maxRecDepth 100000
set_option maxHeartbeats 2000000
/-! Dv11: the rule for calls, of a global or of what a slot holds, with keywords. -/
namespace Dv
open PySem PySem.Spec PyProof.Rows L2
/-- new lists among several -/
def frsOf : List RV → List V → AP'
  | r :: rs, v :: vs => fun a => frOf r v a ∨ frsOf rs vs a
  | _, _ => fun _ => False
section
variable {T : Tx} {X : Cx} {W : WX} {P : Nat → Bool} {Z Z' Z1 Z2 F F' F1 : AP'} {H H' H1 H2 : Hp} {d : D} {ds es : List D} {v w : V} {vs ws xs ys : List V} {τ τ0 τ' τ1 τ2 : FS} {σ σ' σ1 : L2.St} {r r2 : RV} {rs ks : List RV} {a b : Addr} {ss ss' : List Sl}
theorem SR.addFs : ∀ {rs : List RV} {vs : List V} {F : AP'}, SR T Z F τ σ H → RepVs T Z τ σ H F vs rs → SR T Z (fun a => F a ∨ frsOf rs vs a) τ σ H
  | [], [], F, S, _ => S.wide fun a z => z.elim id False.elim
  | r :: rs, v :: vs, F, S, h => (SR.addFs (S.addF h.1) h.2).wide fun a z => by
    rcases z with z | z | z
    · exact .inl (.inl z)
    · exact .inl (.inr z)
    · exact .inr z
  | [], _ :: _, _, _, h => h.elim
  | _ :: _, [], _, _, h => h.elim
theorem RepVs.carryL : ∀ {rs : List RV} {vs : List V} {F : AP'}, RepVs T Z1 τ1 σ H1 F vs rs → Ext Z1 (fun a => F a ∨ frsOf rs vs a) H1 Z2 H2 → SR T Z2 (fun a => F a ∨ frsOf rs vs a) τ2 σ H2 → RepVs T Z2 τ2 σ H2 F vs rs
  | [], [], F, h, _, _ => trivial
  | r :: rs, v :: vs, F, h, e, S => by
    refine ⟨h.1.carry (e.narrow fun a z => ?_) (S.wide fun a z => ?_), RepVs.carryL h.2 (e.narrow fun a z => ?_) (S.wide fun a z => ?_)⟩
    · exact z.imp id .inl
    · exact z.imp id .inl
    · rcases z with (z | z) | z
      · exact .inl z
      · exact .inr (.inl z)
      · exact .inr (.inr z)
    · rcases z with (z | z) | z
      · exact .inl z
      · exact .inr (.inl z)
      · exact .inr (.inr z)
  | [], _ :: _, _, h, _, _ => h.elim
  | _ :: _, [], _, h, _, _ => h.elim
theorem RepVs.wide : ∀ {rs : List RV} {vs : List V} {F F1 : AP'}, (∀ a, F a → F1 a) → RepVs T Z τ σ H F1 vs rs → RepVs T Z τ σ H F vs rs
  | [], [], _, _, _, h => trivial
  | r :: rs, v :: vs, F, F1, k, h => ⟨h.1.wide k, RepVs.wide (fun a z => z.imp (k a) id) h.2⟩
  | [], _ :: _, _, _, _, h => h.elim
  | _ :: _, [], _, _, _, h => h.elim
theorem RepVs.app : ∀ {rs : List RV} {vs : List V} {F : AP'}, RepVs T Z τ σ H F vs rs → RepVs T Z τ σ H (fun a => F a ∨ frsOf rs vs a) ws ks → RepVs T Z τ σ H F (vs ++ ws) (rs ++ ks)
  | [], [], F, _, k => k.wide fun a z => .inl z
  | r :: rs, v :: vs, F, h, k => ⟨h.1, RepVs.app h.2 (k.wide fun a z => by
      rcases z with (z | z) | z
      · exact .inl z
      · exact .inr (.inl z)
      · exact .inr (.inr z))⟩
  | [], _ :: _, _, h, _ => h.elim
  | _ :: _, [], _, h, _ => h.elim
end
/-- a def at a level: its promise, how it is bound -/
structure FnK (P : Program) (w : World) (K : PySem.W.Frag) (mg : Str → Option Value) (base : Heap) (lev : Nat) (f : Addr) (ps : List Str) (kn : List Nat) (sp : Sp) : Prop where
  ex : ∃ fd : FuncData, FnOk P w K mg base (L2.CX P w) lev f fd ps sp ∧ ∀ n : Nat, (n = ps.length ∨ n ∈ kn) → ∀ (s : Shared) (us ws : List Value), us.length = n → ws.length + n = ps.length → BindsTo s fd ⟨us, (ps.drop n).zip ws⟩ (ps.zip (us ++ ws))
  kp : PySem.W.keepIn K (.ref f) = true
theorem FnK.mono {P : Program} {w : World} {K : PySem.W.Frag} {mg : Str → Option Value} {base : Heap} {j k : Nat} {f : Addr} {ps : List Str} {kn : List Nat} {sp : Sp} (F : FnK P w K mg base j f ps kn sp) (h : j ≤ k) : FnK P w K mg base k f ps kn sp := by
  obtain ⟨⟨fd, h1, h2⟩, h3⟩ := F
  exact ⟨⟨fd, h1.mono h, h2⟩, h3⟩
/-- the names of a call's keywords -/
def kwNames : List Keyword → Option (List Str)
  | [] => some []
  | ⟨some x, _, _⟩ :: r => (kwNames r).map (x :: ·)
  | _ => none
theorem kwNames_ok {pos : Pos} {env : Env} : ∀ {kws : List Keyword} {ks : List Str}, kwNames kws = some ks → (backToKw pos (keywordEach kws env)).all (·.1.isSome) = true ∧ (backToKw pos (keywordEach kws env)).filterMap (·.1) = ks ∧ (backToKw pos (keywordEach kws env)).any (·.1.isNone) = false
  | [], ks, h => by
    cases h
    exact ⟨rfl, rfl, rfl⟩
  | ⟨some x, e, p⟩ :: r, ks, h => by
    have h : (kwNames r).map (x :: ·) = some ks := h
    cases q : kwNames r with
    | none => rw [q] at h; cases h
    | some l =>
      rw [q] at h
      cases h
      obtain ⟨h1, h2, h3⟩ := kwNames_ok (pos := pos) (env := env) q
      refine ⟨?_, ?_, ?_⟩
      · show (true && (backToKw pos (keywordEach r env)).all (·.1.isSome)) = true
        rw [h1]; rfl
      · show x :: (backToKw pos (keywordEach r env)).filterMap (·.1) = _
        rw [h2]
      · show (false || (backToKw pos (keywordEach r env)).any (·.1.isNone)) = false
        rw [h3]; rfl
  | ⟨none, e, p⟩ :: r, ks, h => nomatch h
/-- no star among the arguments -/
def noStar : Expr → Bool
  | .Starred _ _ => false
  | _ => true
theorem noStar_ok {e : Expr} (h : noStar e = true) (es : List Expr) (env : Env) : starEach (e :: es) env = (false, eval e env) :: starEach es env := by
  cases e <;> first | rfl | cases h
theorem noStars_any {pos : Pos} {env : Env} : ∀ {es : List Expr}, es.all noStar = true → (backTo pos (starEach es env)).any (·.1) = false
  | [], _ => rfl
  | e :: es, h => by
    have h : (noStar e && es.all noStar) = true := h
    obtain ⟨h1, h2⟩ := Bool.and_eq_true_iff.mp h
    rw [noStar_ok h1]
    show (false || (backTo pos (starEach es env)).any (·.1)) = false
    rw [noStars_any h2]; rfl
/-- what a def's number tells: its parameters, how many positional ones a call with keywords may have -/
abbrev FTab := Nat → Option (List Str × List Nat)
def bindOk (p : List Str × List Nat) (n m : Nat) (ks : List Str) : Bool := match ks with
  | [] => p.1.length == n && m == 0
  | _ => decide (n ∈ p.2) && decide (p.1.drop n = ks) && m + n == p.1.length
def evCallF (tb : FTab) (Φ : Nat → List Sl → Res RV) (ks : List Str) (fe : FS → Res RV) (fs fk : FS → Res (List RV)) (τ : FS) : Res RV := bindR (fe τ) fun rf τ1 => match look τ1 rf with
  | some (.fn k) => (match tb k with
    | some p => bindR (fs τ1) fun rs τ2 => bindR (fk τ2) fun rk τ3 => if bindOk p rs.length rk.length ks = true then callR (Φ k) (rs ++ rk) τ3 else .no
    | none => .no)
  | _ => .no
section
variable {T : Tx} {X : Cx} {W : WX} {P : Nat → Bool} {tb : FTab} {Φ : Nat → List Sl → Res RV} {lev : Nat}
theorem run_fnK {pins : List (Addr × Obj)} {σ : L2.St} {H : Hp} {s : Shared} {Q : VK} {us wvs : List Value} {vs zs : List V} {f : Addr} {ps : List Str} {kn : List Nat} {sp : Sp} {n : Nat} {E : L2.St → XK} (F : FnK X.prog X.w X.K X.mg X.base lev f ps kn sp) (hr : Room lev X.A) (hx : PassesAt (L2.CX X.prog X.w) X σ (E σ))
    (hn : n = ps.length ∨ n ∈ kn) (I : Inv X pins σ H s) (r : Vals vs us) (rz : Vals zs wvs) (l1 : vs.length = n) (l2 : zs.length + n = ps.length) (h : sp (vs ++ zs) H Q (E σ)) : wpAny (model X.prog X.w) X.A (call (.ref f) us ((ps.drop n).zip wvs)) (EP X pins σ Q) X.xe s := by
  obtain ⟨⟨fd, F, B⟩, _⟩ := F
  have b := B n hn s us wvs (r.length.symm.trans l1) (by rw [← rz.length]; exact l2)
  refine wpAny_call (codeAny_mono (F.run X.A X.stack s H ⟨us, (ps.drop n).zip wvs⟩ (us ++ wvs) (vs ++ zs) Q (E σ) hr I.env0 b (r.append rz) h) fun r s' hq => ?_)
  cases r with
  | error e => exact hx pins H s e s' I hq
  | ok fl =>
    cases fl with
    | ret u => exact I.after hq
    | next => exact False.elim hq
    | brk => exact False.elim hq
    | cont => exact False.elim hq
/-- every def of the table keeps its promise -/
def FnsOk (T : Tx) (X : Cx) (tb : FTab) (Φ : Nat → List Sl → Res RV) (lev : Nat) : Prop := ∀ (k : Nat) (p : List Str × List Nat), tb k = some p → FnK X.prog X.w X.K X.mg X.base lev (T.fa k) p.1 p.2 (spD T p.1.length (Φ k))
theorem PK.mono {kws : List Keyword} {t t' : TA} (h : PK X kws t) (k : ∀ σ H Q, t' σ H Q → t σ H Q) : PK X kws t' := ⟨fun pos pins s σ H Q I hw => h.run pos pins s σ H Q I (k σ H Q hw)⟩
theorem k_nil : PK X [] (tWA T W evNil) := PK.mono pk_nil fun σ H Q ⟨Z, F, τ, S, h⟩ => h [] Z H Ext.refl S trivial
theorem k_cons {nm : Option Str} {e : Expr} {kp : Pos} {kws : List Keyword} {fa : FS → Res RV} {fs : FS → Res (List RV)} (ha : PE X e (tW T W fa)) (hr : PK X kws (tWA T W fs)) : PK X (⟨nm, e, kp⟩ :: kws) (tWA T W (evCons fa fs)) := by
  refine PK.mono (pk_cons ha hr) fun σ H Q ⟨Z, F, τ, S, h⟩ => ?_
  refine bind1 S h fun x ra τ1 Z1 H1 E1 S1 R1 h1 => ?_
  refine bindF (S1.addF R1) (fun _ => .inl) h1 fun ys rs τ2 Z2 H2 E2 S2 R2 h2 => ?_
  exact h2 (x :: ys) Z2 H2 Ext.refl (S2.wide fun _ => .inl) ⟨R1.carry E2 S2, R2⟩
theorem bindOk_ok {p : List Str × List Nat} {n m : Nat} {ks : List Str} (h : bindOk p n m ks = true) : (n = p.1.length ∨ n ∈ p.2) ∧ p.1.drop n = ks ∧ m + n = p.1.length := by
  unfold bindOk at h
  cases ks with
  | nil =>
    obtain ⟨h1, h2⟩ := Bool.and_eq_true_iff.mp h
    have h1 : p.1.length = n := by simpa using h1
    have h2 : m = 0 := by simpa using h2
    exact ⟨.inl h1.symm, by rw [← h1, List.drop_length], by omega⟩
  | cons k ks =>
    obtain ⟨h1, h2⟩ := Bool.and_eq_true_iff.mp h
    obtain ⟨h3, h4⟩ := Bool.and_eq_true_iff.mp h1
    exact ⟨.inr (of_decide_eq_true h3), of_decide_eq_true h4, by simpa using h2⟩
theorem r_callF {x : Str} {p pos : Pos} {es : List Expr} {kws : List Keyword} {ks : List Str} {fe : FS → Res RV} {fs fk : FS → Res (List RV)} (tk : Takes X W) (hr : Room lev X.A) (A : FnsOk T X tb Φ lev) (nf : ∀ k, noSl (Φ k))
    (he : PE X (.Name x p) (tW T W fe)) (ha : PA X es (tWA T W fs)) (hk : PK X kws (tWA T W fk)) (hks : kwNames kws = some ks) (hst : es.all noStar = true) (hnil : es = [] → fs = evNil) : PE X (.Call (.Name x p) es kws pos) (tW T W (evCallF tb Φ ks fe fs fk)) := by
  obtain ⟨k1, k2, k3⟩ := kwNames_ok (pos := pos) (env := X.env) hks
  refine ⟨fun pins s σ H Q I ⟨Z, F, τ, S, h⟩ => ?_⟩
  refine wpAny_Call_Name_kw (thn (he.run pins s σ H (fun v H1 => ∃ k p, v = .ref (T.fa k) ∧ tb k = some p ∧ tWA T W fs σ H1 fun vs H2 => tWA T W fk σ H2 fun zs H3 => (vs.length = p.1.length ∨ vs.length ∈ p.2) ∧ p.1.drop vs.length = ks ∧ zs.length + vs.length = p.1.length ∧ spD T p.1.length (Φ k) (vs ++ zs) H3 Q (WE W σ)) I ?_) fun u s1 ⟨v, H1, I1, r1, q1⟩ => ?_)
  · refine bind1 S h fun x rf τ1 Z1 H1 E1 S1 R1 h1 => ?_
    cases q : look τ1 rf with
    | none => rw [q] at h1; exact h1.elim
    | some d =>
      cases d with
      | fn k =>
        rw [q] at h1
        dsimp only at h1
        cases q2 : tb k with
        | none => rw [q2] at h1; exact h1.elim
        | some p =>
          rw [q2] at h1
          refine ⟨k, p, S1.sh R1 q, q2, ?_⟩
          refine bind1 S1 h1 fun vs rs τ2 Z2 H2 E2 S2 R2 h2 => ?_
          refine bindF (S2.addFs R2) (fun _ => .inl) h2 fun zs rk τ3 Z3 H3 E3 S3 R3 h3 => ?_
          by_cases hb : bindOk p rs.length rk.length ks = true
          case neg => rw [if_neg hb] at h3; exact h3.elim
          rw [if_pos hb] at h3
          obtain ⟨b1, b2, b3⟩ := bindOk_ok hb
          have e1 : vs.length = rs.length := R2.len
          have e2 : zs.length = rk.length := R3.len
          refine ⟨by rw [e1]; exact b1, by rw [e1]; exact b2, by rw [e1, e2]; exact b3, ?_⟩
          have R2' := R2.carryL E3 S3
          exact call_sp (nf k) (by rw [List.length_append]; omega) (S3.wide fun _ => .inl) (R2'.app R3) h3
      | _ => rw [q] at h1; exact h1.elim
  · obtain ⟨k, p, rfl, hp, q1⟩ := q1
    cases r1
    have hka : PySem.W.keepIn X.K (.ref (T.fa k)) = true := (A k p hp).kp
    have fin : ∀ {us : List Value} {vs : List V} {s2 : Shared} {H2 : Hp}, Inv X pins σ H2 s2 → Vals vs us → (tWA T W fk σ H2 fun zs H3 => (vs.length = p.1.length ∨ vs.length ∈ p.2) ∧ p.1.drop vs.length = ks ∧ zs.length + vs.length = p.1.length ∧ spD T p.1.length (Φ k) (vs ++ zs) H3 Q (WE W σ)) →
        wpAny (model X.prog X.w) X.A (evalAll ((backToKw pos (keywordEach kws X.env)).map (·.2))) (fun wv s₂ => X.K.In s₂.heap ∧ wpAny (model X.prog X.w) X.A (call (.ref (T.fa k)) ([] ++ us) (((backToKw pos (keywordEach kws X.env)).filterMap (·.1)).zip wv)) (EP X pins σ Q) X.xe s₂) X.xe s2 := by
      intro us vs s2 H2 I2 rv q2
      refine thn (hk.run pos pins s2 σ H2 _ I2 q2) fun wv s3 ⟨zs, H3, I3, rz, h2, h3, h4, h5⟩ => ⟨I3.kIn, ?_⟩
      rw [k2, ← h3]
      exact run_fnK (E := WE W) (A k p hp) hr (passAt tk σ) h2 I3 rv rz rfl h4 h5
    cases es with
    | nil =>
      refine PySem.W.callWith_KW0 (h₀ := X.base) I.ok.mod.kin hka k1 ?_ (by rw [k3]; rfl)
      rw [hnil rfl] at q1
      obtain ⟨Z1, F1, τ1, S1, h1⟩ := q1
      exact fin I1 .nil (h1 [] Z1 H1 Ext.refl S1 trivial)
    | cons e es =>
      have hst : (noStar e && es.all noStar) = true := hst
      obtain ⟨n1, n2⟩ := Bool.and_eq_true_iff.mp hst
      have hstar := noStar_ok n1 es X.env
      refine PySem.W.callWith_KW (h₀ := X.base) I.ok.mod.kin hka k1 (thn (ha.run pos pins s1 σ H1 _ I1 q1) fun us s2 ⟨vs, H2, I2, rv, q2⟩ => fin I2 rv q2) ?_ hstar
      rw [k3, hstar]
      show ((false || (backTo pos (starEach es X.env)).any (·.1)) || false) = false
      rw [noStars_any n2]
      rfl
end
end Dv

set_option Elab.async false
set_option linter.all false
set_option maxRecDepth 100000
set_option maxHeartbeats 2000000
/-! Dx1: methods of texts; sorting. -/
namespace Dv
open PySem PySem.Spec PyProof.Rows L2
/-! ### texts -/
def gJoin : D → List D → Option Out
  | .str a, [.lst ds] => match strs? ds with
    | some ys => if (ys.map (·.length)).sum + ys.length * a.length ≤ 16777216 then oS (Txt.join a ys) else none
    | none => none
  | _, _ => none
def gSplit : D → List D → Option Out
  | .str a, [.str b] => if (b.length == 0) = false ∧ a.length + 2 ≤ sizeLine then some (.nl ((Txt.split a b).map .str)) else none
  | _, _ => none
def gWords : D → List D → Option Out
  | .str a, [] => if a.length + 2 ≤ sizeLine then some (.nl ((Txt.words a).map .str)) else none
  | _, _ => none
abbrev rJoin (K : PySem.W.Frag) : V → List V → Hp → VK → Prop := fun x xs H Q => ∃ a p, ∃ ys : List Str, x = .str a ∧ xs = [.ref p] ∧ (SqL K H p (ys.map V.str) ∨ SqT K H p (ys.map V.str)) ∧
    (ys.map (·.length)).sum + ys.length * a.length ≤ 16777216 ∧ Q (.str (Txt.join a ys)) H
abbrev rSplit : V → List V → Hp → VK → Prop := fun x xs H Q => ∃ a b, x = .str a ∧ xs = [.str b] ∧ (b.length == 0) = false ∧ a.length + 2 ≤ sizeLine ∧ rNewStrs (Txt.split a b) H Q
abbrev rWords : V → List V → Hp → VK → Prop := fun x xs H Q => ∃ a, x = .str a ∧ xs = [] ∧ a.length + 2 ≤ sizeLine ∧ rNewStrs (Txt.words a) H Q
theorem one_of {α : Type} (l : List α) : (∃ e, l = [e]) ∨ ∀ e, l ≠ [e] := by
  match l with
  | [] => exact .inr fun e h => nomatch h
  | [e] => exact .inl ⟨e, rfl⟩
  | _ :: _ :: _ => exact .inr fun e h => nomatch h
theorem gJoin_ne {a : Str} {ds : List D} {o : Out} (h : ∀ e, ds ≠ [e]) (q : gJoin (.str a) ds = some o) : False := by
  cases ds with
  | nil => cases q
  | cons e r =>
    cases r with
    | nil => exact h e rfl
    | cons e2 r => cases e <;> cases q
theorem gSplit_ne {a : Str} {ds : List D} {o : Out} (h : ∀ e, ds ≠ [e]) (q : gSplit (.str a) ds = some o) : False := by
  cases ds with
  | nil => cases q
  | cons e r =>
    cases r with
    | nil => exact h e rfl
    | cons e2 r => cases e <;> cases q
section
variable {T : Tx}
theorem p_join : P1N T (rJoin T.K) gJoin := by
  intro Z H d ds x xs o Q hx hs hg ok
  cases d with
  | str a =>
    rcases one_of ds with ⟨e, rfl⟩ | ne
    case inr => exact (gJoin_ne ne hg).elim
    cases e with
    | lst ds =>
      have hg : (match strs? ds with
        | some ys => if (ys.map (·.length)).sum + ys.length * a.length ≤ 16777216 then oS (Txt.join a ys) else none
        | none => none) = some o := hg
      cases q : strs? ds with
      | none => rw [q] at hg; cases hg
      | some ys =>
        rw [q] at hg
        dsimp only at hg
        by_cases c : (ys.map (·.length)).sum + ys.length * a.length ≤ 16777216
        · rw [if_pos c] at hg
          cases hg
          obtain ⟨y, rfl, hy⟩ := hs.one
          obtain ⟨p, vs, rfl, hp, hv⟩ := Sh.lst hy
          rw [strs?_eq q] at hv
          rw [RepL.strs hv] at hp
          exact ⟨a, p, ys, hx, rfl, .inl (SqL.of hp), c, ok _ rfl⟩
        · rw [if_neg c] at hg; cases hg
    | _ => cases hg
  | _ => cases hg
theorem new_strs {Z : AP'} {H : Hp} {ys : List Str} {Q : VK} (ok : OutOk T Z H Q (.nl (ys.map .str))) : rNewStrs ys H Q := fun p hp => ok p _ hp (RepL.of_strs ys)
theorem p_split : P1N T rSplit gSplit := by
  intro Z H d ds x xs o Q hx hs hg ok
  cases d with
  | str a =>
    rcases one_of ds with ⟨e, rfl⟩ | ne
    case inr => exact (gSplit_ne ne hg).elim
    cases e with
    | str b =>
      have hg : (if (b.length == 0) = false ∧ a.length + 2 ≤ sizeLine then some (.nl ((Txt.split a b).map .str)) else none) = some o := hg
      by_cases c : (b.length == 0) = false ∧ a.length + 2 ≤ sizeLine
      · rw [if_pos c] at hg
        cases hg
        obtain ⟨y, rfl, hy⟩ := hs.one
        exact ⟨a, b, hx, by rw [show y = .str b from hy], c.1, c.2, new_strs ok⟩
      · rw [if_neg c] at hg; cases hg
    | _ => cases hg
  | _ => cases hg
theorem p_words : P1N T rWords gWords := by
  intro Z H d ds x xs o Q hx hs hg ok
  cases d with
  | str a =>
    cases ds with
    | cons e r => cases hg
    | nil =>
      have hg : (if a.length + 2 ≤ sizeLine then some (.nl ((Txt.words a).map .str)) else none) = some o := hg
      by_cases c : a.length + 2 ≤ sizeLine
      · rw [if_pos c] at hg
        cases hg
        exact ⟨a, hx, hs, c, new_strs ok⟩
      · rw [if_neg c] at hg; cases hg
  | _ => cases hg
end
/-- a method without arguments that only reads -/
def opM0 (s : String) (g : D → List D → Option Out) (fo : FS → Res RV) (τ : FS) : Res RV := bindR (fo τ) fun ro τ1 => match look τ1 ro with
  | some d => if tyD d = some s then fin (g d []) τ1 else .no
  | none => .no
theorem r_opM0 {T : Tx} {X : Cx} {W : WX} {s : String} {o e : Expr} {g : D → List D → Option Out} {rd : V → List V → Hp → VK → Prop} {fo : FS → Res RV} (G : X.K = T.K) (h : ∀ {to : TE}, PE X o to → PE X e (tBM0 X.K s rd to)) (hg : P1N T rd g) (ho : PE X o (tW T W fo)) : PE X e (tW T W (opM0 s g fo)) := by
  refine PE.mono (h ho) fun σ H Q ⟨Z, F, τ, S, h⟩ => ?_
  refine bind1 S h fun x ro τ1 Z1 H1 E1 S1 R1 h1 => ?_
  cases q0 : look τ1 ro with
  | none => rw [q0] at h1; exact h1.elim
  | some d =>
    rw [q0] at h1
    dsimp only at h1
    by_cases ht : tyD d = some s
    · rw [if_pos ht] at h1
      have sh := S1.sh R1 q0
      refine ⟨by rw [G]; exact tyD_ok sh ht, ?_⟩
      obtain ⟨u, e, ok⟩ := fin_ok S1 h1
      exact hg Z1 H1 d [] x [] u Q sh rfl e ok
    · rw [if_neg ht] at h1; exact h1.elim

/-! ### sorting, plainly -/
def insB {α : Type} (lt : α → α → Bool) (x : α) : List α → List α
  | [] => [x]
  | y :: r => if lt y x then y :: insB lt x r else x :: y :: r
def srtB {α : Type} (lt : α → α → Bool) : List α → List α
  | [] => []
  | x :: r => insB lt x (srtB lt r)
section
variable {α : Type} {lt : α → α → Bool}
theorem insB_perm (x : α) : ∀ l : List α, (insB lt x l).Perm (x :: l)
  | [] => List.Perm.refl _
  | y :: r => by
    unfold insB
    split
    · exact ((insB_perm x r).cons y).trans (List.Perm.swap x y r)
    · exact List.Perm.refl _
theorem srtB_perm : ∀ l : List α, (srtB lt l).Perm l
  | [] => List.Perm.refl _
  | x :: r => (insB_perm x _).trans ((srtB_perm r).cons x)
theorem insB_srtd (O : SrtO.Swo lt) (x : α) : ∀ {l : List α}, SrtO.Srtd lt l → SrtO.Srtd lt (insB lt x l)
  | [], _ => SrtO.srtd_one x
  | y :: r, h => by
    obtain ⟨h1, h2⟩ := List.pairwise_cons.mp h
    unfold insB
    cases c : lt y x with
    | true =>
      rw [if_pos rfl]
      refine List.pairwise_cons.mpr ⟨fun z hz => ?_, insB_srtd O x h2⟩
      rcases List.mem_cons.mp ((insB_perm x r).mem_iff.mp hz) with rfl | hz
      · exact O.asym _ _ c
      · exact h1 z hz
    | false =>
      rw [if_neg Bool.false_ne_true]
      refine List.pairwise_cons.mpr ⟨fun z hz => ?_, h⟩
      rcases List.mem_cons.mp hz with rfl | hz
      · exact c
      · exact O.tr _ _ _ c (h1 z hz)
theorem srtB_srtd (O : SrtO.Swo lt) : ∀ l : List α, SrtO.Srtd lt (srtB lt l)
  | [] => List.Pairwise.nil
  | x :: r => insB_srtd O x (srtB_srtd O r)
/-- there is just one -/
theorem srt_uniq (an : ∀ x y : α, lt x y = false → lt y x = false → x = y) : ∀ {l m : List α}, SrtO.Srtd lt l → SrtO.Srtd lt m → l.Perm m → l = m
  | [], m, _, _, p => (List.Perm.eq_nil p.symm).symm
  | x :: l, [], _, _, p => absurd p.length_eq (by simp)
  | x :: l, y :: m, hl, hm, p => by
    have e : x = y := by
      have h1 := List.mem_cons.mp (p.mem_iff.mp (List.mem_cons_self (a := x) (l := l)))
      have h2 := List.mem_cons.mp (p.mem_iff.mpr (List.mem_cons_self (a := y) (l := m)))
      rcases h1 with h1 | h1
      · exact h1
      · rcases h2 with h2 | h2
        · exact h2.symm
        · exact an x y ((List.pairwise_cons.mp hm).1 x h1) ((List.pairwise_cons.mp hl).1 y h2)
    subst e
    rw [srt_uniq an (List.pairwise_cons.mp hl).2 (List.pairwise_cons.mp hm).2 p.cons_inv]
end
def ltI (i j : Int) : Bool := decide (i < j)
def ltS (a b : Str) : Bool := ltCps a.cps.toList b.cps.toList
theorem swo_ltI : SrtO.Swo ltI := ⟨fun x y h => decide_eq_false (by have := of_decide_eq_true h; omega), fun x y z h1 h2 => decide_eq_false (by
  have a := of_decide_eq_false h1
  have b := of_decide_eq_false h2
  omega)⟩
theorem an_ltI (x y : Int) (h1 : ltI x y = false) (h2 : ltI y x = false) : x = y := by
  have a := of_decide_eq_false h1
  have b := of_decide_eq_false h2
  omega
theorem lex_as : ∀ (xs ys : List Int), HT.lexLt xs ys = true → HT.lexLt ys xs = false
  | [], [], h => nomatch h
  | [], _ :: _, h => rfl
  | _ :: _, [], h => nomatch h
  | x :: xs, y :: ys, h => by
    rw [HT.lexLt_cons] at h ⊢
    by_cases e : x = y
    · subst e
      rw [if_pos rfl] at h ⊢
      exact lex_as xs ys h
    · rw [if_neg e] at h
      rw [if_neg fun z => e z.symm]
      have := of_decide_eq_true h
      exact decide_eq_false (by omega)
theorem lex_an : ∀ (xs ys : List Int), HT.lexLt xs ys = false → HT.lexLt ys xs = false → xs = ys
  | [], [], _, _ => rfl
  | [], _ :: _, h, _ => nomatch h
  | _ :: _, [], _, h => nomatch h
  | x :: xs, y :: ys, h, h' => by
    rw [HT.lexLt_cons] at h h'
    by_cases e : x = y
    · subst e
      rw [if_pos rfl] at h h'
      rw [lex_an xs ys h h']
    · rw [if_neg e] at h
      rw [if_neg fun z => e z.symm] at h'
      have a := of_decide_eq_false h
      have b := of_decide_eq_false h'
      omega
theorem lex_tr : ∀ (xs ys zs : List Int), HT.lexLt xs ys = false → HT.lexLt ys zs = false → HT.lexLt xs zs = false
  | [], [], zs, _, h => h
  | [], _ :: _, _, h, _ => nomatch h
  | _ :: _, _, [], _, _ => rfl
  | _ :: _, [], _ :: _, _, h => nomatch h
  | x :: xs, y :: ys, z :: zs, h, h' => by
    rw [HT.lexLt_cons] at h h' ⊢
    by_cases e : x = y
    · subst e
      rw [if_pos rfl] at h
      by_cases e2 : x = z
      · subst e2
        rw [if_pos rfl] at h' ⊢
        exact lex_tr xs ys zs h h'
      · rw [if_neg e2] at h' ⊢
        exact h'
    · rw [if_neg e] at h
      have a := of_decide_eq_false h
      by_cases e2 : y = z
      · subst e2
        rw [if_neg e]
        exact h
      · rw [if_neg e2] at h'
        have b := of_decide_eq_false h'
        by_cases e3 : x = z
        · omega
        · rw [if_neg e3]
          exact decide_eq_false (by omega)
theorem swo_lex : SrtO.Swo HT.lexLt := ⟨fun x y h => lex_as x y h, fun x y z h1 h2 => lex_tr z y x h2 h1⟩
end Dv

set_option Elab.async false
set_option linter.all false
set_option maxRecDepth 100000
set_option maxHeartbeats 1000000
/-! Dx2: sorted of tuples of ints, of a set of such. -/
namespace Dv
open PySem PySem.Spec PyProof.Rows L2 SrtO
section
variable {prog : Program} {w : World} {A : Around} {E : Value → Shared → Prop} {s : Shared}
theorem kat_ints : ∀ {us vs : List Value} {ns ms : List Int} (i : Nat) {fin : Bool}, IntsAre us ns → IntsAre vs ms → fin = decide (ns.length < ms.length) →
    PySem.W.KatLex prog w A true fin (fun r s' => s' = s ∧ r = HT.lexLt ns ms) (us.zip vs) i s
  | _, _, _, _, i, fin, .nil, .nil, hf => PySem.W.kat_nil ⟨rfl, hf⟩
  | _, _, _, _, i, fin, .nil, .cons y u hv, hf => PySem.W.kat_nil ⟨rfl, by rw [hf, HT.lexLt_nil_cons]; exact decide_eq_true (Nat.succ_pos _)⟩
  | _, _, _, _, i, fin, .cons x t hu, .nil, hf => PySem.W.kat_nil ⟨rfl, by rw [hf, HT.lexLt_cons_nil]; exact decide_eq_false (Nat.not_lt_zero _)⟩
  | _, _, _, _, i, fin, .cons (vs := us) (ns := ns) x t hu, .cons (vs := vs) (ns := ms) y u hv, hf => by
    rw [List.zip_cons_cons, HT.lexLt_cons]
    refine PySem.W.kat_cons (SeqAt.EqAt.int_int x t y u prog w _ _ ?_)
    refine PySem.W.kat_go (fun e1 => ?_) (fun e1 => ?_)
    · have ex : x = y := by simpa using e1
      rw [if_pos ex]
      refine PySem.W.kat_yes (kat_ints (i + 1) hu hv ?_)
      rw [hf, List.length_cons, List.length_cons]
      by_cases c : ns.length < ms.length
      · rw [decide_eq_true c, decide_eq_true (by omega)]
      · rw [decide_eq_false c, decide_eq_false (by omega)]
    · have ex : ¬ x = y := by simpa using e1
      rw [if_neg ex]
      cases i with
      | zero => exact PySem.W.kat_no (oneLt_int ⟨rfl, rfl⟩)
      | succ i => exact PySem.W.kat_no (PySem.W.kat_one _ _ (PyProof.Rows.lt_int ⟨rfl, rfl⟩))
abbrev ltT (h : Heap) (v u : Value) : Bool := HT.lexLt (TS.intsOf h v) (TS.intsOf h u)
theorem swo_ltT (h : Heap) : Swo (ltT h) := ⟨fun x y q => lex_as _ _ q, fun x y z h1 h2 => lex_tr _ _ _ h2 h1⟩
theorem tup_cmp {h : Heap} {vs : List Value} (hp : ∀ v ∈ vs, ∃ ns, TS.TupInts h v ns ∧ TS.TupInts s.heap v ns) : Cmp prog w A s (tuples' true) (fun p => p.1 ∈ vs) (lt2 (ltT h)) := by
  intro p q hm hm'
  obtain ⟨ns, g1, h1⟩ := hp _ hm
  obtain ⟨ms, g2, h2⟩ := hp _ hm'
  show wpAny (model prog w) A (keyLt' (tuples' true) p.1 q.1) (fun r s' => s' = s ∧ r = HT.lexLt (TS.intsOf h p.1) (TS.intsOf h q.1)) (fun _ _ => False) s
  rw [g1.ints, g2.ints]
  obtain ⟨a, xs, e, ⟨o, ho, hc, n, hd⟩, i1⟩ := h1
  obtain ⟨b, ys, e', ⟨o', ho', hc', n', hd'⟩, i2⟩ := h2
  rw [e, e']
  refine PySem.W.kat_lt ho hd ho' hd' (kat_ints 0 i1 i2 ?_)
  have l1 := i1.length
  have l2 := i2.length
  rw [Array.length_toList] at l1 l2
  rw [l1, l2]
theorem firstsT {h : Heap} : ∀ {vs : List Value}, (∀ v ∈ vs, ∃ ns, TS.TupInts h v ns ∧ ns ≠ []) → ∃ fs : List Value, PySem.W.KatTups h vs fs ∧ fs.length = vs.length ∧ ∀ f ∈ fs, ∃ x t, f = Value.int x t
  | [], _ => ⟨[], PySem.W.KatTups.nil, rfl, fun _ hm => nomatch hm⟩
  | v :: vs, hp => by
    obtain ⟨fs, h1, h2, h3⟩ := firstsT (vs := vs) fun v' hm => hp v' (List.mem_cons_of_mem _ hm)
    obtain ⟨ns, ⟨a, xs, rfl, ⟨o, ho, hc, n, hd⟩, hi⟩, ne⟩ := hp v List.mem_cons_self
    obtain ⟨l⟩ := xs
    have hi : IntsAre l ns := hi
    cases hi with
    | nil => exact absurd rfl ne
    | cons x t hi =>
      refine ⟨.int x t :: fs, PySem.W.KatTups.cons ho hc hd (by simp) h1, by rw [List.length_cons, List.length_cons, h2], fun f hm => ?_⟩
      rcases List.mem_cons.mp hm with rfl | hm
      · exact ⟨x, t, rfl⟩
      · exact h3 f hm
theorem tups_sortable {a : Addr} {h : Heap} {vs : List Value} (h0 : 0 < vs.length) (hp : ∀ v ∈ vs, ∃ ns, TS.TupInts h v ns ∧ TS.TupInts s.heap v ns ∧ ns ≠ []) (ha : ∀ o, s.heap.get? a = some o → o.cls ≠ .type "tuple") : SortableO prog w A s a vs (ltT h) := by
  intro h' keep
  have k : ∀ v ns, TS.TupInts s.heap v ns → TS.TupInts h' v ns := fun v ns x => x.keeps fun b o e c => keep b o (fun z => by subst z; exact ha o e c) e
  obtain ⟨fs, h1, h2, h3⟩ := firstsT (h := h') fun v hm => by
    obtain ⟨ns, _, x, ne⟩ := hp v hm
    exact ⟨ns, k v ns x, ne⟩
  refine ⟨tuples' true, fun Q E hq => ?_, tup_cmp fun v hm => by
    obtain ⟨ns, y, x, _⟩ := hp v hm
    exact ⟨ns, y, k v ns x⟩⟩
  refine PySem.W.kat_kind (T := .type "int") h1 (by omega) (fun f hm => ?_) (by rfl) ?_
  · obtain ⟨x, t, rfl⟩ := h3 f hm
    exact PySem.W.Looks.now
  · have e : (Value.type "int" != Value.type "tuple") = true := by first | decide +kernel | rfl | decide
    rw [e]
    exact hq
end
/-- sorted(xs), tuples of ints, none of them empty -/
def rSrtT (K : PySem.W.Frag) : List V → Hp → VK → Prop := fun vs H Q => ∃ (a : Addr) (ps : List (V × List Int)), vs = [V.ref a] ∧ SqL K H a (ps.map (·.1)) ∧ (∀ p ∈ ps, TupI K H p.1 p.2 ∧ p.2 ≠ []) ∧
  ∀ (zs : List (V × List Int)) (p : Addr), zs.Perm ps → Srtd HT.lexLt (zs.map (·.2)) → H p = none → Q (.ref p) (upd H p (.lst (zs.map (·.1))))
section
variable {X : Cx}
theorem ps_vals : ∀ {ps : List (V × List Int)} {us : List Value}, Vals (ps.map (·.1)) us → ∀ u ∈ us, ∃ p ∈ ps, RelV p.1 u
  | [], _, .nil, u, h => nomatch h
  | p :: ps, _, .cons r t, u, h => by
    rcases List.mem_cons.mp h with rfl | h
    · exact ⟨p, List.mem_cons_self, r⟩
    · obtain ⟨q, h1, h2⟩ := ps_vals t u h
      exact ⟨q, List.mem_cons_of_mem _ h1, h2⟩
theorem ps_zip {h : Heap} {f : V × List Int → Value} : ∀ {ps : List (V × List Int)} {us : List Value}, Vals (ps.map (·.1)) us → (∀ p ∈ ps, ∀ u, RelV p.1 u → bkV u = p.1 ∧ TS.intsOf h u = p.2) → us.map (fun u => (bkV u, TS.intsOf h u)) = ps
  | [], _, .nil, _ => rfl
  | p :: ps, u :: us, .cons r t, k => by
    obtain ⟨e1, e2⟩ := k p List.mem_cons_self u r
    rw [List.map_cons, ps_zip (f := f) t fun q hq => k q (List.mem_cons_of_mem _ hq), e1, e2]
theorem cr_srtT : CallR X (.builtin "sorted") (rSrtT X.K) := by
  intro pins s σ H vs us Q I r h
  obtain ⟨a, ps, rfl, hs, hp, q⟩ := h
  obtain ⟨its, rv, hl, hz⟩ := I.list hs
  rw [Vals.ref1 r]
  have tu : ∀ p ∈ ps, ∀ u, RelV p.1 u → ∃ t, u = .ref t ∧ TS.TupInts s.heap u p.2 ∧ bkV u = p.1 := fun p hm u ru => by
    obtain ⟨⟨t, e, ht⟩, _⟩ := hp p hm
    rw [e] at ru ⊢
    cases ru
    exact ⟨t, rfl, tupI_raw I ht, rfl⟩
  have hits : ∀ v ∈ its, ∃ ns, TS.TupInts s.heap v ns ∧ ns ≠ [] := fun v hv => by
    obtain ⟨p, hm, ru⟩ := ps_vals rv v hv
    obtain ⟨t, _, h1, _⟩ := tu p hm v ru
    exact ⟨p.2, h1, (hp p hm).2⟩
  have hzip := ps_zip (h := s.heap) (f := fun _ => Value.none) rv fun p hm u ru => by
    obtain ⟨t, _, h1, h2⟩ := tu p hm u ru
    exact ⟨h2, h1.ints⟩
  refine SrtO.sorted_ord (swo_ltT s.heap) hl.isList (by rw [← rv.length]; exact hz) (fun h2 h₁ a' ha kk => ?_) fun out h1 h2 => ?_
  · refine tups_sortable (by omega) (fun v hv => ?_) fun o e => ?_
    · obtain ⟨ns, h1, ne⟩ := hits v hv
      exact ⟨ns, h1, h1.keeps fun b o e _ => (kk b o e).2, ne⟩
    · have e' : some o = some (seqObj "list" its.toArray 0) := e.symm.trans ha
      cases e'
      intro c
      exact absurd (Value.type.inj c) (by decide)
  · obtain ⟨ep, he'⟩ := PyProof.Rows.sortedAll_at s.heap its out.toArray
    have hrefs : ∀ u ∈ out, ∃ t, u = Value.ref t := fun u hu => by
      obtain ⟨p, hm, ru⟩ := ps_vals rv u (h2.perm.mem_iff.mp hu)
      obtain ⟨t, e, _⟩ := tu p hm u ru
      exact ⟨t, e⟩
    have hperm : (out.map fun u => (bkV u, TS.intsOf s.heap u)).Perm ps := by
      have := h2.perm.map fun u => (bkV u, TS.intsOf s.heap u)
      rw [hzip] at this
      exact this
    have e1 : (out.map fun u => (bkV u, TS.intsOf s.heap u)).map (·.1) = out.map bkV := by
      rw [List.map_map]
      rfl
    have hlen : (out.map bkV).length ≤ sizeLine := by
      rw [← e1, List.length_map, hperm.length_eq]
      rw [List.length_map] at hz
      exact hz
    have q' := q _ (s.heap.objs.size + 1) hperm (by
      rw [List.map_map]
      exact List.pairwise_map.mpr h1) (I.hok.fresh (Nat.le_succ _))
    rw [e1] at q'
    exact ⟨.ref _, upd H (s.heap.objs.size + 1) (.lst (out.map bkV)), I.laid (t' := s.toks) (fun _ _ => PyProof.Rows.sortedAll_old) (Nat.le_succ _) ⟨hlen, out, ep, bkV_vals hrefs, he'⟩, rfl, q'⟩
end
end Dv

set_option Elab.async false
set_option linter.all false
set_option maxRecDepth 100000
set_option maxHeartbeats 1000000
/-! Dx3: sorted, sorted(set(..)) with data. -/
namespace Dv
open PySem PySem.Spec PyProof.Rows L2 SrtO
def tupI' (ns : List Int) : D := .tup (ns.map .int)
def tups? : List D → Option (List (List Int))
  | [] => some []
  | .tup xs :: r => match ints? xs with
    | some (n :: ns) => (tups? r).map ((n :: ns) :: ·)
    | _ => none
  | _ => none
theorem tups?_eq : ∀ {ds : List D} {nss : List (List Int)}, tups? ds = some nss → ds = nss.map tupI' ∧ ∀ ns ∈ nss, ns ≠ []
  | [], _, h => by
    cases h
    exact ⟨rfl, fun _ h => nomatch h⟩
  | d :: ds, nss, h => by
    cases d with
    | tup xs =>
      have h : (match ints? xs with
        | some (n :: ns) => (tups? ds).map ((n :: ns) :: ·)
        | _ => none) = some nss := h
      cases q : ints? xs with
      | none => rw [q] at h; cases h
      | some l =>
        rw [q] at h
        cases l with
        | nil => cases h
        | cons n ns =>
          dsimp only at h
          cases q2 : tups? ds with
          | none => rw [q2] at h; cases h
          | some r =>
            rw [q2] at h
            cases h
            obtain ⟨e1, e2⟩ := tups?_eq q2
            refine ⟨by rw [e1, ints?_eq q]; rfl, fun ms hm => ?_⟩
            rcases List.mem_cons.mp hm with rfl | hm
            · exact fun z => nomatch z
            · exact e2 ms hm
    | _ => cases h
def cSorted : List D → Option Out
  | [.lst ds] => match ints? ds with
    | some ns => some (.nl ((srtB ltI ns).map .int))
    | none => match tups? ds with
      | some nss => some (.nl ((srtB HT.lexLt nss).map tupI'))
      | none => match strs? ds with
        | some ss => if ss.length < 64 then some (.nl ((srtB ltS ss).map .str)) else none
        | none => none
  | _ => none
theorem mem_swap {α β : Type} {l : List (α × β)} {p : α × β} (h : p ∈ l) : p.2 ∈ l.map (·.2) := List.mem_map.mpr ⟨p, h, rfl⟩
section
variable {T : Tx} {X : Cx}
/-- the pairs of a list of int tuples -/
theorem pairs_ok {Z : AP'} {H : Hp} : ∀ {nss : List (List Int)} {vs : List V}, RepL T Z H (nss.map tupI') vs → (vs.zip nss).map (·.1) = vs ∧ (vs.zip nss).map (·.2) = nss ∧ ∀ p ∈ vs.zip nss, Rep T Z H (tupI' p.2) p.1
  | [], vs, h => by
    rw [show vs = [] from h]
    exact ⟨rfl, rfl, fun _ h => nomatch h⟩
  | ns :: nss, vs, h => by
    obtain ⟨v, r, rfl, h1, h2⟩ := h
    obtain ⟨e1, e2, e3⟩ := pairs_ok h2
    refine ⟨by rw [List.zip_cons_cons, List.map_cons, e1], by rw [List.zip_cons_cons, List.map_cons, e2], fun p hp => ?_⟩
    rcases List.mem_cons.mp hp with rfl | hp
    · exact h1
    · exact e3 p hp
theorem pairs_back {Z : AP'} {H : Hp} : ∀ {zs : List (V × List Int)}, (∀ p ∈ zs, Rep T Z H (tupI' p.2) p.1) → RepL T Z H ((zs.map (·.2)).map tupI') (zs.map (·.1))
  | [], _ => rfl
  | z :: zs, h => ⟨_, _, rfl, h z List.mem_cons_self, pairs_back fun p hp => h p (List.mem_cons_of_mem _ hp)⟩
theorem tupI_of {Z : AP'} {H : Hp} {v : V} {ns : List Int} (h : Rep T Z H (tupI' ns) v) : TupI T.K H v ns := by
  obtain ⟨q, vs, e, k, r⟩ := Rep.tupSq h
  rw [RepL.ints r] at k
  exact ⟨q, e, k⟩
theorem cps_cons (a b : Nat) (r t : List Nat) : ltCps (a :: r) (b :: t) = if a = b then ltCps r t else decide (a < b) := by
  show (decide (a < b) || (a == b && ltCps r t)) = _
  by_cases e : a = b
  · subst e
    rw [if_pos rfl]
    simp
  · rw [if_neg e]
    have : (a == b) = false := by simpa using e
    rw [this]
    simp
theorem cps_as : ∀ xs ys : List Nat, ltCps xs ys = true → ltCps ys xs = false
  | [], [], h => nomatch h
  | [], _ :: _, h => rfl
  | _ :: _, [], h => nomatch h
  | x :: xs, y :: ys, h => by
    rw [cps_cons] at h ⊢
    by_cases e : x = y
    · subst e
      rw [if_pos rfl] at h ⊢
      exact cps_as xs ys h
    · rw [if_neg e] at h
      rw [if_neg fun z => e z.symm]
      have := of_decide_eq_true h
      exact decide_eq_false (by omega)
theorem cps_an : ∀ xs ys : List Nat, ltCps xs ys = false → ltCps ys xs = false → xs = ys
  | [], [], _, _ => rfl
  | [], _ :: _, h, _ => nomatch h
  | _ :: _, [], _, h => nomatch h
  | x :: xs, y :: ys, h, h' => by
    rw [cps_cons] at h h'
    by_cases e : x = y
    · subst e
      rw [if_pos rfl] at h h'
      rw [cps_an xs ys h h']
    · rw [if_neg e] at h
      rw [if_neg fun z => e z.symm] at h'
      have a := of_decide_eq_false h
      have b := of_decide_eq_false h'
      omega
theorem cps_tr : ∀ xs ys zs : List Nat, ltCps xs ys = false → ltCps ys zs = false → ltCps xs zs = false
  | [], [], zs, _, h => h
  | [], _ :: _, _, h, _ => nomatch h
  | _ :: _, _, [], _, _ => rfl
  | _ :: _, [], _ :: _, _, h => nomatch h
  | x :: xs, y :: ys, z :: zs, h, h' => by
    rw [cps_cons] at h h' ⊢
    by_cases e : x = y
    · subst e
      rw [if_pos rfl] at h
      by_cases e2 : x = z
      · subst e2
        rw [if_pos rfl] at h' ⊢
        exact cps_tr xs ys zs h h'
      · rw [if_neg e2] at h' ⊢
        exact h'
    · rw [if_neg e] at h
      have a := of_decide_eq_false h
      by_cases e2 : y = z
      · subst e2
        rw [if_neg e]
        exact h
      · rw [if_neg e2] at h'
        have b := of_decide_eq_false h'
        by_cases e3 : x = z
        · omega
        · rw [if_neg e3]
          exact decide_eq_false (by omega)
theorem swo_ltS : Swo ltS := ⟨fun x y h => cps_as _ _ h, fun x y z h1 h2 => cps_tr _ _ _ h2 h1⟩
theorem an_ltS (x y : Str) (h1 : ltS x y = false) (h2 : ltS y x = false) : x = y := by
  have e := cps_an _ _ h1 h2
  cases x with
  | mk a =>
    cases y with
    | mk b =>
      have e : a.toList = b.toList := e
      rw [Array.toList_inj.mp e]
theorem rising_srtd : ∀ {l : List Str} {p : Str}, risingS p l = true → Srtd ltS (p :: l)
  | [], p, _ => srtd_one p
  | x :: r, p, h => by
    obtain ⟨h1, h2⟩ := Bool.and_eq_true_iff.mp (show (!ltCps x.cps.toList p.cps.toList && risingS x r) = true from h)
    have s := rising_srtd h2
    refine List.pairwise_cons.mpr ⟨fun y hy => ?_, s⟩
    have h1 : ltS x p = false := by simpa [ltS] using h1
    rcases List.mem_cons.mp hy with rfl | hy
    · exact h1
    · exact swo_ltS.tr _ _ _ h1 ((List.pairwise_cons.mp s).1 y hy)
theorem sortedS_srtd {l : List Str} (h : sortedS l = true) : Srtd ltS l := by
  cases l with
  | nil => exact List.Pairwise.nil
  | cons x r => exact rising_srtd h
abbrev rSorted3 (K : PySem.W.Frag) : List V → Hp → VK → Prop := fun xs H Q => rSortedI K xs H Q ∨ rSrtT K xs H Q ∨ rSortedS K xs H Q
theorem o_sorted (G : X.K = T.K) : CallR X (.builtin "sorted") (rSorted3 T.K) := G ▸ cr_sortedI.or (cr_srtT.or cr_sortedS)
theorem cSorted_ne {ds : List D} {o : Out} (h : ∀ e, ds ≠ [e]) (q : cSorted ds = some o) : False := by
  cases ds with
  | nil => cases q
  | cons e r =>
    cases r with
    | nil => exact h e rfl
    | cons e2 r => cases e <;> cases q
theorem p_sorted : PN T (rSorted3 T.K) cSorted := by
  intro Z H ds xs o Q hs hg ok
  rcases one_of ds with ⟨e, rfl⟩ | ne
  case inr => exact (cSorted_ne ne hg).elim
  cases e with
  | lst ds =>
    obtain ⟨x, rfl, hx⟩ := hs.one
    obtain ⟨a, vs, rfl, ha, hv⟩ := Sh.lst hx
    have hg : (match ints? ds with
      | some ns => some (.nl ((srtB ltI ns).map .int))
      | none => match tups? ds with
        | some nss => some (.nl ((srtB HT.lexLt nss).map tupI'))
        | none => match strs? ds with
          | some ss => if ss.length < 64 then some (.nl ((srtB ltS ss).map .str)) else none
          | none => none) = some o := hg
    cases q : ints? ds with
    | some ns =>
      rw [q] at hg
      cases hg
      rw [ints?_eq q] at hv
      rw [RepL.ints hv] at ha
      refine .inl ⟨a, ns, rfl, SqL.of ha, fun ns' p hp hso hn => ?_⟩
      have e : ns' = srtB ltI ns := srt_uniq an_ltI (hso.imp fun {x y} h => decide_eq_false (by omega)) (srtB_srtd swo_ltI ns) (hp.trans (srtB_perm ns).symm)
      subst e
      exact ok p _ hn (RepL.of_ints _)
    | none =>
      rw [q] at hg
      dsimp only at hg
      cases q2 : tups? ds with
      | some nss =>
        rw [q2] at hg
        cases hg
        obtain ⟨e1, e2⟩ := tups?_eq q2
        rw [e1] at hv
        obtain ⟨p1, p2, p3⟩ := pairs_ok hv
        refine .inr (.inl ⟨a, vs.zip nss, rfl, by rw [p1]; exact SqL.of ha, fun p hp => ⟨tupI_of (p3 p hp), e2 _ (by rw [← p2]; exact mem_swap hp)⟩, fun zs p hp hso hn => ?_⟩)
        have e : zs.map (·.2) = srtB HT.lexLt nss := srt_uniq lex_an hso (srtB_srtd swo_lex nss) (by
          have := hp.map (·.2)
          rw [p2] at this
          exact this.trans (srtB_perm nss).symm)
        have r := pairs_back (zs := zs) fun p hz => p3 p (hp.mem_iff.mp hz)
        rw [e] at r
        exact ok p _ hn r
      | none =>
        rw [q2] at hg
        dsimp only at hg
        cases q3 : strs? ds with
        | none => rw [q3] at hg; cases hg
        | some ss =>
          rw [q3] at hg
          dsimp only at hg
          by_cases c : ss.length < 64
          · rw [if_pos c] at hg
            cases hg
            rw [strs?_eq q3] at hv
            rw [RepL.strs hv] at ha
            refine .inr (.inr ⟨a, ss, rfl, SqL.of ha, c, fun ys p hp hso hn => ?_⟩)
            have e : ys = srtB ltS ss := srt_uniq an_ltS (sortedS_srtd hso) (srtB_srtd swo_ltS ss) (hp.trans (srtB_perm ss).symm)
            subst e
            exact ok p _ hn (RepL.of_strs _)
          · rw [if_neg c] at hg; cases hg
  | _ => cases hg
end
end Dv

set_option Elab.async false
set_option linter.all false
set_option maxRecDepth 100000
set_option maxHeartbeats 1000000
/-! Dx4: sorted(set(..)) of tuples of ints. -/
namespace Dv
open PySem PySem.Spec PyProof.Rows L2 SrtO
section
variable {P : Program} {w : World} {A : Around} {E : Value → Shared → Prop} {s : Shared}
/-- a set's things, sorted by an order -/
theorem setO {a : Addr} {es : Array (Int × Value)} {ep : Nat} {t : SetTable} {ltv : Value → Value → Bool} {Q : Value → Shared → Prop} (hh : A.handled = none) (at_ : SetAt s.heap a es ep t) (fits : t.fits es.size = true) (few : es.size < 64) (ris : Ris t.place.toList)
    (led : w.params.followText "set-order" = true ∨ t.led = true) (O : Swo ltv)
    (can : ∀ (s1 : Shared) (b : Addr) (vs : List Value), (∀ c o, s.heap.get? c = some o → s1.heap.get? c = some o) → vs.Perm (es.toList.map (·.2)) → 2 ≤ vs.length → (∀ o, s1.heap.get? b = some o → o.cls ≠ .type "tuple") → SortableO P w A.in1.in1 s1 b vs ltv)
    (fin : ∀ (s' : Shared) (p : Addr) (out : List Value) (c : Nat), (∀ b o, s.heap.get? b = some o → s'.heap.get? b = some o) → s'.gens = s.gens → s'.os = s.os → s.heap.objs.size ≤ p → s'.heap.get? p = some (seqObj "list" out.toArray c) →
      out.Perm (es.toList.map (·.2)) → Srtd ltv out → Q (.ref p) s') :
    wpAny (model P w) A (call (.builtin "sorted") [.ref a]) Q E s := by
  have hz : ∀ vs : List Value, vs.Perm (es.toList.map (·.2)) → vs.length ≤ sizeLine := fun vs pm => by
    have l1 := pm.length_eq
    have l2 : vs.length = es.size := by simpa using l1
    rw [sizeLine_eq]
    omega
  refine Calls.call_function_entry kind_sorted plain_sorted entry_sorted (args_sorted1 _) ?_; unfold Builtin.«sorted»
  refine wpAny_bind (m := checkCount "sorted" 1 1 _) (wpAny_pure (?_ : wpAny _ _ _ _ _ _))
  refine wpAny_bind (collect_set (A := A.in1) hh at_ fits (by unfold scanBound; omega) ris led fun s1 vs keep1 big1 gens1 os1 pm => ?_)
  refine wpAny_bind (wpAny_newList ?_ (hz vs pm))
  have new1 : (s1.heap.push (seqObj "list" vs.toArray 0)).get? s1.heap.objs.size = some (seqObj "list" vs.toArray 0) := Heap.get?_push_size _ rfl
  refine wpAny_bind (wpAny_holding (wpAny_call_entry slot_list_sort ⟨_, new1, rfl⟩ entry_list_sort (list_sort_ord (s := { s1 with heap := s1.heap.push (seqObj "list" vs.toArray 0) }) O new1 (hz vs pm) (fun two => ?_) fun out so st => ⟨_, rfl, ?_⟩) (args_list_sort _)))
  · refine can _ _ vs (fun c o e => Heap.get?_push_of_some _ (keep1 c o e)) pm two fun o e => ?_
    have e' : some o = some (seqObj "list" vs.toArray 0) := e.symm.trans new1
    cases e'
    intro z
    exact absurd (Value.type.inj z) (by decide)
  · obtain ⟨c, hc⟩ := sortedHeap_at (vs := vs) (out := out.toArray) new1
    refine wpAny_pure ⟨_, rfl, fin _ s1.heap.objs.size out c (fun b u e => ?_) gens1 os1 big1 hc (st.perm.trans pm) so⟩
    have q := keep1 b u e
    have lt1 := Heap.lt_size q
    show (sortedHeap (s1.heap.push (seqObj "list" vs.toArray 0)) s1.heap.objs.size vs out.toArray).get? b = some u
    rw [sortedHeap_old (Nat.ne_of_lt lt1) (by rw [size_push']; exact Nat.lt_succ_of_lt lt1)]
    exact Heap.get?_push_of_some _ q
end
/-- sorted of a set of tuples of ints, none of them empty -/
def rSrtSetT (K : PySem.W.Frag) (P : Program) (w : World) : List V → Hp → VK → Prop := fun vs H Q => ∃ (a : Addr) (L : List (Addr × List Int)), vs = [V.ref a] ∧ H a = some (SetTO P w a L) ∧ (∀ p ∈ L, SqT K H p.1 (p.2.map V.int) ∧ p.2 ≠ []) ∧
  ∀ (zs : List (V × List Int)) (p : Addr), zs.Perm (L.map fun q => (V.ref q.1, q.2)) → (L.map (·.2)).Nodup → Srtd HT.lexLt (zs.map (·.2)) → H p = none → Q (.ref p) (upd H p (.lst (zs.map (·.1))))
section
variable {X : Cx}
theorem cr_srtSetT (hc : X.calm = true) : CallR X (.builtin "sorted") (rSrtSetT X.K X.prog X.w) := by
  intro pins s σ H vs us Q I r h
  obtain ⟨a, L, rfl, ha, hk, q⟩ := h
  have R0 : SetT0 X.prog X.w s.heap a L := (I.hok a _ ha).1
  obtain ⟨es, ep, t, R⟩ := R0.full fun p hp => I.isT (hk p hp).1
  rw [Vals.ref1 r]
  obtain ⟨o, ho, hex, hd⟩ := R.ob
  have hes : es.toList.map (·.2) = L.map fun q => Value.ref q.1 := by
    rw [R.rows]
    unfold rowsOf
    rw [List.map_map]
    rfl
  have tup : ∀ q ∈ L, TS.TupInts s.heap (.ref q.1) q.2 := fun q hq => tupInts_of (P := X.prog) (w := X.w) (R.tup q hq)
  have hsz : es.size = L.length := by
    have := congrArg List.length hes
    simpa using this
  have of : ∀ v ∈ es.toList.map (·.2), ∃ q ∈ L, v = Value.ref q.1 := fun v hv => by
    rw [hes] at hv
    obtain ⟨q, hq, e⟩ := List.mem_map.mp hv
    exact ⟨q, hq, e.symm⟩
  have hzip : (es.toList.map (·.2)).map (fun u => (bkV u, TS.intsOf s.heap u)) = L.map fun q => (V.ref q.1, q.2) := by
    rw [hes, List.map_map]
    refine List.map_congr_left fun q hq => ?_
    show (V.ref q.1, TS.intsOf s.heap (.ref q.1)) = _
    rw [(tup q hq).ints]
  refine setO (I.ok.hd hc) ⟨o, ho, hex.1, hd⟩ R.fits (by rw [hsz]; exact R.few) R.tab.ris R.led (swo_ltT s.heap) (fun s1 b vs keep pm two nt => ?_) fun s' p out c keep g os big hg pm so => ?_
  · refine tups_sortable (by omega) (fun v hv => ?_) nt
    obtain ⟨q, hq, rfl⟩ := of v (pm.mem_iff.mp hv)
    exact ⟨q.2, tup q hq, (tup q hq).keeps fun b o e _ => keep b o e, (hk q hq).2⟩
  · have hn : H p = none := I.hok.fresh big
    have hrefs : ∀ u ∈ out, ∃ t, u = Value.ref t := fun u hu => by
      obtain ⟨q, _, e⟩ := of u (pm.mem_iff.mp hu)
      exact ⟨_, e⟩
    have hperm : (out.map fun u => (bkV u, TS.intsOf s.heap u)).Perm (L.map fun q => (V.ref q.1, q.2)) := by
      have := pm.map fun u => (bkV u, TS.intsOf s.heap u)
      rw [hzip] at this
      exact this
    have e1 : (out.map fun u => (bkV u, TS.intsOf s.heap u)).map (·.1) = out.map bkV := by
      rw [List.map_map]
      rfl
    have hlen : (out.map bkV).length ≤ sizeLine := by
      rw [← e1, List.length_map, hperm.length_eq, List.length_map, sizeLine_eq]
      have := R.few
      omega
    have q' := q _ p hperm R.nd (by
      rw [List.map_map]
      exact List.pairwise_map.mpr so) hn
    rw [e1] at q'
    have J : Inv X pins σ (upd H p (.lst (out.map bkV))) { s with heap := s'.heap, gens := s'.gens, drawn := s'.drawn, toks := s'.toks } :=
      I.call (ch := []) (Un.laid keep big hn) (I.hok.laid keep big ⟨hlen, out, c, bkV_vals hrefs, hg⟩) (by rw [g]; exact I.bare) (fun _ z => nomatch z)
    have e : s' = { s with heap := s'.heap, gens := s'.gens, drawn := s'.drawn, toks := s'.toks } := by
      cases s'
      cases s
      cases os
      rfl
    rw [e]
    exact ⟨.ref p, _, J, rfl, q'⟩
end
/-! ### with data -/
def dedB : List (List Int) → List (List Int)
  | [] => []
  | x :: r => if r.contains x then dedB r else x :: dedB r
theorem dedB_mem : ∀ {l : List (List Int)} {x : List Int}, x ∈ dedB l ↔ x ∈ l
  | [], x => Iff.rfl
  | y :: r, x => by
    unfold dedB
    by_cases c : r.contains y = true
    · rw [if_pos c, dedB_mem, List.mem_cons]
      have hy : y ∈ r := by simpa using c
      exact ⟨.inr, fun h => h.elim (fun e => e ▸ hy) id⟩
    · rw [if_neg c, List.mem_cons, List.mem_cons, dedB_mem]
theorem dedB_nodup : ∀ l : List (List Int), (dedB l).Nodup
  | [] => List.nodup_nil
  | y :: r => by
    unfold dedB
    by_cases c : r.contains y = true
    · rw [if_pos c]
      exact dedB_nodup r
    · rw [if_neg c]
      refine List.nodup_cons.mpr ⟨fun h => c ?_, dedB_nodup r⟩
      simpa using dedB_mem.mp h
def srtSet (nss : List (List Int)) : List (List Int) := srtB HT.lexLt (dedB nss)
def evSrtSet (fa : FS → Res RV) (τ : FS) : Res RV := bindR (fa τ) fun r τ1 => match look τ1 r with
  | some (.lst ds) => (match tups? ds with
    | some nss => if nss.length < 64 then .ok (.fr ((srtSet nss).map tupI')) τ1 else .no
    | none => .no)
  | _ => .no
section
variable {T : Tx} {X : Cx} {W : WX}
theorem keys_of {Z : AP'} {H : Hp} : ∀ {nss : List (List Int)} {vs : List V}, RepL T Z H (nss.map tupI') vs → ∃ ks : List (Addr × List Int), ks.map (fun p => V.ref p.1) = vs ∧ ks.map (·.2) = nss ∧ ∀ p ∈ ks, Rep T Z H (tupI' p.2) (.ref p.1)
  | [], vs, h => ⟨[], (show vs = [] from h).symm, rfl, fun _ h => nomatch h⟩
  | ns :: nss, vs, h => by
    obtain ⟨v, r, rfl, h1, h2⟩ := h
    obtain ⟨ks, e1, e2, e3⟩ := keys_of h2
    obtain ⟨a, us, rfl, rest⟩ := id h1
    refine ⟨(a, ns) :: ks, by rw [List.map_cons, e1], by rw [List.map_cons, e2], fun p hp => ?_⟩
    rcases List.mem_cons.mp hp with rfl | hp
    · exact h1
    · exact e3 p hp
theorem r_srtSet {a : Expr} {p p2 q pos : Pos} {fa : FS → Res RV} (G : X.K = T.K) (hc : X.calm = true) (hu : X.A.units + 65 < cLine) (g1 : Gl X "sorted") (m1 : X.mg "sorted" = none) (g2 : Gl X "set") (m2 : X.mg "set" = none) (hs : noStar a = true) (ha : PE X a (tW T W fa)) :
    PE X (.Call (.Name "sorted" p) [.Call (.Name "set" p2) [a] [] q] [] pos) (tW T W (evSrtSet fa)) := by
  refine PE.mono (pe_callB (cr_srtSetT hc) g1 m1 rfl (pa_cons (pe_callTy (cr_setOfT hc (by omega)) g2 m2 rfl (pa_cons ha pa_nil (noStar_ok hs [] X.env)) (by decide) (by decide) (noStar_ok hs [] X.env) rfl) pa_nil rfl) (by decide) (by decide) rfl rfl) fun σ H Q ⟨Z, F, τ, S, h⟩ => ?_
  refine bind1 S h fun x r τ1 Z1 H1 E1 S1 R1 h1 => ?_
  cases q1 : look τ1 r with
  | none => rw [q1] at h1; exact h1.elim
  | some d =>
    cases d with
    | lst ds =>
      rw [q1] at h1
      dsimp only at h1
      cases q2 : tups? ds with
      | none => rw [q2] at h1; exact h1.elim
      | some nss =>
        rw [q2] at h1
        dsimp only at h1
        by_cases c : nss.length < 64
        case neg => rw [if_neg c] at h1; exact h1.elim
        rw [if_pos c] at h1
        obtain ⟨l, vs, rfl, hl, hv⟩ := Sh.lst (S1.sh R1 q1)
        obtain ⟨e1, e2⟩ := tups?_eq q2
        rw [e1] at hv
        obtain ⟨ks, k1, k2, k3⟩ := keys_of hv
        have sq : ∀ {H2 : Hp}, (∀ b u, H1 b = some u → H2 b = some u) → ∀ p ∈ ks, SqT X.K H2 p.1 (p.2.map V.int) := fun {H2} keep p hp => by
          have r2 := Rep.mono (fun _ z => z) (fun b u _ e => keep b u e) _ _ (k3 p hp)
          obtain ⟨t, e, k⟩ := tupI_of r2
          cases e
          rw [G]
          exact k
        have ne : ∀ p ∈ ks, p.2 ≠ [] := fun p hp => e2 _ (by rw [← k2]; exact List.mem_map.mpr ⟨p, hp, rfl⟩)
        refine ⟨l, ks, rfl, by rw [k1]; exact SqL.of hl, sq (fun _ _ e => e), by rw [← List.length_map (f := (·.2)), k2]; exact c, fun b Ls hb sub all => ?_⟩
        have kb : ∀ d u, H1 d = some u → upd H1 b (SetTO X.prog X.w b Ls) d = some u := fun d u e => by rw [upd_ne (ne_of_none e hb)]; exact e
        refine ⟨b, Ls, rfl, upd_same, fun p hp => ⟨sq kb p (sub p hp), ne p (sub p hp)⟩, fun zs p hp nd so hn => ?_⟩
        have mem : ∀ x, x ∈ Ls.map (·.2) ↔ x ∈ dedB nss := fun x => by
          rw [dedB_mem, ← k2]
          constructor
          · intro h
            obtain ⟨y, hy, rfl⟩ := List.mem_map.mp h
            exact List.mem_map.mpr ⟨y, sub y hy, rfl⟩
          · intro h
            obtain ⟨y, hy, rfl⟩ := List.mem_map.mp h
            exact all y hy
        have e : zs.map (·.2) = srtSet nss := srt_uniq lex_an so (srtB_srtd swo_lex _) (by
          have p1 := hp.map (·.2)
          rw [List.map_map] at p1
          exact (p1.trans ((List.perm_ext_iff_of_nodup nd (dedB_nodup nss)).mpr mem)).trans (srtB_perm _).symm)
        have S2 := S1.new (o := SetTO X.prog X.w b Ls) hb
        have E2 : Ext Z1 F H1 Z1 (upd H1 b (SetTO X.prog X.w b Ls)) := Ext.new1 S1 hb fun _ z => z
        have rp := pairs_back (T := T) (Z := Z1) (H := upd H1 b (SetTO X.prog X.w b Ls)) (zs := zs) fun z hz => by
          obtain ⟨y, hy, rfl⟩ := List.mem_map.mp (hp.mem_iff.mp hz)
          exact Rep.ext E2 (k3 y (sub y hy))
        rw [e] at rp
        have E3 : Ext Z1 F (upd H1 b (SetTO X.prog X.w b Ls)) Z1 (upd (upd H1 b (SetTO X.prog X.w b Ls)) p (.lst (zs.map (·.1)))) := Ext.new1 S2 hn fun _ z => z
        exact h1 (.ref p) Z1 _ (E2.trans E3 fun _ z => z) (S2.new hn) ⟨p, _, rfl, upd_same, RepL.ext E3 rp, S2.notZ hn, S2.notF hn, S2.notOwn hn⟩
    | _ => rw [q1] at h1; exact h1.elim
end
end Dv

set_option Elab.async false
set_option linter.all false
set_option maxRecDepth 100000
set_option maxHeartbeats 1000000
/-! Dx5: raise X(), except X as n (several clauses). -/
namespace Dv
open PySem PySem.Spec PyProof.Rows L2
/-! ### X() -/
theorem mk_own0 {X : Cx} {x : Str} {C : Addr} {p pos : Pos} (q : PySem.W.excIn X.K C He.veBase "ValueError.__new__" = true) (gC : X.mg x = some (.ref C)) (kC : PySem.W.keepIn X.K (.ref C) = true) (r : Raises X (.ref C)) (hg : Gl X x) (hdb : (x == ("__debug__" : Str)) = false) :
    PMk X (.Call (.Name x p) [] [] pos) (fun _ H Q => Q (.ref C) none H) := by
  intro pins s σ H Q I h
  refine wpAny_Call_Name_kw (ld_glob I hg gC ?_ hdb)
  refine PySem.W.callWith_K0 I.kIn kC ?_
  obtain ⟨bm, N, nm, qn, bs, hdct, sn, sub, ab, col, dd, k0, k1, k2, k3, k5, mN, hC, hN, hni, T⟩ := exc_obj I.kIn q
  exact wpAny_call_exc_subT PySem.F.excBase_ValueError T hC hN hni (fun h' e hm => mk_of I hm r h (I.hok.gone hm.new)) (Nat.zero_le _)
/-! ### several clauses, each with a name -/
abbrev TH := Addr → Value → Option Addr → TS
def offE (i : Nat) (D : Ends) : Ends := { nx := fun σ H => D.nx (σ.set i none) H, rt := D.rt, bk := fun σ H => D.bk (σ.set i none) H, ct := fun σ H => D.ct (σ.set i none) H }
def wAll (K : PySem.W.Frag) (Wo : WX) (D : Ends) : List (Value × Nat × TH) → WX
  | [] => Wo
  | (c, i, th) :: r => fun cls d σ H => ∃ b, PySem.W.exmOne K cls c = some b ∧ (b = true → ∀ a, H a = none → th a cls d (offE i D) (σ.set i (some (.ref a))) H) ∧ (b = false → wAll K Wo D r cls d σ H)
inductive HAll (X : Cx) : List ExceptHandler → List (Value × Nat × TH) → Prop
  | nil : HAll X [] []
  | cons {x n : Str} {c : Value} {i : Nat} {th : TH} {b0 : Stmt} {su : List Stmt} {np hp : Pos} {hds : List ExceptHandler} {l : List (Value × Nat × TH)} (nmc : Names X x c) (ixn : X.N[i]? = some n) (loc : X.env.kindOf n = some .local)
      (run : ∀ (a : Addr) (oe : Obj) (cls : Value) (d : Option Addr) (pn : List (Addr × Obj)), Zc cls d oe → (∃ vs, oe.data = .fields vs) → PSs (X.suite a ((a, oe) :: pn)) (b0 :: su) (th a cls d)) (rest : HAll X hds l) :
      HAll X (.ExceptHandler (some (.Name x np)) (some n) (b0 :: su) hp :: hds) ((c, i, th) :: l)
theorem try_all {X : Cx} {body : List Stmt} {hd0 : ExceptHandler} {hds : List ExceptHandler} {l : List (Value × Nat × TH)} {pos : Pos} {tb : WX → TS} {Wo : WX} (stk : X.stack = X.env :: X.outer) (frm : X.env.frame = some X.env.locals) (nod : X.N.Nodup) (tk : Takes X Wo)
    (hb : ∀ (W : WX) (pn : List (Addr × Obj)) (xe : Value → Shared → Prop), Takes (X.tr pn xe) W → PassesOwn (model X.prog X.w) X.A X.env xe → PSs (X.tr pn xe) body (tb W))
    (all : HAll X (hd0 :: hds) l) : PS X (.Try body (hd0 :: hds) [] [] pos) (fun D σ H => tb (wAll X.K Wo D l) D σ H) := by
  refine ⟨fun pins s σ H D I hyp => ?_⟩
  have xok := I.ok
  have frm2 : X.A.frames = some (X.env :: X.outer) := by rw [xok.frames, stk]
  refine wpAny_Try_except ?_
  refine wpAny_mono ((hb (wAll X.K Wo D l) (X.pn ++ pins) (fun ev st => wpAny (model X.prog X.w) X.A (noteFrame ev X.env) (fun _ st2 => wpAny (model X.prog X.w) X.A (setFlight ev none) (fun _ st3 =>
    wpAny (model X.prog X.w) X.A (handleBy ev X.env (hd0 :: hds)) (SP X pins D) X.xe st3) X.xe st2) X.xe st) (fun u s' flown => ?_) PassesOwn.looking).run [] s σ H D (I.toTry _) hyp) (fun fl s1 ended => ?_) (fun _ _ out => out)
  · obtain ⟨a, B, sI, pins', σ', H', cls, d, rfl, I0, nb, up, sky, na, os, ag, wish⟩ := flown
    have J : Inv X pins σ' H' sI := I0.ofTry xok
    have skyB : Sky B (X.env :: X.outer) a (Zc cls d) X.env.locals s'.heap := by rw [← stk]; exact sky
    show wpAny (model X.prog X.w) X.A (noteFrame (.ref a) X.env) _ _ _; refine Sky.land Zc.steady frm2 frm skyB fun hq flq upq => ?_
    have Jq : Inv X pins σ' H' { s' with heap := hq } := J.landed nb flq.1 (up.trans upq) os ag
    obtain ⟨oq, vq, geq, zq, dq⟩ := flq.there
    have apart : ∀ {h : Heap} {o : Obj} {vs : Array Value}, h.FunFrames B (X.env :: X.outer) → h.get? a = some o → o.data = .fields vs → a ∉ frs (X.env :: X.outer) := fun {h o vs} ff e dd hm => by
      obtain ⟨_, o2, e2, nf⟩ := ff.mem hm
      rw [e] at e2
      cases e2
      exact nf _ dd
    have noF := apart flq.2.2.1 geq dq
    have noL : a ≠ X.env.locals := fun z => noF (List.mem_filterMap.mpr ⟨X.env, List.mem_cons_self, by rw [frm, z]⟩)
    have noO : a ∉ X.fs := fun hm => by
      obtain ⟨ev, hev, z⟩ := List.mem_filterMap.mp hm
      exact noF (List.mem_filterMap.mpr ⟨ev, List.mem_cons_of_mem _ hev, z⟩)
    have Sq := Jq.suite geq dq na noL noO
    have go : ∀ {hs2 : List ExceptHandler} {l2 : List (Value × Nat × TH)}, HAll X hs2 l2 → wAll X.K Wo D l2 cls d σ' H' → wpAny (model X.prog X.w) X.A (handleBy (.ref a) X.env hs2) (SP X pins D) X.xe { s' with heap := hq } := by
      intro hs2 l2 hk
      induction hk with
      | nil =>
        intro w
        refine wpAny_handleBy_nil ?_
        obtain ⟨k1, k2, k3, oe, vs, T, oT, ts', he, hz, hd, h1, hr⟩ := id flq
        unfold PySem.passOn; refine wpAny_bind (wpAny_field he hd h1 ?_)
        rw [if_neg (by simp : ¬ ((Value.ref T == Value.none) = true))]
        have fin : wpAny (model X.prog X.w) X.A (setFlight (.ref a) X.env.frame) (fun _ st => wpAny (model X.prog X.w) X.A (throw (.ref a) : Sem Flow) (SP X pins D) X.xe st) X.xe { s' with heap := hq } := by
          rw [frm]
          exact HandSPX.setFlight_upZ flq fun h4 hh4 up4 => wpAny_throw (tk _ _ ⟨a, B, sI, pins, σ', H', cls, d, rfl, J, nb, (up.trans upq).trans up4, .inr (.inr (by rw [stk]; exact hh4)), na, os, ag, w⟩)
        first
          | exact wpAny_bind (wpAny_pure (wpAny_bind fin))
          | exact wpAny_bind fin
      | @cons x n c i th b0 su np hp hds2 l3 nmc ixn loc run rest ih =>
        intro w
        obtain ⟨b, hb1, yes, no⟩ := w
        refine wpAny_handleBy_cons (codeAny_handlers_test ?_) (fun z => nomatch z)
        have look1 : PySem.W.Looks (model X.prog X.w) hq (typeOf (.ref a)) cls := fun A Q E s k q => wpAny_typeOf_ref (k _ _ geq) (by rw [zq.1]; exact q)
        have look2 := PySem.W.exm_one (M := model X.prog X.w) Jq.kIn look1 hb1
        have ask : ∀ {Q : Value → Shared → Prop} {E : Value → Shared → Prop}, Q c { s' with heap := hq } → wpAny (model X.prog X.w) (X.A.mark (some (.ref a))) (eval (.Name x np) X.env) Q E { s' with heap := hq } := fun {Q E} q => by
          obtain ⟨g1, g2, g3 | ⟨g3, g4, g5⟩⟩ := nmc
          · exact ld_glob (X := X.suite a ((a, oq) :: (X.pn ++ pins))) Sq g1 g3 q g2
          · exact ld_blt (X := X.suite a ((a, oq) :: (X.pn ++ pins))) Sq g1 g3 g4 q g5 g2
        refine ask (look2.here ?_)
        cases b with
        | false => exact ih (no rfl)
        | true =>
          refine codeAny_handlers_suite_as ?_; refine HandSPX.lands_againZ flq fun h4 fl4 up4 => ?_
          have J4 : Inv X pins σ' H' { s' with heap := h4 } := J.landed nb fl4.1 ((up.trans upq).trans up4) os ag
          obtain ⟨o4, v4, ge4, z4, d4⟩ := fl4.there
          have S4 := J4.suite ge4 d4 na noL noO
          refine store_ok (X := X.suite a ((a, o4) :: (X.pn ++ pins))) (v := .ref a) S4 nod ixn (.inl loc) rfl (fun s5 S5 => ?_) (.inr loc)
          refine wpAny_mono ((run a o4 cls d (X.pn ++ pins) z4 ⟨_, d4⟩).run [] s5 _ H' _ S5 (yes rfl a na)) (fun fl s6 ended => ?_) (fun _ _ z => z.elim)
          have gone : ∀ {σ6 : L2.St} {H6 : Hp} {Q : Shared → Prop}, Inv (X.suite a ((a, o4) :: (X.pn ++ pins))) [] σ6 H6 s6 → (∀ s7, Inv X pins (σ6.set i none) H6 s7 → Q s7) →
              wpAny (model X.prog X.w) X.A (do bindName X.env n .none; unbindBehindTheSuite X.env n hp) (fun _ s7 => Q s7) X.xe s6 := fun {σ6 H6 Q} S6 hq => gone_ok (S6.unsuite xok) nod ixn loc hq
          cases fl with
          | next =>
            obtain ⟨_, _, S6, q6⟩ := ended
            exact gone S6 fun s7 J7 => ⟨_, _, J7, q6⟩
          | brk =>
            obtain ⟨_, _, S6, q6⟩ := ended
            exact gone S6 fun s7 J7 => ⟨_, _, J7, q6⟩
          | cont =>
            obtain ⟨_, _, S6, q6⟩ := ended
            exact gone S6 fun s7 J7 => ⟨_, _, J7, q6⟩
          | ret u =>
            obtain ⟨_, _, _, S6, r6, q6⟩ := ended
            exact gone S6 fun s7 J7 => ⟨_, _, _, J7, r6, q6⟩
    exact go all wish
  · cases fl with
    | next =>
      obtain ⟨_, _, J', q⟩ := ended
      exact wpAny_execs_nil ⟨_, _, J'.ofTry xok, q⟩
    | brk =>
      obtain ⟨_, _, J', q⟩ := ended
      exact ⟨_, _, J'.ofTry xok, q⟩
    | cont =>
      obtain ⟨_, _, J', q⟩ := ended
      exact ⟨_, _, J'.ofTry xok, q⟩
    | ret u =>
      obtain ⟨_, _, _, J', r, q⟩ := ended
      exact ⟨_, _, _, J'.ofTry xok, r, q⟩
/-! ### with data -/
/-- what K holds of the exception classes of a text: cs their names -/
structure ExK (T : Tx) (cs : List Str) (mg : Str → Option Value) : Prop where
  exc : ∀ (c : Nat) (x : Str), cs[c]? = some x → mg x = some (.ref (T.ca c)) ∧ PySem.W.excIn T.K (T.ca c) He.veBase "ValueError.__new__" = true ∧ PySem.W.keepIn T.K (.ref (T.ca c)) = true ∧ PySem.W.subIn T.K (.ref (T.ca c)) (.type "BaseException") = some true ∧
    PySem.W.typeIn T.K (.ref (T.ca c)) = some (.type "type")
  exm : ∀ (c e : Nat) (x y : Str), cs[c]? = some x → cs[e]? = some y → PySem.W.exmOne T.K (.ref (T.ca c)) (.ref (T.ca e)) = some (decide (c = e))
  isv : ∀ (c : Nat) (x : Str), cs[c]? = some x → ExcC T.K (T.ca c) ∧ PySem.W.kitOne T.K (.ref (T.ca c)) (.type "ValueError") = some true
def evRaise (cs : List Str) (c : Nat) (τ : FS) : Res SO := if c < cs.length then .ex ⟨c, none⟩ τ else .no
section
variable {T : Tx} {X : Cx} {W : WX} {P : Nat → Bool} {cs : List Str}
theorem s_raise {x : Str} {p p2 pos : Pos} {c : Nat} (G : X.K = T.K) (E : ExK T cs X.mg) (hc : X.calm = true) (tk : Takes X W) (hx : cs[c]? = some x) (hg : Gl X x) (hdb : (x == ("__debug__" : Str)) = false) :
    PS X (.Raise (some (.Call (.Name x p) [] [] p2)) none pos) (tS T W P (evRaise cs c)) := by
  obtain ⟨e1, e2, e3, e4, e5⟩ := E.exc c x hx
  refine PS.mono (ps_raise hc tk (mk_own0 (by rw [G]; exact e2) e1 (by rw [G]; exact e3) (raises_own (by rw [G]; exact e4) (by rw [G]; exact e5)) hg hdb)) fun D σ H ⟨Z, F, τ, S, h⟩ => ?_
  have hl : c < cs.length := (List.getElem?_eq_some_iff.mp hx).1
  have h : PostS T W P Z F H σ (if c < cs.length then .ex ⟨c, none⟩ τ else .no) D := h
  rw [if_pos hl] at h
  exact h _ none σ Z H PinEq.refl Ext.refl S ⟨rfl, rfl⟩
/-- clauses: the class, the name's slot, what is returned where the error is a ValueError -/
abbrev HL := List (Nat × Nat × Str)
def pickH (c : Nat) : HL → Option (Nat × Str)
  | [] => none
  | (e, i, z) :: r => if c = e then some (i, z) else pickH c r
/-- the suites return a text -/
def evTryR (cs : List Str) (hl : HL) (fb : FS → Res SO) (τ : FS) : Res SO := match fb τ with
  | .ex x τ1 => (match x.p with
    | none => if x.c < cs.length then (match pickH x.c hl with
      | some (i, z) => if τ1.length ≤ i then .no else .ok (.rt (.val (.str z))) τ1
      | none => .ex x τ1) else .no
    | some _ => .no)
  | r => r
/-- the suite's reading -/
def suiT (T : Tx) (i : Nat) (e : Nat) (z : Str) : TH := fun a cls d => fun D σ H => σ[i]? = some (some (.ref a)) ∧ cls = .ref (T.ca e) ∧ d = none ∧ D.rt (.str z) H
theorem suite_ok {n : Str} {i e : Nat} {x : Str} {z z2 : Str} {a : Addr} {oe : Obj} {cls : Value} {d : Option Addr} {pn : List (Addr × Obj)} {p1 p2 p3 p4 p5 p6 p7 pr : Pos} {j1 j2 : Nat} (G : X.K = T.K) (E : ExK T cs X.mg) (hx : cs[e]? = some x) (hN : X.N[i]? = some n) (hv : Vis X.env.scope n)
    (nd1 : (n == ("__debug__" : Str)) = false) (nd2 : (n == ("__classdict__" : Str)) = false) (g1 : Gl X "isinstance") (m1 : X.mg "isinstance" = none) (g2 : Gl X "ValueError") (m2 : X.mg "ValueError" = none) (hz : Zc cls d oe) (hf : ∃ vs, oe.data = .fields vs) :
    PSs (X.suite a ((a, oe) :: pn)) [.Return (some (.IfExp (.Call (.Name "isinstance" p1) [.Name n p2, .Name "ValueError" p3] [] p4) (.Constant (.str z) j1 p5) (.Constant (.str z2) j2 p6) p7)) pr] (suiT T i e z a cls d) := by
  refine ⟨fun pins s σ H D I hyp => ?_⟩
  obtain ⟨h1, rfl, rfl, hq⟩ := hyp
  obtain ⟨xc, kv⟩ := E.isv e x hx
  have xc : ExcC (X.suite a ((a, oe) :: pn)).K (T.ca e) := by
    show ExcC X.K _
    rw [G]
    exact xc
  have kv : PySem.W.kitOne (X.suite a ((a, oe) :: pn)).K (.ref (T.ca e)) (.type "ValueError") = some true := by
    show PySem.W.kitOne X.K _ _ = _
    rw [G]
    exact kv
  have pv : PE (X.suite a ((a, oe) :: pn)) (.Name n p2) (tVar i) := pe_var hN hv nd1 nd2
  have pb : PE (X.suite a ((a, oe) :: pn)) (.Name "ValueError" p3) (tC (.ty "ValueError")) := pe_bltn g2 m2 rfl rfl
  have call := pe_callB (X := X.suite a ((a, oe) :: pn)) (p := p1) (pos := p4) (call_isE xc hz hf) g1 m1 rfl (pa_cons pv (pa_cons pb pa_nil))
  have test := pt_truth call fun _ => rfl
  refine (pss_one (ps_ret (pe_ifExp test pe_str pe_str))).run pins s σ H D I ?_
  refine ⟨.ref a, h1, .ty "ValueError", .type "ValueError", true, rfl, ?_, kv, true, rfl, ?_⟩
  · intro u ru
    exact ru
  · show (if true = true then _ else _)
    rw [if_pos rfl]
    exact hq
def hlT (T : Tx) (hl : HL) : List (Value × Nat × TH) := hl.map fun q => (.ref (T.ca q.1), q.2.1, suiT T q.2.1 q.1 q.2.2)
theorem s_tryR {body : List Stmt} {h0 : ExceptHandler} {hds : List ExceptHandler} {hl : HL} {pos : Pos} {fb : FS → Res SO} (G : X.K = T.K) (E : ExK T cs X.mg) (stk : X.stack = X.env :: X.outer) (frm : X.env.frame = some X.env.locals) (nod : X.N.Nodup) (tk : Takes X W)
    (hb : ∀ (W : WX) (pn : List (Addr × Obj)) (xe : Value → Shared → Prop), Takes (X.tr pn xe) W → PassesOwn (model X.prog X.w) X.A X.env xe → PSs (X.tr pn xe) body (tS T W P fb))
    (all : HAll X (h0 :: hds) (hlT T hl)) (hcs : ∀ q ∈ hl, q.1 < cs.length) : PS X (.Try body (h0 :: hds) [] [] pos) (tS T W P (evTryR cs hl fb)) := by
  refine PS.mono (try_all stk frm nod tk hb all) fun D σ H ⟨Z, F, τ, S, h⟩ => ⟨Z, F, τ, S, ?_⟩
  unfold evTryR at h
  cases q : fb τ with
  | ok a τ' =>
    rw [q] at h
    cases a <;> exact h
  | no => rw [q] at h; exact h
  | ex x τ1 =>
    rw [q] at h
    dsimp only at h
    intro cls dx σ' Z' H' pe e S' xr
    obtain ⟨rfl, xp⟩ := xr
    cases q2 : x.p with
    | some pr => rw [q2] at h; exact h.elim
    | none =>
      rw [q2] at h xp
      dsimp only at h xp
      subst xp
      by_cases hc : x.c < cs.length
      case neg => rw [if_neg hc] at h; exact h.elim
      rw [if_pos hc] at h
      have hx := List.getElem?_eq_getElem hc
      have main : ∀ hl : HL, (∀ q ∈ hl, q.1 < cs.length) → PostS T W P Z F H σ (match pickH x.c hl with
        | some (i, z) => if τ1.length ≤ i then .no else .ok (.rt (.val (.str z))) τ1
        | none => .ex x τ1) D → wAll X.K W D (hlT T hl) (.ref (T.ca x.c)) none σ' H' := by
       intro hl
       induction hl with
       | nil => exact fun _ h => h (.ref (T.ca x.c)) none σ' Z' H' pe e S' ⟨rfl, by rw [q2]⟩
       | cons p hl ih =>
        intro hcs h
        obtain ⟨ce, i, z⟩ := p
        have hce : ce < cs.length := hcs _ List.mem_cons_self
        refine ⟨decide (x.c = ce), by rw [G]; exact E.exm x.c ce _ _ hx (List.getElem?_eq_getElem hce), fun hb a ha => ?_, fun hb => ?_⟩
        · have heq : x.c = ce := of_decide_eq_true hb
          have hp : pickH x.c ((ce, i, z) :: hl) = some (i, z) := by
            show (if x.c = ce then some (i, z) else pickH x.c hl) = _
            rw [if_pos heq]
          rw [hp] at h
          dsimp only at h
          by_cases hi : τ1.length ≤ i
          · rw [if_pos hi] at h; exact h.elim
          · rw [if_neg hi] at h
            have hl : i < σ'.length := by rw [← S'.len]; omega
            exact ⟨by rw [List.getElem?_set_self hl], by rw [heq], rfl, h (.str z) σ' Z' H' pe e S' rfl⟩
        · have hne : ¬ x.c = ce := of_decide_eq_false hb
          have hp : pickH x.c ((ce, i, z) :: hl) = pickH x.c hl := by
            show (if x.c = ce then some (i, z) else pickH x.c hl) = _
            rw [if_neg hne]
          rw [hp] at h
          exact ih (fun q hq => hcs q (List.mem_cons_of_mem _ hq)) h
      exact main hl hcs h
end
end Dv

set_option Elab.async false
set_option linter.all false
set_option maxRecDepth 100000
set_option maxHeartbeats 2000000
/-! Dx6: list comprehensions of two clauses. -/
namespace Dv
open PySem PySem.Spec PyProof.Rows L2
section
variable {T : Tx} {X : Cx} {W : WX} {P : Nat → Bool} {Z Z' Z1 Z2 F F' F1 : AP'} {H H' H1 H2 : Hp} {d : D} {ds es : List D} {v w : V} {vs ws xs ys : List V} {τ τ0 τ' τ1 τ2 : FS} {σ σ' σ1 : L2.St} {is js : List Nat}
theorem wipe_wipe (h : ∀ i, js.contains i = true → is.contains i = true) : L2.wipe (L2.wipe σ js) is = L2.wipe σ is := by
  apply List.ext_getElem?
  intro i
  cases c : is.contains i with
  | false =>
    have cj : js.contains i = false := by
      cases q : js.contains i with
      | false => rfl
      | true => rw [h i q] at c; cases c
    rw [wipe_out c, wipe_out c, wipe_out cj]
  | true =>
    by_cases hi : i < σ.length
    · rw [wipe_in c hi, wipe_in c (by rw [wipe_length]; exact hi)]
    · rw [List.getElem?_eq_none (by rw [wipe_length, wipe_length]; omega), List.getElem?_eq_none (by rw [wipe_length]; omega)]
/-- the turns of two clauses -/
def lc2L (is js : List Nat) (ga : RV → FS → Res Unit) (ft : FS → Res Bool) (fi1 : FS → Res (List D)) (ga1 : RV → FS → Res Unit) (ft1 : FS → Res Bool) (fe : FS → Res RV) : List D → List D → FS → Res (List D)
  | acc, [], τ => .ok acc τ
  | acc, d :: r, τ => match ga (.val d) τ with
    | .ok _ τ1 => if τ1.length = τ.length then (match ft τ1 with
      | .ok true τ2 => (match fi1 τ2 with
        | .ok ds1 τ3 => (match lcL js ga1 ft1 fe acc ds1 (wipeT js τ3) with
          | .ok acc' τ4 => lc2L is js ga ft fi1 ga1 ft1 fe acc' r (wipeT is τ4)
          | _ => .no)
        | _ => .no)
      | .ok false τ2 => lc2L is js ga ft fi1 ga1 ft1 fe acc r (wipeT is τ2)
      | _ => .no) else .no
    | _ => .no
def evLc2 (is js : List Nat) (fi : FS → Res (List D)) (ga : RV → FS → Res Unit) (ft : FS → Res Bool) (fi1 : FS → Res (List D)) (ga1 : RV → FS → Res Unit) (ft1 : FS → Res Bool) (fe : FS → Res RV) (τ : FS) : Res RV := bindR (fi τ) fun ds τ1 => match lc2L is js ga ft fi1 ga1 ft1 fe [] ds (wipeT is τ1) with
  | .ok acc τ2 => .ok (.fr acc) (mergeT is τ1 τ2)
  | _ => .no
theorem lc2_ok {fi fi1 : FS → Res (List D)} {ga ga1 : RV → FS → Res Unit} {ft ft1 : FS → Res Bool} {fe : FS → Res RV} {Q : VK} (hj : ∀ i, js.contains i = true → is.contains i = true) (hw : tW T W (evLc2 is js fi ga ft fi1 ga1 ft1 fe) σ H Q) :
    tLc2 (tI T W fi) (tG T (only is) ga) (tWT T WF ft) (tI T WF fi1) (tG T (only js) ga1) (tWT T WF ft1) (tW T WF fe) is js σ H Q := by
  obtain ⟨Z, F, τ, S, h⟩ := hw
  refine bind1 S h fun J ds τ1 Z1 H1 E1 S1 R1 h1 => ?_
  intro Dd hD
  have SN : SR T Z1 F τ1 σ (upd H1 Dd (.lst [])) := S1.new hD
  have SW := SN.wipeF (is := is)
  have EN : Ext Z1 (fun a => F a ∨ wOwn is τ1 σ a) H1 Z1 (upd H1 Dd (.lst [])) := ⟨fun _ z => z, fun a o z e => by rw [upd_ne (ne_of_none e hD)]; exact e⟩
  have nD : ¬ Z1 Dd := S1.notZ hD
  have nF : ¬ F Dd := S1.notF hD
  have nW : ¬ wOwn is τ1 σ Dd := fun ⟨i, es, _, e1, e2⟩ => S1.notOwn hD i es e1 e2
  generalize hF2 : (fun a => (F a ∨ wOwn is τ1 σ a) ∨ a = Dd) = F2
  have hF2i : ∀ a, F a ∨ wOwn is τ1 σ a → F2 a := fun a z => by rw [← hF2]; exact .inl z
  have hF2D : F2 Dd := by rw [← hF2]; exact .inr rfl
  have SW2 : SR T Z1 F2 (wipeT is τ1) (L2.wipe σ is) (upd H1 Dd (.lst [])) := by
    rw [← hF2]
    refine ⟨SW.zt, fun a z => ?_, fun a z q => ?_, SW.len, SW.fz, fun i es e => ?_, SW.ap⟩
    · rcases z with z | rfl
      · exact SW.ft a z
      · rw [upd_same]; exact fun z => nomatch z
    · rcases q with q | rfl
      · exact SW.zf a z q
      · exact nD z
    · obtain ⟨a, vs, h1, h2, h3, h4, h5⟩ := SW.ow i es e
      refine ⟨a, vs, h1, h2, h3, h4, fun q => ?_⟩
      rcases q with q | rfl
      · exact h5 q
      · obtain ⟨e, c⟩ := wipeT_of e (fun z => nomatch z)
        rw [wipe_out c] at h1
        exact S1.notOwn hD i es e h1
  -- what holds between the outer turns: r is what is left
  let NX : List D → Hp → Prop := fun r H => ∃ Z2 τ2 acc vs, Ext Z1 (fun a => F a ∨ wOwn is τ1 σ a) H1 Z2 H ∧ SR T Z2 F2 τ2 (L2.wipe σ is) H ∧ H Dd = some (.lst vs) ∧ RepL T Z2 H acc vs ∧
      PostR T W (relE T) Z1 F H1 σ (match lc2L is js ga ft fi1 ga1 ft1 fe acc r τ2 with
        | .ok acc τ2 => .ok (.fr acc) (mergeT is τ1 τ2)
        | _ => .no) Q
  refine ⟨fun i m H => i ≤ ds.length ∧ m = ds.length - i ∧ NX (ds.drop i) H, ⟨ds.length, Nat.zero_le _, rfl, Z1, wipeT is τ1, [], [], EN, SW2, upd_same, rfl, h1⟩, ?_⟩
  rintro i m H2 ⟨hi, rfl, Z2, τ2, acc, vs, E2, S2, hv, ra, h2⟩
  by_cases hlt : i < ds.length
  · have hd : ds.drop i = ds[i] :: ds.drop (i + 1) := List.drop_eq_getElem_cons hlt
    rw [hd] at h2
    unfold lc2L at h2
    refine .inr ⟨R1.go Z2 H2 i E2.toF0 hlt, NX (ds.drop (i + 1)), fun H' q => ⟨_, by omega, hlt, rfl, q⟩, fun x H3 y => ?_⟩
    obtain ⟨Z3, E3, S3, R3⟩ := S2.yld (R1.yld Z2 H2 i _ x H3 E2.toF0 (List.getElem?_eq_getElem hlt) y)
    refine ⟨Z3, F2, τ2, .val ds[i], S3, R3, ?_⟩
    cases q : ga (.val ds[i]) τ2 with
    | ex x τ' => rw [q] at h2; exact h2.elim
    | no => rw [q] at h2; exact h2.elim
    | ok u τ3 =>
      rw [q] at h2
      dsimp only at h2
      by_cases hlen : τ3.length = τ2.length
      case neg => rw [if_neg hlen] at h2; exact h2.elim
      rw [if_pos hlen] at h2
      intro σ4 Z4 H4 P4 E4 S4
      have hw4 : L2.wipe σ4 is = L2.wipe σ is := by
        refine wipe_same ?_ P4
        rw [← S4.len, hlen, S2.len, wipe_length]
      have E24 : Ext Z2 F2 H2 Z4 H4 := E3.trans E4 fun _ z => z
      refine ⟨hw4, Z4, F2, τ3, S4, ?_⟩
      cases q2 : ft τ3 with
      | ex x τ' => rw [q2] at h2; exact h2.elim
      | no => rw [q2] at h2; exact h2.elim
      | ok k τ4 =>
        rw [q2] at h2
        intro k' Z5 H5 E5 S5 hk
        have hk : k' = k := hk
        subst hk
        have E25 : Ext Z2 F2 H2 Z5 H5 := E24.trans E5 fun _ z => z
        cases k' with
        | false =>
          rw [if_neg Bool.false_ne_true]
          refine ⟨Z5, wipeT is τ4, acc, vs, E2.trans (E25.narrow hF2i) fun _ z => z, ?_, E25.keep Dd _ (.inr hF2D) hv, RepL.ext E25 ra, h2⟩
          rw [← hw4]
          exact S5.wipe
        | true =>
          dsimp only at h2
          rw [if_pos rfl]
          -- the inner walk
          refine ⟨Z5, F2, τ4, S5, ?_⟩
          cases q3 : fi1 τ4 with
          | ex x τ' => rw [q3] at h2; exact h2.elim
          | no => rw [q3] at h2; exact h2.elim
          | ok ds1 τ5 =>
            rw [q3] at h2
            dsimp only at h2
            intro J1 Z6 H6 E6 S6 R6
            have E26 : Ext Z2 F2 H2 Z6 H6 := E25.trans E6 fun _ z => z
            have hv6 : H6 Dd = some (.lst vs) := E26.keep Dd _ (.inr hF2D) hv
            have ra6 := RepL.ext E26 ra
            have E16 : Ext Z1 (fun a => F a ∨ wOwn is τ1 σ a) H1 Z6 H6 := E2.trans (E26.narrow hF2i) fun _ z => z
            let NX1 : List D → Hp → Prop := fun r H => ∃ Z7 τ7 acc7 vs7, Ext Z6 (fun a => F a ∨ wOwn is τ1 σ a) H6 Z7 H ∧ SR T Z7 F2 τ7 (L2.wipe σ4 js) H ∧ H Dd = some (.lst vs7) ∧ RepL T Z7 H acc7 vs7 ∧
              PostR T W (relE T) Z1 F H1 σ (match (match lcL js ga1 ft1 fe acc7 r τ7 with
                | .ok acc' τ4 => lc2L is js ga ft fi1 ga1 ft1 fe acc' (ds.drop (i + 1)) (wipeT is τ4)
                | _ => .no) with
                | .ok acc τ2 => .ok (.fr acc) (mergeT is τ1 τ2)
                | _ => .no) Q
            refine ⟨fun j m H => j ≤ ds1.length ∧ m = ds1.length - j ∧ NX1 (ds1.drop j) H, ⟨ds1.length, Nat.zero_le _, rfl, Z6, wipeT js τ5, acc, vs, Ext.refl, S6.wipe, hv6, ra6, h2⟩, ?_⟩
            rintro j m H7 ⟨hi7, rfl, Z7, τ7, acc7, vs7, E7, S7, hv7, ra7, h7⟩
            by_cases hlt7 : j < ds1.length
            · have hd7 : ds1.drop j = ds1[j] :: ds1.drop (j + 1) := List.drop_eq_getElem_cons hlt7
              rw [hd7] at h7
              unfold lcL at h7
              refine .inr ⟨R6.go Z7 H7 j E7.toF0 hlt7, NX1 (ds1.drop (j + 1)), fun H' q => ⟨_, by omega, hlt7, rfl, q⟩, fun x H8 y => ?_⟩
              obtain ⟨Z8, E8, S8, R8⟩ := S7.yld (R6.yld Z7 H7 j _ x H8 E7.toF0 (List.getElem?_eq_getElem hlt7) y)
              refine ⟨Z8, F2, τ7, .val ds1[j], S8, R8, ?_⟩
              cases q8 : ga1 (.val ds1[j]) τ7 with
              | ex x τ' => rw [q8] at h7; exact h7.elim
              | no => rw [q8] at h7; exact h7.elim
              | ok u τ8 =>
                rw [q8] at h7
                dsimp only at h7
                by_cases hlen8 : τ8.length = τ7.length
                case neg => rw [if_neg hlen8] at h7; exact h7.elim
                rw [if_pos hlen8] at h7
                intro σ9 Z9 H9 P9 E9 S9
                have hw9 : L2.wipe σ9 js = L2.wipe σ4 js := by
                  refine wipe_same ?_ P9
                  rw [← S9.len, hlen8, S7.len, wipe_length]
                have E79 : Ext Z7 F2 H7 Z9 H9 := E8.trans E9 fun _ z => z
                refine ⟨hw9, Z9, F2, τ8, S9, ?_⟩
                have next : ∀ {Z5 : AP'} {H5 : Hp} {τ5 : FS}, Ext Z9 F2 H9 Z5 H5 → SR T Z5 F2 τ5 σ9 H5 → Ext Z6 (fun a => F a ∨ wOwn is τ1 σ a) H6 Z5 H5 ∧ SR T Z5 F2 (wipeT js τ5) (L2.wipe σ4 js) H5 ∧ H5 Dd = some (.lst vs7) ∧ RepL T Z5 H5 acc7 vs7 := fun {Z5 H5 τ5} E5 S5 => by
                  have E75 : Ext Z7 F2 H7 Z5 H5 := E79.trans E5 fun _ z => z
                  refine ⟨E7.trans (E75.narrow hF2i) fun _ z => z, ?_, E75.keep Dd _ (.inr hF2D) hv7, RepL.ext E75 ra7⟩
                  rw [← hw9]
                  exact S5.wipe
                cases q9 : ft1 τ8 with
                | ex x τ' => rw [q9] at h7; exact h7.elim
                | no => rw [q9] at h7; exact h7.elim
                | ok k τ9 =>
                  rw [q9] at h7
                  intro k' Z10 H10 E10 S10 hk
                  have hk : k' = k := hk
                  subst hk
                  cases k' with
                  | false =>
                    obtain ⟨n1, n2, n3, n4⟩ := next E10 S10
                    rw [if_neg Bool.false_ne_true]
                    exact ⟨Z10, wipeT js τ9, acc7, vs7, n1, n2, n3, n4, h7⟩
                  | true =>
                    dsimp only at h7
                    rw [if_pos rfl]
                    refine ⟨Z10, F2, τ9, S10, ?_⟩
                    cases q10 : fe τ9 with
                    | ex x τ' => rw [q10] at h7; exact h7.elim
                    | no => rw [q10] at h7; exact h7.elim
                    | ok yr τ10 =>
                      rw [q10] at h7
                      dsimp only at h7
                      intro yv Z11 H11 E11 S11 R11
                      cases q11 : frz yr τ10 with
                      | none => rw [q11] at h7; exact h7.elim
                      | some p =>
                        obtain ⟨d', τ11⟩ := p
                        rw [q11] at h7
                        dsimp only at h7
                        by_cases hz : acc7.length < sizeLine
                        case neg => rw [if_neg hz] at h7; exact h7.elim
                        rw [if_pos hz] at h7
                        obtain ⟨Z12, s12, S12, R12, _⟩ := frz_ok S11 R11 q11
                        have E12 : Ext Z11 F2 H11 Z12 H11 := ⟨s12, fun _ _ _ h => h⟩
                        obtain ⟨n1, n2, n3, n4⟩ := next ((E10.trans E11 fun _ z => z).trans E12 fun _ z => z) S12
                        have nZ : ¬ Z12 Dd := fun z => S12.zf Dd z hF2D
                        have EU : Ext Z12 (fun a => F a ∨ wOwn is τ1 σ a) H11 Z12 (upd H11 Dd (.lst (vs7 ++ [yv]))) := Ext.write nZ fun z => z.elim nF nW
                        refine ⟨vs7, n3, by rw [n4.length]; exact hz, Z12, wipeT js τ11, acc7 ++ [d'], vs7 ++ [yv], n1.trans EU fun _ z => z, n2.updF hF2D, upd_same, RepL.ext EU (n4.append (.one R12)), h7⟩
            · have e : j = ds1.length := by omega
              subst e
              rw [List.drop_length] at h7
              refine .inl ⟨R6.stop Z7 H7 E7.toF0, Z7, wipeT is τ7, acc7, vs7, E16.trans E7 fun _ z => z, ?_, hv7, ra7, h7⟩
              rw [← hw4, ← wipe_wipe hj]
              exact S7.wipe
  · have e : i = ds.length := by omega
    subst e
    rw [List.drop_length] at h2
    refine .inl ⟨R1.stop Z2 H2 E2.toF0, ?_⟩
    refine h2 (.ref Dd) Z2 H2 (E2.narrow fun _ => .inl) (S1.merge E2 S2 hF2i) ⟨Dd, vs, rfl, hv, ra, fun z => S2.zf Dd z hF2D, nF, fun j es q1 q2 => ?_⟩
    rcases mergeT_cases q1 (fun z => nomatch z) with ⟨_, q1⟩ | ⟨c, q1⟩
    · exact S1.notOwn hD j es q1 q2
    · obtain ⟨b, us, k1, _, _, _, k5⟩ := S2.ow j es q1
      rw [wipe_out c, q2] at k1
      cases k1
      exact k5 hF2D
theorem r_lc2 {elt tg iter tg1 iter1 : Expr} {ifs ifs1 : List Expr} {scope : Scope} {own : List (Str × Nat)} {js : List Nat} {pos : Pos} {fi fi1 : FS → Res (List D)} {ga ga1 : RV → FS → Res Unit} {ft ft1 : FS → Res Bool} {fe : FS → Res RV} (hc : X.calm = true) (hN : X.N.Nodup) (hi : PI X tg iter (tI T W fi)) (ok : BlkOk X.N X.env.scope scope own)
    (hj : ∀ i, js.contains i = true → (own.map (·.2)).contains i = true)
    (hg : ∀ (s : Shared) (H : Hp) (C : Addr) (cl : List (Str × Addr)) (fp : List Addr), PG (X.blk s H scope (compEnvC scope cl C X.env) fp) tg (tG T (only (own.map (·.2))) ga))
    (ht : ∀ (s : Shared) (H : Hp) (C : Addr) (cl : List (Str × Addr)) (fp : List Addr), PTs (X.blk s H scope (compEnvC scope cl C X.env) fp) ifs (tWT T WF ft))
    (hi1 : ∀ (s : Shared) (H : Hp) (C : Addr) (cl : List (Str × Addr)) (fp : List Addr), PI (X.blk s H scope (compEnvC scope cl C X.env) fp) tg1 iter1 (tI T WF fi1))
    (hg1 : ∀ (s : Shared) (H : Hp) (C : Addr) (cl : List (Str × Addr)) (fp : List Addr), PG (X.blk s H scope (compEnvC scope cl C X.env) fp) tg1 (tG T (only js) ga1))
    (ht1 : ∀ (s : Shared) (H : Hp) (C : Addr) (cl : List (Str × Addr)) (fp : List Addr), PTs (X.blk s H scope (compEnvC scope cl C X.env) fp) ifs1 (tWT T WF ft1))
    (he : ∀ (s : Shared) (H : Hp) (C : Addr) (cl : List (Str × Addr)) (fp : List Addr), PE (X.blk s H scope (compEnvC scope cl C X.env) fp) elt (tW T WF fe)) (hs : ∀ x, foldedSetIterable iter X.env x = pure x) (hs1 : ∀ env x, foldedSetIterable iter1 env x = pure x) :
    PE X (.ListComp elt [⟨tg, iter, ifs, 0⟩, ⟨tg1, iter1, ifs1, 0⟩] scope pos) (tW T W (evLc2 (own.map (·.2)) js fi ga ft fi1 ga1 ft1 fe)) :=
  PE.mono (pe_lc2 hc hN hi ok (fun i hi => by simpa using hj i (by simpa using hi)) hg ht hi1 hg1 ht1 he hs hs1) fun σ H Q h => lc2_ok hj h
end
end Dv

set_option Elab.async false
set_option linter.all false
set_option maxRecDepth 100000
set_option maxHeartbeats 2000000
/-! Dx7: several names at once, by a tuple that is laid. -/
namespace Dv
open PySem PySem.Spec PyProof.Rows L2
section
variable {T : Tx} {X : Cx} {W : WX} {P : Nat → Bool} {Z Z' Z1 Z2 F F' F1 : AP'} {H H' H1 H2 : Hp} {τ τ0 τ' τ1 τ2 : FS} {σ σ' σ1 : L2.St}
theorem PGs.mono {es : List Expr} {t t' : TGs} (h : PGs X es t) (k : ∀ vs σ H Q, t' vs σ H Q → t vs σ H Q) : PGs X es t' := ⟨fun pins s σ H vs us Q I r hw => h.run pins s σ H vs us Q I r (k vs σ H Q hw)⟩
/-- stores at slots, one after the other -/
def gSet (is : List Nat) : TGs := fun vs σ H Q => vs.length = is.length ∧ Q (setVs is vs σ) H
theorem gset_nil : PGs X [] (gSet []) := PGs.mono pgs_nil fun vs σ H Q ⟨h, q⟩ => ⟨List.length_eq_zero_iff.mp h, by
  have e : vs = [] := List.length_eq_zero_iff.mp h
  subst e
  exact q⟩
theorem gset_cons {e : Expr} {es : List Expr} {i : Nat} {is : List Nat} (h1 : PG X e (gName i)) (h2 : PGs X es (gSet is)) (hs : (assignEach (e :: es) X.env).map (·.2) = assign e X.env :: (assignEach es X.env).map (·.2)) : PGs X (e :: es) (gSet (i :: is)) :=
  PGs.mono (pgs_cons h1 h2 hs) fun vs σ H Q ⟨h, q⟩ => by
    cases vs with
    | nil => cases h
    | cons v vs => exact ⟨v, vs, rfl, by simpa using h, q⟩
theorem s_parT {ts es : List Expr} {is : List Nat} {k : Nat} {p1 p2 pos : Pos} {x1} {fs : FS → Res (List RV)} (G : X.K = T.K) (hc : X.calm = true) (ha : PA X es (tWA T W fs)) (hg : PGs X ts (gSet is)) (hl : is.length ≤ 100)
    (hn : (assignEach ts X.env).length = is.length) (hst : (assignEach ts X.env).findIdx? (·.1) = none)
    (hs : swapsWithSole [.Tuple ts k p1] (.Tuple es x1 p2) pos.line X.env = pure false) (hw : swappedStores [.Tuple ts k p1] (.Tuple es x1 p2) X.env = pure none)
    (h1 : (assignEach [.Tuple ts k p1] X.env).map (·.2) = [assign (.Tuple ts k p1) X.env]) : PS X (.Assign [.Tuple ts k p1] (.Tuple es x1 p2) pos) (tS T W P (evPar P is fs)) := by
  refine PS.mono (ps_asg (pe_tup ha) (pg_tup hc hg hn hst) hs hw h1) fun D σ H ⟨Z, F, τ, S, h⟩ => ?_
  refine bindS S h fun xs rs τ1 Z1 H1 E1 S1 R1 h1 => ?_
  have key : ∀ {H' : Hp}, SR T Z1 F τ1 σ H' → RepVs T Z1 τ1 σ H' F xs rs → Ext Z1 F H1 Z1 H' → xs.length = is.length ∧ D.nx (setVs is xs σ) H' := fun S' R' E' => par_ok S' R' (PostS.later PinEq.refl E' h1)
  have hlen := (key S1 R1 Ext.refl).1
  refine ⟨by rw [hlen]; exact Nat.le_trans hl (by decide), fun p hp => ⟨p, xs, rfl, .inl (.inl upd_same), hlen, hlen, ?_⟩⟩
  have E' : ∀ F' : AP', Ext Z1 F' H1 Z1 (upd H1 p (.tup xs)) := fun F' => ⟨fun _ z => z, fun a o _ e => by rw [upd_ne (ne_of_none e hp)]; exact e⟩
  have R' : RepVs T Z1 τ1 σ (upd H1 p (.tup xs)) F xs rs := RepVs.carryL R1 (E' _) ((SR.addFs S1 R1).new hp)
  exact (key (S1.new hp) R' (E' F)).2
end
end Dv

set_option Elab.async false
set_option linter.all false
set_option maxRecDepth 100000
set_option maxHeartbeats 2000000
/-! Dv12: the kinds of operations, each with its rule. -/
namespace Dv
open PySem PySem.Spec PyProof.Rows L2
inductive K2 where
  | add | sub | mul | div | mod | pow
inductive KC where
  | eq | ne | lt | le | gt | ge | is | isNot | inn | notIn
inductive KF where
  | len | abs | int | str | sum | max | min | any | all | list | tuple | isi | sorted
def K2.op : K2 → Operator
  | .add => .Add | .sub => .Sub | .mul => .Mult | .div => .FloorDiv | .mod => .Mod | .pow => .Pow
def K2.g : K2 → D → D → Option Out
  | .add => dAdd | .sub => dSub | .mul => dMul | .div => dDiv | .mod => dMod | .pow => dPow
def KC.op : KC → CmpOp
  | .eq => .Eq | .ne => .NotEq | .lt => .Lt | .le => .LtE | .gt => .Gt | .ge => .GtE | .is => .Is | .isNot => .IsNot | .inn => .In | .notIn => .NotIn
def KC.g : KC → D → D → Option Out
  | .eq => dEq | .ne => dNe | .lt => dLt | .le => dCmpI (fun i j => decide (i ≤ j)) | .gt => dCmpI (fun i j => decide (j < i)) | .ge => dCmpI (fun i j => decide (j ≤ i)) | .is => isD false | .isNot => isD true | .inn => dIn | .notIn => dNotIn
def KF.name : KF → Str
  | .len => "len" | .abs => "abs" | .int => "int" | .str => "str" | .sum => "sum" | .max => "max" | .min => "min" | .any => "any" | .all => "all" | .list => "list" | .tuple => "tuple" | .isi => "isinstance" | .sorted => "sorted"
def KF.ty : KF → Bool
  | .int => true | .str => true | .list => true | .tuple => true | _ => false
def KF.id : KF → String
  | .len => "len" | .abs => "abs" | .int => "int" | .str => "str" | .sum => "sum" | .max => "max" | .min => "min" | .any => "any" | .all => "all" | .list => "list" | .tuple => "tuple" | .isi => "isinstance" | .sorted => "sorted"
def KF.val (k : KF) : Value := if k.ty then .type k.id else .builtin k.id
def KF.g : KF → List D → Option Out
  | .len => cLen | .abs => cAbs | .int => cInt | .str => cStr | .sum => cSum | .max => cMax | .min => cMin | .any => cAny | .all => cAll | .list => cList | .tuple => cTuple | .isi => cIsi | .sorted => cSorted
section
variable {T : Tx} {X : Cx} {W : WX} {Z F : AP'} {τ τ' : FS} {σ : L2.St} {H : Hp} {fa fb : FS → Res RV} {Q : VK}
theorem K2.ok (G : X.K = T.K) (k : K2) : ∃ r, OpR X (binaryOp k.op) r ∧ P2 T r k.g := by
  cases k with
  | add => exact ⟨_, o_add G, p_add⟩
  | sub => exact ⟨_, op_sub, p_sub⟩
  | mul => exact ⟨_, o_mul G, p_mul⟩
  | div => exact ⟨_, o_div, p_div⟩
  | mod => exact ⟨_, o_mod, p_mod⟩
  | pow => exact ⟨_, op_pow, p_pow⟩
theorem KC.ok (G : X.K = T.K) (hu : X.A.units + 65 < cLine) (k : KC) : ∃ r, OpR X (compareOp k.op) r ∧ P2 T r k.g := by
  cases k with
  | eq => exact ⟨_, o_eq G (by omega), p_eq⟩
  | ne => exact ⟨_, o_ne G (by omega), p_ne⟩
  | lt => exact ⟨_, o_lt G (by omega), p_lt⟩
  | le => exact ⟨_, op_le, p_cmpI⟩
  | gt => exact ⟨_, op_gt, p_cmpI⟩
  | ge => exact ⟨_, op_ge, p_cmpI⟩
  | is => exact ⟨_, o_is, p_is⟩
  | isNot => exact ⟨_, o_isNot, p_is⟩
  | inn => exact ⟨_, o_in G hu, p_in⟩
  | notIn => exact ⟨_, o_notIn G hu, p_notIn⟩
theorem KF.ok (G : X.K = T.K) (hc : X.calm = true) (k : KF) : ∃ r, CallR X k.val r ∧ PN T r k.g := by
  cases k with
  | len => exact ⟨_, o_len G, p_len⟩
  | abs => exact ⟨_, call_abs, p_abs⟩
  | int => exact ⟨_, o_int, p_int⟩
  | str => exact ⟨_, o_str, p_str⟩
  | sum => exact ⟨_, o_sum G hc, p_sum⟩
  | max => exact ⟨_, o_max G hc, p_max⟩
  | min => exact ⟨_, o_min G hc, p_min⟩
  | any => exact ⟨_, o_any G hc, p_any⟩
  | all => exact ⟨_, o_all G hc, p_all⟩
  | list => exact ⟨_, o_list G, p_list⟩
  | tuple => exact ⟨_, o_tuple G, p_tuple⟩
  | isi => exact ⟨_, o_isi G, p_isi⟩
  | sorted => exact ⟨_, o_sorted G, p_sorted⟩
theorem KF.boot (k : KF) : bootBuiltins k.name = some k.val := by cases k <;> rfl
theorem KF.nn (k : KF) : k.name ≠ "__name__" := by cases k <;> decide
theorem KF.nd (k : KF) : (k.name == ("__debug__" : Str)) = false := by cases k <;> decide
/-- the two-place reading, bare -/
theorem op2_ok {g : D → D → Option Out} {r : R2} (hg : P2 T r g) : tW T W (op2 g fa fb) σ H Q → tOp r (tW T W fa) (tW T W fb) σ H Q := fun ⟨Z, F, τ, S, h⟩ => by
  refine bind1 S h fun x ra τ1 Z1 H1 E1 S1 R1 h1 => ?_
  refine bindF (S1.addF R1) (fun _ => .inl) h1 fun y rb τ2 Z2 H2 E2 S2 R2 h2 => ?_
  have R1' := R1.carry E2 S2
  have S2' := S2.wide (F := F) fun _ => .inl
  cases q1 : look τ2 ra with
  | none => rw [q1] at h2; exact h2.elim
  | some d =>
    cases q2 : look τ2 rb with
    | none => rw [q1, q2] at h2; exact h2.elim
    | some d' =>
      rw [q1, q2] at h2
      obtain ⟨o, e, ok⟩ := fin_ok S2' h2
      exact hg Z2 H2 d d' x y o Q (S2'.sh R1' q1) (S2.sh R2 q2) e ok
end
/-! ### looks at the syntax -/
def noSet : Expr → Bool
  | .Set _ _ _ => false
  | _ => true
theorem noSet_in {op : CmpOp} {b : Expr} (h : noSet b = true) : behindInMarks op b = false := by cases b <;> first | rfl | cases h
theorem noSet_fold {e : Expr} {env : Env} (h : noSet e = true) (x : Value) : foldedSetIterable e env x = pure x := by cases e <;> first | rfl | cases h
def plainT : Expr → Bool
  | .UnaryOp .Not _ _ => false
  | .BoolOp _ _ _ => false
  | .IfExp _ _ _ _ => false
  | .Compare _ _ _ _ => false
  | _ => true
theorem plainT_ok {e : Expr} {env : Env} (h : plainT e = true) (whole : Sem Value) : isTrue e env whole = (do let v ← whole; standAt e.pos; holding [v] (truthy v)) := by
  cases e with
  | UnaryOp op a p => cases op <;> first | rfl | cases h
  | BoolOp => cases h
  | IfExp => cases h
  | Compare => cases h
  | _ => rfl
def notSlice : Expr → Bool
  | .Slice _ _ _ _ => false
  | _ => true
theorem notSlice_ix {b : Expr} (h : notSlice b = true) : PlainIx b := fun o i => by cases b <;> first | rfl | cases h
theorem notSlice_set {o i : Expr} {pos : Pos} {env : Env} (h : notSlice i = true) (v : Value) : assign (.Subscript o i pos) env v = (do
      let ov ← holding [v] (eval o env)
      let iv ← holding [v, ov] (eval i env)
      standAt pos
      holding [v, ov, iv] (setItem ov iv v)
      release [v, ov, iv] []) := by cases i <;> first | rfl | cases h
def noComp : Expr → Bool
  | .ListComp _ _ _ _ => false
  | .SetComp _ _ _ _ => false
  | .DictComp _ _ _ _ _ => false
  | _ => true
theorem noComp_sw {e : Expr} {t : Option Expr} {n : Nat} {env : Env} (h : noComp e = true) : swapsWith e t n env = pure false := by cases e <;> first | rfl | cases h
def isName : Expr → Bool
  | .Name _ _ => true
  | _ => false
theorem notName_sw {e t : Expr} {n : Nat} {env : Env} (h : isName t = false) : swapsWith e (some t) n env = pure false := by
  cases e <;> first | rfl | (cases t <;> first | rfl | cases h)
theorem noStar_as {e : Expr} (h : noStar e = true) (es : List Expr) (env : Env) : (assignEach (e :: es) env) = (false, assign e env) :: assignEach es env := by cases e <;> first | rfl | cases h
theorem noStars_len {env : Env} : ∀ {es : List Expr}, es.all noStar = true → (assignEach es env).length = es.length ∧ (assignEach es env).findIdx? (·.1) = none
  | [], _ => ⟨rfl, rfl⟩
  | e :: es, h => by
    have h : (noStar e && es.all noStar) = true := h
    obtain ⟨h1, h2⟩ := Bool.and_eq_true_iff.mp h
    obtain ⟨h3, h4⟩ := noStars_len (env := env) h2
    rw [noStar_as h1]
    refine ⟨by rw [List.length_cons, List.length_cons, h3], ?_⟩
    rw [List.findIdx?_cons, h4]
    rfl
def baseOk : Expr → Bool
  | .Call _ es _ _ => !es.isEmpty
  | _ => true
theorem baseOk_ok {o : Expr} {n : Str} {env : Env} {whole : Sem Value} (h : baseOk o = true) : attributeBase o n env whole = whole := by
  cases o with
  | Call f es ks p =>
    cases es with
    | nil => cases h
    | cons e es => cases f <;> rfl
  | _ => rfl
/-- what is asked of the stores of a display into several names -/
def isTup : Expr → Bool
  | .Tuple _ _ _ => true
  | _ => false
def isTL : Expr → Bool
  | .Tuple _ _ _ => true
  | .List _ _ => true
  | _ => false
theorem sw_other {t value : Expr} {env : Env} (h : isTL t = false ∨ isTup value = false) : swappedStores [t] value env = pure none := by
  unfold swappedStores
  split
  · rename_i q
    split at q
    · simp_all [isTL, isTup]
    · simp_all [isTL, isTup]
    · cases q
  · rfl
def nmLoc (sc : Scope) (line : Nat) : Expr → Option Str
  | .Name id pos => if sc.names.lookup id == some .local && pos.line == line then some id else none
  | _ => none
def nmsLoc (sc : Scope) (ts : List Expr) : List Str := ts.filterMap (nmLoc sc ((ts.head?.map (·.pos.line)).getD 0))
def anyStar (vs : List Expr) : Bool := vs.any fun | .Starred .. => true | _ => false
def swp (sc : Scope) (ts vs : List Expr) : Option (Option (List Str)) :=
  if !(ts.length == 2 || ts.length == 3) || vs.length != ts.length then some none
    else if anyStar vs then some none
    else if (nmsLoc sc ts).length != ts.length || (nmsLoc sc ts).eraseDups.length != (nmsLoc sc ts).length then some none
    else if vs.all (foldedForSure 8) then some none
    else if vs.all (constantsAlone 8) then none
    else some (some (nmsLoc sc ts))
theorem sw_tup {env : Env} {ts vs : List Expr} {k k2 : Nat} {p p2 : Pos} : swappedStores [.Tuple ts k p] (.Tuple vs k2 p2) env = (do
    if !(ts.length == 2 || ts.length == 3) || vs.length != ts.length || env.blockKind != .function then return none
    if anyStar vs then return none
    let names := ts.filterMap fun
      | .Name id pos => if env.kindOf id == some .local && pos.line == ((ts.head?.map (·.pos.line)).getD 0) then some id else none
      | _ => none
    if names.length != ts.length || names.eraseDups.length != names.length then return none
    if vs.all (foldedForSure 8) then return none
    if vs.all (constantsAlone 8) then unsupported "assign.tuple-of-constant-expressions:order-of-the-stores"
    return some names) := rfl
theorem swp_ok {sc : Scope} {env : Env} (hs : env.scope = sc) (hk : sc.kind = .function) {ts vs : List Expr} {k k2 : Nat} {p p2 : Pos} {r : Option (List Str)} (h : swp sc ts vs = some r) : swappedStores [.Tuple ts k p] (.Tuple vs k2 p2) env = pure r := by
  have hb : (env.blockKind != .function) = false := by
    unfold Env.blockKind
    rw [hs, hk]
    rfl
  have hn : (ts.filterMap fun
      | .Name id pos => if env.kindOf id == some .local && pos.line == ((ts.head?.map (·.pos.line)).getD 0) then some id else none
      | _ => none) = nmsLoc sc ts := by
    unfold nmsLoc
    congr 1
    funext e
    cases e <;> first | rfl | (unfold nmLoc Env.kindOf; rw [hs])
  rw [sw_tup, hb, hn, Bool.or_false]
  unfold swp at h
  by_cases c1 : (!(ts.length == 2 || ts.length == 3) || vs.length != ts.length) = true
  · rw [if_pos c1] at h ⊢
    cases h
    rfl
  rw [if_neg c1] at h ⊢
  by_cases c2 : anyStar vs = true
  · rw [if_pos c2] at h ⊢
    cases h
    rfl
  rw [if_neg c2] at h ⊢
  dsimp only
  by_cases c3 : ((nmsLoc sc ts).length != ts.length || (nmsLoc sc ts).eraseDups.length != (nmsLoc sc ts).length) = true
  · rw [if_pos c3] at h ⊢
    cases h
    rfl
  rw [if_neg c3] at h ⊢
  by_cases c4 : vs.all (foldedForSure 8) = true
  · rw [if_pos c4] at h ⊢
    cases h
    rfl
  rw [if_neg c4] at h ⊢
  by_cases c5 : vs.all (constantsAlone 8) = true
  · rw [if_pos c5] at h
    cases h
  rw [if_neg c5] at h ⊢
  cases h
  rfl
theorem few_ok {e : Expr} {env : Env} {cpos : Pos} (h : noStar e = true) : ((backTo cpos (starEach [e] env)).all (fun x => !x.1) && (backToKw cpos (keywordEach [] env)).all (fun x => x.1.isSome)
      && decide ([e].length + ([] : List Keyword).length + (if ([] : List Keyword).isEmpty then 0 else 1) < 30)) = true := by
  rw [noStar_ok h]
  rfl
/-! ### methods that only read -/
inductive KM where
  | join1 | split1
def KM.name : KM → Str
  | .join1 => "join" | .split1 => "split"
def KM.ty : KM → String
  | .join1 => "str" | .split1 => "str"
def KM.g : KM → D → List D → Option Out
  | .join1 => gJoin | .split1 => gSplit
inductive KN where
  | split0
def KN.name : KN → Str
  | .split0 => "split"
def KN.ty : KN → String
  | .split0 => "str"
def KN.g : KN → D → List D → Option Out
  | .split0 => gWords
section
variable {T : Tx} {X : Cx}
theorem KM.ok (G : X.K = T.K) (k : KM) : ∃ rd, (∀ {o e : Expr} {to : TE} {t : TA} {ap cp : Pos}, baseOk o = true → noStar e = true → (ap.endLine == cp.line) = true → PE X o to → PA X [e] t → PE X (.Call (.Attribute o k.name ap) [e] [] cp) (tBM X.K k.ty rd to t)) ∧ P1N T rd k.g := by
  cases k with
  | join1 => exact ⟨rJoin T.K, fun hb hs hl ho ha => pe_bm F.plainAttrs_str F.slot_str_join F.type_str_join (G ▸ mt_join) ho ha (baseOk_ok hb) (few_ok hs) hl (noStar_ok hs [] X.env) rfl, p_join⟩
  | split1 => exact ⟨rSplit, fun hb hs hl ho ha => pe_bm F.plainAttrs_str F.slot_str_split F.type_str_split mt_split ho ha (baseOk_ok hb) (few_ok hs) hl (noStar_ok hs [] X.env) rfl, p_split⟩
theorem KN.ok (G : X.K = T.K) (k : KN) : ∃ rd, (∀ {o : Expr} {to : TE} {ap cp : Pos}, baseOk o = true → (ap.endLine == cp.line) = true → PE X o to → PE X (.Call (.Attribute o k.name ap) [] [] cp) (tBM0 X.K k.ty rd to)) ∧ P1N T rd k.g := by
  cases k with
  | split0 => exact ⟨rWords, fun hb hl ho => pe_bm0 F.plainAttrs_str F.slot_str_split F.type_str_split mt_words ho (baseOk_ok hb) hl, p_words⟩
end
end Dv

set_option Elab.async false
set_option linter.all false
set_option maxRecDepth 100000
set_option maxHeartbeats 2000000
/-! Dv13: own syntax, what it means, how it is seen in the program's. -/
namespace Dv
open PySem PySem.Spec PyProof.Rows L2
mutual
/-- expressions -/
inductive AE where
  | no
  | var (i : Nat) | con (d : D) | glo (k : Nat) | typ (n : String)
  | bin (k : K2) (a b : AE) | neg (a : AE) | cmp (k : KC) (a b : AE) | chn (k l : KC) (a b c : AE)
  | fn (k : KF) (as : AA)
  | tup (as : AA) | lst (as : AA)
  | and (as : AA) | or (as : AA) | not (a : AE) | ife (t : AT) (a b : AE)
  | ix (a b : AE) | sl (a : AE) (lo hi : AO)
  | app (j : Nat) (a : AE) | ext (j : Nat) (a : AE) | pop (j : Nat) | popAt (j : Nat) (a : AE)
  | call (f : AE) (as : AA) (ks : List Str) (kw : AA)
  | lc (is : List Nat) (it : AI) (g : AG) (t : AT) (e : AE)
  | lc2 (is js : List Nat) (it : AI) (g : AG) (t : AT) (it1 : AI) (g1 : AG) (t1 : AT) (e : AE)
  | mth (k : KM) (o a : AE) | mth0 (k : KN) (o : AE) | srtSet (a : AE)
/-- several -/
inductive AA where
  | nil | cons (a : AE) (as : AA)
/-- tests -/
inductive AT where
  | yes | tru (a : AE) | cmp (k : KC) (a b : AE) | chn (k l : KC) (a b c : AE) | not (t : AT) | and (ts : ATs) | or (ts : ATs)
inductive ATs where
  | nil | cons (t : AT) (ts : ATs)
inductive AO where
  | none | some (a : AE)
/-- what is walked -/
inductive AI where
  | any (a : AE) | signs (a : AE) | rng1 (a : AE) | rng2 (a b : AE) | enum (a : AE) | zip (a b : AE)
/-- targets -/
inductive AG where
  | name (i : Nat) | tup (gs : AGs) | set (j : Nat) (a : AE)
inductive AGs where
  | nil | cons (g : AG) (gs : AGs)
end
mutual
/-- statements -/
inductive AS where
  | no | pass | brk | cont | exp (a : AE) | ret (a : AE) | retN | asg (g : AG) (a : AE) | setLc (i : Nat) (is : List Nat) (it : AI) (g : AG) (t : AT) (e : AE) | par (is : List Nat) (as : AA) | parT (is : List Nat) (as : AA)
  | rse (c : Nat) | tryR (hl : HL) (b : AB)
  | ite (t : AT) (a b : AB) | forr (it : AI) (g : AG) (b : AB) | whl (n : Nat) (t : AT) (b : AB)
inductive AB where
  | nil | cons (s : AS) (b : AB)
end
/-- what a law's text fixes for its defs: its global names and what they hold, the names it leaves free, its defs' parameters -/
structure LawT where
  gl : List (Str × D)
  fr : List Str
  fs : List (List Str × List Nat)
  cs : List Str
def LawT.tb (L : LawT) : FTab := fun k => L.fs[k]?
/-- names -/
def nmGs : List Nat → AGs
  | [] => .nil
  | i :: is => .cons (.name i) (nmGs is)
def AGs.len : AGs → Nat
  | .nil => 0
  | .cons _ gs => gs.len + 1
section
variable (L : LawT) (Φ : Nat → List Sl → Res RV)
mutual
def evE : AE → FS → Res RV
  | .no => fun _ => .no
  | .var i => evVar i
  | .con d => evC d
  | .glo k => fun τ => match L.gl[k]? with
    | some p => evC p.2 τ
    | none => .no
  | .typ n => evC (.ty n)
  | .bin k a b => op2 k.g (evE a) (evE b)
  | .neg a => op1 dNeg (evE a)
  | .cmp k a b => op2 k.g (evE a) (evE b)
  | .chn k l a b c => evChain k.g l.g (evE a) (evE b) (evE c)
  | .fn k as => opN k.g (evA as)
  | .tup as => evTup (evA as)
  | .lst as => evLst (evA as)
  | .and as => evAnds as
  | .or as => evOrs as
  | .not a => evNotV (evE a)
  | .ife t a b => evIf (evT t) (evE a) (evE b)
  | .ix a b => op2 dIx (evE a) (evE b)
  | .sl a lo hi => evSl (evE a) (evO lo) (evO hi)
  | .app j a => evApp j (evE a)
  | .ext j a => evExt j (evE a)
  | .pop j => evPop j
  | .popAt j a => evPopAt j (evE a)
  | .call f as ks kw => evCallF L.tb Φ ks (evE f) (evA as) (evA kw)
  | .lc is it g t e => evLc is (evI it) (evG g (only is)) (evT t) (evE e)
  | .lc2 is js it g t it1 g1 t1 e => evLc2 is js (evI it) (evG g (only is)) (evT t) (evI it1) (evG g1 (only js)) (evT t1) (evE e)
  | .mth k o a => opM k.ty k.g (evE o) (evCons (evE a) evNil)
  | .mth0 k o => opM0 k.ty k.g (evE o)
  | .srtSet a => evSrtSet (evE a)
def evA : AA → FS → Res (List RV)
  | .nil => evNil
  | .cons a as => evCons (evE a) (evA as)
def evAnds : AA → FS → Res RV
  | .nil => fun _ => .no
  | .cons a .nil => evE a
  | .cons a as => evAndV (evE a) (evAnds as)
def evOrs : AA → FS → Res RV
  | .nil => fun _ => .no
  | .cons a .nil => evE a
  | .cons a as => evOrV (evE a) (evOrs as)
def evT : AT → FS → Res Bool
  | .yes => evYes
  | .tru a => evTruth (evE a)
  | .cmp k a b => evBl (op2 k.g (evE a) (evE b))
  | .chn k l a b c => evBl (evChain k.g l.g (evE a) (evE b) (evE c))
  | .not t => evNotT (evT t)
  | .and ts => evAndTs ts
  | .or ts => evOrTs ts
def evAndTs : ATs → FS → Res Bool
  | .nil => fun _ => .no
  | .cons t .nil => evT t
  | .cons t ts => evAndT (evT t) (evAndTs ts)
def evOrTs : ATs → FS → Res Bool
  | .nil => fun _ => .no
  | .cons t .nil => evT t
  | .cons t ts => evOrT (evT t) (evOrTs ts)
def evO : AO → Option (FS → Res RV)
  | .none => none
  | .some a => some (evE a)
def evI : AI → FS → Res (List D)
  | .any a => evItems (evE a)
  | .signs a => evSigns (evE a)
  | .rng1 a => evRng rngOf1 (evCons (evE a) evNil)
  | .rng2 a b => evRng rngOf2 (evCons (evE a) (evCons (evE b) evNil))
  | .enum a => frzI enumOf (evCons (evE a) evNil)
  | .zip a b => frzI zipOf (evCons (evE a) (evCons (evE b) evNil))
def evG : AG → (Nat → Bool) → RV → FS → Res Unit
  | .name i => fun P => storeN P i
  | .tup gs => fun P => gTupE gs.len (evGs gs P)
  | .set j a => fun _ => gSetI j (evE a)
def evGs : AGs → (Nat → Bool) → List D → FS → Res Unit
  | .nil => fun _ => gsNil
  | .cons g gs => fun P => gsCons (evG g P) (evGs gs P)
end
mutual
def evS : AS → (Nat → Bool) → FS → Res SO
  | .no => fun _ _ => .no
  | .pass => fun _ => evNx
  | .brk => fun _ => evBk
  | .cont => fun _ => evCt
  | .exp a => fun _ => evDrop (evE L Φ a)
  | .ret a => fun P => evRet P (evE L Φ a)
  | .retN => fun _ => evRetN
  | .asg g a => fun P => evAsg (evE L Φ a) (evG L Φ g P)
  | .setLc i is it g t e => fun P => evAsg (evLc is (evI L Φ it) (evG L Φ g (only is)) (evT L Φ t) (evE L Φ e)) (storeN P i)
  | .par is as => fun P => evPar P is (evA L Φ as)
  | .parT is as => fun P => evPar P is (evA L Φ as)
  | .rse c => fun _ => evRaise L.cs c
  | .tryR hl b => fun P => evTryR L.cs hl (evB b P)
  | .ite t a b => fun P => evIf (evT L Φ t) (evB a P) (evB b P)
  | .forr it g b => fun P => evFor (evI L Φ it) (evG L Φ g P) (evB b P)
  | .whl n t b => fun P => whL (evT L Φ t) (evB b P) n
def evB : AB → (Nat → Bool) → FS → Res SO
  | .nil => fun _ => evNx
  | .cons s .nil => evS s
  | .cons s b => fun P => evSeq (evS s P) (evB b P)
end
end
end Dv

set_option Elab.async false
set_option linter.all false
set_option maxRecDepth 100000
set_option maxHeartbeats 2000000
/-! Dv14: how own syntax is seen in the program's. -/
namespace Dv
open PySem PySem.Spec PyProof.Rows L2
/-- what is known of a block: its slots' names, its scope, the raw one of a comprehension -/
structure SC where
  N : List Str
  sc : Scope
  raw : Option Scope
def SC.fnOk (S : SC) (x : Str) : Bool := match S.raw with
  | none => true
  | some r => r.names.lookup x == some .cell
def SC.blk (S : SC) (scope : Scope) : SC := ⟨S.N, relS scope S.sc, some scope⟩
def visB (S : SC) (x : Str) : Bool := match S.sc.names.lookup x with
  | some .local => true
  | some .cell => true
  | some .free => true
  | _ => false
def stoB (S : SC) (x : Str) : Bool := match S.sc.names.lookup x with
  | some .local => true
  | some .cell => S.fnOk x
  | _ => false
def glbB (S : SC) (x : Str) : Bool := match S.sc.names.lookup x with
  | some .globalImplicit => true
  | _ => false
def nmB (x : Str) : Bool := !(x == ("__debug__" : Str)) && !(x == ("__classdict__" : Str)) && !(x == ("__name__" : Str))
def atB (S : SC) (i : Nat) (x : Str) : Bool := match S.N[i]? with
  | some y => decide (y = x)
  | none => false
def ownB (S : SC) (is : List Nat) : List (Str × Nat) := is.map fun i => ((S.N[i]?).getD "", i)
def subB (js is : List Nat) : Bool := js.all fun i => is.contains i
def freB (L : LawT) (x : Str) : Bool := L.fr.contains x
def conB : D → Const → Bool
  | .non, .none => true
  | .bl b, .bool c => b == c
  | .int i, .int j => decide (i = j)
  | .str s, .str t => decide (s = t)
  | _, _ => false
def tyNames : List String := ["int", "bool", "str", "list", "tuple"]
def AT.isYes : AT → Bool
  | .yes => true
  | _ => false
def ifsB (t : AT) (f : Expr → Bool) : List Expr → Bool
  | [] => t.isYes
  | [c] => f c
  | _ => false
def lineB (a p : Pos) : Bool := a.endLine == p.line
section
variable (L : LawT)
mutual
def chkE : AE → SC → Expr → Bool
  | .no => fun _ _ => true
  | .var i => fun S e => match e with
    | .Name x _ => atB S i x && visB S x && nmB x
    | _ => false
  | .con d => fun S e => match e with
    | .Constant c _ _ => conB d c
    | _ => false
  | .glo k => fun S e => match e with
    | .Name x _ => (match L.gl[k]? with
      | some p => decide (p.1 = x) && glbB S x && nmB x
      | none => false)
    | _ => false
  | .typ n => fun S e => match e with
    | .Name x _ => tyNames.contains n && decide (x = Str.ofString n) && glbB S x && freB L x && nmB x
    | _ => false
  | .bin k a b => fun S e => match e with
    | .BinOp l op r _ => decide (op = k.op) && (chkE a S l && chkE b S r)
    | _ => false
  | .neg a => fun S e => match e with
    | .UnaryOp .USub l _ => chkE a S l
    | _ => false
  | .cmp k a b => fun S e => match e with
    | .Compare l [op] [r] _ => decide (op = k.op) && noSet r && (chkE a S l && chkE b S r)
    | _ => false
  | .chn k k2 a b c => fun S e => match e with
    | .Compare l [op, op2] [r, q] _ => decide (op = k.op) && decide (op2 = k2.op) && noSet q && (chkE a S l && (chkE b S r && chkE c S q))
    | _ => false
  | .fn k as => fun S e => match e with
    | .Call (.Name x _) (y :: es) [] _ => decide (x = k.name) && glbB S x && freB L x && chkA as S (y :: es)
    | _ => false
  | .tup as => fun S e => match e with
    | .Tuple es _ _ => chkA as S es
    | _ => false
  | .lst as => fun S e => match e with
    | .List es _ => chkA as S es
    | _ => false
  | .and as => fun S e => match e with
    | .BoolOp .And (y :: es) _ => chkA as S (y :: es)
    | _ => false
  | .or as => fun S e => match e with
    | .BoolOp .Or (y :: es) _ => chkA as S (y :: es)
    | _ => false
  | .not a => fun S e => match e with
    | .UnaryOp .Not l _ => chkE a S l
    | _ => false
  | .ife t a b => fun S e => match e with
    | .IfExp c l r _ => chkT t S c && (chkE a S l && chkE b S r)
    | _ => false
  | .ix a b => fun S e => match e with
    | .Subscript l r _ => notSlice r && (chkE a S l && chkE b S r)
    | _ => false
  | .sl a lo hi => fun S e => match e with
    | .Subscript l (.Slice x y none _) _ => chkE a S l && (chkO lo S x && chkO hi S y)
    | _ => false
  | .app j a => fun S e => match e with
    | .Call (.Attribute (.Name x _) n ap) [y] [] p => decide (n = "append") && atB S j x && visB S x && nmB x && noStar y && lineB ap p && chkE a S y
    | _ => false
  | .ext j a => fun S e => match e with
    | .Call (.Attribute (.Name x _) n ap) [y] [] p => decide (n = "extend") && atB S j x && visB S x && nmB x && noStar y && lineB ap p && chkE a S y
    | _ => false
  | .pop j => fun S e => match e with
    | .Call (.Attribute (.Name x _) n ap) [] [] p => decide (n = "pop") && atB S j x && visB S x && nmB x && lineB ap p
    | _ => false
  | .popAt j a => fun S e => match e with
    | .Call (.Attribute (.Name x _) n ap) [y] [] p => decide (n = "pop") && atB S j x && visB S x && nmB x && noStar y && lineB ap p && chkE a S y
    | _ => false
  | .call f as ks kw => fun S e => match e with
    | .Call (.Name x p) es kws _ => chkE f S (.Name x p) && (chkA as S es && (chkK kw S kws && decide (kwNames kws = some ks)))
    | _ => false
  | .lc is it g t e => fun S q => match q with
    | .ListComp elt [⟨tg, iter, ifs, asy⟩] scope _ => decide (asy = 0) && blkC S.N S.sc scope (ownB S is) && noSet iter && chkI it S tg iter && (chkG g (S.blk scope) tg && (ifsB t (chkT t (S.blk scope)) ifs && chkE e (S.blk scope) elt))
    | _ => false
  | .lc2 is js it g t it1 g1 t1 e => fun S q => match q with
    | .ListComp elt [⟨tg, iter, ifs, asy⟩, ⟨tg1, iter1, ifs1, asy1⟩] scope _ => (decide (asy = 0) && blkC S.N S.sc scope (ownB S is) && noSet iter && chkI it S tg iter && (chkG g (S.blk scope) tg && (ifsB t (chkT t (S.blk scope)) ifs && chkE e (S.blk scope) elt))) &&
      (decide (asy1 = 0) && subB js is && noSet iter1 && chkI it1 (S.blk scope) tg1 iter1 && (chkG g1 (S.blk scope) tg1 && ifsB t1 (chkT t1 (S.blk scope)) ifs1))
    | _ => false
  | .mth k o a => fun S q => match q with
    | .Call (.Attribute ob n ap) [y] [] p => decide (n = k.name) && baseOk ob && noStar y && lineB ap p && (chkE o S ob && chkE a S y)
    | _ => false
  | .mth0 k o => fun S q => match q with
    | .Call (.Attribute ob n ap) [] [] p => decide (n = k.name) && baseOk ob && lineB ap p && chkE o S ob
    | _ => false
  | .srtSet a => fun S q => match q with
    | .Call (.Name x _) [e2] [] _ => (match e2 with
      | .Call (.Name y _) [z] [] _ => decide (x = "sorted") && decide (y = "set") && glbB S x && glbB S y && freB L x && freB L y && noStar z && chkE a S z
      | _ => false)
    | _ => false
def chkA : AA → SC → List Expr → Bool
  | .nil => fun _ es => match es with
    | [] => true
    | _ => false
  | .cons a as => fun S es => match es with
    | e :: es => noStar e && (chkE a S e && chkA as S es)
    | [] => false
def chkK : AA → SC → List Keyword → Bool
  | .nil => fun _ es => match es with
    | [] => true
    | _ => false
  | .cons a as => fun S es => match es with
    | ⟨_, e, _⟩ :: es => chkE a S e && chkK as S es
    | [] => false
def chkT : AT → SC → Expr → Bool
  | .yes => fun _ _ => false
  | .tru a => fun S e => plainT e && chkE a S e
  | .cmp k a b => fun S e => match e with
    | .Compare l [op] [r] _ => decide (op = k.op) && noSet r && (chkE a S l && chkE b S r)
    | _ => false
  | .chn k k2 a b c => fun S e => match e with
    | .Compare l [op, op2] [r, q] _ => decide (op = k.op) && decide (op2 = k2.op) && noSet q && (chkE a S l && (chkE b S r && chkE c S q))
    | _ => false
  | .not t => fun S e => match e with
    | .UnaryOp .Not l _ => chkT t S l
    | _ => false
  | .and ts => fun S e => match e with
    | .BoolOp .And es _ => chkTs ts S es
    | _ => false
  | .or ts => fun S e => match e with
    | .BoolOp .Or es _ => chkTs ts S es
    | _ => false
def chkTs : ATs → SC → List Expr → Bool
  | .nil => fun _ es => match es with
    | [] => true
    | _ => false
  | .cons a as => fun S es => match es with
    | e :: es => chkT a S e && chkTs as S es
    | [] => false
def chkO : AO → SC → Option Expr → Bool
  | .none => fun _ o => match o with
    | none => true
    | _ => false
  | .some a => fun S o => match o with
    | some e => chkE a S e
    | none => false
def chkI : AI → SC → Expr → Expr → Bool
  | .any a => fun S _ e => chkE a S e
  | .signs a => fun S _ e => chkE a S e
  | .rng1 a => fun S _ e => match e with
    | .Call (.Name x _) [y] [] _ => decide (x = "range") && glbB S x && freB L x && noStar y && chkE a S y
    | _ => false
  | .rng2 a b => fun S _ e => match e with
    | .Call (.Name x _) [y, z] [] _ => decide (x = "range") && glbB S x && freB L x && noStar y && noStar z && (chkE a S y && chkE b S z)
    | _ => false
  | .enum a => fun S tg e => match tg, e with
    | .Tuple _ _ _, .Call (.Name x _) [y] [] _ => decide (x = "enumerate") && glbB S x && freB L x && noStar y && chkE a S y
    | _, _ => false
  | .zip a b => fun S tg e => match tg, e with
    | .Tuple _ _ _, .Call (.Name x _) [y, z] [] _ => decide (x = "zip") && glbB S x && freB L x && noStar y && noStar z && (chkE a S y && chkE b S z)
    | _, _ => false
def chkG : AG → SC → Expr → Bool
  | .name i => fun S e => match e with
    | .Name x _ => atB S i x && stoB S x
    | _ => false
  | .tup gs => fun S e => match e with
    | .Tuple es _ _ => chkGs gs S es
    | _ => false
  | .set j a => fun S e => match e with
    | .Subscript (.Name x _) i _ => atB S j x && visB S x && nmB x && notSlice i && chkE a S i
    | _ => false
def chkGs : AGs → SC → List Expr → Bool
  | .nil => fun _ es => match es with
    | [] => true
    | _ => false
  | .cons a as => fun S es => match es with
    | e :: es => noStar e && (chkG a S e && chkGs as S es)
    | [] => false
end
/-- no store of several names at once -/
def apartB (S : SC) (tg e : Expr) : Bool := if isTL tg && isTup e then (match tg, e with
  | .Tuple ts _ _, .Tuple vs _ _ => (match swp S.sc ts vs with
    | some none => true
    | _ => false)
  | _, _ => false) else true
def parB (S : SC) : List Nat → List Expr → Bool
  | [], [] => true
  | i :: is, .Name x _ :: es => atB S i x && decide (S.sc.names.lookup x = some .local) && parB S is es
  | _, _ => false
/-- return z if isinstance(n, ValueError) else .. -/
def suiB (S : SC) (n : Str) (z : Str) : List Stmt → Bool
  | [.Return (some (.IfExp t (.Constant (.str z1) _ _) (.Constant (.str _) _ _) _)) _] => (match t with
    | .Call (.Name f _) [.Name m _, .Name v _] [] _ => decide (z1 = z) && decide (f = "isinstance") && decide (m = n) && decide (v = "ValueError") && glbB S "isinstance" && freB L "isinstance" && glbB S "ValueError" && freB L "ValueError"
    | _ => false)
  | _ => false
def hdsB (S : SC) : HL → List ExceptHandler → Bool
  | [], [] => true
  | (e, i, z) :: r, .ExceptHandler (some (.Name x _)) (some n) su _ :: hds => decide (L.cs[e]? = some x) && glbB S x && nmB x && atB S i n && nmB n && decide (S.sc.names.lookup n = some .local) && suiB L S n z su && hdsB S r hds
  | _, _ => false
mutual
def chkS : AS → SC → Stmt → Bool
  | .no => fun _ _ => true
  | .pass => fun _ s => match s with
    | .Pass _ => true
    | _ => false
  | .brk => fun _ s => match s with
    | .Break _ => true
    | _ => false
  | .cont => fun _ s => match s with
    | .Continue _ => true
    | _ => false
  | .exp a => fun S s => match s with
    | .Expr e _ => noComp e && chkE L a S e
    | _ => false
  | .ret a => fun S s => match s with
    | .Return (some e) _ => chkE L a S e
    | _ => false
  | .retN => fun _ s => match s with
    | .Return none _ => true
    | _ => false
  | .asg g a => fun S s => match s with
    | .Assign [tg] e _ => (noComp e || !isName tg) && apartB S tg e && noStar tg && (chkG L g S tg && chkE L a S e)
    | _ => false
  | .setLc i is it g t e => fun S s => match s with
    | .Assign [tg0] e0 _ => (match tg0 with
      | .Name y py => (match e0 with
        | .ListComp elt [⟨tg, iter, ifs, asy⟩] scope pos => decide (asy = 0) && atB S i y && decide (S.sc.names.lookup y = some .local) && py.line == pos.line && !(scope.names.any fun (n, k) => n == y && (k == .local || k == .cell)) &&
      (blkC S.N S.sc scope (ownB S is) && noSet iter && chkI L it S tg iter && (chkG L g (S.blk scope) tg && (ifsB t (chkT L t (S.blk scope)) ifs && chkE L e (S.blk scope) elt)))
        | _ => false)
      | _ => false)
    | _ => false
  | .par is as => fun S s => match s with
    | .Assign [tg0] e0 _ => (match tg0 with
      | .Tuple ts _ _ => (match e0 with
        | .Tuple es _ _ => decide (is.Nodup) && parB S is ts && decide (ts.length = es.length) && (match swp S.sc ts es with
      | some (some _) => true
      | _ => false) && chkA L as S es
        | _ => false)
      | _ => false)
    | _ => false
  | .parT is as => fun S s => match s with
    | .Assign [tg0] e0 _ => (match tg0 with
      | .Tuple ts _ _ => (match e0 with
        | .Tuple es k2 p2 => decide (is.length ≤ 100) && apartB S tg0 e0 && chkGs L (nmGs is) S ts && chkA L as S es
        | _ => false)
      | _ => false)
    | _ => false
  | .rse c => fun S s => match s with
    | .Raise (some e) none _ => (match e with
      | .Call (.Name x _) [] [] _ => decide (L.cs[c]? = some x) && glbB S x && nmB x
      | _ => false)
    | _ => false
  | .tryR hl b => fun S s => match s with
    | .Try x hds [] [] _ => !hds.isEmpty && hdsB L S hl hds && chkB b S x
    | _ => false
  | .ite t a b => fun S s => match s with
    | .If c x y _ => chkT L t S c && (chkB a S x && chkB b S y)
    | _ => false
  | .forr it g b => fun S s => match s with
    | .For tg iter x [] _ => noSet iter && chkI L it S tg iter && (chkG L g S tg && chkB b S x)
    | _ => false
  | .whl n t b => fun S s => match s with
    | .While c x [] _ => chkT L t S c && chkB b S x
    | _ => false
def chkB : AB → SC → List Stmt → Bool
  | .nil => fun _ ss => match ss with
    | [] => true
    | _ => false
  | .cons s b => fun S ss => match ss with
    | x :: xs => chkS s S x && chkB b S xs
    | [] => false
end
end
end Dv

set_option Elab.async false
set_option linter.all false
set_option maxRecDepth 100000
set_option maxHeartbeats 4000000
/-! Dv15: what is seen so is meant so: expressions. -/
namespace Dv
open PySem PySem.Spec PyProof.Rows L2
/-- a context as it is known -/
structure Ok (L : LawT) (T : Tx) (Φ : Nat → List Sl → Res RV) (lev : Nat) (S : SC) (X : Cx) (W : WX) : Prop where
  K : X.K = T.K
  tk : Takes X W
  nd : S.N.Nodup
  N : X.N = S.N
  sc : X.env.scope = S.sc
  kind : S.sc.kind = .function
  fn : ∀ x, S.fnOk x = true → X.fn x = true
  calm : X.calm = true
  room : Room lev X.A
  fns : FnsOk T X L.tb Φ lev
  glo : ∀ (k : Nat) (x : Str) (d : D), L.gl[k]? = some (x, d) → ∃ v u, X.mg x = some u ∧ RelV v u ∧ ∀ Z H, Rep T Z H d v
  fr : ∀ x, x ∈ L.fr → X.mg x = none
  exk : ExK T L.cs X.mg
  nosl : ∀ k, noSl (Φ k)
theorem ff {p : Prop} (h : false = true) : p := nomatch h
theorem and2 {a b : Bool} (h : (a && b) = true) : a = true ∧ b = true := Bool.and_eq_true_iff.mp h
section
variable {L : LawT} {T : Tx} {Φ : Nat → List Sl → Res RV} {lev : Nat} {S : SC} {X : Cx} {W : WX}
theorem Ok.hu (O : Ok L T Φ lev S X W) : X.A.units + 65 < cLine := by
  have := O.room.un
  omega
theorem atB_ok (O : Ok L T Φ lev S X W) {i : Nat} {x : Str} (h : atB S i x = true) : X.N[i]? = some x := by
  rw [O.N]
  unfold atB at h
  split at h
  · rename_i y q
    rw [q, of_decide_eq_true h]
  · cases h
theorem visB_ok (O : Ok L T Φ lev S X W) {x : Str} (h : visB S x = true) : Vis X.env.scope x := by
  unfold Vis
  rw [O.sc]
  unfold visB at h
  split at h
  · exact .inl (by assumption)
  · exact .inr (.inl (by assumption))
  · exact .inr (.inr (by assumption))
  · cases h
theorem stoB_ok (O : Ok L T Φ lev S X W) {x : Str} (h : stoB S x = true) : L2.Loc X.env.scope x ∧ (X.fn x = true ∨ X.env.scope.names.lookup x = some .local) := by
  unfold L2.Loc
  rw [O.sc]
  unfold stoB at h
  split at h
  · exact ⟨.inl (by assumption), .inr (by assumption)⟩
  · exact ⟨.inr (by assumption), .inl (O.fn x h)⟩
  · cases h
theorem glbB_ok (O : Ok L T Φ lev S X W) {x : Str} (h : glbB S x = true) : Gl X x := by
  unfold Gl Env.kindOf
  rw [O.sc]
  unfold glbB at h
  split at h
  · assumption
  · cases h
theorem nmB_ok {x : Str} (h : nmB x = true) : (x == ("__debug__" : Str)) = false ∧ (x == ("__classdict__" : Str)) = false ∧ x ≠ "__name__" := by
  unfold nmB at h
  obtain ⟨h1, h3⟩ := and2 h
  obtain ⟨h1, h2⟩ := and2 h1
  refine ⟨by simpa using h1, by simpa using h2, by simpa using h3⟩
theorem freB_ok (O : Ok L T Φ lev S X W) {x : Str} (h : freB L x = true) : X.mg x = none := O.fr x (by simpa [freB] using h)
theorem ownB_ix {is : List Nat} : (ownB S is).map (·.2) = is := by
  unfold ownB
  rw [List.map_map]
  exact List.map_id is
theorem no_pe {e : Expr} {f : FS → Res RV} (h : ∀ τ, f τ = .no) : PE X e (tW T W f) := ⟨fun pins s σ H Q I ⟨Z, F, τ, S, q⟩ => by
  rw [h τ] at q
  exact q.elim⟩
/-- a comprehension's block -/
theorem Ok.blk {scope : Scope} {own : List (Str × Nat)} (O : Ok L T Φ lev S X W) (b : BlkOk S.N S.sc scope own) (s : Shared) (H : Hp) (C : Addr) (cl : List (Str × Addr)) (fp : List Addr) : Ok L T Φ lev (S.blk scope) (X.blk s H scope (compEnvC scope cl C X.env) fp) WF where
  K := O.K
  tk := fun _ _ ⟨_, _, _, _, _, _, _, _, _, _, _, _, _, _, _, _, w⟩ => w.elim
  nd := O.nd
  N := O.N
  sc := by
    show relS scope X.env.scope = relS scope S.sc
    rw [O.sc]
  kind := b.kind
  fn := fun x h => h
  calm := O.calm
  room := O.room
  fns := O.fns
  glo := O.glo
  fr := O.fr
  exk := O.exk
  nosl := O.nosl
theorem tyNames_boot {n : String} (h : tyNames.contains n = true) : bootBuiltins (Str.ofString n) = some (.type n) := by
  unfold tyNames at h
  simp only [List.contains_cons, List.contains_nil, Bool.or_false, Bool.or_eq_true, beq_iff_eq] at h
  rcases h with rfl | rfl | rfl | rfl | rfl <;> rfl
theorem chkA_star : ∀ {as : AA} {es : List Expr}, chkA L as S es = true → es.all noStar = true
  | .nil, [], _ => rfl
  | .nil, _ :: _, h => ff h
  | .cons a as, [], h => ff h
  | .cons a as, e :: es, h => by
    obtain ⟨h1, h2⟩ := and2 (show (noStar e && (chkE L a S e && chkA L as S es)) = true from h)
    obtain ⟨_, h3⟩ := and2 h2
    show (noStar e && es.all noStar) = true
    rw [h1, chkA_star h3]
    rfl
theorem chkA_nil {as : AA} (h : chkA L as S [] = true) : as = .nil := by
  cases as with
  | nil => rfl
  | cons a as => exact ff h
theorem chkGs_star : ∀ {gs : AGs} {es : List Expr}, chkGs L gs S es = true → es.all noStar = true ∧ es.length = gs.len
  | .nil, [], _ => ⟨rfl, rfl⟩
  | .nil, _ :: _, h => ff h
  | .cons a as, [], h => ff h
  | .cons a as, e :: es, h => by
    obtain ⟨h1, h2⟩ := and2 (show (noStar e && (chkG L a S e && chkGs L as S es)) = true from h)
    obtain ⟨_, h3⟩ := and2 h2
    obtain ⟨h4, h5⟩ := chkGs_star h3
    refine ⟨?_, by rw [List.length_cons, h5]; rfl⟩
    show (noStar e && es.all noStar) = true
    rw [h1, h4]
    rfl
theorem isYes_ok {t : AT} (h : t.isYes = true) : t = .yes := by
  cases t <;> first | rfl | cases h
theorem r_own {j : Nat} {x : Str} {p : Pos} (O : Ok L T Φ lev S X W) (h1 : atB S j x = true) (h2 : visB S x = true) (h3 : nmB x = true) : PE X (.Name x p) (tVar j) := by
  obtain ⟨n1, n2, _⟩ := nmB_ok h3
  exact pe_var (atB_ok O h1) (visB_ok O h2) n1 n2
end
mutual
theorem sE {L : LawT} {T : Tx} {Φ : Nat → List Sl → Res RV} {lev : Nat} : ∀ (a : AE) {S : SC} {X : Cx} {W : WX} {e : Expr}, Ok L T Φ lev S X W → chkE L a S e = true → PE X e (tW T W (evE L Φ a))
  | .no, S, X, W, e, O, h => no_pe fun _ => rfl
  | .var i, S, X, W, e, O, h => by
    cases e with
    | Name x p =>
      obtain ⟨h1, h3⟩ := and2 (show (atB S i x && visB S x && nmB x) = true from h)
      obtain ⟨h1, h2⟩ := and2 h1
      exact r_var (r_own O h1 h2 h3)
    | _ => exact ff h
  | .con d, S, X, W, e, O, h => by
    cases e with
    | Constant c k p =>
      have h : conB d c = true := h
      cases d with
      | non =>
        cases c with
        | none => exact r_const pe_non fun _ _ => rfl
        | _ => exact ff h
      | bl b =>
        cases c with
        | bool c =>
          have h : (b == c) = true := h
          have h : b = c := by simpa using h
          subst h
          exact r_const pe_bl fun _ _ => rfl
        | _ => exact ff h
      | int b =>
        cases c with
        | int c =>
          have h : b = c := of_decide_eq_true h
          subst h
          exact r_const pe_int fun _ _ => rfl
        | _ => exact ff h
      | str b =>
        cases c with
        | str c =>
          have h : b = c := of_decide_eq_true h
          subst h
          exact r_const pe_str fun _ _ => rfl
        | _ => exact ff h
      | _ => exact ff h
    | _ => exact ff h
  | .glo k, S, X, W, e, O, h => by
    cases e with
    | Name x p =>
      have h : (match L.gl[k]? with
        | some p => decide (p.1 = x) && glbB S x && nmB x
        | none => false) = true := h
      cases q : L.gl[k]? with
      | none => rw [q] at h; exact ff h
      | some pr =>
        obtain ⟨y, d⟩ := pr
        rw [q] at h
        obtain ⟨h1, h3⟩ := and2 (show (decide (y = x) && glbB S x && nmB x) = true from h)
        obtain ⟨h1, h2⟩ := and2 h1
        have h1 : y = x := of_decide_eq_true h1
        subst h1
        obtain ⟨v, u, m, r, rp⟩ := O.glo k y d q
        have e1 : evE L Φ (.glo k) = evC d := by
          funext τ
          show (match L.gl[k]? with
            | some p => evC p.2 τ
            | none => .no) = _
          rw [q]
        rw [e1]
        exact r_const (pe_glob (glbB_ok O h2) m r (nmB_ok h3).1) rp
    | _ => exact ff h
  | .typ n, S, X, W, e, O, h => by
    cases e with
    | Name x p =>
      obtain ⟨h1, h5⟩ := and2 (show (tyNames.contains n && decide (x = Str.ofString n) && glbB S x && freB L x && nmB x) = true from h)
      obtain ⟨h1, h4⟩ := and2 h1
      obtain ⟨h1, h3⟩ := and2 h1
      obtain ⟨h1, h2⟩ := and2 h1
      obtain ⟨n1, _, n3⟩ := nmB_ok h5
      have hx : x = Str.ofString n := of_decide_eq_true h2
      exact r_const (pe_bltn (v := .ty n) (glbB_ok O h3) (freB_ok O h4) (by rw [hx]; exact tyNames_boot h1) rfl n3 n1) fun _ _ => rfl
    | _ => exact ff h
  | .bin k a b, S, X, W, e, O, h => by
    cases e with
    | BinOp l op r p =>
      obtain ⟨h1, h2⟩ := and2 (show (decide (op = k.op) && (chkE L a S l && chkE L b S r)) = true from h)
      obtain ⟨h2, h3⟩ := and2 h2
      have h1 : op = k.op := of_decide_eq_true h1
      subst h1
      obtain ⟨rr, o1, o2⟩ := K2.ok (X := X) O.K k
      exact PE.mono (pe_op o1 (sE a O h2) (sE b O h3)) fun σ H Q => op2_ok o2
    | _ => exact ff h
  | .neg a, S, X, W, e, O, h => by
    cases e with
    | UnaryOp op l p =>
      cases op with
      | USub => exact r_op1 (fun ha => pe_un un_neg ha) p_neg (sE a O (show chkE L a S l = true from h))
      | _ => exact ff h
    | _ => exact ff h
  | .cmp k a b, S, X, W, e, O, h => by
    cases e with
    | Compare l ops cs p =>
      match ops, cs, h with
      | [op], [r], h =>
        obtain ⟨h1, h2⟩ := and2 (show (decide (op = k.op) && noSet r && (chkE L a S l && chkE L b S r)) = true from h)
        obtain ⟨h2, h3⟩ := and2 h2
        obtain ⟨h1, h4⟩ := and2 h1
        have h1 : op = k.op := of_decide_eq_true h1
        subst h1
        obtain ⟨rr, o1, o2⟩ := KC.ok (X := X) O.K O.hu k
        exact PE.mono (pe_cmpR o1 (sE a O h2) (sE b O h3) (noSet_in h4)) fun σ H Q => op2_ok o2
    | _ => exact ff h
  | .chn k k2 a b c, S, X, W, e, O, h => by
    cases e with
    | Compare l ops cs p =>
      match ops, cs, h with
      | [op, op2], [r, q], h =>
        obtain ⟨h1, h2⟩ := and2 (show (decide (op = k.op) && decide (op2 = k2.op) && noSet q && (chkE L a S l && (chkE L b S r && chkE L c S q))) = true from h)
        obtain ⟨h2, h3⟩ := and2 h2
        obtain ⟨h3, h4⟩ := and2 h3
        obtain ⟨h1, h5⟩ := and2 h1
        obtain ⟨h1, h6⟩ := and2 h1
        have h1 : op = k.op := of_decide_eq_true h1
        have h6 : op2 = k2.op := of_decide_eq_true h6
        subst h1 h6
        obtain ⟨rr, o1, o2⟩ := KC.ok (X := X) O.K O.hu k
        obtain ⟨rr2, o3, o4⟩ := KC.ok (X := X) O.K O.hu k2
        exact PE.mono (pe_chain o1 o3 (sE a O h2) (sE b O h3) (sE c O h4) (noSet_in h5)) fun σ H Q => chain_ok o2 o4
    | _ => exact ff h
  | .fn k as, S, X, W, e, O, h => by
    cases e with
    | Call f es kws p =>
      cases f with
      | Name x px =>
        match es, kws, h with
        | y :: es, [], h =>
          obtain ⟨h1, h2⟩ := and2 (show (decide (x = k.name) && glbB S x && freB L x && chkA L as S (y :: es)) = true from h)
          obtain ⟨h1, h3⟩ := and2 h1
          obtain ⟨h1, h4⟩ := and2 h1
          have h1 : x = k.name := of_decide_eq_true h1
          subst h1
          obtain ⟨rr, o1, o2⟩ := KF.ok (X := X) O.K O.calm k
          have hb := k.boot
          have hst := chkA_star h2
          obtain ⟨hs1, hs2⟩ := and2 (show (noStar y && es.all noStar) = true from hst)
          refine r_opN (fun ha => ?_) o2 (sA as O h2)
          have hv : k.val = .type k.id ∨ k.val = .builtin k.id := by
            unfold KF.val
            cases k.ty
            · exact .inr rfl
            · exact .inl rfl
          rcases hv with hv | hv
          · rw [hv] at o1 hb
            exact pe_callTy o1 (glbB_ok O h4) (freB_ok O h3) hb ha k.nn k.nd (noStar_ok hs1 es X.env) (noStars_any hs2)
          · rw [hv] at o1 hb
            exact pe_callB o1 (glbB_ok O h4) (freB_ok O h3) hb ha k.nn k.nd (noStar_ok hs1 es X.env) (noStars_any hs2)
      | _ => exact ff h
    | _ => exact ff h
  | .tup as, S, X, W, e, O, h => by
    cases e with
    | Tuple es k p => exact r_tup (sA as O (show chkA L as S es = true from h))
    | _ => exact ff h
  | .lst as, S, X, W, e, O, h => by
    cases e with
    | List es p => exact r_lst (sA as O (show chkA L as S es = true from h))
    | _ => exact ff h
  | .and as, S, X, W, e, O, h => by
    cases e with
    | BoolOp op es p =>
      cases op with
      | And =>
        cases es with
        | cons y es => exact sAnds as O (show chkA L as S (y :: es) = true from h)
        | nil => exact ff h
      | Or => exact ff h
    | _ => exact ff h
  | .or as, S, X, W, e, O, h => by
    cases e with
    | BoolOp op es p =>
      cases op with
      | Or =>
        cases es with
        | cons y es => exact sOrs as O (show chkA L as S (y :: es) = true from h)
        | nil => exact ff h
      | And => exact ff h
    | _ => exact ff h
  | .not a, S, X, W, e, O, h => by
    cases e with
    | UnaryOp op l p =>
      cases op with
      | Not => exact r_not O.K (sE a O (show chkE L a S l = true from h))
      | _ => exact ff h
    | _ => exact ff h
  | .ife t a b, S, X, W, e, O, h => by
    cases e with
    | IfExp c l r p =>
      obtain ⟨h1, h2⟩ := and2 (show (chkT L t S c && (chkE L a S l && chkE L b S r)) = true from h)
      obtain ⟨h2, h3⟩ := and2 h2
      exact r_ifE (sT t O h1) (sE a O h2) (sE b O h3)
    | _ => exact ff h
  | .ix a b, S, X, W, e, O, h => by
    cases e with
    | Subscript l r p =>
      obtain ⟨h1, h2⟩ := and2 (show (notSlice r && (chkE L a S l && chkE L b S r)) = true from h)
      obtain ⟨h2, h3⟩ := and2 h2
      exact PE.mono (pe_ix (o_ix O.K) (sE a O h2) (sE b O h3) (notSlice_ix h1)) fun σ H Q => op2_ok p_ix
    | _ => exact ff h
  | .sl a lo hi, S, X, W, e, O, h => by
    cases e with
    | Subscript l r p =>
      cases r with
      | Slice x y z p2 =>
        cases z with
        | none =>
          obtain ⟨h1, h2⟩ := and2 (show (chkE L a S l && (chkO L lo S x && chkO L hi S y)) = true from h)
          obtain ⟨h2, h3⟩ := and2 h2
          exact r_slice O.K (sE a O h1) (sO lo O h2) (sO hi O h3)
        | some z => exact ff h
      | _ => exact ff h
    | _ => exact ff h
  | .app j a, S, X, W, e, O, h => by
    cases e with
    | Call f es kws p =>
      cases f with
      | Attribute o n ap =>
        cases o with
        | Name x px =>
          match es, kws, h with
          | [y], [], h =>
            obtain ⟨h1, h2⟩ := and2 (show (decide (n = "append") && atB S j x && visB S x && nmB x && noStar y && lineB ap p && chkE L a S y) = true from h)
            obtain ⟨h1, h3⟩ := and2 h1
            obtain ⟨h1, h4⟩ := and2 h1
            obtain ⟨h1, h5⟩ := and2 h1
            obtain ⟨h1, h6⟩ := and2 h1
            obtain ⟨h1, h7⟩ := and2 h1
            have h1 : n = "append" := of_decide_eq_true h1
            subst h1
            exact r_app (fun ho ha => pe_bm F.plainAttrs_list F.slot_list_append F.type_list_append mt_append ho ha rfl (few_ok h4) h3 (noStar_ok h4 [] X.env) rfl) (noStar_ok h4 [] X.env) (r_own O h7 h6 h5) (sE a O h2)
        | _ => exact ff h
      | _ => exact ff h
    | _ => exact ff h
  | .ext j a, S, X, W, e, O, h => by
    cases e with
    | Call f es kws p =>
      cases f with
      | Attribute o n ap =>
        cases o with
        | Name x px =>
          match es, kws, h with
          | [y], [], h =>
            obtain ⟨h1, h2⟩ := and2 (show (decide (n = "extend") && atB S j x && visB S x && nmB x && noStar y && lineB ap p && chkE L a S y) = true from h)
            obtain ⟨h1, h3⟩ := and2 h1
            obtain ⟨h1, h4⟩ := and2 h1
            obtain ⟨h1, h5⟩ := and2 h1
            obtain ⟨h1, h6⟩ := and2 h1
            obtain ⟨h1, h7⟩ := and2 h1
            have h1 : n = "extend" := of_decide_eq_true h1
            subst h1
            exact r_ext (fun ho ha => pe_bm F.plainAttrs_list F.slot_list_extend F.type_list_extend mt_extend ho ha rfl (few_ok h4) h3 (noStar_ok h4 [] X.env) rfl) (noStar_ok h4 [] X.env) (r_own O h7 h6 h5) (sE a O h2)
        | _ => exact ff h
      | _ => exact ff h
    | _ => exact ff h
  | .pop j, S, X, W, e, O, h => by
    cases e with
    | Call f es kws p =>
      cases f with
      | Attribute o n ap =>
        cases o with
        | Name x px =>
          match es, kws, h with
          | [], [], h =>
            obtain ⟨h1, h3⟩ := and2 (show (decide (n = "pop") && atB S j x && visB S x && nmB x && lineB ap p) = true from h)
            obtain ⟨h1, h5⟩ := and2 h1
            obtain ⟨h1, h6⟩ := and2 h1
            obtain ⟨h1, h7⟩ := and2 h1
            have h1 : n = "pop" := of_decide_eq_true h1
            subst h1
            exact r_pop (fun ho => pe_bm0 F.plainAttrs_list F.slot_list_pop F.type_list_pop mt_pop ho rfl h3) (r_own O h7 h6 h5)
        | _ => exact ff h
      | _ => exact ff h
    | _ => exact ff h
  | .popAt j a, S, X, W, e, O, h => by
    cases e with
    | Call f es kws p =>
      cases f with
      | Attribute o n ap =>
        cases o with
        | Name x px =>
          match es, kws, h with
          | [y], [], h =>
            obtain ⟨h1, h2⟩ := and2 (show (decide (n = "pop") && atB S j x && visB S x && nmB x && noStar y && lineB ap p && chkE L a S y) = true from h)
            obtain ⟨h1, h3⟩ := and2 h1
            obtain ⟨h1, h4⟩ := and2 h1
            obtain ⟨h1, h5⟩ := and2 h1
            obtain ⟨h1, h6⟩ := and2 h1
            obtain ⟨h1, h7⟩ := and2 h1
            have h1 : n = "pop" := of_decide_eq_true h1
            subst h1
            exact r_popAt (fun ho ha => pe_bm F.plainAttrs_list F.slot_list_pop F.type_list_pop mt_popAt ho ha rfl (few_ok h4) h3 (noStar_ok h4 [] X.env) rfl) (noStar_ok h4 [] X.env) (r_own O h7 h6 h5) (sE a O h2)
        | _ => exact ff h
      | _ => exact ff h
    | _ => exact ff h
  | .call f as ks kw, S, X, W, e, O, h => by
    cases e with
    | Call fx es kws p =>
      cases fx with
      | Name x px =>
        obtain ⟨h1, h2⟩ := and2 (show (chkE L f S (.Name x px) && (chkA L as S es && (chkK L kw S kws && decide (kwNames kws = some ks)))) = true from h)
        obtain ⟨h2, h3⟩ := and2 h2
        obtain ⟨h3, h4⟩ := and2 h3
        exact r_callF O.tk O.room O.fns O.nosl (sE f O h1) (sA as O h2) (sK kw O h3) (of_decide_eq_true h4) (chkA_star h2) fun e0 => by
          subst e0
          rw [chkA_nil h2]
          rfl
      | _ => exact ff h
    | _ => exact ff h
  | .lc is it g t a, S, X, W, e, O, h => by
    cases e with
    | ListComp elt gens scope p =>
      match gens, h with
      | [], h => exact ff h
      | ⟨_, _, _, _⟩ :: _ :: _, h => exact ff h
      | [⟨tg, iter, ifs, asy⟩], h =>
        obtain ⟨h1, h2⟩ := and2 (show (decide (asy = 0) && blkC S.N S.sc scope (ownB S is) && noSet iter && chkI L it S tg iter && (chkG L g (S.blk scope) tg && (ifsB t (chkT L t (S.blk scope)) ifs && chkE L a (S.blk scope) elt))) = true from h)
        obtain ⟨h2, h3⟩ := and2 h2
        obtain ⟨h3, h4⟩ := and2 h3
        obtain ⟨h1, h5⟩ := and2 h1
        obtain ⟨h1, h6⟩ := and2 h1
        obtain ⟨hz, h1⟩ := and2 h1
        have hz : asy = 0 := of_decide_eq_true hz
        subst hz
        have B := blkOk_by h1
        have e1 : evE L Φ (.lc is it g t a) = evLc ((ownB S is).map (·.2)) (evI L Φ it) (evG L Φ g (only ((ownB S is).map (·.2)))) (evT L Φ t) (evE L Φ a) := by
          rw [ownB_ix]
          rfl
        rw [e1]
        have hB : BlkOk X.N X.env.scope scope (ownB S is) := by rw [O.N, O.sc]; exact B
        refine r_lc O.calm (by rw [O.N]; exact O.nd) (sI it O h5) hB (fun s H C cl fp => sG g (O.blk B s H C cl fp) h2) (fun s H C cl fp => ?_) (fun s H C cl fp => sE a (O.blk B s H C cl fp) h4) (noSet_fold h6)
        match ifs, h3 with
        | [], h3 =>
          rw [isYes_ok h3]
          exact ts_nil
        | [c], h3 => exact ts_one (sT t (O.blk B s H C cl fp) h3)
    | _ => exact ff h
  | .lc2 is js it g t it1 g1 t1 a, S, X, W, e, O, h => by
    cases e with
    | ListComp elt gens scope p =>
      match gens, h with
      | [], h => exact ff h
      | [⟨_, _, _, _⟩], h => exact ff h
      | ⟨_, _, _, _⟩ :: ⟨_, _, _, _⟩ :: _ :: _, h => exact ff h
      | [⟨tg, iter, ifs, asy⟩, ⟨tg1, iter1, ifs1, asy1⟩], h =>
        obtain ⟨h, k⟩ := and2 (show ((decide (asy = 0) && blkC S.N S.sc scope (ownB S is) && noSet iter && chkI L it S tg iter && (chkG L g (S.blk scope) tg && (ifsB t (chkT L t (S.blk scope)) ifs && chkE L a (S.blk scope) elt))) &&
          (decide (asy1 = 0) && subB js is && noSet iter1 && chkI L it1 (S.blk scope) tg1 iter1 && (chkG L g1 (S.blk scope) tg1 && ifsB t1 (chkT L t1 (S.blk scope)) ifs1))) = true from h)
        obtain ⟨h1, h2⟩ := and2 h
        obtain ⟨h2, h3⟩ := and2 h2
        obtain ⟨h3, h4⟩ := and2 h3
        obtain ⟨h1, h5⟩ := and2 h1
        obtain ⟨h1, h6⟩ := and2 h1
        obtain ⟨hz, h1⟩ := and2 h1
        obtain ⟨k1, k2⟩ := and2 k
        obtain ⟨k2, k3⟩ := and2 k2
        obtain ⟨k1, k5⟩ := and2 k1
        obtain ⟨k1, k6⟩ := and2 k1
        obtain ⟨kz, k1⟩ := and2 k1
        have hz : asy = 0 := of_decide_eq_true hz
        subst hz
        have kz : asy1 = 0 := of_decide_eq_true kz
        subst kz
        have B := blkOk_by h1
        have e1 : evE L Φ (.lc2 is js it g t it1 g1 t1 a) = evLc2 ((ownB S is).map (·.2)) js (evI L Φ it) (evG L Φ g (only ((ownB S is).map (·.2)))) (evT L Φ t) (evI L Φ it1) (evG L Φ g1 (only js)) (evT L Φ t1) (evE L Φ a) := by
          rw [ownB_ix]
          rfl
        rw [e1]
        have hB : BlkOk X.N X.env.scope scope (ownB S is) := by rw [O.N, O.sc]; exact B
        refine r_lc2 O.calm (by rw [O.N]; exact O.nd) (sI it O h5) hB (fun i hi => ?_) (fun s H C cl fp => sG g (O.blk B s H C cl fp) h2) (fun s H C cl fp => ?_) (fun s H C cl fp => sI it1 (O.blk B s H C cl fp) k5) (fun s H C cl fp => sG g1 (O.blk B s H C cl fp) k2) (fun s H C cl fp => ?_) (fun s H C cl fp => sE a (O.blk B s H C cl fp) h4) (noSet_fold h6) (fun env => noSet_fold k6)
        · rw [ownB_ix]
          exact List.all_eq_true.mp k1 i (by simpa using hi)
        · match ifs, h3 with
          | [], h3 =>
            rw [isYes_ok h3]
            exact ts_nil
          | [c], h3 => exact ts_one (sT t (O.blk B s H C cl fp) h3)
        · match ifs1, k3 with
          | [], k3 =>
            rw [isYes_ok k3]
            exact ts_nil
          | [c], k3 => exact ts_one (sT t1 (O.blk B s H C cl fp) k3)
    | _ => exact ff h
  | .mth k o a, S, X, W, e, O, h => by
    cases e with
    | Call f es kws p =>
      cases f with
      | Attribute ob n ap =>
        match es, kws, h with
        | [y], [], h =>
          obtain ⟨h1, h2⟩ := and2 (show (decide (n = k.name) && baseOk ob && noStar y && lineB ap p && (chkE L o S ob && chkE L a S y)) = true from h)
          obtain ⟨h2, h3⟩ := and2 h2
          obtain ⟨h1, h4⟩ := and2 h1
          obtain ⟨h1, h5⟩ := and2 h1
          obtain ⟨h1, h6⟩ := and2 h1
          have h1 : n = k.name := of_decide_eq_true h1
          subst h1
          obtain ⟨rd, r1, r2⟩ := KM.ok (X := X) O.K k
          exact r_opM O.K (fun ho ha => r1 h6 h5 h4 ho ha) r2 (sE o O h2) (r_cons (sE a O h3) r_nil (noStar_ok h5 [] X.env))
      | _ => exact ff h
    | _ => exact ff h
  | .mth0 k o, S, X, W, e, O, h => by
    cases e with
    | Call f es kws p =>
      cases f with
      | Attribute ob n ap =>
        match es, kws, h with
        | [], [], h =>
          obtain ⟨h1, h2⟩ := and2 (show (decide (n = k.name) && baseOk ob && lineB ap p && chkE L o S ob) = true from h)
          obtain ⟨h1, h4⟩ := and2 h1
          obtain ⟨h1, h6⟩ := and2 h1
          have h1 : n = k.name := of_decide_eq_true h1
          subst h1
          obtain ⟨rd, r1, r2⟩ := KN.ok (X := X) O.K k
          exact r_opM0 O.K (fun ho => r1 h6 h4 ho) r2 (sE o O h2)
      | _ => exact ff h
    | _ => exact ff h
  | .srtSet a, S, X, W, e, O, h => by
    cases e with
    | Call f es kws p =>
      cases f with
      | Name x px =>
        match es, kws, h with
        | [e2], [], h =>
          cases e2 with
          | Call f2 es2 kws2 p2 =>
            cases f2 with
            | Name y py =>
              match es2, kws2, h with
              | [z], [], h =>
                obtain ⟨h1, h2⟩ := and2 (show (decide (x = "sorted") && decide (y = "set") && glbB S x && glbB S y && freB L x && freB L y && noStar z && chkE L a S z) = true from h)
                obtain ⟨h1, h3⟩ := and2 h1
                obtain ⟨h1, h4⟩ := and2 h1
                obtain ⟨h1, h5⟩ := and2 h1
                obtain ⟨h1, h6⟩ := and2 h1
                obtain ⟨h1, h7⟩ := and2 h1
                obtain ⟨h1, h8⟩ := and2 h1
                have h1 : x = "sorted" := of_decide_eq_true h1
                have h8 : y = "set" := of_decide_eq_true h8
                subst h1 h8
                exact r_srtSet O.K O.calm O.hu (glbB_ok O h7) (freB_ok O h5) (glbB_ok O h6) (freB_ok O h4) h3 (sE a O h2)
            | _ => exact ff h
          | _ => exact ff h
      | _ => exact ff h
    | _ => exact ff h
theorem sA {L : LawT} {T : Tx} {Φ : Nat → List Sl → Res RV} {lev : Nat} : ∀ (a : AA) {S : SC} {X : Cx} {W : WX} {es : List Expr}, Ok L T Φ lev S X W → chkA L a S es = true → PA X es (tWA T W (evA L Φ a))
  | .nil, S, X, W, [], O, h => r_nil
  | .nil, S, X, W, _ :: _, O, h => ff h
  | .cons a as, S, X, W, [], O, h => ff h
  | .cons a as, S, X, W, e :: es, O, h => by
    obtain ⟨h1, h2⟩ := and2 (show (noStar e && (chkE L a S e && chkA L as S es)) = true from h)
    obtain ⟨h2, h3⟩ := and2 h2
    exact r_cons (sE a O h2) (sA as O h3) (noStar_ok h1 es X.env)
theorem sK {L : LawT} {T : Tx} {Φ : Nat → List Sl → Res RV} {lev : Nat} : ∀ (a : AA) {S : SC} {X : Cx} {W : WX} {es : List Keyword}, Ok L T Φ lev S X W → chkK L a S es = true → PK X es (tWA T W (evA L Φ a))
  | .nil, S, X, W, [], O, h => k_nil
  | .nil, S, X, W, _ :: _, O, h => ff h
  | .cons a as, S, X, W, [], O, h => ff h
  | .cons a as, S, X, W, ⟨n, e, p⟩ :: es, O, h => by
    obtain ⟨h2, h3⟩ := and2 (show (chkE L a S e && chkK L as S es) = true from h)
    exact k_cons (sE a O h2) (sK as O h3)
theorem sAnds {L : LawT} {T : Tx} {Φ : Nat → List Sl → Res RV} {lev : Nat} : ∀ (a : AA) {S : SC} {X : Cx} {W : WX} {es : List Expr} {p : Pos}, Ok L T Φ lev S X W → chkA L a S es = true → PE X (.BoolOp .And es p) (tW T W (evAnds L Φ a))
  | .nil, S, X, W, es, p, O, h => no_pe fun _ => rfl
  | .cons a .nil, S, X, W, [], p, O, h => ff h
  | .cons a .nil, S, X, W, [e], p, O, h => by
    obtain ⟨h1, h2⟩ := and2 (show (noStar e && (chkE L a S e && true)) = true from h)
    obtain ⟨h2, _⟩ := and2 h2
    exact r_one (sE a O h2)
  | .cons a .nil, S, X, W, e :: f :: es, p, O, h => by
    obtain ⟨h1, h2⟩ := and2 (show (noStar e && (chkE L a S e && false)) = true from h)
    obtain ⟨_, h3⟩ := and2 h2
    exact ff h3
  | .cons a (.cons b bs), S, X, W, [], p, O, h => ff h
  | .cons a (.cons b bs), S, X, W, [e], p, O, h => by
    obtain ⟨h1, h2⟩ := and2 (show (noStar e && (chkE L a S e && false)) = true from h)
    obtain ⟨_, h3⟩ := and2 h2
    exact ff h3
  | .cons a (.cons b bs), S, X, W, e :: f :: es, p, O, h => by
    obtain ⟨h1, h2⟩ := and2 (show (noStar e && (chkE L a S e && chkA L (.cons b bs) S (f :: es))) = true from h)
    obtain ⟨h2, h3⟩ := and2 h2
    exact r_and O.K (sE a O h2) (sAnds (.cons b bs) O h3)
theorem sOrs {L : LawT} {T : Tx} {Φ : Nat → List Sl → Res RV} {lev : Nat} : ∀ (a : AA) {S : SC} {X : Cx} {W : WX} {es : List Expr} {p : Pos}, Ok L T Φ lev S X W → chkA L a S es = true → PE X (.BoolOp .Or es p) (tW T W (evOrs L Φ a))
  | .nil, S, X, W, es, p, O, h => no_pe fun _ => rfl
  | .cons a .nil, S, X, W, [], p, O, h => ff h
  | .cons a .nil, S, X, W, [e], p, O, h => by
    obtain ⟨h1, h2⟩ := and2 (show (noStar e && (chkE L a S e && true)) = true from h)
    obtain ⟨h2, _⟩ := and2 h2
    exact r_one (sE a O h2)
  | .cons a .nil, S, X, W, e :: f :: es, p, O, h => by
    obtain ⟨h1, h2⟩ := and2 (show (noStar e && (chkE L a S e && false)) = true from h)
    obtain ⟨_, h3⟩ := and2 h2
    exact ff h3
  | .cons a (.cons b bs), S, X, W, [], p, O, h => ff h
  | .cons a (.cons b bs), S, X, W, [e], p, O, h => by
    obtain ⟨h1, h2⟩ := and2 (show (noStar e && (chkE L a S e && false)) = true from h)
    obtain ⟨_, h3⟩ := and2 h2
    exact ff h3
  | .cons a (.cons b bs), S, X, W, e :: f :: es, p, O, h => by
    obtain ⟨h1, h2⟩ := and2 (show (noStar e && (chkE L a S e && chkA L (.cons b bs) S (f :: es))) = true from h)
    obtain ⟨h2, h3⟩ := and2 h2
    exact r_or O.K (sE a O h2) (sOrs (.cons b bs) O h3)
theorem sT {L : LawT} {T : Tx} {Φ : Nat → List Sl → Res RV} {lev : Nat} : ∀ (a : AT) {S : SC} {X : Cx} {W : WX} {e : Expr}, Ok L T Φ lev S X W → chkT L a S e = true → PT X e (tWT T W (evT L Φ a))
  | .yes, S, X, W, e, O, h => ff h
  | .tru a, S, X, W, e, O, h => by
    obtain ⟨h1, h2⟩ := and2 (show (plainT e && chkE L a S e) = true from h)
    exact t_truth O.K (sE a O h2) (plainT_ok h1)
  | .cmp k a b, S, X, W, e, O, h => by
    cases e with
    | Compare l ops cs p =>
      match ops, cs, h with
      | [op], [r], h =>
        obtain ⟨h1, h2⟩ := and2 (show (decide (op = k.op) && noSet r && (chkE L a S l && chkE L b S r)) = true from h)
        obtain ⟨h2, h3⟩ := and2 h2
        obtain ⟨h1, h4⟩ := and2 h1
        have h1 : op = k.op := of_decide_eq_true h1
        subst h1
        obtain ⟨rr, o1, o2⟩ := KC.ok (X := X) O.K O.hu k
        exact t_bl (pt_cmpR o1 (sE a O h2) (sE b O h3) (noSet_in h4)) fun σ H Q => op2_ok o2
    | _ => exact ff h
  | .chn k k2 a b c, S, X, W, e, O, h => by
    cases e with
    | Compare l ops cs p =>
      match ops, cs, h with
      | [op, op2], [r, q], h =>
        obtain ⟨h1, h2⟩ := and2 (show (decide (op = k.op) && decide (op2 = k2.op) && noSet q && (chkE L a S l && (chkE L b S r && chkE L c S q))) = true from h)
        obtain ⟨h2, h3⟩ := and2 h2
        obtain ⟨h3, h4⟩ := and2 h3
        obtain ⟨h1, h5⟩ := and2 h1
        obtain ⟨h1, h6⟩ := and2 h1
        have h1 : op = k.op := of_decide_eq_true h1
        have h6 : op2 = k2.op := of_decide_eq_true h6
        subst h1 h6
        obtain ⟨rr, o1, o2⟩ := KC.ok (X := X) O.K O.hu k
        obtain ⟨rr2, o3, o4⟩ := KC.ok (X := X) O.K O.hu k2
        exact t_bl (pt_chain o1 o3 (sE a O h2) (sE b O h3) (sE c O h4) (noSet_in h5)) fun σ H Q => chain_ok o2 o4
    | _ => exact ff h
  | .not t, S, X, W, e, O, h => by
    cases e with
    | UnaryOp op l p =>
      cases op with
      | Not => exact t_not (sT t O (show chkT L t S l = true from h))
      | _ => exact ff h
    | _ => exact ff h
  | .and ts, S, X, W, e, O, h => by
    cases e with
    | BoolOp op es p =>
      cases op with
      | And => exact (sAndTs ts O (show chkTs L ts S es = true from h)).pt
      | Or => exact ff h
    | _ => exact ff h
  | .or ts, S, X, W, e, O, h => by
    cases e with
    | BoolOp op es p =>
      cases op with
      | Or => exact (sOrTs ts O (show chkTs L ts S es = true from h)).pt
      | And => exact ff h
    | _ => exact ff h
theorem sAndTs {L : LawT} {T : Tx} {Φ : Nat → List Sl → Res RV} {lev : Nat} : ∀ (a : ATs) {S : SC} {X : Cx} {W : WX} {es : List Expr} {p : Pos}, Ok L T Φ lev S X W → chkTs L a S es = true → PW X (.BoolOp .And es p) (tWT T W (evAndTs L Φ a))
  | .nil, S, X, W, es, p, O, h => ⟨fun wh pins s σ H Q I ⟨Z, F, τ, S, q⟩ => q.elim⟩
  | .cons a .nil, S, X, W, [], p, O, h => ff h
  | .cons a .nil, S, X, W, [e], p, O, h => by
    obtain ⟨h2, _⟩ := and2 (show (chkT L a S e && true) = true from h)
    exact pw_and1 (sT a O h2)
  | .cons a .nil, S, X, W, e :: f :: es, p, O, h => by
    obtain ⟨_, h3⟩ := and2 (show (chkT L a S e && false) = true from h)
    exact ff h3
  | .cons a (.cons b bs), S, X, W, [], p, O, h => ff h
  | .cons a (.cons b bs), S, X, W, [e], p, O, h => by
    obtain ⟨_, h3⟩ := and2 (show (chkT L a S e && false) = true from h)
    exact ff h3
  | .cons a (.cons b bs), S, X, W, e :: f :: es, p, O, h => by
    obtain ⟨h2, h3⟩ := and2 (show (chkT L a S e && chkTs L (.cons b bs) S (f :: es)) = true from h)
    exact t_and (sT a O h2) (sAndTs (.cons b bs) O h3)
theorem sOrTs {L : LawT} {T : Tx} {Φ : Nat → List Sl → Res RV} {lev : Nat} : ∀ (a : ATs) {S : SC} {X : Cx} {W : WX} {es : List Expr} {p : Pos}, Ok L T Φ lev S X W → chkTs L a S es = true → PW X (.BoolOp .Or es p) (tWT T W (evOrTs L Φ a))
  | .nil, S, X, W, es, p, O, h => ⟨fun wh pins s σ H Q I ⟨Z, F, τ, S, q⟩ => q.elim⟩
  | .cons a .nil, S, X, W, [], p, O, h => ff h
  | .cons a .nil, S, X, W, [e], p, O, h => by
    obtain ⟨h2, _⟩ := and2 (show (chkT L a S e && true) = true from h)
    exact pw_or1 (sT a O h2)
  | .cons a .nil, S, X, W, e :: f :: es, p, O, h => by
    obtain ⟨_, h3⟩ := and2 (show (chkT L a S e && false) = true from h)
    exact ff h3
  | .cons a (.cons b bs), S, X, W, [], p, O, h => ff h
  | .cons a (.cons b bs), S, X, W, [e], p, O, h => by
    obtain ⟨_, h3⟩ := and2 (show (chkT L a S e && false) = true from h)
    exact ff h3
  | .cons a (.cons b bs), S, X, W, e :: f :: es, p, O, h => by
    obtain ⟨h2, h3⟩ := and2 (show (chkT L a S e && chkTs L (.cons b bs) S (f :: es)) = true from h)
    exact t_or (sT a O h2) (sOrTs (.cons b bs) O h3)
theorem sO {L : LawT} {T : Tx} {Φ : Nat → List Sl → Res RV} {lev : Nat} : ∀ (a : AO) {S : SC} {X : Cx} {W : WX} {e : Option Expr}, Ok L T Φ lev S X W → chkO L a S e = true → PO X e (pOpt T W (evO L Φ a))
  | .none, S, X, W, none, O, h => o_none
  | .none, S, X, W, some e, O, h => ff h
  | .some a, S, X, W, none, O, h => ff h
  | .some a, S, X, W, some e, O, h => o_some (sE a O h)
theorem sI {L : LawT} {T : Tx} {Φ : Nat → List Sl → Res RV} {lev : Nat} : ∀ (a : AI) {S : SC} {X : Cx} {W : WX} {tg e : Expr}, Ok L T Φ lev S X W → chkI L a S tg e = true → PI X tg e (tI T W (evI L Φ a))
  | .any a, S, X, W, tg, e, O, h => i_any O.K (sE a O h)
  | .signs a, S, X, W, tg, e, O, h => i_str (sE a O h)
  | .rng1 a, S, X, W, tg, e, O, h => by
    cases e with
    | Call f es kws p =>
      cases f with
      | Name x px =>
        match es, kws, h with
        | [y], [], h =>
          obtain ⟨h1, h2⟩ := and2 (show (decide (x = "range") && glbB S x && freB L x && noStar y && chkE L a S y) = true from h)
          obtain ⟨h1, h3⟩ := and2 h1
          obtain ⟨h1, h4⟩ := and2 h1
          obtain ⟨h1, h5⟩ := and2 h1
          have h1 : x = "range" := of_decide_eq_true h1
          subst h1
          exact i_rng1 (fun ha => pi_range1 (glbB_ok O h5) (freB_ok O h4) ha (noStar_ok h3 [] X.env)) (r_cons (sE a O h2) r_nil (noStar_ok h3 [] X.env))
      | _ => exact ff h
    | _ => exact ff h
  | .rng2 a b, S, X, W, tg, e, O, h => by
    cases e with
    | Call f es kws p =>
      cases f with
      | Name x px =>
        match es, kws, h with
        | [y, z], [], h =>
          obtain ⟨h1, h2⟩ := and2 (show (decide (x = "range") && glbB S x && freB L x && noStar y && noStar z && (chkE L a S y && chkE L b S z)) = true from h)
          obtain ⟨h2, h6⟩ := and2 h2
          obtain ⟨h1, h7⟩ := and2 h1
          obtain ⟨h1, h3⟩ := and2 h1
          obtain ⟨h1, h4⟩ := and2 h1
          obtain ⟨h1, h5⟩ := and2 h1
          have h1 : x = "range" := of_decide_eq_true h1
          subst h1
          have e2 := noStar_ok h7 [] X.env
          have e1 := noStar_ok h3 [z] X.env
          exact i_rng2 (fun ha => pi_range2 (glbB_ok O h5) (freB_ok O h4) ha (by rw [e1, e2]; rfl) e2) (r_cons (sE a O h2) (r_cons (sE b O h6) r_nil e2) e1)
      | _ => exact ff h
    | _ => exact ff h
  | .enum a, S, X, W, tg, e, O, h => by
    cases tg with
    | Tuple ts kt pt =>
      cases e with
      | Call f es kws p =>
        cases f with
        | Name x px =>
          match es, kws, h with
          | [y], [], h =>
            obtain ⟨h1, h2⟩ := and2 (show (decide (x = "enumerate") && glbB S x && freB L x && noStar y && chkE L a S y) = true from h)
            obtain ⟨h1, h3⟩ := and2 h1
            obtain ⟨h1, h4⟩ := and2 h1
            obtain ⟨h1, h5⟩ := and2 h1
            have h1 : x = "enumerate" := of_decide_eq_true h1
            subst h1
            exact i_enum O.K (fun ha => pi_enum (glbB_ok O h5) (freB_ok O h4) ha (noStar_ok h3 [] X.env)) (r_cons (sE a O h2) r_nil (noStar_ok h3 [] X.env))
        | _ => exact ff h
      | _ => exact ff h
    | _ => cases e <;> exact ff h
  | .zip a b, S, X, W, tg, e, O, h => by
    cases tg with
    | Tuple ts kt pt =>
      cases e with
      | Call f es kws p =>
        cases f with
        | Name x px =>
          match es, kws, h with
          | [y, z], [], h =>
            obtain ⟨h1, h2⟩ := and2 (show (decide (x = "zip") && glbB S x && freB L x && noStar y && noStar z && (chkE L a S y && chkE L b S z)) = true from h)
            obtain ⟨h2, h6⟩ := and2 h2
            obtain ⟨h1, h7⟩ := and2 h1
            obtain ⟨h1, h3⟩ := and2 h1
            obtain ⟨h1, h4⟩ := and2 h1
            obtain ⟨h1, h5⟩ := and2 h1
            have h1 : x = "zip" := of_decide_eq_true h1
            subst h1
            have e2 := noStar_ok h7 [] X.env
            have e1 := noStar_ok h3 [z] X.env
            exact i_zip O.K (fun ha => pi_zip3 (glbB_ok O h5) (freB_ok O h4) ha e1 (by rw [e2]; rfl)) (r_cons (sE a O h2) (r_cons (sE b O h6) r_nil e2) e1)
        | _ => exact ff h
      | _ => exact ff h
    | _ => cases e <;> exact ff h
theorem sG {L : LawT} {T : Tx} {Φ : Nat → List Sl → Res RV} {lev : Nat} : ∀ (a : AG) {S : SC} {X : Cx} {W : WX} {P : Nat → Bool} {e : Expr}, Ok L T Φ lev S X W → chkG L a S e = true → PG X e (tG T P (evG L Φ a P))
  | .name i, S, X, W, P, e, O, h => by
    cases e with
    | Name x p =>
      obtain ⟨h1, h2⟩ := and2 (show (atB S i x && stoB S x) = true from h)
      obtain ⟨l1, l2⟩ := stoB_ok O h2
      exact g_name (pg_name (by rw [O.N]; exact O.nd) (atB_ok O h1) l1 l2)
    | _ => exact ff h
  | .tup gs, S, X, W, P, e, O, h => by
    cases e with
    | Tuple es k p =>
      have h : chkGs L gs S es = true := h
      obtain ⟨h1, h2⟩ := chkGs_star h
      obtain ⟨h3, h4⟩ := noStars_len (env := X.env) h1
      exact g_tup O.K O.calm (sGs gs O h) (by rw [h3, h2]) h4
    | _ => exact ff h
  | .set j a, S, X, W, P, e, O, h => by
    cases e with
    | Subscript o i p =>
      cases o with
      | Name x px =>
        obtain ⟨h1, h2⟩ := and2 (show (atB S j x && visB S x && nmB x && notSlice i && chkE L a S i) = true from h)
        obtain ⟨h1, h3⟩ := and2 h1
        obtain ⟨h1, h4⟩ := and2 h1
        obtain ⟨h1, h5⟩ := and2 h1
        exact g_set (r_own O h1 h5 h4) (sE a O h2) (notSlice_set h3)
      | _ => exact ff h
    | _ => exact ff h
theorem sGs {L : LawT} {T : Tx} {Φ : Nat → List Sl → Res RV} {lev : Nat} : ∀ (a : AGs) {S : SC} {X : Cx} {W : WX} {P : Nat → Bool} {es : List Expr}, Ok L T Φ lev S X W → chkGs L a S es = true → PGs X es (tGs T P (evGs L Φ a P))
  | .nil, S, X, W, P, [], O, h => gs_nil
  | .nil, S, X, W, P, _ :: _, O, h => ff h
  | .cons a as, S, X, W, P, [], O, h => ff h
  | .cons a as, S, X, W, P, e :: es, O, h => by
    obtain ⟨h1, h2⟩ := and2 (show (noStar e && (chkG L a S e && chkGs L as S es)) = true from h)
    obtain ⟨h2, h3⟩ := and2 h2
    exact gs_cons (sG a O h2) (sGs as O h3) (by rw [noStar_as h1]; rfl)
end
end Dv

set_option Elab.async false
set_option linter.all false
set_option maxRecDepth 100000
set_option maxHeartbeats 4000000
/-! Dv16: what is seen so is meant so: statements. -/
namespace Dv
open PySem PySem.Spec PyProof.Rows L2
section
variable {L : LawT} {T : Tx} {Φ : Nat → List Sl → Res RV} {lev : Nat} {S : SC} {X : Cx} {W : WX} {P : Nat → Bool}
theorem no_ps {st : Stmt} : PS X st (tS T W P fun _ => .no) := ⟨fun pins s σ H D I ⟨Z, F, τ, S, q⟩ => q.elim⟩
theorem swapsSole {tg e : Expr} {n : Nat} {env : Env} : swapsWithSole [tg] e n env = swapsWith e (some tg) n env := rfl
theorem nmGs_len : ∀ is : List Nat, (nmGs is).len = is.length
  | [] => rfl
  | i :: is => by
    show (nmGs is).len + 1 = _
    rw [nmGs_len is]
    rfl
theorem sNm (O : Ok L T Φ lev S X W) : ∀ (is : List Nat) {ts : List Expr}, chkGs L (nmGs is) S ts = true → PGs X ts (gSet is)
  | [], [], _ => gset_nil
  | [], _ :: _, h => ff h
  | i :: is, [], h => ff h
  | i :: is, e :: es, h => by
    obtain ⟨h1, h2⟩ := and2 (show (noStar e && (chkG L (.name i) S e && chkGs L (nmGs is) S es)) = true from h)
    obtain ⟨h2, h3⟩ := and2 h2
    refine gset_cons ?_ (sNm O is h3) (by rw [noStar_as h1]; rfl)
    cases e with
    | Name x p =>
      obtain ⟨h1, h2⟩ := and2 (show (atB S i x && stoB S x) = true from h2)
      obtain ⟨l1, l2⟩ := stoB_ok O h2
      exact pg_name (by rw [O.N]; exact O.nd) (atB_ok O h1) l1 l2
    | _ => exact ff h2
theorem apartB_ok (O : Ok L T Φ lev S X W) {tg e : Expr} (h : apartB S tg e = true) : swappedStores [tg] e X.env = pure none := by
  unfold apartB at h
  by_cases c : (isTL tg && isTup e) = true
  · rw [if_pos c] at h
    split at h
    · split at h
      · rename_i q
        exact swp_ok O.sc O.kind q
      · cases h
    · cases h
  · refine sw_other ?_
    cases q : isTL tg with
    | false => exact .inl rfl
    | true =>
      cases q2 : isTup e with
      | false => exact .inr rfl
      | true => rw [q, q2] at c; exact absurd rfl c
/-- a comprehension stored at once -/
theorem swapsTrue (O : Ok L T Φ lev S X W) {y : Str} {py pos : Pos} {elt : Expr} {gens : List Comprehension} {scope : Scope} {n : Nat} (h1 : S.sc.names.lookup y = some .local) (h2 : (py.line == pos.line) = true)
    (h3 : (!(scope.names.any fun (n, k) => n == y && (k == .local || k == .cell))) = true) : swapsWith (.ListComp elt gens scope pos) (some (.Name y py)) n X.env = pure true := by
  show (pure (X.env.blockKind == .function && X.env.kindOf y == some .local && py.line == pos.line && !(scope.names.any fun (n, k) => n == y && (k == .local || k == .cell))) : Sem Bool) = pure true
  have hb : X.env.blockKind = .function := by
    unfold Env.blockKind
    rw [O.sc, O.kind]
    rfl
  have hk : X.env.kindOf y = some .local := by
    unfold Env.kindOf
    rw [O.sc, h1]
  rw [hb, hk, h2, h3]
  rfl
theorem parB_ok (O : Ok L T Φ lev S X W) : ∀ {is : List Nat} {ts : List Expr}, parB S is ts = true → is.length = ts.length
  | [], [], _ => rfl
  | i :: is, e :: es, h => by
    cases e with
    | Name x p =>
      obtain ⟨_, h2⟩ := and2 (show (atB S i x && decide (S.sc.names.lookup x = some .local) && parB S is es) = true from h)
      rw [List.length_cons, List.length_cons, parB_ok O h2]
    | _ => exact ff h
  | [], _ :: _, h => ff h
  | _ :: _, [], h => ff h
theorem parB_at (O : Ok L T Φ lev S X W) {i : Nat} {is : List Nat} {e : Expr} {es : List Expr} (h : parB S (i :: is) (e :: es) = true) : ∃ x p, e = .Name x p ∧ X.N[i]? = some x ∧ X.env.scope.names.lookup x = some .local ∧ S.sc.names.lookup x = some .local ∧ parB S is es = true := by
  cases e with
  | Name x p =>
    obtain ⟨h1, h2⟩ := and2 (show (atB S i x && decide (S.sc.names.lookup x = some .local) && parB S is es) = true from h)
    obtain ⟨h1, h3⟩ := and2 h1
    have h3 := of_decide_eq_true h3
    exact ⟨x, p, rfl, atB_ok O h1, by rw [O.sc]; exact h3, h3, h2⟩
  | _ => exact ff h
theorem nms_pick {sc : Scope} {n : Nat} : ∀ {ts : List Expr}, (ts.filterMap (nmLoc sc n)).length = ts.length → (∀ e ∈ ts, ∃ x p, e = .Name x p) → ts.filterMap (nmLoc sc n) = ts.map fun | .Name x _ => x | _ => ""
  | [], _, _ => rfl
  | e :: ts, h, k => by
    obtain ⟨x, p, rfl⟩ := k e List.mem_cons_self
    cases q : nmLoc sc n (.Name x p) with
    | none =>
      rw [List.filterMap_cons_none q] at h
      have := List.length_filterMap_le (nmLoc sc n) ts
      rw [List.length_cons] at h
      omega
    | some y =>
      have hy : y = x := by
        unfold nmLoc at q
        dsimp only at q
        split at q
        · cases q; rfl
        · cases q
      subst hy
      rw [List.filterMap_cons_some q] at h ⊢
      rw [List.length_cons, List.length_cons] at h
      rw [nms_pick (by omega) fun e he => k e (List.mem_cons_of_mem _ he)]
      rfl
theorem swp_names {sc : Scope} {ts vs : List Expr} {r : List Str} (h : swp sc ts vs = some (some r)) : r = nmsLoc sc ts ∧ (nmsLoc sc ts).length = ts.length ∧ (ts.length = 2 ∨ ts.length = 3) := by
  unfold swp at h
  by_cases c1 : (!(ts.length == 2 || ts.length == 3) || vs.length != ts.length) = true
  · rw [if_pos c1] at h; cases h
  rw [if_neg c1] at h
  by_cases c2 : anyStar vs = true
  · rw [if_pos c2] at h; cases h
  rw [if_neg c2] at h
  by_cases c3 : ((nmsLoc sc ts).length != ts.length || (nmsLoc sc ts).eraseDups.length != (nmsLoc sc ts).length) = true
  · rw [if_pos c3] at h; cases h
  rw [if_neg c3] at h
  by_cases c4 : vs.all (foldedForSure 8) = true
  · rw [if_pos c4] at h; cases h
  rw [if_neg c4] at h
  by_cases c5 : vs.all (constantsAlone 8) = true
  · rw [if_pos c5] at h; cases h
  rw [if_neg c5] at h
  cases h
  refine ⟨rfl, ?_, ?_⟩
  · have c3 : ((nmsLoc sc ts).length != ts.length || (nmsLoc sc ts).eraseDups.length != (nmsLoc sc ts).length) = false := by simpa using c3
    have := (Bool.or_eq_false_iff.mp c3).1
    simpa using this
  · have c1 : (!(ts.length == 2 || ts.length == 3) || vs.length != ts.length) = false := by simpa using c1
    have := (Bool.or_eq_false_iff.mp c1).1
    have : ¬ ts.length = 2 → ts.length = 3 := by simpa using this
    omega
theorem len2 {α : Type} : ∀ {l : List α}, l.length = 2 → ∃ a b, l = [a, b]
  | [a, b], _ => ⟨a, b, rfl⟩
theorem len3 {α : Type} : ∀ {l : List α}, l.length = 3 → ∃ a b c, l = [a, b, c]
  | [a, b, c], _ => ⟨a, b, c, rfl⟩
theorem s_parB {is : List Nat} {ts es : List Expr} {k1 k2 : Nat} {p1 p2 pos : Pos} {fs : FS → Res (List RV)} (O : Ok L T Φ lev S X W) (nd : is.Nodup) (h1 : parB S is ts = true) (hl : ts.length = es.length) {r : List Str} (h2 : swp S.sc ts es = some (some r)) (ha : PA X es (tWA T W fs)) :
    PS X (.Assign [.Tuple ts k1 p1] (.Tuple es k2 p2) pos) (tS T W P (evPar P is fs)) := by
  have hw := swp_ok (k := k1) (k2 := k2) (p := p1) (p2 := p2) O.sc O.kind h2
  obtain ⟨e1, e2, e3⟩ := swp_names h2
  subst e1
  have li := parB_ok O h1
  rcases e3 with e3 | e3
  · obtain ⟨e, f, rfl⟩ := len2 e3
    obtain ⟨i, j, rfl⟩ := len2 li
    obtain ⟨a, b, rfl⟩ := len2 hl.symm
    · skip
      obtain ⟨x, px, rfl, n1, l1, _, h1⟩ := parB_at O h1
      obtain ⟨y, py, rfl, n2, l2, _, h1⟩ := parB_at O h1
      have en := nms_pick e2 (fun e he => by
        rcases List.mem_cons.mp he with rfl | he
        · exact ⟨x, px, rfl⟩
        · rcases List.mem_cons.mp he with rfl | he
          · exact ⟨y, py, rfl⟩
          · cases he)
      have en : nmsLoc S.sc [.Name x px, .Name y py] = [x, y] := en
      rw [en] at hw
      have hij : i ≠ j := fun e => by
        subst e
        simp at nd
      exact s_par2 (fun ha => ps_par O.calm (by rw [O.N]; exact O.nd) n1 n2 hij l1 l2 ha hw) ha
  · obtain ⟨e, f, g, rfl⟩ := len3 e3
    obtain ⟨i, j, k, rfl⟩ := len3 li
    obtain ⟨a, b, c, rfl⟩ := len3 hl.symm
    · skip
      obtain ⟨x, px, rfl, n1, l1, _, h1⟩ := parB_at O h1
      obtain ⟨y, py, rfl, n2, l2, _, h1⟩ := parB_at O h1
      obtain ⟨z, pz, rfl, n3, l3, _, h1⟩ := parB_at O h1
      have en := nms_pick e2 (fun e he => by
        rcases List.mem_cons.mp he with rfl | he
        · exact ⟨x, px, rfl⟩
        · rcases List.mem_cons.mp he with rfl | he
          · exact ⟨y, py, rfl⟩
          · rcases List.mem_cons.mp he with rfl | he
            · exact ⟨z, pz, rfl⟩
            · cases he)
      have en : nmsLoc S.sc [.Name x px, .Name y py, .Name z pz] = [x, y, z] := en
      rw [en] at hw
      have hij : i ≠ j := fun e => by
        subst e
        simp at nd
      have hik : i ≠ k := fun e => by
        subst e
        simp at nd
      have hjk : j ≠ k := fun e => by
        subst e
        simp at nd
      exact s_par3 (fun ha => ps_par3 O.calm (by rw [O.N]; exact O.nd) n1 n2 n3 hij hik hjk l1 l2 l3 ha hw) ha
theorem Ok.tr {Wo : WX} (O : Ok L T Φ lev S X Wo) (W : WX) (pn : List (Addr × Obj)) (xe : Value → Shared → Prop) (tk : Takes (X.tr pn xe) W) : Ok L T Φ lev S (X.tr pn xe) W where
  K := O.K
  tk := tk
  nd := O.nd
  N := O.N
  sc := O.sc
  kind := O.kind
  fn := O.fn
  calm := O.calm
  room := O.room
  fns := O.fns
  glo := O.glo
  fr := O.fr
  exk := O.exk
  nosl := O.nosl
theorem suiB_ok (O : Ok L T Φ lev S X W) {n : Str} {i e : Nat} {x z : Str} {su : List Stmt} (hx : L.cs[e]? = some x) (h1 : atB S i n = true) (h2 : nmB n = true) (h3 : S.sc.names.lookup n = some .local) (h : suiB L S n z su = true) {a : Addr} {oe : Obj} {cls : Value} {d : Option Addr} {pn : List (Addr × Obj)}
    (hz : Zc cls d oe) (hf : ∃ vs, oe.data = .fields vs) : PSs (X.suite a ((a, oe) :: pn)) su (suiT T i e z a cls d) := by
  unfold suiB at h
  split at h
  · split at h
    · obtain ⟨h, k8⟩ := and2 h
      obtain ⟨h, k7⟩ := and2 h
      obtain ⟨h, k6⟩ := and2 h
      obtain ⟨h, k5⟩ := and2 h
      obtain ⟨h, k4⟩ := and2 h
      obtain ⟨h, k3⟩ := and2 h
      obtain ⟨k1, k2⟩ := and2 h
      have k1 := of_decide_eq_true k1
      have k2 := of_decide_eq_true k2
      have k3 := of_decide_eq_true k3
      have k4 := of_decide_eq_true k4
      subst k1 k2 k3 k4
      obtain ⟨n1, n2, _⟩ := nmB_ok h2
      exact suite_ok O.K O.exk hx (atB_ok O h1) (.inl (by rw [O.sc]; exact h3)) n1 n2 (glbB_ok O k5) (freB_ok O k6) (glbB_ok O k7) (freB_ok O k8) hz hf
    · cases h
  · cases h
theorem hdsB_ok (O : Ok L T Φ lev S X W) : ∀ {hl : HL} {hds : List ExceptHandler}, hdsB L S hl hds = true → HAll X hds (hlT T hl) ∧ ∀ q ∈ hl, q.1 < L.cs.length
  | [], [], _ => ⟨.nil, fun _ h => nomatch h⟩
  | [], _ :: _, h => ff h
  | (e, i, z) :: r, [], h => ff h
  | (e, i, z) :: r, .ExceptHandler ty nm su hp :: hds, h => by
    cases ty with
    | none => exact ff h
    | some t =>
      cases t with
      | Name x np =>
        cases nm with
        | none => exact ff h
        | some n =>
          obtain ⟨h, k7⟩ := and2 (show (decide (L.cs[e]? = some x) && glbB S x && nmB x && atB S i n && nmB n && decide (S.sc.names.lookup n = some .local) && suiB L S n z su && hdsB L S r hds) = true from h)
          obtain ⟨h, k6⟩ := and2 h
          obtain ⟨h, k5⟩ := and2 h
          obtain ⟨h, k4⟩ := and2 h
          obtain ⟨h, k3⟩ := and2 h
          obtain ⟨h, k2⟩ := and2 h
          obtain ⟨k0, k1⟩ := and2 h
          have k0 := of_decide_eq_true k0
          have k5 := of_decide_eq_true k5
          obtain ⟨i1, i2⟩ := hdsB_ok O k7
          obtain ⟨e1, _⟩ := O.exk.exc e x k0
          refine ⟨?_, fun q hq => ?_⟩
          · cases su with
            | nil => exact ff k6
            | cons b0 su =>
              refine .cons ⟨glbB_ok O k1, (nmB_ok k2).1, .inl e1⟩ (atB_ok O k3) ?_ (fun a oe cls d pn hz hf => suiB_ok O k0 k3 k4 k5 k6 hz hf) i1
              unfold Env.kindOf
              rw [O.sc]
              exact k5
          · rcases List.mem_cons.mp hq with rfl | hq
            · exact (List.getElem?_eq_some_iff.mp k0).1
            · exact i2 q hq
      | _ => exact ff h
end
mutual
theorem sS {L : LawT} {T : Tx} {Φ : Nat → List Sl → Res RV} {lev : Nat} : ∀ (a : AS) {S : SC} {X : Cx} {W : WX} {P : Nat → Bool} {st : Stmt}, Ok L T Φ lev S X W → PassesOwn (model X.prog X.w) X.A X.env X.xe ∧ X.stack = X.env :: X.outer ∧ X.env.frame = some X.env.locals → chkS L a S st = true → PS X st (tS T W P (evS L Φ a P))
  | .no, S, X, W, P, st, O, po, h => no_ps
  | .pass, S, X, W, P, st, O, po, h => by
    cases st with
    | Pass p => exact s_pass
    | _ => exact ff h
  | .brk, S, X, W, P, st, O, po, h => by
    cases st with
    | Break p => exact s_break
    | _ => exact ff h
  | .cont, S, X, W, P, st, O, po, h => by
    cases st with
    | Continue p => exact s_continue
    | _ => exact ff h
  | .exp a, S, X, W, P, st, O, po, h => by
    cases st with
    | Expr e p =>
      obtain ⟨h1, h2⟩ := and2 (show (noComp e && chkE L a S e) = true from h)
      exact s_expr (sE a O h2) (noComp_sw h1)
    | _ => exact ff h
  | .ret a, S, X, W, P, st, O, po, h => by
    cases st with
    | Return o p =>
      cases o with
      | some e => exact s_ret (sE a O (show chkE L a S e = true from h))
      | none => exact ff h
    | _ => exact ff h
  | .retN, S, X, W, P, st, O, po, h => by
    cases st with
    | Return o p =>
      cases o with
      | none => exact s_retN
      | some e => exact ff h
    | _ => exact ff h
  | .asg g a, S, X, W, P, st, O, po, h => by
    cases st with
    | Assign ts e p =>
      match ts, h with
      | [], h => exact ff h
      | _ :: _ :: _, h => exact ff h
      | [tg], h =>
        obtain ⟨h1, h2⟩ := and2 (show ((noComp e || !isName tg) && apartB S tg e && noStar tg && (chkG L g S tg && chkE L a S e)) = true from h)
        obtain ⟨h2, h3⟩ := and2 h2
        obtain ⟨h1, h4⟩ := and2 h1
        obtain ⟨h1, h5⟩ := and2 h1
        refine s_asg (sE a O h3) (sG g O h2) ?_ (apartB_ok O h5) (by rw [noStar_as h4]; rfl)
        rw [swapsSole]
        cases q : noComp e with
        | true => exact noComp_sw q
        | false =>
          rw [q] at h1
          have h1 : (!isName tg) = true := h1
          exact notName_sw (by simpa using h1)
    | _ => exact ff h
  | .setLc i is it g t a, S, X, W, P, st, O, po, h => by
    cases st with
    | Assign ts e p =>
      match ts, h with
      | [], h => exact ff h
      | _ :: _ :: _, h => exact ff h
      | [tg], h =>
        cases tg with
        | Name y py =>
          cases e with
          | ListComp elt gens scope pos =>
            match gens, h with
            | [], h => exact ff h
            | ⟨_, _, _, _⟩ :: _ :: _, h => exact ff h
            | [⟨tg, iter, ifs, asy⟩], h =>
              obtain ⟨h1, h2⟩ := and2 (show (decide (asy = 0) && atB S i y && decide (S.sc.names.lookup y = some .local) && py.line == pos.line && !(scope.names.any fun (n, k) => n == y && (k == .local || k == .cell)) &&
                (blkC S.N S.sc scope (ownB S is) && noSet iter && chkI L it S tg iter && (chkG L g (S.blk scope) tg && (ifsB t (chkT L t (S.blk scope)) ifs && chkE L a (S.blk scope) elt)))) = true from h)
              obtain ⟨h1, k5⟩ := and2 h1
              obtain ⟨h1, k4⟩ := and2 h1
              obtain ⟨h1, k3⟩ := and2 h1
              obtain ⟨hz, k2⟩ := and2 h1
              have k3 := of_decide_eq_true k3
              have hz : asy = 0 := of_decide_eq_true hz
              subst hz
              obtain ⟨h1, h2⟩ := and2 h2
              obtain ⟨h2, h3⟩ := and2 h2
              obtain ⟨h3, h4⟩ := and2 h3
              obtain ⟨h1, h5⟩ := and2 h1
              obtain ⟨h1, h6⟩ := and2 h1
              have B := blkOk_by h1
              have e1 : evS L Φ (.setLc i is it g t a) P = evAsg (evLc ((ownB S is).map (·.2)) (evI L Φ it) (evG L Φ g (only ((ownB S is).map (·.2)))) (evT L Φ t) (evE L Φ a)) (storeN P i) := by
                rw [ownB_ix]
                rfl
              rw [e1]
              have hB : BlkOk X.N X.env.scope scope (ownB S is) := by rw [O.N, O.sc]; exact B
              refine s_setLc O.calm (by rw [O.N]; exact O.nd) (atB_ok O k2) (by rw [O.sc]; exact k3) (swapsTrue O k3 k4 k5) (sI it O h5) hB (fun s H C cl fp => sG g (O.blk B s H C cl fp) h2) (fun s H C cl fp => ?_) (fun s H C cl fp => sE a (O.blk B s H C cl fp) h4) (noSet_fold h6)
              match ifs, h3 with
              | [], h3 =>
                rw [isYes_ok h3]
                exact ts_nil
              | [c], h3 => exact ts_one (sT t (O.blk B s H C cl fp) h3)
          | _ => exact ff h
        | _ => exact ff h
    | _ => exact ff h
  | .par is as, S, X, W, P, st, O, po, h => by
    cases st with
    | Assign ts e p =>
      match ts, h with
      | [], h => exact ff h
      | _ :: _ :: _, h => exact ff h
      | [tg], h =>
        cases tg with
        | Tuple ts k1 p1 =>
          cases e with
          | Tuple es k2 p2 =>
            obtain ⟨h1, h2⟩ := and2 (show (decide (is.Nodup) && parB S is ts && decide (ts.length = es.length) && (match swp S.sc ts es with
              | some (some _) => true
              | _ => false) && chkA L as S es) = true from h)
            obtain ⟨h1, h3⟩ := and2 h1
            obtain ⟨h1, h4⟩ := and2 h1
            obtain ⟨h1, h5⟩ := and2 h1
            split at h3
            · rename_i r q
              exact s_parB O (of_decide_eq_true h1) h5 (of_decide_eq_true h4) q (sA as O h2)
            · cases h3
          | _ => exact ff h
        | _ => exact ff h
    | _ => exact ff h
  | .parT is as, S, X, W, P, st, O, po, h => by
    cases st with
    | Assign ts e p =>
      match ts, h with
      | [], h => exact ff h
      | _ :: _ :: _, h => exact ff h
      | [tg], h =>
        cases tg with
        | Tuple ts k1 p1 =>
          cases e with
          | Tuple es k2 p2 =>
            obtain ⟨h1, h2⟩ := and2 (show (decide (is.length ≤ 100) && apartB S (.Tuple ts k1 p1) (.Tuple es k2 p2) && chkGs L (nmGs is) S ts && chkA L as S es) = true from h)
            obtain ⟨h1, h3⟩ := and2 h1
            obtain ⟨h1, h4⟩ := and2 h1
            obtain ⟨g1, g2⟩ := chkGs_star h3
            obtain ⟨g3, g4⟩ := noStars_len (env := X.env) g1
            exact s_parT O.K O.calm (sA as O h2) (sNm O is h3) (of_decide_eq_true h1) (by rw [g3, g2, nmGs_len]) g4 (by rw [swapsSole]; exact notName_sw rfl) (apartB_ok O h4) rfl
          | _ => exact ff h
        | _ => exact ff h
    | _ => exact ff h
  | .rse c, S, X, W, P, st, O, po, h => by
    cases st with
    | Raise o o2 p =>
      cases o with
      | none => cases o2 <;> exact ff h
      | some e =>
        cases o2 with
        | some e2 => exact ff h
        | none =>
          cases e with
          | Call f es kws p2 =>
            cases f with
            | Name x px =>
              match es, kws, h with
              | [], [], h =>
                obtain ⟨h1, h2⟩ := and2 (show (decide (L.cs[c]? = some x) && glbB S x && nmB x) = true from h)
                obtain ⟨h1, h3⟩ := and2 h1
                exact s_raise O.K O.exk O.calm O.tk (of_decide_eq_true h1) (glbB_ok O h3) (nmB_ok h2).1
            | _ => exact ff h
          | _ => exact ff h
    | _ => exact ff h
  | .tryR hl b, S, X, W, P, st, O, po, h => by
    cases st with
    | Try x hds oe fb p =>
      match oe, fb, h with
      | [], [], h =>
        obtain ⟨h1, h2⟩ := and2 (show (!hds.isEmpty && hdsB L S hl hds && chkB L b S x) = true from h)
        obtain ⟨h1, h3⟩ := and2 h1
        obtain ⟨a1, a2⟩ := hdsB_ok O h3
        cases hds with
        | nil => exact ff h1
        | cons h0 hds => exact s_tryR O.K O.exk po.2.1 po.2.2 (by rw [O.N]; exact O.nd) O.tk (fun W' pn xe tk ps => sB b (O.tr W' pn xe tk) ⟨ps, po.2⟩ h2) a1 a2
    | _ => exact ff h
  | .ite t a b, S, X, W, P, st, O, po, h => by
    cases st with
    | If c x y p =>
      obtain ⟨h1, h2⟩ := and2 (show (chkT L t S c && (chkB L a S x && chkB L b S y)) = true from h)
      obtain ⟨h2, h3⟩ := and2 h2
      exact s_if (sT t O h1) (sB a O po h2) (sB b O po h3)
    | _ => exact ff h
  | .forr it g b, S, X, W, P, st, O, po, h => by
    cases st with
    | For tg iter x ys p =>
      cases ys with
      | nil =>
        obtain ⟨h1, h2⟩ := and2 (show (noSet iter && chkI L it S tg iter && (chkG L g S tg && chkB L b S x)) = true from h)
        obtain ⟨h2, h3⟩ := and2 h2
        obtain ⟨h1, h4⟩ := and2 h1
        exact s_for po.1 O.calm (sI it O h4) (sG g O h2) (sB b O po h3) (noSet_fold h1)
      | cons y ys => exact ff h
    | _ => exact ff h
  | .whl n t b, S, X, W, P, st, O, po, h => by
    cases st with
    | While c x ys p =>
      cases ys with
      | nil =>
        obtain ⟨h1, h2⟩ := and2 (show (chkT L t S c && chkB L b S x) = true from h)
        exact s_while po.1 (sT t O h1) (sB b O po h2)
      | cons y ys => exact ff h
    | _ => exact ff h
theorem sB {L : LawT} {T : Tx} {Φ : Nat → List Sl → Res RV} {lev : Nat} : ∀ (a : AB) {S : SC} {X : Cx} {W : WX} {P : Nat → Bool} {ss : List Stmt}, Ok L T Φ lev S X W → PassesOwn (model X.prog X.w) X.A X.env X.xe ∧ X.stack = X.env :: X.outer ∧ X.env.frame = some X.env.locals → chkB L a S ss = true → PSs X ss (tS T W P (evB L Φ a P))
  | .nil, S, X, W, P, [], O, po, h => b_nil
  | .nil, S, X, W, P, _ :: _, O, po, h => ff h
  | .cons s b, S, X, W, P, [], O, po, h => ff h
  | .cons s .nil, S, X, W, P, [x], O, po, h => by
    obtain ⟨h1, _⟩ := and2 (show (chkS L s S x && true) = true from h)
    exact b_one (sS s O po h1)
  | .cons s .nil, S, X, W, P, x :: y :: xs, O, po, h => by
    obtain ⟨_, h1⟩ := and2 (show (chkS L s S x && false) = true from h)
    exact ff h1
  | .cons s (.cons t b), S, X, W, P, x :: xs, O, po, h => by
    obtain ⟨h1, h2⟩ := and2 (show (chkS L s S x && chkB L (.cons t b) S xs) = true from h)
    exact b_cons (sS s O po h1) (sB (.cons t b) O po h2)
end
end Dv

set_option Elab.async false
set_option linter.all false
set_option maxRecDepth 100000
set_option maxHeartbeats 4000000
/-! Dv17: a law's defs by levels, from its head to its end. -/
namespace Dv
open PySem PySem.Spec PyProof.Rows L2
/-- a def: where it stands in the top, its name, parameters, how many positional ones a call with keywords has, its slots' names, its body -/
structure DefI where
  idx : Nat
  nm : Str
  ps : List Str
  kn : List Nat
  N : List Str
  body : AB
/-- a law's data -/
structure LawD where
  prog : Program
  gl : List (Str × D)
  fr : List Str
  defs : List DefI
  cs : List Str
def LawD.st (M : LawD) (d : DefI) : Stmt := M.prog.main.body.getD d.idx (.Pass ⟨0, 0, 0, 0⟩)
def LawD.L (M : LawD) : LawT := ⟨M.gl, M.fr, M.defs.map fun d => (d.ps, d.kn), M.cs⟩
/-- what a def means, by level -/
def LawD.fn (M : LawD) : Nat → Nat → List Sl → Res RV
  | 0 => fun _ _ => .no
  | l + 1 => fun k ss => match M.defs[k]? with
    | some d => defS d.N.length (fun P => evB M.L (M.fn l) d.body P) ss
    | none => .no
theorem LawD.nosl (M : LawD) : ∀ l k, noSl (M.fn l k)
  | 0, k => fun ss i ss' h => by cases h
  | l + 1, k => by
    intro ss i ss' h
    have h : (match M.defs[k]? with
      | some d => defS d.N.length (fun P => evB M.L (M.fn l) d.body P) ss
      | none => .no) = _ := h
    cases q : M.defs[k]? with
    | none => rw [q] at h; cases h
    | some d => rw [q] at h; exact defS_noSl ss i ss' h
def scOk (N ps : List Str) (sc : Scope) : Bool := decide (sc.kind = .function) && !sc.isCoroutine && !sc.isGenerator && decide N.Nodup && decide (N.take ps.length = ps) &&
  (ps.all fun x => match sc.names.lookup x with
    | some .local => true
    | some .cell => true
    | _ => false) && (sc.names.all fun y => decide (y.2 ≠ .free))
theorem scOk_ok {N ps : List Str} {sc : Scope} (h : scOk N ps sc = true) : FnScope N ps sc := by
  unfold scOk at h
  obtain ⟨h, h7⟩ := and2 h
  obtain ⟨h, h6⟩ := and2 h
  obtain ⟨h, h5⟩ := and2 h
  obtain ⟨h, h4⟩ := and2 h
  obtain ⟨h, h3⟩ := and2 h
  obtain ⟨h1, h2⟩ := and2 h
  refine ⟨of_decide_eq_true h1, by simpa using h2, by simpa using h3, of_decide_eq_true h4, of_decide_eq_true h5, fun x hx => ?_, fun y hy => of_decide_eq_true (List.all_eq_true.mp h7 y hy)⟩
  have q := List.all_eq_true.mp h6 x hx
  split at q
  · exact .inl (by assumption)
  · exact .inr (by assumption)
  · cases q
def LawD.chkD (M : LawD) (d : DefI) : Bool := scOk d.N d.ps (defScope (M.st d)) && chkB M.L d.body ⟨d.N, defScope (M.st d), none⟩ (defBody (M.st d))
def LawD.bnd (M : LawD) (d : DefI) : Prop := ∀ (n : Nat), (n = d.ps.length ∨ n ∈ d.kn) → ∀ (kV doc pm : Value) (an : Option Addr) (cdv ct : Value) (us ws : List Value), us.length = n → ws.length + n = d.ps.length →
  bindArgs (PySem.W.fnOf d.nm d.nm (defArgs (M.st d)) (defBody (M.st d)) (defScope (M.st d)) .none kV doc pm an cdv ct) ⟨us, (d.ps.drop n).zip ws⟩ = pure (d.ps.zip (us ++ ws))
def LawD.mkD (M : LawD) (d : DefI) : He.DefD := ⟨(d.nm, none), d.nm, d.nm, defArgs (M.st d), defBody (M.st d), defScope (M.st d), [], []⟩
def LawD.hfn (M : LawD) : List He.DefD := M.defs.map M.mkD
def toFa : Str × D → Option He.Fa
  | (x, .fn _) => some (.glo x)
  | (x, .int i) => some (.int x i)
  | (x, .str z) => some (.str x z)
  | _ => none
/-- the exception classes: they are such, which of them an except clause of which takes -/
def exFa (cs : List Str) : List He.Fa := cs.map .glo ++ (cs.map .exc ++ cs.zipIdx.flatMap fun p => cs.zipIdx.map fun q => .exm p.1 q.1 (decide (p.2 = q.2)))
def LawD.hfa (M : LawD) : List He.Fa := M.gl.filterMap toFa ++ (M.fr.map .free ++ exFa M.cs)
/-- what isinstance asks of a class -/
def excCB (K : PySem.W.Frag) (C : Addr) : Bool := decide (PySem.W.findIn K (.ref C) "__getattribute__" = some (some (.builtin "BaseException.__getattribute__"))) && (decide (PySem.W.findIn K (.ref C) "__getattr__" = some none) && (decide (PySem.W.subIn K (.ref C) (.type "BaseException") = some true) &&
  (PySem.W.hasDictIn K C && (decide (PySem.W.findIn K (.ref C) "__class__" = some (some (.builtin "object.__class__"))) && (decide (PySem.W.specialIn K (.builtin "object.__class__") "__get__" = some (some (.builtin "getset_descriptor.__get__"))) &&
  (decide (PySem.W.takesIn K (.builtin "object.__class__") = some true) && (decide (PySem.W.mroIn K C (.type "object") = some true) && decide (PySem.W.kitOne K (.ref C) (.type "ValueError") = some true))))))))
theorem excCB_ok {K : PySem.W.Frag} {C : Addr} (h : excCB K C = true) : ExcC K C ∧ PySem.W.kitOne K (.ref C) (.type "ValueError") = some true := by
  unfold excCB at h
  obtain ⟨h1, h⟩ := and2 h
  obtain ⟨h2, h⟩ := and2 h
  obtain ⟨h3, h⟩ := and2 h
  obtain ⟨h4, h⟩ := and2 h
  obtain ⟨h5, h⟩ := and2 h
  obtain ⟨h6, h⟩ := and2 h
  obtain ⟨h7, h⟩ := and2 h
  obtain ⟨h8, h9⟩ := and2 h
  exact ⟨⟨of_decide_eq_true h1, of_decide_eq_true h2, of_decide_eq_true h3, h4, of_decide_eq_true h5, of_decide_eq_true h6, of_decide_eq_true h7, of_decide_eq_true h8⟩, of_decide_eq_true h9⟩
def LawD.exB (M : LawD) (K : PySem.W.Frag) : Bool := M.cs.all fun x => excCB K (He.ga K x)
/-! the look at the end of the head -/
/-- what the top's names hold, what these name -/
def asY (g : Addr → Option Obj) : List Addr := mainGlobals :: ((match g mainGlobals with
  | some o => He.refsD o
  | none => []) ++ (match g mainGlobals with
  | some o => (He.refsD o).flatMap fun a => match g a with
    | some o => He.refsD o
    | none => []
  | none => []))
def obY (fa : List He.Fa) (fn : List He.DefD) (ex : PySem.W.Frag → Bool) (g : Addr → Option Obj) : He.AlD := ((He.obsD fa fn (He.frG g (asY g))).1 && ex (He.frG g (asY g)), (He.obsD fa fn (He.frG g (asY g))).2)
def hookY (fa : List He.Fa) (fn : List He.DefD) (ex : PySem.W.Frag → Bool) : PySem.W.Hook where
  α := He.AlD
  obs := fun s => obY fa fn ex s.heap.get?
  val := fun _ => He.valD fn
  says := fun _ h => ∃ K : PySem.W.Frag, K.In h ∧ He.SaysD fa fn K ∧ ex K = true
  of := fun _ _ e => by
    obtain ⟨e1, e2⟩ := Prod.mk.inj e
    obtain ⟨a, b⟩ := and2 e1
    exact ⟨_, He.frG_in, Prod.ext a e2, b⟩
  keeps := fun _ _ _ ⟨K, hK, c⟩ k => ⟨K, PySem.W.Frag.In.keeps hK k, c⟩
theorem obY_eq {fa : List He.Fa} {fn : List He.DefD} {ex : PySem.W.Frag → Bool} {g : Addr → Option Obj} {s : Shared} (h : ∀ a, g a = s.heap.get? a) : obY fa fn ex g = (hookY fa fn ex).obs s := by
  have e : g = s.heap.get? := funext h
  rw [e]
  rfl
/-- the table of globals tells the defs by their numbers -/
def LawD.glB (M : LawD) : Bool := M.gl.all fun p => match p.2 with
  | .fn k => (match M.defs[k]? with
    | some d => decide (d.nm = p.1)
    | none => false)
  | .int _ => true
  | .str _ => true
  | _ => false
structure LawD.Good (M : LawD) : Prop where
  gl : M.glB = true
  chk : M.defs.all M.chkD = true
  bnd : ∀ d ∈ M.defs, M.bnd d
def LawD.T (M : LawD) (K : PySem.W.Frag) : Tx := ⟨K, fun k => match M.defs[k]? with
  | some d => He.ga K d.nm
  | none => 0, fun c => match M.cs[c]? with
  | some x => He.ga K x
  | none => 0⟩
section
variable {M : LawD} {P : Program} {w : World} {K : PySem.W.Frag} {h : Heap} {mg : Str → Option Value} {base : Heap}
theorem M_fact {f : He.Fa} (c : He.SaysD M.hfa M.hfn K) (h : f ∈ M.hfa) : f.ok K = true := c.facts h
theorem M_glo (G : M.Good) (X : K.In h) (Ns : h.Ns mainGlobals mg) (c : He.SaysD M.hfa M.hfn K) (k : Nat) (x : Str) (d : D) (e : M.L.gl[k]? = some (x, d)) : ∃ v u, mg x = some u ∧ RelV v u ∧ ∀ Z H, Rep (M.T K) Z H d v := by
  have e : M.gl[k]? = some (x, d) := e
  have hm : (x, d) ∈ M.gl := List.mem_of_getElem? e
  have hb := List.all_eq_true.mp G.gl _ hm
  have fact : ∀ {f : He.Fa}, toFa (x, d) = some f → f.ok K = true := fun {f} q => M_fact c (List.mem_append_left _ (List.mem_filterMap.mpr ⟨_, hm, q⟩))
  cases d with
  | fn j =>
    have hb : (match M.defs[j]? with
      | some d => decide (d.nm = x)
      | none => false) = true := hb
    cases q : M.defs[j]? with
    | none => rw [q] at hb; exact ff hb
    | some d =>
      rw [q] at hb
      have hb : d.nm = x := of_decide_eq_true hb
      subst hb
      refine ⟨.ref (He.ga K d.nm), .ref (He.ga K d.nm), He.glo_ok X Ns (fact rfl), rfl, fun Z H => ?_⟩
      show V.ref _ = V.ref ((M.T K).fa j)
      unfold LawD.T
      dsimp only
      rw [q]
  | int i =>
    obtain ⟨t, e⟩ := He.int_ok X Ns (fact rfl)
    exact ⟨.int i, _, e, ⟨t, rfl⟩, fun _ _ => rfl⟩
  | str z =>
    obtain ⟨t, e⟩ := He.str_ok X Ns (fact rfl)
    exact ⟨.str z, _, e, ⟨t, rfl⟩, fun _ _ => rfl⟩
  | _ => exact ff hb
theorem M_fr (X : K.In h) (Ns : h.Ns mainGlobals mg) (c : He.SaysD M.hfa M.hfn K) (x : Str) (e : x ∈ M.L.fr) : mg x = none :=
  He.free_ok X Ns (M_fact c (List.mem_append_right _ (List.mem_append_left _ (List.mem_map.mpr ⟨x, e, rfl⟩))))
theorem T_ca {c : Nat} {x : Str} (q : M.cs[c]? = some x) : (M.T K).ca c = He.ga K x := by
  unfold LawD.T
  dsimp only
  rw [q]
theorem M_exk (X : K.In h) (Ns : h.Ns mainGlobals mg) (c : He.SaysD M.hfa M.hfn K) (e : M.exB K = true) : ExK (M.T K) M.L.cs mg := by
  have fact : ∀ {f : He.Fa}, f ∈ exFa M.cs → f.ok K = true := fun {f} h => M_fact c (List.mem_append_right _ (List.mem_append_right _ h))
  refine ⟨fun i x hx => ?_, fun i j x y hx hy => ?_, fun i x hx => ?_⟩
  · have hx : M.cs[i]? = some x := hx
    have hm : x ∈ M.cs := List.mem_of_getElem? hx
    rw [T_ca hx]
    obtain ⟨a, b, d, f⟩ := He.exc_ok (fact (f := .exc x) (List.mem_append_right _ (List.mem_append_left _ (List.mem_map.mpr ⟨x, hm, rfl⟩))))
    exact ⟨He.glo_ok X Ns (fact (f := .glo x) (List.mem_append_left _ (List.mem_map.mpr ⟨x, hm, rfl⟩))), a, b, d, f⟩
  · have hx : M.cs[i]? = some x := hx
    have hy : M.cs[j]? = some y := hy
    rw [T_ca hx, T_ca hy]
    have m1 : (x, i) ∈ M.cs.zipIdx := List.mem_zipIdx_iff_getElem?.mpr hx
    have m2 : (y, j) ∈ M.cs.zipIdx := List.mem_zipIdx_iff_getElem?.mpr hy
    exact He.exm_ok (fact (f := .exm x y (decide (i = j))) (List.mem_append_right _ (List.mem_append_right _ (List.mem_flatMap.mpr ⟨_, m1, List.mem_map.mpr ⟨_, m2, rfl⟩⟩))))
  · have hx : M.cs[i]? = some x := hx
    rw [T_ca hx]
    exact excCB_ok (List.all_eq_true.mp e x (List.mem_of_getElem? hx))
theorem M_fun (c : He.SaysD M.hfa M.hfn K) {d : DefI} (hd : d ∈ M.defs) : ∃ fd, FunD K d.nm d.nm (defArgs (M.st d)) (defBody (M.st d)) (defScope (M.st d)) [] [] (He.ga K d.nm) fd :=
  c.defs (List.mem_map.mpr ⟨d, hd, rfl⟩)
theorem M_binds (G : M.Good) {d : DefI} (hd : d ∈ M.defs) {fd : FuncData} {f : Addr} (F : FunD K d.nm d.nm (defArgs (M.st d)) (defBody (M.st d)) (defScope (M.st d)) [] [] f fd) :
    ∀ n : Nat, (n = d.ps.length ∨ n ∈ d.kn) → ∀ (s : Shared) (us ws : List Value), us.length = n → ws.length + n = d.ps.length → BindsTo s fd ⟨us, (d.ps.drop n).zip ws⟩ (d.ps.zip (us ++ ws)) := by
  obtain ⟨oc, od, dV, kV, doc, pm, an, cdv, ct, osl, rfl, lk, hcd, hD, hK⟩ := F.ex
  rcases hD with ⟨_, rfl⟩ | ⟨e, _⟩
  · exact fun n hn s us ws h1 h2 => .of_eq (G.bnd d hd n hn kV doc pm an cdv ct us ws h1 h2)
  · exact absurd rfl e
theorem T_fa {k : Nat} {d : DefI} (q : M.defs[k]? = some d) : (M.T K).fa k = He.ga K d.nm := by
  unfold LawD.T
  dsimp only
  rw [q]
/-- from the promises at a level to the table -/
theorem M_tab (G : M.Good) (c : He.SaysD M.hfa M.hfn K) {lev : Nat} (A : ∀ (k : Nat) (d : DefI), M.defs[k]? = some d → ∀ fd, FunD K d.nm d.nm (defArgs (M.st d)) (defBody (M.st d)) (defScope (M.st d)) [] [] (He.ga K d.nm) fd →
      FnOk P w K mg base (L2.CX P w) lev (He.ga K d.nm) fd d.ps (spD (M.T K) d.ps.length (M.fn lev k))) (k : Nat) (p : List Str × List Nat) (e : M.L.tb k = some p) : FnK P w K mg base lev ((M.T K).fa k) p.1 p.2 (spD (M.T K) p.1.length (M.fn lev k)) := by
  have e : (M.defs.map fun d => (d.ps, d.kn))[k]? = some p := e
  rw [List.getElem?_map] at e
  cases q : M.defs[k]? with
  | none => rw [q] at e; cases e
  | some d =>
    rw [q] at e
    cases e
    have hd : d ∈ M.defs := List.mem_of_getElem? q
    obtain ⟨fd, F⟩ := M_fun c hd
    rw [T_fa q]
    exact ⟨⟨fd, A k d q fd F, M_binds G hd F⟩, F.kp⟩
/-- every def at every level keeps its promise -/
theorem M_fns (G : M.Good) (X : K.In h) (Ns : h.Ns mainGlobals mg) (c : He.SaysD M.hfa M.hfn K) (ex : M.exB K = true) : ∀ (lev : Nat) (k : Nat) (d : DefI), M.defs[k]? = some d → ∀ fd, FunD K d.nm d.nm (defArgs (M.st d)) (defBody (M.st d)) (defScope (M.st d)) [] [] (He.ga K d.nm) fd →
      FnOk P w K mg base (L2.CX P w) lev (He.ga K d.nm) fd d.ps (spD (M.T K) d.ps.length (M.fn lev k)) := by
  intro lev
  induction lev with
  | zero =>
    intro k d q fd F
    refine ⟨fun vs H Q E z => z.1, fun A outer s H args us vs Q E hr e0 hb r z => ?_⟩
    obtain ⟨_, Z, F', ss, S, z⟩ := z
    exact z.elim
  | succ l ih =>
    intro k d q fd F
    have hd : d ∈ M.defs := List.mem_of_getElem? q
    obtain ⟨c1, c2⟩ := and2 (List.all_eq_true.mp G.chk d hd)
    have sc := scOk_ok c1
    refine F.ok sc (fun vs H Q E z => z.1) (fun cdv A outer s H vs Q E hr z => ?_)
    obtain ⟨hl, Z, F', ss, S, z⟩ := z
    have hN : vs.length ≤ d.N.length := by
      have := congrArg List.length sc.pre
      rw [List.length_take] at this
      omega
    have ez : M.fn (l + 1) k ss = defS d.N.length (fun P => evB M.L (M.fn l) d.body P) ss := by
      show (match M.defs[k]? with
        | some d => defS d.N.length (fun P => evB M.L (M.fn l) d.body P) ss
        | none => .no) = _
      rw [q]
    rw [ez] at z
    refine ⟨_, sB (T := M.T K) (Φ := M.fn l) (lev := l) (S := ⟨d.N, defScope (M.st d), none⟩) (W := fun cls d _ H => E cls d H) (P := lent ss) d.body ?_ ?_ c2, body_ok hN S z⟩
    · exact { K := rfl, tk := takes_of rfl rfl rfl rfl, nd := sc.nd, N := rfl, sc := rfl, kind := sc.kind, fn := fun _ _ => rfl, calm := rfl, room := hr, fns := M_tab G c ih, glo := M_glo G X Ns c, fr := M_fr X Ns c, exk := M_exk X Ns c ex, nosl := M.nosl l }
    · exact ⟨passes_of (K := fun e s'' => L2.CX P w outer H s E e s'') rfl, rfl, rfl⟩
/-- at the law's end: no exception comes out -/
theorem CX_out {w : World} {P : Program} {H : Hp} {s : Shared} {e : Value} {s' : Shared} {outer : List Env} (h : L2.CX P w outer H s (fun _ _ _ => False) e s') : False := by
  obtain ⟨a, B, H', cls, d, _, _, _, _, _, _, _, z⟩ := h
  exact z
theorem toX0 {k : Nat} {f : Addr} {fd : FuncData} {ps : List Str} {sp : Sp} (F : FnOk P w K mg base (L2.CX P w) k f fd ps sp) : FnOk P w K mg base L2.CX0 k f fd ps (fun vs H Q _ => sp vs H Q fun _ _ _ => False) :=
  ⟨fun vs H Q E z => F.len vs H Q _ z, fun A outer s H args us vs Q E hr e0 hb r z => codeAny_mono (F.run A outer s H args us vs Q (fun _ _ _ => False) hr e0 hb r z) fun r s' hq => by
    cases r with
    | error e => exact (CX_out hq).elim
    | ok fl =>
      cases fl with
      | ret u => exact hq
      | next => exact hq.elim
      | brk => exact hq.elim
      | cont => exact hq.elim⟩
/-- the script handed in -/
theorem M_script {T : Tx} {H : Hp} {a : Addr} {ns : List Int} (hO : Only H) (hS : SqL T.K H a (ns.map V.int)) : ∃ Z, SR T Z F0 [.fz (.scr ns)] [some (.ref a)] H := by
  refine ⟨fun b => H b ≠ none, ⟨fun _ z => z, fun _ z => z.elim, fun _ _ z => z.elim, rfl, fun i d e => ?_, fun i ds e => ?_, fun i j ds es b e => ?_⟩⟩
  · cases i with
    | zero =>
      cases e
      refine ⟨.ref a, rfl, a, rfl, ?_⟩
      rcases hS with (q | ⟨o, q⟩) | q
      · rcases hO a with z | ⟨o, xs, z⟩
        · rw [z] at q; cases q
        · rw [z] at q; cases q
      · exact .inl ⟨(fun z => by rw [q] at z; cases z), o, q⟩
      · exact .inr q
    | succ i => simp at e
  · cases i with
    | zero => cases e
    | succ i => simp at e
  · cases i with
    | zero => cases e
    | succ i => simp at e
/-- the law's answer -/
def LawD.says (M : LawD) (lev k : Nat) (ns : List Int) : Prop := ∃ ss, M.fn lev k [.fz (.scr ns)] = .ok (.val (.bl true)) ss
theorem M_law (G : M.Good) (X : K.In h) (Ns : h.Ns mainGlobals mg) (c : He.SaysD M.hfa M.hfn K) (ex : M.exB K = true) {lev k n : Nat} {d : DefI} {x : Str} (hk : M.defs[k]? = some d) (hp : d.ps = [x]) (hs : ∀ ns : List Int, ns.length ≤ n → M.says lev k ns) :
    ∃ (fd : FuncData) (sp : Sp), (∀ (s : Shared) (u : Value), BindsTo s fd ⟨[u], []⟩ [(x, u)]) ∧ (∀ (H : Hp) (a : Addr) (ns : List Int), ns.length ≤ n → Only H → SqL K H a (ns.map V.int) → sp [.ref a] H (fun v _ => v = .bl true) fun _ _ _ => False) ∧
      ∀ base : Heap, FnOk P w K mg base L2.CX0 lev (He.ga K d.nm) fd [x] sp := by
  have hd : d ∈ M.defs := List.mem_of_getElem? hk
  obtain ⟨fd, F⟩ := M_fun c hd
  have B := M_binds G hd F
  refine ⟨fd, fun vs H Q _ => spD (M.T K) 1 (M.fn lev k) vs H Q fun _ _ _ => False, fun s u => ?_, fun H a ns hl hO hS => ?_, fun base => ?_⟩
  · have b := B 1 (.inl (by rw [hp]; rfl)) s [u] [] rfl (by rw [hp]; rfl)
    rw [hp] at b
    exact b
  · obtain ⟨Z, S⟩ := M_script (T := M.T K) hO hS
    obtain ⟨ss, e⟩ := hs ns hl
    refine ⟨rfl, Z, F0, [.fz (.scr ns)], S, ?_⟩
    rw [e]
    exact fun v Z' H' _ _ r => r
  · have F3 := toX0 (M_fns (P := P) (w := w) (base := base) G X Ns c ex lev k d hk fd F)
    rw [hp] at F3
    exact F3
end
end Dv

set_option Elab.async false
set_option linter.all false
set_option maxRecDepth 100000
set_option maxHeartbeats 0
namespace Dv.G
open PySem PySem.Spec PyProof.Rows L2 Dv
/-- is_number -/
def b0 : AB := (.cons (.ret (.and (.cons (.fn .isi (.cons (.var 0) (.cons (.typ "int") .nil))) (.cons (.not (.fn .isi (.cons (.var 0) (.cons (.typ "bool") .nil)))) .nil)))) .nil)
/-- are_numbers -/
def b1 : AB := (.cons (.ret (.and (.cons (.fn .isi (.cons (.var 0) (.cons (.typ "tuple") .nil))) (.cons (.fn .all (.cons (.lc [1] (.any (.var 0)) (.name 1) .yes (.call (.glo 0) (.cons (.var 1) .nil) [] .nil)) .nil)) .nil)))) .nil)
/-- tupled -/
def b2 : AB := (.cons (.ret (.ife (.tru (.fn .isi (.cons (.var 0) (.cons (.tup (.cons (.typ "list") (.cons (.typ "tuple") .nil))) .nil)))) (.fn .tuple (.cons (.lc [1] (.any (.var 0)) (.name 1) .yes (.call (.glo 1) (.cons (.var 1) .nil) [] .nil)) .nil)) (.var 0))) .nil)
/-- common_of -/
def b3 : AB := (.cons (.whl 1000000000000000000000000000000 (.cmp .ne (.var 1) (.con (.int 0))) (.cons (.par [0, 1] (.cons (.var 1) (.cons (.bin .mod (.var 0) (.var 1)) .nil))) .nil)) (.cons (.ret (.fn .abs (.cons (.var 0) .nil))) .nil))
/-- common_of_row -/
def b4 : AB := (.cons (.asg (.name 1) (.con (.int 0))) (.cons (.forr (.any (.var 0)) (.name 2) (.cons (.asg (.name 1) (.call (.glo 2) (.cons (.var 1) (.cons (.var 2) .nil)) [] .nil)) .nil)) (.cons (.ret (.var 1)) .nil)))
/-- first_table -/
def b5 : AB := (.cons (.par [1, 2] (.cons (.fn .len (.cons (.ix (.var 0) (.con (.int 0))) .nil)) (.cons (.lst .nil) .nil))) (.cons (.forr (.rng1 (.bin .add (.var 1) (.con (.int 1)))) (.name 3) (.cons (.asg (.name 4) (.ife (.cmp .lt (.var 3) (.var 1)) (.lc [5] (.any (.var 0)) (.name 5) .yes (.ix (.var 5) (.var 3))) (.bin .mul (.lst (.cons (.con (.int 1)) .nil)) (.fn .len (.cons (.var 0) .nil))))) (.cons (.exp (.app 2 (.bin .add (.bin .add (.var 4) (.lc [6] (.rng1 (.bin .add (.var 1) (.con (.int 1)))) (.name 6) .yes (.fn .int (.cons (.cmp .eq (.var 3) (.var 6)) .nil)))) (.lst (.cons (.fn .int (.cons (.cmp .eq (.var 3) (.var 1)) .nil)) .nil))))) .nil))) (.cons (.exp (.app 2 (.bin .add (.bin .add (.lc [5] (.any (.var 0)) (.name 5) .yes (.bin .sub (.neg (.fn .sum (.cons (.var 5) .nil))) (.con (.int 1)))) (.bin .mul (.lst (.cons (.con (.int 0)) .nil)) (.bin .add (.var 1) (.con (.int 1))))) (.lst (.cons (.neg (.con (.int 1))) .nil))))) (.cons (.ret (.var 2)) .nil))))
/-- entering -/
def b6 : AB := (.cons (.forr (.enum (.sl (.var 0) .none (.some (.neg (.con (.int 1)))))) (.tup (.cons (.name 1) (.cons (.name 2) .nil))) (.cons (.ite (.cmp .lt (.var 2) (.con (.int 0))) (.cons (.ret (.var 1)) .nil) .nil) .nil)) (.cons (.ret (.con .non)) .nil))
/-- leaving -/
def b7 : AB := (.cons (.asg (.name 3) (.con .non)) (.cons (.forr (.rng1 (.fn .len (.cons (.var 1) .nil))) (.name 4) (.cons (.asg (.name 5) (.ix (.var 0) (.var 4))) (.cons (.ite (.cmp .le (.ix (.var 5) (.var 2)) (.con (.int 0))) (.cons .cont .nil) .nil) (.cons (.ite (.cmp .isNot (.var 3) (.con .non)) (.cons (.par [6, 7] (.cons (.bin .mul (.ix (.var 5) (.neg (.con (.int 1)))) (.ix (.ix (.var 0) (.var 3)) (.var 2))) (.cons (.bin .mul (.ix (.ix (.var 0) (.var 3)) (.neg (.con (.int 1)))) (.ix (.var 5) (.var 2))) .nil))) (.cons (.ite (.or (.cons (.cmp .gt (.var 6) (.var 7)) (.cons (.and (.cons (.cmp .eq (.var 6) (.var 7)) (.cons (.cmp .gt (.ix (.var 1) (.var 4)) (.ix (.var 1) (.var 3))) .nil))) .nil))) (.cons .cont .nil) .nil) .nil)) .nil) (.cons (.asg (.name 3) (.var 4)) .nil))))) (.cons (.ret (.var 3)) .nil)))
/-- turned -/
def b8 : AB := (.cons (.parT [4, 5] (.cons (.ix (.var 0) (.var 1)) (.cons (.lst .nil) .nil))) (.cons (.forr (.enum (.var 0)) (.tup (.cons (.name 6) (.cons (.name 7) .nil))) (.cons (.ite (.cmp .eq (.var 6) (.var 1)) (.cons (.exp (.app 5 (.var 7))) .nil) (.cons (.exp (.app 5 (.lc [8, 9] (.zip (.var 7) (.var 4)) (.tup (.cons (.name 8) (.cons (.name 9) .nil))) .yes (.bin .div (.bin .sub (.bin .mul (.var 8) (.ix (.var 4) (.var 2))) (.bin .mul (.ix (.var 7) (.var 2)) (.var 9))) (.var 3))))) .nil)) .nil)) (.cons (.ret (.var 5)) .nil)))
/-- level_in -/
def b9 : AB := (.cons (.parT [1, 2] (.cons (.fn .len (.cons (.ix (.var 0) (.con (.int 0))) .nil)) (.cons (.fn .len (.cons (.var 0) .nil)) .nil))) (.cons (.parT [3, 4, 5] (.cons (.call (.glo 7) (.cons (.var 0) .nil) [] .nil) (.cons (.lc [6] (.rng1 (.bin .add (.var 1) (.con (.int 1)))) (.name 6) .yes (.bin .add (.var 2) (.var 6))) (.cons (.con (.int 1)) .nil)))) (.cons (.asg (.name 7) (.call (.glo 4) (.cons (.ix (.var 3) (.neg (.con (.int 1)))) .nil) [] .nil)) (.cons (.whl 1000000000000000000000000000000 (.cmp .isNot (.var 7) (.con .non)) (.cons (.asg (.name 6) (.call (.glo 6) (.cons (.var 3) (.cons (.var 4) (.cons (.var 7) .nil))) [] .nil)) (.cons (.asg (.name 8) (.ix (.ix (.var 3) (.var 6)) (.var 7))) (.cons (.asg (.name 3) (.call (.glo 5) (.cons (.var 3) (.cons (.var 6) (.cons (.var 7) (.cons (.var 5) .nil)))) [] .nil)) (.cons (.asg (.tup (.cons (.set 4 (.var 6)) (.cons (.name 5) .nil))) (.tup (.cons (.var 7) (.cons (.var 8) .nil)))) (.cons (.asg (.name 7) (.call (.glo 4) (.cons (.ix (.var 3) (.neg (.con (.int 1)))) .nil) [] .nil)) .nil)))))) (.cons (.ite (.cmp .eq (.ix (.ix (.var 3) (.neg (.con (.int 1)))) (.neg (.con (.int 1)))) (.con (.int 0))) (.cons (.asg (.name 9) (.bin .mul (.lst (.cons (.con (.int 0)) .nil)) (.var 2))) (.cons (.forr (.enum (.var 4)) (.tup (.cons (.name 6) (.cons (.name 10) .nil))) (.cons (.ite (.cmp .lt (.var 10) (.var 2)) (.cons (.asg (.set 9 (.var 10)) (.ix (.ix (.var 3) (.var 6)) (.neg (.con (.int 1))))) .nil) .nil) .nil)) .nil)) (.cons (.setLc 9 [10] (.any (.sl (.ix (.var 3) (.neg (.con (.int 1)))) (.some (.var 2)) (.some (.bin .add (.var 2) (.var 1))))) (.name 10) .yes (.bin .sub (.var 10) (.var 5))) .nil)) (.cons (.asg (.name 11) (.call (.glo 3) (.cons (.var 9) .nil) [] .nil)) (.cons (.ret (.tup (.cons (.cmp .ne (.ix (.ix (.var 3) (.neg (.con (.int 1)))) (.neg (.con (.int 1)))) (.con (.int 0))) (.cons (.fn .tuple (.cons (.lc [10] (.any (.var 9)) (.name 10) .yes (.bin .div (.var 10) (.var 11))) .nil)) .nil)))) .nil)))))))
/-- are_rows -/
def b10 : AB := (.cons (.ite (.or (.cons (.not (.tru (.fn .isi (.cons (.var 0) (.cons (.typ "tuple") .nil))))) (.cons (.not (.chn .le .le (.con (.int 1)) (.fn .len (.cons (.var 0) .nil)) (.glo 11))) .nil))) (.cons (.ret (.con (.bl false))) .nil) .nil) (.cons (.ite (.not (.tru (.fn .all (.cons (.lc [1] (.any (.var 0)) (.name 1) .yes (.call (.glo 10) (.cons (.var 1) .nil) [] .nil)) .nil)))) (.cons (.ret (.con (.bl false))) .nil) .nil) (.cons (.ite (.or (.cons (.not (.chn .le .le (.con (.int 1)) (.fn .len (.cons (.ix (.var 0) (.con (.int 0))) .nil)) (.glo 9))) (.cons (.tru (.fn .any (.cons (.lc [1] (.any (.var 0)) (.name 1) .yes (.cmp .ne (.fn .len (.cons (.var 1) .nil)) (.fn .len (.cons (.ix (.var 0) (.con (.int 0))) .nil)))) .nil))) .nil))) (.cons (.ret (.con (.bl false))) .nil) .nil) (.cons (.ret (.fn .all (.cons (.lc2 [1, 2] [2] (.any (.var 0)) (.name 1) .yes (.any (.var 1)) (.name 2) .yes (.cmp .le (.fn .abs (.cons (.var 2) .nil)) (.glo 8))) .nil))) .nil))))
/-- over_or_bar -/
def b11 : AB := (.cons (.asg (.name 1) (.call (.glo 1) (.cons (.var 0) .nil) [] .nil)) (.cons (.ite (.not (.tru (.call (.glo 13) (.cons (.var 1) .nil) [] .nil))) (.cons (.rse 2) .nil) .nil) (.cons (.ret (.call (.glo 12) (.cons (.var 1) .nil) [] .nil)) .nil)))
/-- _law_box -/
def b12 : AB := (.cons (.asg (.name 2) (.ife (.cmp .lt (.var 1) (.fn .len (.cons (.var 0) .nil))) (.ix (.var 0) (.var 1)) (.con (.int 0)))) (.cons (.ret (.lst (.cons (.bin .mul (.fn .abs (.cons (.var 2) .nil)) (.fn .int (.cons (.cmp .ge (.fn .abs (.cons (.var 2) .nil)) (.bin .pow (.con (.int 10)) (.con (.int 18)))) .nil))) (.cons (.bin .add (.bin .add (.bin .mod (.fn .int (.cons (.var 2) .nil)) (.con (.int 2305843009213693951))) (.bin .mul (.con (.int 39373)) (.var 1))) (.con (.int 25175009))) (.cons (.con (.int 0)) .nil))))) .nil))
/-- _law_take -/
def b13 : AB := (.cons (.ite (.cmp .gt (.ix (.var 0) (.con (.int 0))) (.con (.int 0))) (.cons (.asg (.name 2) (.bin .mod (.fn .int (.cons (.ix (.var 0) (.con (.int 0))) .nil)) (.var 1))) (.cons (.asg (.set 0 (.con (.int 0))) (.bin .div (.ix (.var 0) (.con (.int 0))) (.var 1))) (.cons (.ret (.var 2)) .nil))) .nil) (.cons (.asg (.set 0 (.con (.int 2))) (.bin .add (.ix (.var 0) (.con (.int 2))) (.con (.int 1)))) (.cons (.asg (.name 3) (.bin .mod (.fn .int (.cons (.bin .mul (.bin .add (.ix (.var 0) (.con (.int 1))) (.bin .mul (.con (.int 48271)) (.ix (.var 0) (.con (.int 2))))) (.bin .add (.con (.int 39373)) (.ix (.var 0) (.con (.int 2))))) .nil)) (.con (.int 2147483647)))) (.cons (.asg (.name 4) (.bin .add (.bin .mod (.fn .int (.cons (.var 3) .nil)) (.con (.int 40009))) (.con (.int 7)))) (.cons (.asg (.name 5) (.bin .mod (.fn .int (.cons (.bin .mul (.bin .add (.bin .add (.var 3) (.ix (.var 0) (.con (.int 2)))) (.bin .div (.ix (.var 0) (.con (.int 1))) (.con (.int 1000003)))) (.var 4)) .nil)) (.con (.int 2147483629)))) (.cons (.ret (.bin .mod (.fn .int (.cons (.bin .div (.bin .mod (.fn .int (.cons (.bin .add (.bin .mul (.var 5) (.con (.int 48271))) (.var 3)) .nil)) (.con (.int 2147483587))) (.con (.int 64))) .nil)) (.var 1))) .nil))))))
/-- _law_cells -/
def b14 : AB := (.cons (.asg (.name 2) (.or (.cons (.fn .list (.cons (.sl (.var 0) .none (.some (.var 1))) .nil)) (.cons (.lst (.cons (.con (.int 0)) .nil)) .nil)))) (.cons (.forr (.enum (.sl (.var 0) (.some (.var 1)) (.some (.con (.int 63))))) (.tup (.cons (.name 3) (.cons (.name 4) .nil))) (.cons (.asg (.name 5) (.bin .mod (.fn .int (.cons (.var 3) .nil)) (.var 1))) (.cons (.asg (.set 2 (.var 5)) (.bin .add (.ix (.var 2) (.var 5)) (.bin .mul (.var 4) (.bin .add (.var 3) (.con (.int 2)))))) .nil))) (.cons (.ret (.var 2)) .nil)))
/-- _law_of -/
def b15 : AB := (.cons (.ret (.ix (.var 1) (.call (.glo 14) (.cons (.var 0) (.cons (.fn .len (.cons (.var 1) .nil)) .nil)) [] .nil))) .nil)
/-- _law_pick -/
def b16 : AB := (.cons (.par [3, 4] (.cons (.fn .list (.cons (.var 1) .nil)) (.cons (.lst .nil) .nil))) (.cons (.forr (.rng1 (.fn .min (.cons (.fn .int (.cons (.var 2) .nil)) (.cons (.fn .len (.cons (.var 3) .nil)) .nil)))) (.name 5) (.cons (.exp (.app 4 (.popAt 3 (.call (.glo 14) (.cons (.var 0) (.cons (.fn .len (.cons (.var 3) .nil)) .nil)) [] .nil)))) .nil)) (.cons (.ret (.var 4)) .nil)))
/-- _law_lists -/
def b17 : AB := (.cons (.ret (.ife (.tru (.fn .isi (.cons (.var 0) (.cons (.tup (.cons (.typ "list") (.cons (.typ "tuple") .nil))) .nil)))) (.lc [1] (.any (.var 0)) (.name 1) .yes (.call (.glo 15) (.cons (.var 1) .nil) [] .nil)) (.var 0))) .nil)
/-- _law_same -/
def b18 : AB := (.cons (.ite (.tru (.fn .isi (.cons (.var 1) (.cons (.tup (.cons (.typ "list") (.cons (.typ "tuple") .nil))) .nil)))) (.cons (.ite (.or (.cons (.cmp .ne (.fn .isi (.cons (.var 0) (.cons (.typ "list") .nil))) (.fn .isi (.cons (.var 1) (.cons (.typ "list") .nil)))) (.cons (.cmp .ne (.fn .isi (.cons (.var 0) (.cons (.typ "tuple") .nil))) (.fn .isi (.cons (.var 1) (.cons (.typ "tuple") .nil)))) .nil))) (.cons (.ret (.con (.bl false))) .nil) .nil) (.cons (.ret (.and (.cons (.cmp .eq (.fn .len (.cons (.var 0) .nil)) (.fn .len (.cons (.var 1) .nil))) (.cons (.fn .all (.cons (.lc [2, 3] (.zip (.var 0) (.var 1)) (.tup (.cons (.name 2) (.cons (.name 3) .nil))) .yes (.call (.glo 16) (.cons (.var 2) (.cons (.var 3) .nil)) [] .nil)) .nil)) .nil)))) .nil)) .nil) (.cons (.ite (.cmp .is (.var 1) (.con .non)) (.cons (.ret (.cmp .is (.var 0) (.con .non))) .nil) .nil) (.cons (.ite (.tru (.fn .isi (.cons (.var 1) (.cons (.tup (.cons (.typ "bool") (.cons (.typ "str") .nil))) .nil)))) (.cons (.ret (.and (.cons (.cmp .eq (.fn .isi (.cons (.var 0) (.cons (.typ "bool") .nil))) (.fn .isi (.cons (.var 1) (.cons (.typ "bool") .nil)))) (.cons (.cmp .eq (.fn .isi (.cons (.var 0) (.cons (.typ "str") .nil))) (.fn .isi (.cons (.var 1) (.cons (.typ "str") .nil)))) (.cons (.cmp .eq (.var 0) (.var 1)) .nil))))) .nil) .nil) (.cons (.ret (.and (.cons (.fn .isi (.cons (.var 0) (.cons (.typ "int") .nil))) (.cons (.not (.fn .isi (.cons (.var 0) (.cons (.typ "bool") .nil)))) (.cons (.cmp .eq (.var 0) (.var 1)) .nil))))) .nil))))
/-- _law_is_int -/
def b19 : AB := (.cons (.ret (.and (.cons (.fn .isi (.cons (.var 0) (.cons (.typ "int") .nil))) (.cons (.not (.fn .isi (.cons (.var 0) (.cons (.typ "bool") .nil)))) .nil)))) .nil)
/-- _law_call -/
def b20 : AB := (.cons (.ite (.cmp .eq (.fn .len (.cons (.var 1) .nil)) (.con (.int 1))) (.cons (.ret (.call (.var 0) (.cons (.ix (.var 1) (.con (.int 0))) .nil) [] .nil)) .nil) .nil) (.cons (.ite (.cmp .eq (.fn .len (.cons (.var 1) .nil)) (.con (.int 2))) (.cons (.ret (.call (.var 0) (.cons (.ix (.var 1) (.con (.int 0))) (.cons (.ix (.var 1) (.con (.int 1))) .nil)) [] .nil)) .nil) .nil) (.cons (.ite (.cmp .eq (.fn .len (.cons (.var 1) .nil)) (.con (.int 3))) (.cons (.ret (.call (.var 0) (.cons (.ix (.var 1) (.con (.int 0))) (.cons (.ix (.var 1) (.con (.int 1))) (.cons (.ix (.var 1) (.con (.int 2))) .nil))) [] .nil)) .nil) .nil) (.cons (.ite (.cmp .eq (.fn .len (.cons (.var 1) .nil)) (.con (.int 4))) (.cons (.ret (.call (.var 0) (.cons (.ix (.var 1) (.con (.int 0))) (.cons (.ix (.var 1) (.con (.int 1))) (.cons (.ix (.var 1) (.con (.int 2))) (.cons (.ix (.var 1) (.con (.int 3))) .nil)))) [] .nil)) .nil) .nil) (.cons (.ret (.call (.var 0) (.cons (.ix (.var 1) (.con (.int 0))) (.cons (.ix (.var 1) (.con (.int 1))) (.cons (.ix (.var 1) (.con (.int 2))) (.cons (.ix (.var 1) (.con (.int 3))) (.cons (.ix (.var 1) (.con (.int 4))) .nil))))) [] .nil)) .nil)))))
/-- _law_slip -/
def b21 : AB := (.cons (.tryR [(2, 2, "unfit"), (0, 3, "can not"), (1, 4, "many")] (.cons (.exp (.call (.glo 17) (.cons (.var 0) (.cons (.var 1) .nil)) [] .nil)) .nil)) (.cons (.ret (.con (.str "told"))) .nil))
/-- _law_sum -/
def b22 : AB := (.cons (.ret (.fn .sum (.cons (.lc [2, 3] (.zip (.var 0) (.var 1)) (.tup (.cons (.name 2) (.cons (.name 3) .nil))) .yes (.bin .mul (.var 2) (.var 3))) .nil))) .nil)
/-- _law_holds -/
def b23 : AB := (.cons (.ite (.or (.cons (.not (.tru (.fn .isi (.cons (.var 1) (.cons (.typ "tuple") .nil))))) (.cons (.cmp .ne (.fn .len (.cons (.var 1) .nil)) (.con (.int 2))) (.cons (.not (.tru (.fn .isi (.cons (.ix (.var 1) (.con (.int 0))) (.cons (.typ "bool") .nil))))) (.cons (.not (.tru (.fn .isi (.cons (.ix (.var 1) (.con (.int 1))) (.cons (.typ "tuple") .nil))))) (.cons (.cmp .ne (.lc [2] (.any (.ix (.var 1) (.con (.int 1)))) (.name 2) (.not (.tru (.call (.glo 19) (.cons (.var 2) .nil) [] .nil))) (.con (.int 1))) (.lst .nil)) .nil)))))) (.cons (.ret (.con (.bl false))) .nil) .nil) (.cons (.ite (.tru (.ix (.var 1) (.con (.int 0)))) (.cons (.ret (.and (.cons (.cmp .eq (.fn .len (.cons (.ix (.var 1) (.con (.int 1))) .nil)) (.fn .len (.cons (.ix (.var 0) (.con (.int 0))) .nil))) (.cons (.cmp .eq (.lc [3] (.any (.var 0)) (.name 3) (.cmp .le (.call (.glo 18) (.cons (.var 3) (.cons (.ix (.var 1) (.con (.int 1))) .nil)) [] .nil) (.con (.int 0))) (.con (.int 1))) (.lst .nil)) .nil)))) .nil) .nil) (.cons (.ite (.or (.cons (.cmp .ne (.fn .len (.cons (.ix (.var 1) (.con (.int 1))) .nil)) (.fn .len (.cons (.var 0) .nil))) (.cons (.cmp .lt (.fn .min (.cons (.ix (.var 1) (.con (.int 1))) .nil)) (.con (.int 0))) (.cons (.cmp .eq (.fn .max (.cons (.ix (.var 1) (.con (.int 1))) .nil)) (.con (.int 0))) .nil)))) (.cons (.ret (.con (.bl false))) .nil) .nil) (.cons (.ret (.cmp .eq (.lc [2] (.rng1 (.fn .len (.cons (.ix (.var 0) (.con (.int 0))) .nil))) (.name 2) (.cmp .ne (.call (.glo 18) (.cons (.lc [3] (.any (.var 0)) (.name 3) .yes (.ix (.var 3) (.var 2))) (.cons (.ix (.var 1) (.con (.int 1))) .nil)) [] .nil) (.con (.int 0))) (.con (.int 1))) (.lst .nil))) .nil))))
/-- _law_row -/
def b24 : AB := (.cons (.ret (.fn .tuple (.cons (.lc [3] (.rng1 (.var 1)) (.name 3) .yes (.bin .sub (.call (.glo 14) (.cons (.var 0) (.cons (.bin .add (.bin .mul (.con (.int 2)) (.var 2)) (.con (.int 1))) .nil)) [] .nil) (.var 2))) .nil))) .nil)
/-- _law_over -/
def b25 : AB := (.cons (.asg (.name 4) (.call (.glo 20) (.cons (.var 0) (.cons (.var 1) (.cons (.var 2) .nil))) [] .nil)) (.cons (.asg (.name 5) (.call (.glo 18) (.cons (.var 4) (.cons (.var 3) .nil)) [] .nil)) (.cons (.ite (.cmp .lt (.var 5) (.con (.int 0))) (.cons (.ret (.fn .tuple (.cons (.lc [6] (.any (.var 4)) (.name 6) .yes (.neg (.var 6))) .nil))) .nil) .nil) (.cons (.ret (.ife (.cmp .gt (.var 5) (.con (.int 0))) (.var 4) (.var 3))) .nil))))
/-- _law_right -/
def b26 : AB := (.cons (.parT [1, 2, 3] (.cons (.bin .add (.con (.int 1)) (.call (.glo 14) (.cons (.var 0) (.cons (.con (.int 6)) .nil)) [] .nil)) (.cons (.bin .add (.con (.int 1)) (.call (.glo 14) (.cons (.var 0) (.cons (.con (.int 8)) .nil)) [] .nil)) (.cons (.call (.glo 25) (.cons (.var 0) (.cons (.lst (.cons (.con (.int 1)) (.cons (.con (.int 2)) (.cons (.con (.int 3)) (.cons (.con (.int 9)) (.cons (.bin .pow (.con (.int 10)) (.con (.int 6))) .nil)))))) .nil)) [] .nil) .nil)))) (.cons (.asg (.name 4) (.call (.glo 14) (.cons (.var 0) (.cons (.con (.int 3)) .nil)) [] .nil)) (.cons (.ite (.cmp .eq (.var 4) (.con (.int 0))) (.cons (.asg (.name 5) (.fn .tuple (.cons (.lc [6] (.rng1 (.var 2)) (.name 6) .yes (.call (.glo 20) (.cons (.var 0) (.cons (.var 1) (.cons (.var 3) .nil))) [] .nil)) .nil))) (.cons (.ret (.and (.cons (.call (.glo 21) (.cons (.var 5) (.cons (.call (.glo 22) .nil ["rows"] (.cons (.var 5) .nil)) .nil)) [] .nil) (.cons (.call (.glo 21) (.cons (.var 5) (.cons (.call (.glo 22) .nil ["rows"] (.cons (.call (.glo 15) (.cons (.var 5) .nil) [] .nil) .nil)) .nil)) [] .nil) .nil)))) .nil)) .nil) (.cons (.asg (.name 7) (.fn .tuple (.cons (.lc [6] (.any (.call (.glo 20) (.cons (.var 0) (.cons (.var 1) (.cons (.fn .min (.cons (.lst (.cons (.var 3) (.cons (.con (.int 9)) .nil))) .nil)) .nil))) [] .nil)) (.name 6) .yes (.bin .add (.var 6) (.fn .int (.cons (.cmp .eq (.var 6) (.con (.int 0))) .nil)))) .nil))) (.cons (.asg (.name 5) (.fn .tuple (.cons (.lc [6] (.rng1 (.var 2)) (.name 6) .yes (.call (.glo 24) (.cons (.var 0) (.cons (.var 1) (.cons (.var 3) (.cons (.var 7) .nil)))) [] .nil)) .nil))) (.cons (.ite (.cmp .eq (.var 4) (.con (.int 1))) (.cons (.asg (.name 8) (.call (.glo 22) .nil ["rows"] (.cons (.var 5) .nil))) (.cons (.ret (.and (.cons (.call (.glo 21) (.cons (.var 5) (.cons (.var 8) .nil)) [] .nil) (.cons (.ix (.var 8) (.con (.int 0))) .nil)))) .nil)) .nil) (.cons (.asg (.name 9) (.call (.glo 23) (.cons (.var 0) (.cons (.fn .list (.cons (.var 5) .nil)) (.cons (.con (.int 3)) .nil))) [] .nil)) (.cons (.asg (.name 10) (.fn .tuple (.cons (.lc [6] (.rng1 (.var 1)) (.name 6) .yes (.neg (.fn .sum (.cons (.lc [11] (.any (.var 9)) (.name 11) .yes (.ix (.var 11) (.var 6))) .nil)))) .nil))) (.cons (.ite (.cmp .gt (.fn .max (.cons (.lc [6] (.any (.var 10)) (.name 6) .yes (.fn .abs (.cons (.var 6) .nil))) .nil)) (.bin .pow (.con (.int 10)) (.con (.int 6)))) (.cons (.asg (.name 10) (.fn .tuple (.cons (.lc [6] (.any (.ix (.var 9) (.con (.int 0)))) (.name 6) .yes (.neg (.var 6))) .nil))) .nil) .nil) (.cons (.asg (.name 5) (.fn .tuple (.cons (.call (.glo 23) (.cons (.var 0) (.cons (.bin .add (.fn .list (.cons (.var 5) .nil)) (.lst (.cons (.var 10) .nil))) (.cons (.bin .add (.var 2) (.con (.int 1))) .nil))) [] .nil) .nil))) (.cons (.asg (.name 8) (.call (.glo 22) .nil ["rows"] (.cons (.var 5) .nil))) (.cons (.ret (.and (.cons (.call (.glo 21) (.cons (.var 5) (.cons (.var 8) .nil)) [] .nil) (.cons (.not (.ix (.var 8) (.con (.int 0)))) .nil)))) .nil))))))))))))
/-- law -/
def b27 : AB := (.cons (.asg (.name 1) (.call (.glo 28) (.cons (.call (.glo 29) (.cons (.var 0) (.cons (.con (.int 1)) .nil)) [] .nil) (.cons (.con (.int 0)) .nil)) [] .nil)) (.cons (.ite (.not (.tru (.fn .all (.cons (.lc [2] (.rng1 (.con (.int 5))) (.name 2) .yes (.call (.glo 27) (.cons (.var 1) .nil) [] .nil)) .nil)))) (.cons (.ret (.con (.bl false))) .nil) .nil) (.cons (.ite (.cmp .eq (.call (.glo 14) (.cons (.var 1) (.cons (.con (.int 8)) .nil)) [] .nil) (.con (.int 0))) (.cons (.asg (.name 3) (.fn .tuple (.cons (.lc [4] (.rng1 (.con (.int 40))) (.name 4) .yes (.call (.glo 20) (.cons (.var 1) (.cons (.con (.int 12)) (.cons (.con (.int 3)) .nil))) [] .nil)) .nil))) (.cons (.ite (.not (.tru (.call (.glo 21) (.cons (.var 3) (.cons (.call (.glo 22) (.cons (.var 3) .nil) [] .nil) .nil)) [] .nil))) (.cons (.ret (.con (.bl false))) .nil) .nil) .nil)) .nil) (.cons (.asg (.name 5) (.lst (.cons (.tup (.cons (.tup (.cons (.con (.int 5)) .nil)) .nil)) (.cons (.tup (.cons (.tup (.cons (.con (.int 0)) .nil)) .nil)) (.cons (.tup (.cons (.tup (.cons (.con (.int 1)) .nil)) (.cons (.tup (.cons (.neg (.bin .pow (.con (.int 10)) (.con (.int 6)))) .nil)) .nil))) (.cons (.tup (.cons (.tup (.cons (.con (.int 0)) (.cons (.con (.int 0)) (.cons (.con (.int 0)) .nil)))) (.cons (.tup (.cons (.con (.int 0)) (.cons (.con (.int 0)) (.cons (.con (.int 7)) .nil)))) .nil))) .nil)))))) (.cons (.ite (.or (.cons (.not (.tru (.fn .all (.cons (.lc [6] (.any (.var 5)) (.name 6) .yes (.call (.glo 21) (.cons (.var 6) (.cons (.call (.glo 22) (.cons (.var 6) .nil) [] .nil) .nil)) [] .nil)) .nil)))) (.cons (.not (.tru (.call (.glo 16) (.cons (.lc [6] (.any (.var 5)) (.name 6) .yes (.ix (.call (.glo 22) (.cons (.var 6) .nil) [] .nil) (.con (.int 0)))) (.cons (.lst (.cons (.con (.bl true)) (.cons (.con (.bl false)) (.cons (.con (.bl false)) (.cons (.con (.bl false)) .nil))))) .nil)) [] .nil))) .nil))) (.cons (.ret (.con (.bl false))) .nil) .nil) (.cons (.asg (.name 7) (.lst (.cons (.con .non) (.cons (.tup .nil) (.cons (.tup (.cons (.tup .nil) .nil)) (.cons (.tup (.cons (.tup (.cons (.con (.int 1)) .nil)) (.cons (.tup (.cons (.con (.int 1)) (.cons (.con (.int 2)) .nil))) .nil))) (.cons (.bin .mul (.tup (.cons (.tup (.cons (.con (.int 1)) .nil)) .nil)) (.con (.int 41))) (.cons (.tup (.cons (.bin .mul (.tup (.cons (.con (.int 0)) .nil)) (.con (.int 13))) .nil)) (.cons (.tup (.cons (.tup (.cons (.bin .add (.bin .pow (.con (.int 10)) (.con (.int 6))) (.con (.int 1))) .nil)) .nil)) (.cons (.tup (.cons (.tup (.cons (.con (.bl true)) .nil)) .nil)) (.cons (.tup (.cons (.con (.int 1)) (.cons (.con (.int 2)) .nil))) (.cons (.con (.str "12")) (.cons (.tup (.cons (.tup (.cons (.con (.str "1")) .nil)) .nil)) .nil))))))))))))) (.cons (.ret (.cmp .eq (.lc [6] (.any (.var 7)) (.name 6) (.cmp .ne (.call (.glo 26) (.cons (.glo 22) (.cons (.tup (.cons (.var 6) .nil)) .nil)) [] .nil) (.con (.str "unfit"))) (.con (.int 1))) (.lst .nil))) .nil)))))))
def d0 : DefI := ⟨5, "is_number", ["thing"], [], ["thing"], b0⟩
def d1 : DefI := ⟨6, "are_numbers", ["thing"], [], ["thing", "own"], b1⟩
def d2 : DefI := ⟨7, "tupled", ["value"], [], ["value", "own"], b2⟩
def d3 : DefI := ⟨8, "common_of", ["one", "other"], [], ["one", "other"], b3⟩
def d4 : DefI := ⟨9, "common_of_row", ["row"], [], ["row", "found", "own"], b4⟩
def d5 : DefI := ⟨14, "first_table", ["rows"], [], ["rows", "long", "found", "place", "own", "row", "other"], b5⟩
def d6 : DefI := ⟨15, "entering", ["last"], [], ["last", "column", "own"], b6⟩
def d7 : DefI := ⟨16, "leaving", ["table", "basis", "column"], [], ["table", "basis", "column", "best", "place", "own", "left", "right"], b7⟩
def d8 : DefI := ⟨17, "turned", ["table", "place", "column", "by"], [], ["table", "place", "column", "by", "kept", "found", "other", "own", "one", "two"], b8⟩
def d9 : DefI := ⟨18, "level_in", ["rows"], [], ["rows", "long", "many", "table", "basis", "by", "place", "column", "later", "found", "own", "common"], b9⟩
def d10 : DefI := ⟨19, "are_rows", ["thing"], [], ["thing", "own", "one"], b10⟩
def d11 : DefI := ⟨20, "over_or_bar", ["rows"], [0], ["rows", "own"], b11⟩
def d12 : DefI := ⟨22, "_law_box", ["script", "k"], [], ["script", "k", "bit_so"], b12⟩
def d13 : DefI := ⟨23, "_law_take", ["tin", "below_so"], [], ["tin", "below_so", "drawn_so", "once_so", "wide_so", "twice_so"], b13⟩
def d14 : DefI := ⟨24, "_law_cells", ["script", "most_so"], [], ["script", "most_so", "cells_so", "k", "bit_so", "at_so"], b14⟩
def d15 : DefI := ⟨25, "_law_of", ["tin", "goods_so"], [], ["tin", "goods_so"], b15⟩
def d16 : DefI := ⟨26, "_law_pick", ["tin", "goods_so", "count_so"], [], ["tin", "goods_so", "count_so", "pool_so", "found", "lap"], b16⟩
def d17 : DefI := ⟨27, "_law_lists", ["matter"], [], ["matter", "bit"], b17⟩
def d18 : DefI := ⟨28, "_law_same", ["got", "due"], [], ["got", "due", "mine", "its"], b18⟩
def d19 : DefI := ⟨29, "_law_is_int", ["k"], [], ["k"], b19⟩
def d20 : DefI := ⟨30, "_law_call", ["door_so", "goods_so"], [], ["door_so", "goods_so"], b20⟩
def d21 : DefI := ⟨31, "_law_slip", ["door_so", "goods_so"], [], ["door_so", "goods_so", "slip_so", "slip_c", "slip_m"], b21⟩
def d22 : DefI := ⟨32, "_law_sum", ["row_so", "numbers_so"], [], ["row_so", "numbers_so", "a", "b"], b22⟩
def d23 : DefI := ⟨33, "_law_holds", ["rows_so", "got"], [], ["rows_so", "got", "k", "own"], b23⟩
def d24 : DefI := ⟨34, "_law_row", ["tin", "long_so", "wide_so"], [], ["tin", "long_so", "wide_so", "k"], b24⟩
def d25 : DefI := ⟨35, "_law_over", ["tin", "long_so", "wide_so", "goal_so"], [], ["tin", "long_so", "wide_so", "goal_so", "own", "sum_so", "k"], b25⟩
def d26 : DefI := ⟨36, "_law_right", ["tin"], [], ["tin", "long_so", "many_so", "wide_so", "kind_so", "rows_so", "k", "goal_so", "got", "few_so", "back_so", "own"], b26⟩
def d27 : DefI := ⟨37, "law", ["script"], [], ["script", "tin", "lap", "wide_so", "k", "hand_so", "own", "bads_so"], b27⟩
def gls : List (Str × D) := (("is_number" : Str), D.fn 0) :: (("tupled" : Str), D.fn 2) :: (("common_of" : Str), D.fn 3) :: (("common_of_row" : Str), D.fn 4) :: (("entering" : Str), D.fn 6) :: (("turned" : Str), D.fn 8) :: (("leaving" : Str), D.fn 7) :: (("first_table" : Str), D.fn 5) :: (("MOST_ENTRY" : Str), D.int 1000000) :: (("MOST_LONG" : Str), D.int 12) :: (("are_numbers" : Str), D.fn 1) :: (("MOST_ROWS" : Str), D.int 40) :: (("level_in" : Str), D.fn 9) :: (("are_rows" : Str), D.fn 10) :: (("_law_take" : Str), D.fn 13) :: (("_law_lists" : Str), D.fn 17) :: (("_law_same" : Str), D.fn 18) :: (("_law_call" : Str), D.fn 20) :: (("_law_sum" : Str), D.fn 22) :: (("_law_is_int" : Str), D.fn 19) :: (("_law_row" : Str), D.fn 24) :: (("_law_holds" : Str), D.fn 23) :: (("over_or_bar" : Str), D.fn 11) :: (("_law_pick" : Str), D.fn 16) :: (("_law_over" : Str), D.fn 25) :: (("_law_of" : Str), D.fn 15) :: (("_law_slip" : Str), D.fn 21) :: (("_law_right" : Str), D.fn 26) :: (("_law_box" : Str), D.fn 12) :: (("_law_cells" : Str), D.fn 14) :: (("law" : Str), D.fn 27) :: []
def frs : List Str := ("isinstance" : Str) :: ("bool" : Str) :: ("int" : Str) :: ("all" : Str) :: ("tuple" : Str) :: ("list" : Str) :: ("abs" : Str) :: ("sum" : Str) :: ("range" : Str) :: ("len" : Str) :: ("enumerate" : Str) :: ("zip" : Str) :: ("any" : Str) :: ("min" : Str) :: ("str" : Str) :: ("ValueError" : Str) :: ("max" : Str) :: []
def dss : List DefI := d0 :: d1 :: d2 :: d3 :: d4 :: d5 :: d6 :: d7 :: d8 :: d9 :: d10 :: d11 :: d12 :: d13 :: d14 :: d15 :: d16 :: d17 :: d18 :: d19 :: d20 :: d21 :: d22 :: d23 :: d24 :: d25 :: d26 :: d27 :: []
def css : List Str := ("CanNot" : Str) :: ("TooMany" : Str) :: ("Unfit" : Str) :: []
def M : LawD := ⟨PySem.Challenge.pw_heightsfortiles_k09_main_rows_over_or_ba, gls, frs, dss, css⟩
abbrev R : PySem.W.OpenRow := PySem.W.OpenLaw.row PySem.Challenge.rw_heightsfortiles_k09_main_rows_over_or_ba
abbrev hk : PySem.W.Hook := hookY M.hfa M.hfn M.exB
def ob (s : PySem.W.SharedT) : He.AlD := obY M.hfa M.hfn M.exB (HandSHeadRun.getT s)
theorem ob_eq (s : PySem.W.SharedT) : ob s = hk.obs s.abs := obY_eq (HandSHeadRun.getT_eq s)
theorem glok : M.glB = true := by decide +kernel
theorem c0 : M.chkD d0 = true := by decide +kernel
theorem c1 : M.chkD d1 = true := by decide +kernel
theorem c2 : M.chkD d2 = true := by decide +kernel
theorem c3 : M.chkD d3 = true := by decide +kernel
theorem c4 : M.chkD d4 = true := by decide +kernel
theorem c5 : M.chkD d5 = true := by decide +kernel
theorem c6 : M.chkD d6 = true := by decide +kernel
theorem c7 : M.chkD d7 = true := by decide +kernel
theorem c8 : M.chkD d8 = true := by decide +kernel
theorem c9 : M.chkD d9 = true := by decide +kernel
theorem c10 : M.chkD d10 = true := by decide +kernel
theorem c11 : M.chkD d11 = true := by decide +kernel
theorem c12 : M.chkD d12 = true := by decide +kernel
theorem c13 : M.chkD d13 = true := by decide +kernel
theorem c14 : M.chkD d14 = true := by decide +kernel
theorem c15 : M.chkD d15 = true := by decide +kernel
theorem c16 : M.chkD d16 = true := by decide +kernel
theorem c17 : M.chkD d17 = true := by decide +kernel
theorem c18 : M.chkD d18 = true := by decide +kernel
theorem c19 : M.chkD d19 = true := by decide +kernel
theorem c20 : M.chkD d20 = true := by decide +kernel
theorem c21 : M.chkD d21 = true := by decide +kernel
theorem c22 : M.chkD d22 = true := by decide +kernel
theorem c23 : M.chkD d23 = true := by decide +kernel
theorem c24 : M.chkD d24 = true := by decide +kernel
theorem c25 : M.chkD d25 = true := by decide +kernel
theorem c26 : M.chkD d26 = true := by decide +kernel
theorem c27 : M.chkD d27 = true := by decide +kernel
theorem chks : M.defs.all M.chkD = true := by
  show (M.chkD d0 && (M.chkD d1 && (M.chkD d2 && (M.chkD d3 && (M.chkD d4 && (M.chkD d5 && (M.chkD d6 && (M.chkD d7 && (M.chkD d8 && (M.chkD d9 && (M.chkD d10 && (M.chkD d11 && (M.chkD d12 && (M.chkD d13 && (M.chkD d14 && (M.chkD d15 && (M.chkD d16 && (M.chkD d17 && (M.chkD d18 && (M.chkD d19 && (M.chkD d20 && (M.chkD d21 && (M.chkD d22 && (M.chkD d23 && (M.chkD d24 && (M.chkD d25 && (M.chkD d26 && (M.chkD d27 && true)))))))))))))))))))))))))))) = true
  rw [c0, c1, c2, c3, c4, c5, c6, c7, c8, c9, c10, c11, c12, c13, c14, c15, c16, c17, c18, c19, c20, c21, c22, c23, c24, c25, c26, c27]
  rfl
theorem n0 : M.bnd d0 := fun n hn _ _ _ _ _ _ us ws h1 h2 => by
  rcases hn with rfl | hn
  · match us, ws, h1, h2 with
    | [_], [], _, _ => rfl
  · cases hn
theorem n1 : M.bnd d1 := fun n hn _ _ _ _ _ _ us ws h1 h2 => by
  rcases hn with rfl | hn
  · match us, ws, h1, h2 with
    | [_], [], _, _ => rfl
  · cases hn
theorem n2 : M.bnd d2 := fun n hn _ _ _ _ _ _ us ws h1 h2 => by
  rcases hn with rfl | hn
  · match us, ws, h1, h2 with
    | [_], [], _, _ => rfl
  · cases hn
theorem n3 : M.bnd d3 := fun n hn _ _ _ _ _ _ us ws h1 h2 => by
  rcases hn with rfl | hn
  · match us, ws, h1, h2 with
    | [_, _], [], _, _ => rfl
  · cases hn
theorem n4 : M.bnd d4 := fun n hn _ _ _ _ _ _ us ws h1 h2 => by
  rcases hn with rfl | hn
  · match us, ws, h1, h2 with
    | [_], [], _, _ => rfl
  · cases hn
theorem n5 : M.bnd d5 := fun n hn _ _ _ _ _ _ us ws h1 h2 => by
  rcases hn with rfl | hn
  · match us, ws, h1, h2 with
    | [_], [], _, _ => rfl
  · cases hn
theorem n6 : M.bnd d6 := fun n hn _ _ _ _ _ _ us ws h1 h2 => by
  rcases hn with rfl | hn
  · match us, ws, h1, h2 with
    | [_], [], _, _ => rfl
  · cases hn
theorem n7 : M.bnd d7 := fun n hn _ _ _ _ _ _ us ws h1 h2 => by
  rcases hn with rfl | hn
  · match us, ws, h1, h2 with
    | [_, _, _], [], _, _ => rfl
  · cases hn
theorem n8 : M.bnd d8 := fun n hn _ _ _ _ _ _ us ws h1 h2 => by
  rcases hn with rfl | hn
  · match us, ws, h1, h2 with
    | [_, _, _, _], [], _, _ => rfl
  · cases hn
theorem n9 : M.bnd d9 := fun n hn _ _ _ _ _ _ us ws h1 h2 => by
  rcases hn with rfl | hn
  · match us, ws, h1, h2 with
    | [_], [], _, _ => rfl
  · cases hn
theorem n10 : M.bnd d10 := fun n hn _ _ _ _ _ _ us ws h1 h2 => by
  rcases hn with rfl | hn
  · match us, ws, h1, h2 with
    | [_], [], _, _ => rfl
  · cases hn
theorem n11 : M.bnd d11 := fun n hn _ _ _ _ _ _ us ws h1 h2 => by
  have hn : n = 1 ∨ n ∈ [0] := hn
  simp only [List.mem_cons, List.not_mem_nil, or_false] at hn
  rcases hn with rfl | rfl
  · match us, ws, h1, h2 with
    | [_], [], _, _ => rfl
  · match us, ws, h1, h2 with
    | [], [_], _, _ => rfl
theorem n12 : M.bnd d12 := fun n hn _ _ _ _ _ _ us ws h1 h2 => by
  rcases hn with rfl | hn
  · match us, ws, h1, h2 with
    | [_, _], [], _, _ => rfl
  · cases hn
theorem n13 : M.bnd d13 := fun n hn _ _ _ _ _ _ us ws h1 h2 => by
  rcases hn with rfl | hn
  · match us, ws, h1, h2 with
    | [_, _], [], _, _ => rfl
  · cases hn
theorem n14 : M.bnd d14 := fun n hn _ _ _ _ _ _ us ws h1 h2 => by
  rcases hn with rfl | hn
  · match us, ws, h1, h2 with
    | [_, _], [], _, _ => rfl
  · cases hn
theorem n15 : M.bnd d15 := fun n hn _ _ _ _ _ _ us ws h1 h2 => by
  rcases hn with rfl | hn
  · match us, ws, h1, h2 with
    | [_, _], [], _, _ => rfl
  · cases hn
theorem n16 : M.bnd d16 := fun n hn _ _ _ _ _ _ us ws h1 h2 => by
  rcases hn with rfl | hn
  · match us, ws, h1, h2 with
    | [_, _, _], [], _, _ => rfl
  · cases hn
theorem n17 : M.bnd d17 := fun n hn _ _ _ _ _ _ us ws h1 h2 => by
  rcases hn with rfl | hn
  · match us, ws, h1, h2 with
    | [_], [], _, _ => rfl
  · cases hn
theorem n18 : M.bnd d18 := fun n hn _ _ _ _ _ _ us ws h1 h2 => by
  rcases hn with rfl | hn
  · match us, ws, h1, h2 with
    | [_, _], [], _, _ => rfl
  · cases hn
theorem n19 : M.bnd d19 := fun n hn _ _ _ _ _ _ us ws h1 h2 => by
  rcases hn with rfl | hn
  · match us, ws, h1, h2 with
    | [_], [], _, _ => rfl
  · cases hn
theorem n20 : M.bnd d20 := fun n hn _ _ _ _ _ _ us ws h1 h2 => by
  rcases hn with rfl | hn
  · match us, ws, h1, h2 with
    | [_, _], [], _, _ => rfl
  · cases hn
theorem n21 : M.bnd d21 := fun n hn _ _ _ _ _ _ us ws h1 h2 => by
  rcases hn with rfl | hn
  · match us, ws, h1, h2 with
    | [_, _], [], _, _ => rfl
  · cases hn
theorem n22 : M.bnd d22 := fun n hn _ _ _ _ _ _ us ws h1 h2 => by
  rcases hn with rfl | hn
  · match us, ws, h1, h2 with
    | [_, _], [], _, _ => rfl
  · cases hn
theorem n23 : M.bnd d23 := fun n hn _ _ _ _ _ _ us ws h1 h2 => by
  rcases hn with rfl | hn
  · match us, ws, h1, h2 with
    | [_, _], [], _, _ => rfl
  · cases hn
theorem n24 : M.bnd d24 := fun n hn _ _ _ _ _ _ us ws h1 h2 => by
  rcases hn with rfl | hn
  · match us, ws, h1, h2 with
    | [_, _, _], [], _, _ => rfl
  · cases hn
theorem n25 : M.bnd d25 := fun n hn _ _ _ _ _ _ us ws h1 h2 => by
  rcases hn with rfl | hn
  · match us, ws, h1, h2 with
    | [_, _, _, _], [], _, _ => rfl
  · cases hn
theorem n26 : M.bnd d26 := fun n hn _ _ _ _ _ _ us ws h1 h2 => by
  rcases hn with rfl | hn
  · match us, ws, h1, h2 with
    | [_], [], _, _ => rfl
  · cases hn
theorem n27 : M.bnd d27 := fun n hn _ _ _ _ _ _ us ws h1 h2 => by
  rcases hn with rfl | hn
  · match us, ws, h1, h2 with
    | [_], [], _, _ => rfl
  · cases hn
theorem good : M.Good := ⟨glok, chks, fun d hd => by
  have hd : d ∈ [d0, d1, d2, d3, d4, d5, d6, d7, d8, d9, d10, d11, d12, d13, d14, d15, d16, d17, d18, d19, d20, d21, d22, d23, d24, d25, d26, d27] := hd
  simp only [List.mem_cons, List.not_mem_nil, or_false] at hd
  rcases hd with rfl | rfl | rfl | rfl | rfl | rfl | rfl | rfl | rfl | rfl | rfl | rfl | rfl | rfl | rfl | rfl | rfl | rfl | rfl | rfl | rfl | rfl | rfl | rfl | rfl | rfl | rfl | rfl
  · exact n0
  · exact n1
  · exact n2
  · exact n3
  · exact n4
  · exact n5
  · exact n6
  · exact n7
  · exact n8
  · exact n9
  · exact n10
  · exact n11
  · exact n12
  · exact n13
  · exact n14
  · exact n15
  · exact n16
  · exact n17
  · exact n18
  · exact n19
  · exact n20
  · exact n21
  · exact n22
  · exact n23
  · exact n24
  · exact n25
  · exact n26
  · exact n27⟩
def nm0 : List Str := ("CanNot" : Str) :: ("TooMany" : Str) :: ("Unfit" : Str) :: ("is_number" : Str) :: ("are_numbers" : Str) :: ("tupled" : Str) :: ("common_of" : Str) :: ("common_of_row" : Str) :: ("MOST_ROWS" : Str) :: ("MOST_LONG" : Str) :: ("MOST_ENTRY" : Str) :: ("first_table" : Str) :: ("entering" : Str) :: ("leaving" : Str) :: ("turned" : Str) :: ("level_in" : Str) :: ("are_rows" : Str) :: ("over_or_bar" : Str) :: ("_law_box" : Str) :: ("_law_take" : Str) :: ("_law_cells" : Str) :: ("_law_of" : Str) :: ("_law_pick" : Str) :: ("_law_lists" : Str) :: ("_law_same" : Str) :: ("_law_is_int" : Str) :: ("_law_call" : Str) :: ("_law_slip" : Str) :: ("_law_sum" : Str) :: ("_law_holds" : Str) :: ("_law_row" : Str) :: ("_law_over" : Str) :: ("_law_right" : Str) :: []
def nms : List Str := nm0
theorem run (w : World) : HandSHeadRun.RunEq R (PySem.W.view R.prog [37]) hk ob 20000 nms w := by
  intro os
  kernel_rfl
end Dv.G

set_option Elab.async false
set_option linter.all false
set_option maxRecDepth 100000
set_option maxHeartbeats 1000000
/-! Sy1: what holds of a meaning, step by step. -/
namespace Dv
open PySem PySem.Spec PyProof.Rows L2
/-- keeps simp out of what comes later -/
structure Tok {β : Type} (x : β) : Type where
/-- where it ends well, so; where an exception comes out, E -/
def okE {α : Type} (E : Ex → FS → Prop) (r : Res α) (Q : α → FS → Prop) (t : Tok Q := ⟨⟩) (u : Tok E := ⟨⟩) : Prop := match r with
  | .ok a τ => Q a τ
  | .ex x τ => E x τ
  | .no => False
/-- no exception -/
def noE (_ : Ex) (_ : FS) : Prop := False
def okO {α : Type} (r : Option α) (Q : α → Prop) (t : Tok Q := ⟨⟩) : Prop := match r with
  | some a => Q a
  | none => False
theorem okE_cong {α : Type} {E : Ex → FS → Prop} {r : Res α} {Q Q' : α → FS → Prop} (h : ∀ a τ, Q a τ = Q' a τ) : okE E r Q = okE E r Q' := by
  have e : Q = Q' := funext fun a => funext fun τ => h a τ
  subst e
  rfl
section
variable {E : Ex → FS → Prop} {α β : Type} {τ : FS}
theorem ok_ok {a : α} {Q : α → FS → Prop} : okE E (.ok a τ) Q = Q a τ := (rfl)
theorem ok_no {Q : α → FS → Prop} : okE E .no Q = False := (rfl)
theorem ok_ex {x : Ex} {Q : α → FS → Prop} : okE E (.ex x τ) Q = E x τ := (rfl)
theorem oo_some {a : α} {Q : α → Prop} : okO (some a) Q = Q a := (rfl)
theorem oo_none {Q : α → Prop} : okO none Q = False := (rfl)
theorem oo_if {c : Prop} [Decidable c] {a : α} {Q : α → Prop} : okO (if c then some a else none) Q = (c ∧ Q a) := by
  by_cases h : c
  · rw [if_pos h]; exact propext ⟨fun q => ⟨h, q⟩, fun q => q.2⟩
  · rw [if_neg h]; exact propext ⟨fun q => q.elim, fun q => h q.1⟩
theorem ok_bind {r : Res α} {g : α → FS → Res β} {Q : β → FS → Prop} : okE E (bindR r g) Q = okE E r fun a τ => okE E (g a τ) Q := by
  cases r <;> rfl
theorem ok_monoE {E' : Ex → FS → Prop} {r : Res α} {Q Q' : α → FS → Prop} (h : okE E r Q) (k : ∀ a τ, Q a τ → Q' a τ) (kE : ∀ x τ, E x τ → E' x τ) : okE E' r Q' := by
  cases r with
  | ok a τ => exact k a τ h
  | ex x τ => exact kE x τ h
  | no => exact h
theorem ok_mono {r : Res α} {Q Q' : α → FS → Prop} (h : okE noE r Q) (k : ∀ a τ, Q a τ → Q' a τ) : okE E r Q' := ok_monoE h k fun _ _ h => h.elim
theorem ok_monoS {r : Res α} {Q Q' : α → FS → Prop} (h : okE E r Q) (k : ∀ a τ, Q a τ → Q' a τ) : okE E r Q' := ok_monoE h k fun _ _ h => h
theorem ok_eq {r : Res α} {a : α} (h : okE noE r fun b t => b = a ∧ t = τ) : r = .ok a τ := by
  cases r with
  | ok b t =>
    obtain ⟨rfl, rfl⟩ := h
    rfl
  | ex x τ => exact h.elim
  | no => exact h.elim
theorem ok_of {r : Res α} {a : α} {Q : α → FS → Prop} (e : r = .ok a τ) (h : Q a τ) : okE E r Q := by
  rw [e]
  exact h
/-- ds with d at the place -/
def setD (di d : D) (s : Option Sl) : Option (List D) := match di, s with
  | .int k, some (.ow ds) => (match ixN ds.length k with
    | some n => some (ds.set n d)
    | none => none)
  | _, _ => none
/-! expressions -/
def hasS (τ : FS) (i : Nat) : Prop := match τ[i]? with
  | some (.fz _) => True
  | some (.ow _) => True
  | _ => False
theorem k_var {i : Nat} {Q : RV → FS → Prop} : okE E (evVar i τ) Q = (hasS τ i ∧ Q (.sl i) τ) := by
  unfold evVar hasS
  cases τ[i]? with
  | none => exact propext ⟨fun h => h.elim, fun h => h.1.elim⟩
  | some s => cases s <;> first | exact propext ⟨fun h => ⟨trivial, h⟩, fun h => h.2⟩ | exact propext ⟨fun h => h.elim, fun h => h.1.elim⟩
theorem k_con {d : D} {Q : RV → FS → Prop} : okE E (evC d τ) Q = Q (.val d) τ := (rfl)
/-- the datum that a result shows -/
def lookO (τ : FS) (r : RV) (Q : D → Prop) : Prop := okO (look τ r) Q
theorem k_op2 {g : D → D → Option Out} {fa fb : FS → Res RV} {Q : RV → FS → Prop} : okE E (op2 g fa fb τ) Q = okE E (fa τ) fun ra τ1 => okE E (fb τ1) fun rb τ2 => okO (look τ2 ra) fun d => okO (look τ2 rb) fun e => okO (g d e) fun o => Q (outV o) τ2 := by
  unfold op2
  rw [ok_bind]
  refine okE_cong fun ra τ1 => ?_
  rw [ok_bind]
  refine okE_cong fun rb τ2 => ?_
  cases look τ2 ra with
  | none => rfl
  | some d =>
    cases look τ2 rb with
    | none => rfl
    | some e =>
      show okE E (fin (g d e) τ2) Q = okO (g d e) _
      cases g d e <;> rfl
theorem k_op1 {g : D → Option Out} {fa : FS → Res RV} {Q : RV → FS → Prop} : okE E (op1 g fa τ) Q = okE E (fa τ) fun ra τ1 => okO (look τ1 ra) fun d => okO (g d) fun o => Q (outV o) τ1 := by
  unfold op1
  rw [ok_bind]
  refine okE_cong fun ra τ1 => ?_
  cases look τ1 ra with
  | none => rfl
  | some d =>
    show okE E (fin (g d) τ1) Q = okO (g d) _
    cases g d <;> rfl
theorem k_opN {g : List D → Option Out} {fs : FS → Res (List RV)} {Q : RV → FS → Prop} : okE E (opN g fs τ) Q = okE E (fs τ) fun rs τ1 => okO (rs.mapM (look τ1)) fun ds => okO (g ds) fun o => Q (outV o) τ1 := by
  unfold opN
  rw [ok_bind]
  refine okE_cong fun rs τ1 => ?_
  cases rs.mapM (look τ1) with
  | none => rfl
  | some ds =>
    show okE E (fin (g ds) τ1) Q = okO (g ds) _
    cases g ds <;> rfl
theorem k_nilA {Q : List RV → FS → Prop} : okE E (evNil τ) Q = Q [] τ := (rfl)
theorem k_consA {fa : FS → Res RV} {fs : FS → Res (List RV)} {Q : List RV → FS → Prop} : okE E (evCons fa fs τ) Q = okE E (fa τ) fun r τ1 => okE E (fs τ1) fun rs τ2 => Q (r :: rs) τ2 := by
  unfold evCons
  rw [ok_bind]
  refine okE_cong fun r τ1 => ?_
  rw [ok_bind]
  rfl
theorem k_tup {fs : FS → Res (List RV)} {Q : RV → FS → Prop} : okE E (evTup fs τ) Q = okE E (fs τ) fun rs τ1 => okO (frzAll rs τ1) fun p => p.1.length ≤ sizeLine ∧ Q (.val (.tup p.1)) p.2 := by
  unfold evTup
  rw [ok_bind]
  refine okE_cong fun rs τ1 => ?_
  cases frzAll rs τ1 with
  | none => rfl
  | some p =>
    show okE E (if p.1.length ≤ sizeLine then Res.ok (.val (.tup p.1)) p.2 else .no) Q = (p.1.length ≤ sizeLine ∧ _)
    by_cases h : p.1.length ≤ sizeLine
    · rw [if_pos h]; exact propext ⟨fun q => ⟨h, q⟩, fun q => q.2⟩
    · rw [if_neg h]; exact propext ⟨fun q => q.elim, fun q => h q.1⟩
theorem k_lst {fs : FS → Res (List RV)} {Q : RV → FS → Prop} : okE E (evLst fs τ) Q = okE E (fs τ) fun rs τ1 => okO (frzAll rs τ1) fun p => p.1.length ≤ sizeLine ∧ Q (.fr p.1) p.2 := by
  unfold evLst
  rw [ok_bind]
  refine okE_cong fun rs τ1 => ?_
  cases frzAll rs τ1 with
  | none => rfl
  | some p =>
    show okE E (if p.1.length ≤ sizeLine then Res.ok (.fr p.1) p.2 else .no) Q = (p.1.length ≤ sizeLine ∧ _)
    by_cases h : p.1.length ≤ sizeLine
    · rw [if_pos h]; exact propext ⟨fun q => ⟨h, q⟩, fun q => q.2⟩
    · rw [if_neg h]; exact propext ⟨fun q => q.elim, fun q => h q.1⟩
/-! tests -/
theorem k_tru {fa : FS → Res RV} {Q : Bool → FS → Prop} : okE E (evTruth fa τ) Q = okE E (fa τ) fun r τ1 => okO ((look τ1 r).bind truth) fun k => Q k τ1 := by
  unfold evTruth
  rw [ok_bind]
  refine okE_cong fun r τ1 => ?_
  cases (look τ1 r).bind truth <;> rfl
def isBl : D → Option Bool
  | .bl k => some k
  | _ => none
theorem k_bl {fa : FS → Res RV} {Q : Bool → FS → Prop} : okE E (evBl fa τ) Q = okE E (fa τ) fun r τ1 => okO ((look τ1 r).bind isBl) fun k => Q k τ1 := by
  unfold evBl
  rw [ok_bind]
  refine okE_cong fun r τ1 => ?_
  cases look τ1 r with
  | none => rfl
  | some d => cases d <;> rfl
theorem k_if {ft : FS → Res Bool} {fa fb : FS → Res α} {Q : α → FS → Prop} : okE E (evIf ft fa fb τ) Q = okE E (ft τ) fun k τ1 => if k = true then okE E (fa τ1) Q else okE E (fb τ1) Q := by
  unfold evIf
  rw [ok_bind]
  refine okE_cong fun k τ1 => ?_
  cases k <;> rfl
theorem k_andT {ft fu : FS → Res Bool} {Q : Bool → FS → Prop} : okE E (evAndT ft fu τ) Q = okE E (ft τ) fun k τ1 => if k = true then okE E (fu τ1) Q else Q false τ1 := by
  unfold evAndT
  rw [ok_bind]
  refine okE_cong fun k τ1 => ?_
  cases k <;> rfl
theorem k_orT {ft fu : FS → Res Bool} {Q : Bool → FS → Prop} : okE E (evOrT ft fu τ) Q = okE E (ft τ) fun k τ1 => if k = true then Q true τ1 else okE E (fu τ1) Q := by
  unfold evOrT
  rw [ok_bind]
  refine okE_cong fun k τ1 => ?_
  cases k <;> rfl
theorem k_notT {ft : FS → Res Bool} {Q : Bool → FS → Prop} : okE E (evNotT ft τ) Q = okE E (ft τ) fun k τ1 => Q (!k) τ1 := by
  unfold evNotT
  rw [ok_bind]
  rfl
theorem k_andV {fa fb : FS → Res RV} {Q : RV → FS → Prop} : okE E (evAndV fa fb τ) Q = okE E (fa τ) fun r τ1 => okO ((look τ1 r).bind truth) fun k => if k = true then okE E (fb τ1) Q else Q r τ1 := by
  unfold evAndV
  rw [ok_bind]
  refine okE_cong fun r τ1 => ?_
  cases (look τ1 r).bind truth with
  | none => rfl
  | some k => cases k <;> rfl
theorem k_orV {fa fb : FS → Res RV} {Q : RV → FS → Prop} : okE E (evOrV fa fb τ) Q = okE E (fa τ) fun r τ1 => okO ((look τ1 r).bind truth) fun k => if k = true then Q r τ1 else okE E (fb τ1) Q := by
  unfold evOrV
  rw [ok_bind]
  refine okE_cong fun r τ1 => ?_
  cases (look τ1 r).bind truth with
  | none => rfl
  | some k => cases k <;> rfl
theorem k_notV {fa : FS → Res RV} {Q : RV → FS → Prop} : okE E (evNotV fa τ) Q = okE E (fa τ) fun r τ1 => okO ((look τ1 r).bind truth) fun k => Q (.val (.bl (!k))) τ1 := by
  unfold evNotV
  rw [ok_bind]
  refine okE_cong fun r τ1 => ?_
  cases (look τ1 r).bind truth <;> rfl
/-! statements -/
def goS (E : Ex → FS → Prop) (f : FS → Res SO) (Q : SO → FS → Prop) : SO → FS → Prop
  | .nx => fun τ => okE E (f τ) Q
  | o => Q o
theorem k_seq {f g : FS → Res SO} {Q : SO → FS → Prop} : okE E (evSeq f g τ) Q = okE E (f τ) (goS E g Q) := by
  unfold evSeq
  cases f τ with
  | ok a τ1 => cases a <;> rfl
  | _ => rfl
theorem goS_nx {f : FS → Res SO} {Q : SO → FS → Prop} : goS E f Q .nx τ = okE E (f τ) Q := (rfl)
theorem goS_rt {f : FS → Res SO} {Q : SO → FS → Prop} {r : RV} : goS E f Q (.rt r) τ = Q (.rt r) τ := (rfl)
theorem k_nx {Q : SO → FS → Prop} : okE E (evNx τ) Q = Q .nx τ := (rfl)
theorem k_asg {fe : FS → Res RV} {g : RV → FS → Res Unit} {Q : SO → FS → Prop} : okE E (evAsg fe g τ) Q = okE E (fe τ) fun r τ1 => okE noE (g r τ1) fun _ τ2 => Q .nx τ2 := by
  unfold evAsg
  rw [ok_bind]
  refine okE_cong fun r τ1 => ?_
  cases g r τ1 <;> rfl
theorem k_drop {fe : FS → Res RV} {Q : SO → FS → Prop} : okE E (evDrop fe τ) Q = okE E (fe τ) fun _ τ1 => Q .nx τ1 := by
  unfold evDrop
  rw [ok_bind]
  rfl
def retR (P : Nat → Bool) (r : RV) (τ : FS) : Res SO := evRet P (fun τ => .ok r τ) τ
theorem k_ret {P : Nat → Bool} {fe : FS → Res RV} {Q : SO → FS → Prop} : okE E (evRet P fe τ) Q = okE E (fe τ) fun r τ1 => okE E (retR P r τ1) Q := by
  unfold retR evRet
  rw [ok_bind]
  rfl
def rtS (P : Nat → Bool) (i : Nat) (τ : FS) (s : Option Sl) (Q : SO → FS → Prop) (t : Tok Q := ⟨⟩) : Prop := match s with
  | some (.fz d) => Q (.rt (.val d)) τ
  | some (.ow ds) => if P i = true then Q (.rt (.val (.lst ds))) (τ.set i (.fz (.lst ds))) else Q (.rt (.fr ds)) (τ.set i .un)
  | _ => False
theorem rt_val {P : Nat → Bool} {Q : SO → FS → Prop} {d : D} : okE E (retR P (.val d) τ) Q = Q (.rt (.val d)) τ := (rfl)
theorem rt_fr {P : Nat → Bool} {Q : SO → FS → Prop} {ds : List D} : okE E (retR P (.fr ds) τ) Q = Q (.rt (.fr ds)) τ := (rfl)
theorem rt_sl {P : Nat → Bool} {i : Nat} {Q : SO → FS → Prop} : okE E (retR P (.sl i) τ) Q = rtS P i τ (τ[i]?) Q := by
  show okE E (match τ[i]? with
      | some (.fz d) => .ok (.rt (.val d)) τ
      | some (.ow ds) => if P i then .ok (.rt (.val (.lst ds))) (τ.set i (.fz (.lst ds))) else .ok (.rt (.fr ds)) (τ.set i .un)
      | _ => .no) Q = _
  cases τ[i]? with
  | none => rfl
  | some s =>
    cases s with
    | ow ds =>
      show okE E (if P i = true then _ else _) Q = if P i = true then _ else _
      by_cases h : P i = true
      · rw [if_pos h, if_pos h]; rfl
      · rw [if_neg h, if_neg h]; rfl
    | _ => rfl
theorem rtS_fz {P : Nat → Bool} {i : Nat} {Q : SO → FS → Prop} {d : D} : rtS P i τ (some (.fz d)) Q = Q (.rt (.val d)) τ := (rfl)
theorem rtS_ow {P : Nat → Bool} {i : Nat} {Q : SO → FS → Prop} {ds : List D} : rtS P i τ (some (.ow ds)) Q = if P i = true then Q (.rt (.val (.lst ds))) (τ.set i (.fz (.lst ds))) else Q (.rt (.fr ds)) (τ.set i .un) := (rfl)
/-- a def's meaning -/
def endS (ss : List Sl) (Q : RV → List Sl → Prop) : SO → FS → Prop
  | .nx => fun τ => Q (.val .non) (outS ss τ)
  | .rt (.val d) => fun τ => Q (.val d) (outS ss τ)
  | .rt (.fr ds) => fun τ => Q (.fr ds) (outS ss τ)
  | _ => fun _ => False
theorem k_def {n : Nat} {body : (Nat → Bool) → FS → Res SO} {ss : List Sl} {Q : RV → List Sl → Prop} : okE E (defS n body ss) Q = okE (fun x τ => E x (outS ss τ)) (body (lent ss) (ss ++ List.replicate (n - ss.length) .un)) (endS ss Q) := by
  unfold defS
  cases body (lent ss) (ss ++ List.replicate (n - ss.length) .un) with
  | ok a τ1 =>
    cases a with
    | rt r => cases r <;> rfl
    | _ => rfl
  | _ => rfl
end
section
variable {E : Ex → FS → Prop} {τ : FS}
theorem fnS (M : LawD) (l k : Nat) (d : DefI) (ss : List Sl) (h : M.defs[k]? = some d) : M.fn (l + 1) k ss = defS d.N.length (fun P => evB M.L (M.fn l) d.body P) ss := by
  show (match M.defs[k]? with
    | some d => defS d.N.length (fun P => evB M.L (M.fn l) d.body P) ss
    | none => .no) = _
  rw [h]
/-- as fn, never unfolded -/
@[irreducible] def LawD.fx (M : LawD) : Nat → Nat → List Sl → Res RV := M.fn
theorem fx_eq {M : LawD} : M.fx = M.fn := by
  unfold LawD.fx
  rfl
/-- at a def's entry -/
theorem k_fn {M : LawD} {l k : Nat} {d : DefI} {ss : List Sl} {τ : FS} {Q : RV → List Sl → Prop} (h : M.defs[k]? = some d) (e : ss ++ List.replicate (d.N.length - ss.length) .un = τ) (q : okE (fun x τ => E x (outS ss τ)) (evB M.L (M.fx l) d.body (lent ss) τ) (endS ss Q)) : okE E (M.fx (l + 1) k ss) Q := by
  rw [fx_eq] at q ⊢
  rw [fnS M l k d ss h, k_def, e]
  exact q
/-! what slots show -/
def slD : Option Sl → Option D
  | some (.fz d) => some d
  | some (.ow ds) => some (.lst ds)
  | _ => none
theorem look_val {d : D} : look τ (.val d) = some d := (rfl)
theorem look_fr {ds : List D} : look τ (.fr ds) = some (.lst ds) := (rfl)
theorem look_sl {i : Nat} : look τ (.sl i) = slD τ[i]? := by
  show (match τ[i]? with
    | some (Sl.fz d) => some d
    | some (Sl.ow ds) => some (D.lst ds)
    | _ => none) = _
  cases τ[i]? with
  | none => rfl
  | some s => cases s <;> rfl
theorem slD_fz {d : D} : slD (some (.fz d)) = some d := (rfl)
theorem slD_ow {ds : List D} : slD (some (.ow ds)) = some (.lst ds) := (rfl)
theorem outV_sc {d : D} : outV (.sc d) = .val d := (rfl)
theorem outV_nl {ds : List D} : outV (.nl ds) = .fr ds := (rfl)
theorem outV_nt {ds : List D} : outV (.nt ds) = .val (.tup ds) := (rfl)
theorem isBl_bl {k : Bool} : isBl (.bl k) = some k := (rfl)
def hasO : Option Sl → Prop
  | some (.fz _) => True
  | some (.ow _) => True
  | _ => False
theorem hasS_at {i : Nat} : hasS τ i = hasO τ[i]? := by
  unfold hasS hasO
  cases τ[i]? with
  | none => rfl
  | some s => cases s <;> rfl
theorem hasO_fz {d : D} : hasO (some (.fz d)) = True := (rfl)
theorem hasO_ow {ds : List D} : hasO (some (.ow ds)) = True := (rfl)
/-! stores -/
theorem st_val {P : Nat → Bool} {i : Nat} {d : D} {Q : Unit → FS → Prop} : okE noE (storeN P i (.val d) τ) Q = (¬ (P i = true ∨ τ.length ≤ i) ∧ Q () (τ.set i (.fz d))) := by
  unfold storeN
  by_cases h : P i = true ∨ τ.length ≤ i
  · rw [if_pos h]; exact propext ⟨fun q => q.elim, fun q => q.1 h⟩
  · rw [if_neg h]; exact propext ⟨fun q => ⟨h, q⟩, fun q => q.2⟩
theorem st_fr {P : Nat → Bool} {i : Nat} {ds : List D} {Q : Unit → FS → Prop} : okE noE (storeN P i (.fr ds) τ) Q = (¬ (P i = true ∨ τ.length ≤ i) ∧ Q () (τ.set i (.ow ds))) := by
  unfold storeN
  by_cases h : P i = true ∨ τ.length ≤ i
  · rw [if_pos h]; exact propext ⟨fun q => q.elim, fun q => q.1 h⟩
  · rw [if_neg h]; exact propext ⟨fun q => ⟨h, q⟩, fun q => q.2⟩
theorem k_seti {j : Nat} {fi : FS → Res RV} {r : RV} {Q : Unit → FS → Prop} : okE noE (gSetI j fi r τ) Q = (isOw j τ = true ∧ okE noE (fi τ) fun ri τ1 => okO (look τ1 ri) fun di => okO (frz r τ1) fun p => okO (setD di p.1 (p.2[j]?)) fun ds => Q () (p.2.set j (.ow ds))) := by
  unfold gSetI
  by_cases h : isOw j τ = true
  case neg => rw [if_neg h]; exact propext ⟨fun q => q.elim, fun q => h q.1⟩
  rw [if_pos h]
  refine propext ⟨fun q => ⟨h, ?_⟩, fun q => ?_⟩
  · cases e : fi τ with
    | ok ri τ1 =>
      rw [e] at q
      dsimp only at q
      show okO (look τ1 ri) _
      cases e1 : look τ1 ri with
      | none => rw [e1] at q; exact q
      | some di =>
        cases di with
        | int k =>
          cases e2 : frz r τ1 with
          | none => rw [e1, e2] at q; exact q
          | some p =>
            rw [e1, e2] at q
            dsimp only at q
            show okO (setD (.int k) p.1 (p.2[j]?)) _
            cases e3 : p.2[j]? with
            | none => rw [e3] at q; exact q
            | some s =>
              cases s with
              | ow ds =>
                rw [e3] at q
                dsimp only at q
                show okO (match ixN ds.length k with
                  | some n => some (ds.set n p.1)
                  | none => none) _
                cases e4 : ixN ds.length k with
                | none => rw [e4] at q; exact q
                | some n => rw [e4] at q; exact q
              | _ => rw [e3] at q; exact q
        | _ =>
          rw [e1] at q
          exact q.elim
    | _ => rw [e] at q; exact q
  · obtain ⟨_, q⟩ := q
    cases e : fi τ with
    | ok ri τ1 =>
      rw [e] at q
      have q : okO (look τ1 ri) _ := q
      dsimp only
      cases e1 : look τ1 ri with
      | none => rw [e1] at q; exact q.elim
      | some di =>
        rw [e1] at q
        have q : okO (frz r τ1) _ := q
        cases e2 : frz r τ1 with
        | none => rw [e2] at q; exact q.elim
        | some p =>
          rw [e2] at q
          have q : okO (setD di p.1 (p.2[j]?)) _ := q
          cases di with
          | int k =>
            dsimp only
            cases e3 : p.2[j]? with
            | none => rw [e3] at q; exact q.elim
            | some s =>
              rw [e3] at q
              cases s with
              | ow ds =>
                have q : okO (match ixN ds.length k with
                  | some n => some (ds.set n p.1)
                  | none => none) _ := q
                dsimp only
                cases e4 : ixN ds.length k with
                | none => rw [e4] at q; exact q.elim
                | some n => rw [e4] at q; exact q
              | _ => exact q.elim
          | _ => exact q.elim
    | _ => rw [e] at q; exact q.elim
/-! ints -/
theorem oo_mul {i j : Int} {Q : Out → Prop} : okO (dMul (.int i) (.int j)) Q = (mulOk i j = true ∧ Q (.sc (.int (i * j)))) := oo_if
theorem oo_add {i j : Int} {Q : Out → Prop} : okO (dAdd (.int i) (.int j)) Q = Q (.sc (.int (i + j))) := (rfl)
theorem oo_sub {i j : Int} {Q : Out → Prop} : okO (dSub (.int i) (.int j)) Q = Q (.sc (.int (i - j))) := (rfl)
theorem oo_neg {i : Int} {Q : Out → Prop} : okO (dNeg (.int i)) Q = Q (.sc (.int (-i))) := (rfl)
theorem oo_div {i j : Int} {Q : Out → Prop} (h : 0 < j) (h2 : j.natAbs.log2 < 9000) : okO (dDiv (.int i) (.int j)) Q = Q (.sc (.int (i / j))) := by
  show okO (if 0 < j ∧ j.natAbs.log2 < 9000 then oI (i / j) else _) Q = _
  rw [if_pos ⟨h, h2⟩]
  rfl
theorem oo_mod {i j : Int} {Q : Out → Prop} (h : 0 < j) : okO (dMod (.int i) (.int j)) Q = Q (.sc (.int (i % j))) := by
  show okO (if 0 < j then oI (i % j) else _) Q = _
  rw [if_pos h]
  rfl
theorem oo_cmp {p : Int → Int → Bool} {i j : Int} {Q : Out → Prop} : okO (dCmpI p (.int i) (.int j)) Q = Q (.sc (.bl (p i j))) := (rfl)
theorem oo_lt {i j : Int} {Q : Out → Prop} : okO (dLt (.int i) (.int j)) Q = Q (.sc (.bl (decide (i < j)))) := (rfl)
theorem oo_int {i : Int} {Q : Out → Prop} : okO (cInt [.int i]) Q = Q (.sc (.int i)) := (rfl)
/-! the end of a def, arguments, places -/
theorem end_val {ss : List Sl} {Q : RV → List Sl → Prop} {d : D} : endS ss Q (.rt (.val d)) τ = Q (.val d) (outS ss τ) := (rfl)
theorem end_fr {ss : List Sl} {Q : RV → List Sl → Prop} {ds : List D} : endS ss Q (.rt (.fr ds)) τ = Q (.fr ds) (outS ss τ) := (rfl)
theorem end_nx {ss : List Sl} {Q : RV → List Sl → Prop} : endS ss Q .nx τ = Q (.val .non) (outS ss τ) := (rfl)
theorem mm_nil : ([] : List RV).mapM (look τ) = some [] := (rfl)
theorem mm_cons {r : RV} {rs : List RV} {Q : List D → Prop} : okO ((r :: rs).mapM (look τ)) Q = okO (look τ r) fun d => okO (rs.mapM (look τ)) fun ds => Q (d :: ds) := by
  rw [List.mapM_cons]
  cases look τ r with
  | none => rfl
  | some d => cases rs.mapM (look τ) <;> rfl
theorem frz_val {d : D} : frz (.val d) τ = some (d, τ) := (rfl)
theorem frz_fr {ds : List D} : frz (.fr ds) τ = some (.lst ds, τ) := (rfl)
/-- the place of a number known -/
theorem ixN_at {n k : Nat} (h : k < n) : ixN n (k : Int) = some k := by
  unfold ixN
  rw [if_pos (by omega), if_pos (by omega)]
  simp
theorem oo_ix {ds : List D} {k : Nat} {d : D} {Q : Out → Prop} (h : ds[k]? = some d) : okO (dIx (.lst ds) (.int (k : Int))) Q = Q (.sc d) := by
  show okO ((atI ds (k : Int)).map Out.sc) Q = _
  unfold atI
  rw [ixN_at (List.getElem?_eq_some_iff.mp h).1, Option.bind_some, h]
  rfl
theorem oo_ixT {ds : List D} {k : Nat} {d : D} {Q : Out → Prop} (h : ds[k]? = some d) : okO (dIx (.tup ds) (.int (k : Int))) Q = Q (.sc d) := by
  show okO ((atI ds (k : Int)).map Out.sc) Q = _
  unfold atI
  rw [ixN_at (List.getElem?_eq_some_iff.mp h).1, Option.bind_some, h]
  rfl
theorem ix0 {d : D} {r : List D} {Q : Out → Prop} : okO (dIx (.lst (d :: r)) (.int 0)) Q = Q (.sc d) := oo_ix (k := 0) rfl
theorem ix1 {d e : D} {r : List D} {Q : Out → Prop} : okO (dIx (.lst (d :: e :: r)) (.int 1)) Q = Q (.sc e) := oo_ix (k := 1) rfl
theorem ix2 {d e f : D} {r : List D} {Q : Out → Prop} : okO (dIx (.lst (d :: e :: f :: r)) (.int 2)) Q = Q (.sc f) := oo_ix (k := 2) rfl
theorem ixT0 {d : D} {r : List D} {Q : Out → Prop} : okO (dIx (.tup (d :: r)) (.int 0)) Q = Q (.sc d) := oo_ixT (k := 0) rfl
theorem ixT1 {d e : D} {r : List D} {Q : Out → Prop} : okO (dIx (.tup (d :: e :: r)) (.int 1)) Q = Q (.sc e) := oo_ixT (k := 1) rfl
theorem ixT2 {d e f : D} {r : List D} {Q : Out → Prop} : okO (dIx (.tup (d :: e :: f :: r)) (.int 2)) Q = Q (.sc f) := oo_ixT (k := 2) rfl
theorem oo_set {ds : List D} {k : Nat} {d : D} {Q : List D → Prop} (h : k < ds.length) : okO (setD (.int (k : Int)) d (some (.ow ds))) Q = Q (ds.set k d) := by
  unfold setD
  dsimp only
  rw [ixN_at h]
  rfl
theorem sd0 {d e : D} {r : List D} {Q : List D → Prop} : okO (setD (.int 0) d (some (.ow (e :: r)))) Q = Q (d :: r) := oo_set (k := 0) (by simp)
theorem sd1 {d e f : D} {r : List D} {Q : List D → Prop} : okO (setD (.int 1) d (some (.ow (e :: f :: r)))) Q = Q (e :: d :: r) := oo_set (k := 1) (by simp)
theorem sd2 {d e f g : D} {r : List D} {Q : List D → Prop} : okO (setD (.int 2) d (some (.ow (e :: f :: g :: r)))) Q = Q (e :: f :: d :: r) := oo_set (k := 2) (by simp)
theorem lent_fz {ss : List Sl} {j : Nat} {d : D} (h : ss[j]? = some (.fz d)) : lent ss j = false := by
  unfold lent
  rw [h]
end
end Dv

set_option Elab.async false
set_option linter.all false
set_option maxRecDepth 100000
set_option maxHeartbeats 1000000
/-! Sy2: calls, loops, lists from lists. -/
namespace Dv
open PySem PySem.Spec PyProof.Rows L2
section
variable {E : Ex → FS → Prop} {α β : Type} {τ : FS}
def isFn : D → Option Nat
  | .fn k => some k
  | _ => none
theorem isFn_fn {k : Nat} : isFn (.fn k) = some k := (rfl)
theorem oo_bind {γ : Type} {a : Option γ} {g : γ → Option α} {Q : α → Prop} : okO (a.bind g) Q = okO a fun x => okO (g x) Q := by cases a <;> rfl
/-! calls -/
def callO (E : Ex → FS → Prop) (f : List Sl → Res RV) (rs : List RV) (τ : FS) (Q : RV → FS → Prop) (t : Tok Q := ⟨⟩) : Prop := (lentBy τ rs).Nodup ∧ okO (rs.mapM (passR τ)) fun ss => okE (fun x ss' => ss'.length = ss.length ∧ E x (wb τ rs ss' τ)) (f ss) fun r ss' => ss'.length = ss.length ∧ Q r (wb τ rs ss' τ)
theorem k_callR {f : List Sl → Res RV} {rs : List RV} {Q : RV → FS → Prop} : okE E (callR f rs τ) Q = callO E f rs τ Q := by
  unfold callR callO
  by_cases h : (lentBy τ rs).Nodup
  case neg => rw [if_neg h]; exact propext ⟨fun q => q.elim, fun q => h q.1⟩
  rw [if_pos h]
  cases rs.mapM (passR τ) with
  | none => exact propext ⟨fun q => q.elim, fun q => q.2.elim⟩
  | some ss =>
    show okE E (match f ss with
      | .ok r ss' => if ss'.length = ss.length then .ok r (wb τ rs ss' τ) else .no
      | .ex x ss' => if ss'.length = ss.length then .ex x (wb τ rs ss' τ) else .no
      | .no => .no) Q = (_ ∧ okE (fun x ss' => ss'.length = ss.length ∧ E x (wb τ rs ss' τ)) (f ss) fun r ss' => ss'.length = ss.length ∧ Q r (wb τ rs ss' τ))
    cases f ss with
    | ok r ss' =>
      dsimp only
      by_cases hl : ss'.length = ss.length
      · rw [if_pos hl]; exact propext ⟨fun q => ⟨h, hl, q⟩, fun q => q.2.2⟩
      · rw [if_neg hl]; exact propext ⟨fun q => q.elim, fun q => hl q.2.1⟩
    | ex x ss' =>
      dsimp only
      by_cases hl : ss'.length = ss.length
      · rw [if_pos hl]; exact propext ⟨fun q => ⟨h, hl, q⟩, fun q => q.2.2⟩
      · rw [if_neg hl]; exact propext ⟨fun q => q.elim, fun q => hl q.2.1⟩
    | no => exact propext ⟨fun q => q.elim, fun q => q.2.elim⟩
theorem k_call {tb : FTab} {Φ : Nat → List Sl → Res RV} {ks : List Str} {fe : FS → Res RV} {fs fk : FS → Res (List RV)} {Q : RV → FS → Prop} : okE E (evCallF tb Φ ks fe fs fk τ) Q =
    okE E (fe τ) fun rf τ1 => okO ((look τ1 rf).bind isFn) fun k => okO (tb k) fun p => okE E (fs τ1) fun rs τ2 => okE E (fk τ2) fun rk τ3 => bindOk p rs.length rk.length ks = true ∧ callO E (Φ k) (rs ++ rk) τ3 Q := by
  unfold evCallF
  rw [ok_bind]
  refine okE_cong fun rf τ1 => ?_
  cases look τ1 rf with
  | none => rfl
  | some d =>
    cases d with
    | fn k =>
      show okE E (match tb k with
        | some p => bindR (fs τ1) fun rs τ2 => bindR (fk τ2) fun rk τ3 => if bindOk p rs.length rk.length ks = true then callR (Φ k) (rs ++ rk) τ3 else .no
        | none => .no) Q = okO (tb k) _
      cases tb k with
      | none => rfl
      | some p =>
        show okE E (bindR (fs τ1) _) Q = okE E (fs τ1) _
        rw [ok_bind]
        refine okE_cong fun rs τ2 => ?_
        rw [ok_bind]
        refine okE_cong fun rk τ3 => ?_
        rw [← k_callR]
        by_cases h : bindOk p rs.length rk.length ks = true
        · rw [if_pos h]; exact propext ⟨fun q => ⟨h, q⟩, fun q => q.2⟩
        · rw [if_neg h]; exact propext ⟨fun q => q.elim, fun q => h q.1⟩
    | _ => rfl
/-- a call that lends nothing: the slots stay -/
theorem wb_val : ∀ {rs : List RV} {ss : List Sl} {τ0 : FS}, lentBy τ0 rs = [] → wb τ0 rs ss τ = τ
  | [], [], _, _ => rfl
  | [], _ :: _, _, _ => rfl
  | .val d :: rs, [], _, _ => rfl
  | .fr d :: rs, [], _, _ => rfl
  | .sl i :: rs, [], _, _ => rfl
  | .val d :: rs, s :: ss, τ0, h => wb_val (rs := rs) (ss := ss) h
  | .fr d :: rs, s :: ss, τ0, h => wb_val (rs := rs) (ss := ss) h
  | .sl i :: rs, s :: ss, τ0, h => by
    unfold lentBy at h
    unfold wb
    by_cases c : isOw i τ0 = true
    · rw [if_pos c] at h
      cases h
    · rw [if_neg c] at h
      rw [if_neg c]
      exact wb_val (rs := rs) (ss := ss) h
/-! what is walked -/
def itemsO (E : Ex → FS → Prop) (r : RV) (τ : FS) (Q : List D → FS → Prop) (t : Tok Q := ⟨⟩) : Prop := okE E (seqItems r τ) Q
theorem k_items {fe : FS → Res RV} {Q : List D → FS → Prop} : okE E (evItems fe τ) Q = okE E (fe τ) fun r τ1 => itemsO E r τ1 Q := ok_bind
theorem wk_fr {ds : List D} {Q : List D → FS → Prop} : itemsO E (.fr ds) τ Q = Q ds τ := (rfl)
theorem wk_lst {ds : List D} {Q : List D → FS → Prop} : itemsO E (.val (.lst ds)) τ Q = Q ds τ := (rfl)
theorem wk_tup {ds : List D} {Q : List D → FS → Prop} : itemsO E (.val (.tup ds)) τ Q = Q ds τ := (rfl)
theorem wk_scr {ns : List Int} {Q : List D → FS → Prop} : itemsO E (.val (.scr ns)) τ Q = Q (ns.map .int) τ := (rfl)
/-- what a slot gives to be walked -/
def itemS (i : Nat) (τ : FS) (s : Option Sl) (Q : List D → FS → Prop) (t : Tok Q := ⟨⟩) : Prop := match s with
  | some (.fz (.lst ds)) => Q ds τ
  | some (.fz (.tup ds)) => Q ds τ
  | some (.fz (.scr ns)) => Q (ns.map .int) τ
  | some (.ow ds) => Q ds (τ.set i (.fz (.lst ds)))
  | _ => False
theorem wk_sl {i : Nat} {Q : List D → FS → Prop} : itemsO E (.sl i) τ Q = itemS i τ (τ[i]?) Q := by
  unfold itemsO seqItems frz
  dsimp only
  cases τ[i]? with
  | none => rfl
  | some s =>
    cases s with
    | fz d => cases d <;> rfl
    | _ => rfl
theorem wkS_lst {i : Nat} {ds : List D} {Q : List D → FS → Prop} : itemS i τ (some (.fz (.lst ds))) Q = Q ds τ := (rfl)
theorem wkS_tup {i : Nat} {ds : List D} {Q : List D → FS → Prop} : itemS i τ (some (.fz (.tup ds))) Q = Q ds τ := (rfl)
theorem wkS_scr {i : Nat} {ns : List Int} {Q : List D → FS → Prop} : itemS i τ (some (.fz (.scr ns))) Q = Q (ns.map .int) τ := (rfl)
theorem wkS_ow {i : Nat} {ds : List D} {Q : List D → FS → Prop} : itemS i τ (some (.ow ds)) Q = Q ds (τ.set i (.fz (.lst ds))) := (rfl)
def isStr : D → Option Str
  | .str z => some z
  | _ => none
theorem isStr_str {z : Str} : isStr (.str z) = some z := (rfl)
theorem k_signs {fe : FS → Res RV} {Q : List D → FS → Prop} : okE E (evSigns fe τ) Q = okE E (fe τ) fun r τ1 => okO ((look τ1 r).bind isStr) fun z => Q (signs z) τ1 := by
  unfold evSigns
  rw [ok_bind]
  refine okE_cong fun r τ1 => ?_
  cases look τ1 r with
  | none => rfl
  | some d => cases d <;> rfl
theorem k_rng {g : List D → Option (List D)} {fs : FS → Res (List RV)} {Q : List D → FS → Prop} : okE E (evRng g fs τ) Q = okE E (fs τ) fun rs τ1 => okO (rs.mapM (look τ1)) fun es => okO (g es) fun ds => Q ds τ1 := by
  unfold evRng
  rw [ok_bind]
  refine okE_cong fun rs τ1 => ?_
  cases rs.mapM (look τ1) with
  | none => rfl
  | some es =>
    show okE E (match g es with
      | some ds => .ok ds τ1
      | none => .no) Q = okO (g es) _
    cases g es <;> rfl
theorem oo_rng1 {j : Int} {Q : List D → Prop} : okO (rngOf1 [.int j]) Q = (inR j = true ∧ Q (rngD 0 j.toNat)) := oo_if
theorem oo_rng2 {i j : Int} {Q : List D → Prop} : okO (rngOf2 [.int i, .int j]) Q = ((inR i && inR j) = true ∧ Q (rngD i (j - i).toNat)) := oo_if
theorem k_frzI {g : List D → Option (List D)} {fs : FS → Res (List RV)} {Q : List D → FS → Prop} : okE E (frzI g fs τ) Q = okE E (fs τ) fun rs τ1 => okO (frzAll rs τ1) fun p => okO (g p.1) fun ds => Q ds p.2 := by
  unfold frzI
  rw [ok_bind]
  refine okE_cong fun rs τ1 => ?_
  cases frzAll rs τ1 with
  | none => rfl
  | some p =>
    obtain ⟨es, τ2⟩ := p
    show okE E (match g es with
      | some ds => .ok ds τ2
      | none => .no) Q = okO (g es) _
    cases g es <;> rfl
theorem fa_nil {Q : List D × FS → Prop} : okO (frzAll [] τ) Q = Q ([], τ) := (rfl)
theorem fa_cons {r : RV} {rs : List RV} {Q : List D × FS → Prop} : okO (frzAll (r :: rs) τ) Q = okO (frz r τ) fun p => okO (frzAll rs p.2) fun q => Q (p.1 :: q.1, q.2) := by
  show okO (match frz r τ with
    | some (d, τ1) => match frzAll rs τ1 with
      | some (ds, τ2) => some (d :: ds, τ2)
      | none => none
    | none => none) Q = _
  cases frz r τ with
  | none => rfl
  | some p =>
    obtain ⟨d, τ1⟩ := p
    dsimp only
    show okO _ Q = okO (frzAll rs τ1) fun q => Q (d :: q.1, q.2)
    cases frzAll rs τ1 <;> rfl
/-- freezing what a slot holds -/
def frS1 (i : Nat) (τ : FS) : Option Sl → Option (D × FS)
  | some (.fz d) => some (d, τ)
  | some (.ow ds) => some (.lst ds, τ.set i (.fz (.lst ds)))
  | _ => none
theorem frz_sl {i : Nat} : frz (.sl i) τ = frS1 i τ (τ[i]?) := by
  unfold frz
  dsimp only
  cases τ[i]? with
  | none => rfl
  | some s => cases s <;> rfl
theorem frS1_fz {i : Nat} {d : D} : frS1 i τ (some (.fz d)) = some (d, τ) := (rfl)
theorem frS1_ow {i : Nat} {ds : List D} : frS1 i τ (some (.ow ds)) = some (.lst ds, τ.set i (.fz (.lst ds))) := (rfl)
/-! for -/
theorem k_for {fi : FS → Res (List D)} {ga : RV → FS → Res Unit} {fb : FS → Res SO} {Q : SO → FS → Prop} : okE E (evFor fi ga fb τ) Q = okE E (fi τ) fun ds τ1 => okE E (forL ga fb ds τ1) Q := ok_bind
theorem for_nil {ga : RV → FS → Res Unit} {fb : FS → Res SO} {Q : SO → FS → Prop} : okE E (forL ga fb [] τ) Q = Q .nx τ := (rfl)
/-- on with the loop, or out of it -/
def goL (E : Ex → FS → Prop) (f : FS → Res SO) (Q : SO → FS → Prop) : SO → FS → Prop
  | .nx => fun τ => okE E (f τ) Q
  | .ct => fun τ => okE E (f τ) Q
  | .bk => Q .nx
  | .rt r => Q (.rt r)
theorem for_cons {ga : RV → FS → Res Unit} {fb : FS → Res SO} {d : D} {r : List D} {Q : SO → FS → Prop} : okE E (forL ga fb (d :: r) τ) Q = okE noE (ga (.val d) τ) fun _ τ1 => okE E (fb τ1) (goL E (forL ga fb r) Q) := by
  rw [forL]
  cases ga (.val d) τ with
  | ok u τ1 =>
    show okE E (match fb τ1 with
      | .ok .nx τ2 => forL ga fb r τ2
      | .ok .ct τ2 => forL ga fb r τ2
      | .ok .bk τ2 => .ok .nx τ2
      | x => x) Q = okE E (fb τ1) _
    cases fb τ1 with
    | ok o τ2 => cases o <;> rfl
    | _ => rfl
  | _ => rfl
theorem goL_nx {f : FS → Res SO} {Q : SO → FS → Prop} : goL E f Q .nx τ = okE E (f τ) Q := (rfl)
theorem goL_ct {f : FS → Res SO} {Q : SO → FS → Prop} : goL E f Q .ct τ = okE E (f τ) Q := (rfl)
theorem goL_bk {f : FS → Res SO} {Q : SO → FS → Prop} : goL E f Q .bk τ = Q .nx τ := (rfl)
theorem goL_rt {f : FS → Res SO} {Q : SO → FS → Prop} {r : RV} : goL E f Q (.rt r) τ = Q (.rt r) τ := (rfl)
/-- what holds from turn to turn -/
theorem for_inv {ga : RV → FS → Res Unit} {fb : FS → Res SO} {Q : SO → FS → Prop} (I : List D → FS → Prop) (he : ∀ τ, I [] τ → Q .nx τ)
    (hs : ∀ d r τ, I (d :: r) τ → okE noE (ga (.val d) τ) fun _ τ1 => okE E (fb τ1) fun o τ2 => match o with
      | .nx => I r τ2
      | .ct => I r τ2
      | .bk => Q .nx τ2
      | .rt v => Q (.rt v) τ2) : ∀ {ds : List D} {τ : FS}, I ds τ → okE E (forL ga fb ds τ) Q
  | [], τ, h => by rw [for_nil]; exact he τ h
  | d :: r, τ, h => by
    rw [for_cons]
    refine ok_mono (hs d r τ h) fun u τ1 h1 => ok_monoS h1 fun o τ2 h2 => ?_
    cases o with
    | nx => exact for_inv I he hs h2
    | ct => exact for_inv I he hs h2
    | bk => exact h2
    | rt v => exact h2
/-! while -/
theorem k_whl {ft : FS → Res Bool} {fb : FS → Res SO} {n : Nat} {Q : SO → FS → Prop} : okE E (whL ft fb (n + 1) τ) Q = okE E (ft τ) fun k τ1 => if k = true then okE E (fb τ1) (goL E (whL ft fb n) Q) else Q .nx τ1 := by
  rw [whL, ok_bind]
  refine okE_cong fun k τ1 => ?_
  cases k with
  | false => rfl
  | true =>
    show okE E (match fb τ1 with
      | .ok .nx τ2 => whL ft fb n τ2
      | .ok .ct τ2 => whL ft fb n τ2
      | .ok .bk τ2 => .ok .nx τ2
      | x => x) Q = okE E (fb τ1) _
    cases fb τ1 with
    | ok o τ2 => cases o <;> rfl
    | _ => rfl
theorem whl_inv {ft : FS → Res Bool} {fb : FS → Res SO} {Q : SO → FS → Prop} (I : Nat → FS → Prop)
    (hs : ∀ n τ, I n τ → ∃ m, n = m + 1 ∧ okE E (ft τ) fun k τ1 => if k = true then okE E (fb τ1) (fun o τ2 => match o with
      | .nx => I m τ2
      | .ct => I m τ2
      | .bk => Q .nx τ2
      | .rt v => Q (.rt v) τ2) else Q .nx τ1) : ∀ {n : Nat} {τ : FS}, I n τ → okE E (whL ft fb n τ) Q
  | 0, τ, h => by obtain ⟨m, e, _⟩ := hs 0 τ h; cases e
  | n + 1, τ, h => by
    obtain ⟨m, e, h1⟩ := hs (n + 1) τ h
    cases e
    rw [k_whl]
    refine ok_monoS h1 fun k τ1 h2 => ?_
    cases k with
    | false => exact h2
    | true =>
      refine ok_monoS h2 fun o τ2 h3 => ?_
      cases o with
      | nx => exact whl_inv I hs h3
      | ct => exact whl_inv I hs h3
      | bk => exact h3
      | rt v => exact h3
/-! lists from lists -/
variable {is : List Nat} {ga : RV → FS → Res Unit} {ft : FS → Res Bool} {fe : FS → Res RV}
theorem k_lc {fi : FS → Res (List D)} {Q : RV → FS → Prop} : okE E (evLc is fi ga ft fe τ) Q = okE E (fi τ) fun ds τ1 => okE noE (lcL is ga ft fe [] ds (wipeT is τ1)) fun acc τ2 => Q (.fr acc) (mergeT is τ1 τ2) := by
  unfold evLc
  rw [ok_bind]
  refine okE_cong fun ds τ1 => ?_
  cases lcL is ga ft fe [] ds (wipeT is τ1) <;> rfl
theorem lc_nil {acc : List D} {Q : List D → FS → Prop} : okE noE (lcL is ga ft fe acc [] τ) Q = Q acc τ := (rfl)
theorem lc_cons {acc r : List D} {d : D} {Q : List D → FS → Prop} : okE noE (lcL is ga ft fe acc (d :: r) τ) Q = okE noE (ga (.val d) τ) fun _ τ1 => τ1.length = τ.length ∧ okE noE (ft τ1) fun b τ2 => if b = true then okE noE (fe τ2) fun y τ3 => okO (frz y τ3) fun p => acc.length < sizeLine ∧ okE noE (lcL is ga ft fe (acc ++ [p.1]) r (wipeT is p.2)) Q else okE noE (lcL is ga ft fe acc r (wipeT is τ2)) Q := by
  rw [lcL]
  cases ga (.val d) τ with
  | ok u τ1 =>
    show okE noE (if τ1.length = τ.length then _ else Res.no) Q = (τ1.length = τ.length ∧ _)
    by_cases hl : τ1.length = τ.length
    case neg => rw [if_neg hl]; exact propext ⟨fun q => q.elim, fun q => hl q.1⟩
    rw [if_pos hl]
    refine Eq.trans ?_ (propext ⟨fun q => ⟨hl, q⟩, fun q => q.2⟩)
    cases ft τ1 with
    | ok b τ2 =>
      cases b with
      | false => rfl
      | true =>
        show okE noE (match fe τ2 with
          | .ok y τ3 => match frz y τ3 with
            | some (d', τ4) => if acc.length < sizeLine then lcL is ga ft fe (acc ++ [d']) r (wipeT is τ4) else .no
            | none => .no
          | _ => .no) Q = okE noE (fe τ2) _
        cases fe τ2 with
        | ok y τ3 =>
          show okE noE (match frz y τ3 with
            | some (d', τ4) => if acc.length < sizeLine then lcL is ga ft fe (acc ++ [d']) r (wipeT is τ4) else .no
            | none => .no) Q = okO (frz y τ3) _
          cases frz y τ3 with
          | none => rfl
          | some p =>
            obtain ⟨d', τ4⟩ := p
            show okE noE (if acc.length < sizeLine then _ else Res.no) Q = (acc.length < sizeLine ∧ _)
            by_cases h : acc.length < sizeLine
            · rw [if_pos h]; exact propext ⟨fun q => ⟨h, q⟩, fun q => q.2⟩
            · rw [if_neg h]; exact propext ⟨fun q => q.elim, fun q => h q.1⟩
        | _ => rfl
    | _ => rfl
  | _ => rfl
theorem lc_inv {Q : List D → FS → Prop} (I : List D → List D → FS → Prop) (he : ∀ acc τ, I acc [] τ → Q acc τ)
    (hs : ∀ acc d r τ, I acc (d :: r) τ → okE noE (ga (.val d) τ) fun _ τ1 => τ1.length = τ.length ∧ okE noE (ft τ1) fun b τ2 => if b = true then okE noE (fe τ2) (fun y τ3 => okO (frz y τ3) fun p => acc.length < sizeLine ∧ I (acc ++ [p.1]) r (wipeT is p.2)) else I acc r (wipeT is τ2)) : ∀ {ds acc : List D} {τ : FS}, I acc ds τ → okE noE (lcL is ga ft fe acc ds τ) Q
  | [], acc, τ, h => by rw [lc_nil]; exact he acc τ h
  | d :: r, acc, τ, h => by
    rw [lc_cons]
    refine ok_mono (hs acc d r τ h) fun u τ1 h1 => ⟨h1.1, ok_mono h1.2 fun b τ2 h2 => ?_⟩
    cases b with
    | false => exact lc_inv I he hs h2
    | true =>
      refine ok_mono h2 fun y τ3 h3 => ?_
      show okO (frz y τ3) _
      have h3 : okO (frz y τ3) _ := h3
      cases q : frz y τ3 with
      | none => rw [q] at h3; exact h3.elim
      | some p =>
        rw [q] at h3
        exact ⟨h3.1, lc_inv I he hs h3.2⟩
/-- each datum tells its own: the frame stays -/
theorem lc_map {Q : List D → FS → Prop} (f : D → Option D) {ds : List D} (hl : ds.length ≤ sizeLine)
    (hs : ∀ d, d ∈ ds → okE noE (ga (.val d) τ) fun _ τ1 => τ1.length = τ.length ∧ okE noE (ft τ1) fun b τ2 => if b = true then okE noE (fe τ2) (fun y τ3 => okO (frz y τ3) fun p => f d = some p.1 ∧ wipeT is p.2 = τ) else f d = none ∧ wipeT is τ2 = τ)
    (hq : Q (ds.filterMap f) τ) : okE noE (lcL is ga ft fe [] ds τ) Q := by
  refine lc_inv (fun acc r t => t = τ ∧ (∀ d, d ∈ r → d ∈ ds) ∧ acc.length + r.length ≤ sizeLine ∧ acc ++ r.filterMap f = ds.filterMap f) (fun acc t h => ?_) (fun acc d r t h => ?_) ⟨rfl, fun _ h => h, by simpa using hl, rfl⟩
  · obtain ⟨rfl, _, _, h⟩ := h
    rw [List.filterMap_nil, List.append_nil] at h
    rw [h]
    exact hq
  · obtain ⟨rfl, hm, hn, h⟩ := h
    rw [List.length_cons] at hn
    refine ok_mono (hs d (hm d (.head _))) fun u τ1 h1 => ⟨h1.1, ok_mono h1.2 fun b τ2 h2 => ?_⟩
    cases b with
    | false =>
      obtain ⟨e, w⟩ := h2
      refine ⟨w, fun x hx => hm x (.tail _ hx), by omega, ?_⟩
      rw [List.filterMap_cons, e] at h
      exact h
    | true =>
      refine ok_mono h2 fun y τ3 h3 => ?_
      show okO (frz y τ3) _
      have h3 : okO (frz y τ3) _ := h3
      cases q : frz y τ3 with
      | none => rw [q] at h3; exact h3.elim
      | some p =>
        rw [q] at h3
        obtain ⟨e, w⟩ := h3
        refine ⟨by omega, w, fun x hx => hm x (.tail _ hx), ?_, ?_⟩
        · rw [List.length_append, List.length_singleton]; omega
        · rw [List.filterMap_cons, e] at h
          rw [List.append_assoc]
          exact h
end
end Dv

set_option Elab.async false
set_option linter.all false
set_option maxRecDepth 100000
set_option maxHeartbeats 1000000
/-! Sy3: targets, methods, slices, chains. -/
namespace Dv
open PySem PySem.Spec PyProof.Rows L2
section
variable {E : Ex → FS → Prop} {α β : Type} {τ : FS}
theorem okO_cong {α : Type} {r : Option α} {Q Q' : α → Prop} (h : ∀ a, Q a = Q' a) : okO r Q = okO r Q' := by
  have e : Q = Q' := funext h
  subst e
  rfl
theorem okO_mono {α : Type} {r : Option α} {Q Q' : α → Prop} (h : okO r Q) (k : ∀ a, Q a → Q' a) : okO r Q' := by
  cases r with
  | some a => exact k a h
  | none => exact h
theorem and_sw {p q : Prop} (f : p ↔ q) : p = q := propext f
/-! targets -/
def stS (i : Nat) (j : Nat) (τ : FS) (s : Option Sl) (Q : Unit → FS → Prop) (t : Tok Q := ⟨⟩) : Prop := match s with
  | some (.fz d) => Q () (τ.set i (.fz d))
  | some (.ow ds) => Q () ((τ.set j (.fz (.lst ds))).set i (.fz (.lst ds)))
  | _ => False
theorem st_sl {P : Nat → Bool} {i j : Nat} {Q : Unit → FS → Prop} : okE noE (storeN P i (.sl j) τ) Q = (¬ (P i = true ∨ τ.length ≤ i) ∧ stS i j τ (τ[j]?) Q) := by
  unfold storeN stS
  by_cases h : P i = true ∨ τ.length ≤ i
  · rw [if_pos h]; exact propext ⟨fun q => q.elim, fun q => q.1 h⟩
  · rw [if_neg h]
    refine Eq.trans ?_ (propext ⟨fun q => ⟨h, q⟩, fun q => q.2⟩)
    dsimp only
    cases τ[j]? with
    | none => rfl
    | some s => cases s <;> rfl
theorem stS_fz {i j : Nat} {d : D} {Q : Unit → FS → Prop} : stS i j τ (some (.fz d)) Q = Q () (τ.set i (.fz d)) := (rfl)
theorem stS_ow {i j : Nat} {ds : List D} {Q : Unit → FS → Prop} : stS i j τ (some (.ow ds)) Q = Q () ((τ.set j (.fz (.lst ds))).set i (.fz (.lst ds))) := (rfl)
def seqO : D → Option (List D)
  | .tup ds => some ds
  | .lst ds => some ds
  | _ => none
theorem seqO_tup {ds : List D} : seqO (.tup ds) = some ds := (rfl)
theorem seqO_lst {ds : List D} : seqO (.lst ds) = some ds := (rfl)
theorem k_gtup {n : Nat} {gs : List D → FS → Res Unit} {r : RV} {Q : Unit → FS → Prop} : okE noE (gTupE n gs r τ) Q = okO ((look τ r).bind seqO) fun ds => ds.length = n ∧ okE noE (gs ds τ) Q := by
  unfold gTupE
  have go : ∀ ds : List D, okE noE (if ds.length = n then gs ds τ else .no) Q = (ds.length = n ∧ okE noE (gs ds τ) Q) := fun ds => by
    by_cases h : ds.length = n
    · rw [if_pos h]; exact propext ⟨fun q => ⟨h, q⟩, fun q => q.2⟩
    · rw [if_neg h]; exact propext ⟨fun q => q.elim, fun q => h q.1⟩
  cases look τ r with
  | none => rfl
  | some d =>
    cases d with
    | tup ds => exact go ds
    | lst ds => exact go ds
    | _ => rfl
theorem gs_nl {Q : Unit → FS → Prop} : okE noE (gsNil [] τ) Q = Q () τ := (rfl)
theorem gs_cn {g : RV → FS → Res Unit} {gs : List D → FS → Res Unit} {d : D} {r : List D} {Q : Unit → FS → Prop} : okE noE (gsCons g gs (d :: r) τ) Q = okE noE (g (.val d) τ) fun _ τ1 => okE noE (gs r τ1) Q := by
  unfold gsCons
  dsimp only
  cases g (.val d) τ <;> rfl
/-! stores at once -/
theorem k_par {P : Nat → Bool} {is : List Nat} {fs : FS → Res (List RV)} {Q : SO → FS → Prop} : okE E (evPar P is fs τ) Q = okE E (fs τ) fun rs τ1 => okO (preps rs τ1) fun p => (okIx P p.2.length is = true ∧ is.length = p.1.length) ∧ Q .nx (setSls is p.1 p.2) := by
  unfold evPar
  rw [ok_bind]
  refine okE_cong fun rs τ1 => ?_
  cases preps rs τ1 with
  | none => rfl
  | some p =>
    obtain ⟨ss, τ2⟩ := p
    show okE E (if okIx P τ2.length is = true ∧ is.length = ss.length then Res.ok .nx (setSls is ss τ2) else .no) Q = ((okIx P τ2.length is = true ∧ is.length = ss.length) ∧ _)
    by_cases h : okIx P τ2.length is = true ∧ is.length = ss.length
    · rw [if_pos h]; exact propext ⟨fun q => ⟨h, q⟩, fun q => q.2⟩
    · rw [if_neg h]; exact propext ⟨fun q => q.elim, fun q => h q.1⟩
theorem pp_nil {Q : List Sl × FS → Prop} : okO (preps [] τ) Q = Q ([], τ) := (rfl)
theorem pp_cons {r : RV} {rs : List RV} {Q : List Sl × FS → Prop} : okO (preps (r :: rs) τ) Q = okO (prep r τ) fun p => okO (preps rs p.2) fun q => Q (p.1 :: q.1, q.2) := by
  show okO (match prep r τ with
    | some (s, τ1) => match preps rs τ1 with
      | some (ss, τ2) => some (s :: ss, τ2)
      | none => none
    | none => none) Q = _
  cases prep r τ with
  | none => rfl
  | some p =>
    obtain ⟨s, τ1⟩ := p
    dsimp only
    show okO _ Q = okO (preps rs τ1) fun q => Q (s :: q.1, q.2)
    cases preps rs τ1 <;> rfl
theorem pr_fr {ds : List D} : prep (.fr ds) τ = some (.ow ds, τ) := (rfl)
theorem pr_val {d : D} : prep (.val d) τ = some (.fz d, τ) := (rfl)
theorem pr_sl {i : Nat} : prep (.sl i) τ = (frS1 i τ (τ[i]?)).map fun p => (.fz p.1, p.2) := by
  show (frz (.sl i) τ).map _ = _
  rw [frz_sl]
/-! methods of own lists -/
/-- the own list of a slot -/
def owO : Option Sl → Option (List D)
  | some (.ow ds) => some ds
  | _ => none
theorem owO_ow {ds : List D} : owO (some (.ow ds)) = some ds := (rfl)
theorem k_app {j : Nat} {fa : FS → Res RV} {Q : RV → FS → Prop} : okE E (evApp j fa τ) Q = (isOw j τ = true ∧ okE E (fa τ) fun r τ1 => okO (frz r τ1) fun p => okO (owO (p.2[j]?)) fun ds => ds.length < sizeLine ∧ Q (.val .non) (p.2.set j (.ow (ds ++ [p.1])))) := by
  unfold evApp
  by_cases h : isOw j τ = true
  case neg => rw [if_neg h]; exact propext ⟨fun q => q.elim, fun q => h q.1⟩
  rw [if_pos h]
  refine Eq.trans ?_ (propext ⟨fun q => ⟨h, q⟩, fun q => q.2⟩)
  rw [ok_bind]
  refine okE_cong fun r τ1 => ?_
  cases frz r τ1 with
  | none => rfl
  | some p =>
    obtain ⟨d, τ2⟩ := p
    show okE E (match τ2[j]? with
      | some (.ow ds) => if ds.length < sizeLine then .ok (.val .non) (τ2.set j (.ow (ds ++ [d]))) else .no
      | _ => .no) Q = okO (owO (τ2[j]?)) _
    cases τ2[j]? with
    | none => rfl
    | some s =>
      cases s with
      | ow ds =>
        show okE E (if ds.length < sizeLine then _ else Res.no) Q = (ds.length < sizeLine ∧ _)
        by_cases h : ds.length < sizeLine
        · rw [if_pos h]; exact propext ⟨fun q => ⟨h, q⟩, fun q => q.2⟩
        · rw [if_neg h]; exact propext ⟨fun q => q.elim, fun q => h q.1⟩
      | _ => rfl
def lstO : D → Option (List D)
  | .lst ds => some ds
  | _ => none
theorem lstO_lst {ds : List D} : lstO (.lst ds) = some ds := (rfl)
theorem k_ext {j : Nat} {fa : FS → Res RV} {Q : RV → FS → Prop} : okE E (evExt j fa τ) Q = (isOw j τ = true ∧ okE E (fa τ) fun r τ1 => okO ((look τ1 r).bind lstO) fun es => okO (owO (τ1[j]?)) fun ds => ds.length + es.length ≤ sizeLine ∧ Q (.val .non) (τ1.set j (.ow (ds ++ es)))) := by
  unfold evExt
  by_cases h : isOw j τ = true
  case neg => rw [if_neg h]; exact propext ⟨fun q => q.elim, fun q => h q.1⟩
  rw [if_pos h]
  refine Eq.trans ?_ (propext ⟨fun q => ⟨h, q⟩, fun q => q.2⟩)
  rw [ok_bind]
  refine okE_cong fun r τ1 => ?_
  cases look τ1 r with
  | none => rfl
  | some d =>
    cases d with
    | lst es =>
      show _ = okO (owO (τ1[j]?)) _
      cases τ1[j]? with
      | none => rfl
      | some s =>
        cases s with
        | ow ds =>
          show okE E (if ds.length + es.length ≤ sizeLine then _ else Res.no) Q = (ds.length + es.length ≤ sizeLine ∧ _)
          by_cases h : ds.length + es.length ≤ sizeLine
          · rw [if_pos h]; exact propext ⟨fun q => ⟨h, q⟩, fun q => q.2⟩
          · rw [if_neg h]; exact propext ⟨fun q => q.elim, fun q => h q.1⟩
        | _ => rfl
    | _ => rfl
theorem k_pop {j : Nat} {Q : RV → FS → Prop} : okE E (evPop j τ) Q = okO (owO (τ[j]?)) fun ds => okO (ds[ds.length - 1]?) fun d => Q (.val d) (τ.set j (.ow ds.dropLast)) := by
  unfold evPop
  cases τ[j]? with
  | none => rfl
  | some s =>
    cases s with
    | ow ds =>
      show okE E (match ds[ds.length - 1]? with
        | some d => .ok (.val d) (τ.set j (.ow ds.dropLast))
        | none => .no) Q = okO (ds[ds.length - 1]?) _
      cases ds[ds.length - 1]? <;> rfl
    | _ => rfl
def intO : D → Option Int
  | .int i => some i
  | _ => none
theorem intO_int {i : Int} : intO (.int i) = some i := (rfl)
theorem k_popAt {j : Nat} {fa : FS → Res RV} {Q : RV → FS → Prop} : okE E (evPopAt j fa τ) Q = (isOw j τ = true ∧ okE E (fa τ) fun r τ1 => okO ((look τ1 r).bind intO) fun i => okO (owO (τ1[j]?)) fun ds => (0 ≤ i ∧ i < 2 ^ 62) ∧ okO (ds[i.toNat]?) fun d => Q (.val d) (τ1.set j (.ow (ds.eraseIdx i.toNat)))) := by
  unfold evPopAt
  by_cases h : isOw j τ = true
  case neg => rw [if_neg h]; exact propext ⟨fun q => q.elim, fun q => h q.1⟩
  rw [if_pos h]
  refine Eq.trans ?_ (propext ⟨fun q => ⟨h, q⟩, fun q => q.2⟩)
  rw [ok_bind]
  refine okE_cong fun r τ1 => ?_
  cases look τ1 r with
  | none => rfl
  | some d =>
    cases d with
    | int i =>
      show _ = okO (owO (τ1[j]?)) _
      cases τ1[j]? with
      | none => rfl
      | some s =>
        cases s with
        | ow ds =>
          show okE E (if 0 ≤ i ∧ i < 2 ^ 62 then (match ds[i.toNat]? with
            | some d => .ok (.val d) (τ1.set j (.ow (ds.eraseIdx i.toNat)))
            | none => .no) else .no) Q = ((0 ≤ i ∧ i < 2 ^ 62) ∧ okO (ds[i.toNat]?) _)
          by_cases h : 0 ≤ i ∧ i < 2 ^ 62
          · rw [if_pos h]
            refine Eq.trans ?_ (propext ⟨fun q => ⟨h, q⟩, fun q => q.2⟩)
            cases ds[i.toNat]? <;> rfl
          · rw [if_neg h]; exact propext ⟨fun q => q.elim, fun q => h q.1⟩
        | _ => rfl
    | _ => rfl
/-! methods that read -/
theorem k_mth {s : String} {g : D → List D → Option Out} {fo : FS → Res RV} {fa : FS → Res (List RV)} {Q : RV → FS → Prop} : okE E (opM s g fo fa τ) Q = okE E (fo τ) fun ro τ1 => ((look τ1 ro).bind tyD) = some s ∧ okE E (fa τ1) fun rs τ2 => okO (look τ2 ro) fun d => okO (rs.mapM (look τ2)) fun ds => okO (g d ds) fun o => Q (outV o) τ2 := by
  unfold opM
  rw [ok_bind]
  refine okE_cong fun ro τ1 => ?_
  by_cases h : ((look τ1 ro).bind tyD) = some s
  case neg => rw [if_neg h]; exact propext ⟨fun q => q.elim, fun q => h q.1⟩
  rw [if_pos h]
  refine Eq.trans ?_ (propext ⟨fun q => ⟨h, q⟩, fun q => q.2⟩)
  rw [ok_bind]
  refine okE_cong fun rs τ2 => ?_
  cases look τ2 ro with
  | none => rfl
  | some d =>
    cases rs.mapM (look τ2) with
    | none => rfl
    | some ds =>
      show okE E (fin (g d ds) τ2) Q = okO (g d ds) _
      cases g d ds <;> rfl
theorem k_mth0 {s : String} {g : D → List D → Option Out} {fo : FS → Res RV} {Q : RV → FS → Prop} : okE E (opM0 s g fo τ) Q = okE E (fo τ) fun ro τ1 => okO (look τ1 ro) fun d => tyD d = some s ∧ okO (g d []) fun o => Q (outV o) τ1 := by
  unfold opM0
  rw [ok_bind]
  refine okE_cong fun ro τ1 => ?_
  cases look τ1 ro with
  | none => rfl
  | some d =>
    show okE E (if tyD d = some s then fin (g d []) τ1 else .no) Q = (tyD d = some s ∧ _)
    by_cases h : tyD d = some s
    case neg => rw [if_neg h]; exact propext ⟨fun q => q.elim, fun q => h q.1⟩
    rw [if_pos h]
    refine Eq.trans ?_ (propext ⟨fun q => ⟨h, q⟩, fun q => q.2⟩)
    cases g d [] <;> rfl
/-! slices, chains -/
theorem ps_none {Q : Option Int → FS → Prop} : okE E (pRes none τ) Q = Q none τ := (rfl)
theorem ps_some {f : FS → Res RV} {Q : Option Int → FS → Prop} : okE E (pRes (some f) τ) Q = okE E (f τ) fun r τ1 => okO ((look τ1 r).bind intO) fun i => Q (some i) τ1 := by
  show okE E (bindR (f τ) fun r τ1 => match look τ1 r with
    | some (.int i) => .ok (some i) τ1
    | _ => .no) Q = _
  rw [ok_bind]
  refine okE_cong fun r τ1 => ?_
  cases look τ1 r with
  | none => rfl
  | some d => cases d <;> rfl
theorem k_sl {fe : FS → Res RV} {fl fh : Option (FS → Res RV)} {Q : RV → FS → Prop} : okE E (evSl fe fl fh τ) Q = okE E (fe τ) fun r τ1 => okE E (pRes fl τ1) fun lo τ2 => okE E (pRes fh τ2) fun hi τ3 => okO (look τ3 r) fun d => okO (dSl d lo hi) fun o => Q (outV o) τ3 := by
  unfold evSl
  rw [ok_bind]
  refine okE_cong fun r τ1 => ?_
  rw [ok_bind]
  refine okE_cong fun lo τ2 => ?_
  rw [ok_bind]
  refine okE_cong fun hi τ3 => ?_
  cases look τ3 r with
  | none => rfl
  | some d =>
    show okE E (fin (dSl d lo hi) τ3) Q = okO (dSl d lo hi) _
    cases dSl d lo hi <;> rfl
/-- a result that is a Bool -/
def outB : Out → Option Bool
  | .sc (.bl k) => some k
  | _ => none
theorem outB_bl {k : Bool} : outB (.sc (.bl k)) = some k := (rfl)
theorem k_chain {g g' : D → D → Option Out} {fa fb fc : FS → Res RV} {Q : RV → FS → Prop} : okE E (evChain g g' fa fb fc τ) Q = okE E (fa τ) fun ra τ1 => okE E (fb τ1) fun rb τ2 => okO (look τ2 ra) fun da => okO (look τ2 rb) fun db => okO (g da db) fun o => okO (outB o) fun k =>
    if k = true then okE E (fc τ2) (fun rc τ3 => okO (look τ3 rb) fun db' => okO (look τ3 rc) fun dc => okO (g' db' dc) fun o => Q (outV o) τ3) else Q (.val (.bl false)) τ2 := by
  unfold evChain
  rw [ok_bind]
  refine okE_cong fun ra τ1 => ?_
  rw [ok_bind]
  refine okE_cong fun rb τ2 => ?_
  cases look τ2 ra with
  | none => rfl
  | some da =>
    cases look τ2 rb with
    | none => rfl
    | some db =>
      show okE E (match g da db with
        | some (.sc (.bl k)) => if k = true then bindR (fc τ2) fun rc τ3 => (match look τ3 rb, look τ3 rc with
          | some db', some dc => fin (g' db' dc) τ3
          | _, _ => .no) else .ok (.val (.bl false)) τ2
        | _ => .no) Q = okO (g da db) _
      cases g da db with
      | none => rfl
      | some o =>
        cases o with
        | sc d =>
          cases d with
          | bl k =>
            cases k with
            | false => rfl
            | true =>
              show okE E (bindR (fc τ2) fun rc τ3 => (match look τ3 rb, look τ3 rc with
                | some db', some dc => fin (g' db' dc) τ3
                | _, _ => .no)) Q = okE E (fc τ2) _
              rw [ok_bind]
              refine okE_cong fun rc τ3 => ?_
              cases look τ3 rb with
              | none => rfl
              | some db' =>
                cases look τ3 rc with
                | none => rfl
                | some dc =>
                  show okE E (fin (g' db' dc) τ3) Q = okO (g' db' dc) _
                  cases g' db' dc <;> rfl
          | _ => rfl
        | _ => rfl
/-! lengths -/
theorem oo_lenL {ds : List D} {Q : Out → Prop} : okO (cLen [.lst ds]) Q = Q (.sc (.int ds.length)) := (rfl)
theorem oo_lenT {ds : List D} {Q : Out → Prop} : okO (cLen [.tup ds]) Q = Q (.sc (.int ds.length)) := (rfl)
theorem oo_lenS {ns : List Int} {Q : Out → Prop} : okO (cLen [.scr ns]) Q = Q (.sc (.int ns.length)) := (rfl)
theorem oo_ixS {ns : List Int} {k : Nat} {n : Int} {Q : Out → Prop} (h : ns[k]? = some n) : okO (dIx (.scr ns) (.int (k : Int))) Q = Q (.sc (.int n)) := by
  show okO ((atI ns (k : Int)).bind oI) Q = _
  unfold atI
  rw [ixN_at (List.getElem?_eq_some_iff.mp h).1, Option.bind_some, h]
  rfl
end
end Dv

set_option Elab.async false
set_option linter.all false
set_option maxRecDepth 100000
set_option maxHeartbeats 1000000
/-! Sy4: calls seen by simp. -/
namespace Dv
open PySem PySem.Spec PyProof.Rows L2
section
variable {E : Ex → FS → Prop} {α β : Type} {τ : FS}
theorem k_co {f : List Sl → Res RV} {rs : List RV} {Q : RV → FS → Prop} : callO E f rs τ Q = ((lentBy τ rs).Nodup ∧ okO (rs.mapM (passR τ)) fun ss => okE (fun x ss' => ss'.length = ss.length ∧ E x (wb τ rs ss' τ)) (f ss) fun r ss' => ss'.length = ss.length ∧ Q r (wb τ rs ss' τ)) := (rfl)
theorem lb_nil : lentBy τ [] = [] := (rfl)
theorem lb_val {d : D} {rs : List RV} : lentBy τ (.val d :: rs) = lentBy τ rs := (rfl)
theorem lb_fr {ds : List D} {rs : List RV} : lentBy τ (.fr ds :: rs) = lentBy τ rs := (rfl)
def owL (i : Nat) (s : Option Sl) (r : List Nat) : List Nat := match s with
  | some (.ow _) => i :: r
  | _ => r
theorem lb_sl {i : Nat} {rs : List RV} : lentBy τ (.sl i :: rs) = owL i (τ[i]?) (lentBy τ rs) := by
  show (if isOw i τ then i :: lentBy τ rs else lentBy τ rs) = _
  unfold isOw
  cases τ[i]? with
  | none => rfl
  | some s => cases s <;> rfl
theorem owL_fz {i : Nat} {d : D} {r : List Nat} : owL i (some (.fz d)) r = r := (rfl)
theorem owL_ow {i : Nat} {ds : List D} {r : List Nat} : owL i (some (.ow ds)) r = i :: r := (rfl)
theorem pm_nil : ([] : List RV).mapM (passR τ) = some [] := (rfl)
theorem pm_cons {r : RV} {rs : List RV} {Q : List Sl → Prop} : okO ((r :: rs).mapM (passR τ)) Q = okO (passR τ r) fun d => okO (rs.mapM (passR τ)) fun ds => Q (d :: ds) := by
  rw [List.mapM_cons]
  cases passR τ r with
  | none => rfl
  | some d => cases rs.mapM (passR τ) <;> rfl
theorem ps_val {d : D} : passR τ (.val d) = some (.fz d) := (rfl)
theorem ps_fr {ds : List D} : passR τ (.fr ds) = some (.ow ds) := (rfl)
def pasS : Option Sl → Option Sl
  | some (.fz d) => some (.fz d)
  | some (.ow ds) => some (.ow ds)
  | _ => none
theorem ps_sl {i : Nat} : passR τ (.sl i) = pasS (τ[i]?) := (rfl)
theorem pasS_fz {d : D} : pasS (some (.fz d)) = some (.fz d) := (rfl)
theorem pasS_ow {ds : List D} : pasS (some (.ow ds)) = some (.ow ds) := (rfl)
/-- what comes back to a slot -/
def owB (i : Nat) (s : Sl) (τ : FS) : Option Sl → FS
  | some (.ow _) => τ.set i s
  | _ => τ
theorem wb_nil {τ0 : FS} {ss : List Sl} : wb τ0 [] ss τ = τ := by cases ss <;> rfl
theorem wb_vl {τ0 : FS} {d : D} {rs : List RV} {s : Sl} {ss : List Sl} : wb τ0 (.val d :: rs) (s :: ss) τ = wb τ0 rs ss τ := (rfl)
theorem wb_fr {τ0 : FS} {ds : List D} {rs : List RV} {s : Sl} {ss : List Sl} : wb τ0 (.fr ds :: rs) (s :: ss) τ = wb τ0 rs ss τ := (rfl)
theorem wb_sl {τ0 : FS} {i : Nat} {rs : List RV} {s : Sl} {ss : List Sl} : wb τ0 (.sl i :: rs) (s :: ss) τ = wb τ0 rs ss (owB i s τ (τ0[i]?)) := by
  show wb τ0 rs ss (if isOw i τ0 then τ.set i s else τ) = _
  unfold isOw
  cases τ0[i]? with
  | none => rfl
  | some t => cases t <;> rfl
theorem owB_fz {i : Nat} {s : Sl} {d : D} : owB i s τ (some (.fz d)) = τ := (rfl)
theorem owB_ow {i : Nat} {s : Sl} {ds : List D} : owB i s τ (some (.ow ds)) = τ.set i s := (rfl)
def isOwS : Option Sl → Bool
  | some (.ow _) => true
  | _ => false
theorem isOw_s {i : Nat} : isOw i τ = isOwS (τ[i]?) := by
  unfold isOw
  cases τ[i]? with
  | none => rfl
  | some s => cases s <;> rfl
theorem isOwS_ow {ds : List D} : isOwS (some (.ow ds)) = true := (rfl)
/-! what a def leaves -/
theorem outS_nil : outS [] τ = [] := (rfl)
theorem lent_z {d : D} {r : List Sl} : lent (.fz d :: r) 0 = false := (rfl)
/-- the end's slots, one by one -/
def outL : List Sl → FS → List Sl
  | [], _ => []
  | .ow _ :: r, s :: τ => s :: outL r τ
  | _ :: r, _ :: τ => .un :: outL r τ
  | _ :: r, [] => .un :: outL r []
theorem outS_L : ∀ {ss : List Sl} {τ : FS}, outS ss τ = outL ss τ
  | [], τ => rfl
  | s :: r, τ => by
    unfold outS
    rw [List.mapIdx_cons]
    have e : ∀ τ' : FS, (∀ j, τ'[j]? = τ[j + 1]?) → (r.mapIdx fun j t => if lent (s :: r) (j + 1) then (τ[j + 1]?.getD .un) else .un) = outL r τ' := fun τ' h => by
      rw [← outS_L]
      unfold outS
      congr 1
      funext j t
      rw [h j]
      rfl
    cases τ with
    | nil =>
      rw [e [] (fun j => by simp)]
      cases s <;> rfl
    | cons t τ =>
      rw [e τ (fun j => by simp)]
      cases s <;> rfl
theorem ol_nil : outL [] τ = [] := (rfl)
theorem ol_ow {ds : List D} {r : List Sl} {s : Sl} : outL (.ow ds :: r) (s :: τ) = s :: outL r τ := (rfl)
theorem ol_fz {d : D} {r : List Sl} {s : Sl} : outL (.fz d :: r) (s :: τ) = .un :: outL r τ := (rfl)
end
end Dv

set_option Elab.async false
set_option linter.all false
set_option maxRecDepth 100000
set_option maxHeartbeats 1000000
/-! Sy5: slots wiped and put back; sorted sets. -/
namespace Dv
open PySem PySem.Spec PyProof.Rows L2
section
variable {E : Ex → FS → Prop} {α β : Type} {τ : FS}
theorem k_yes {Q : Bool → FS → Prop} : okE E (evYes τ) Q = Q true τ := (rfl)
/-- as wipeT, from a place on -/
def wpL (is : List Nat) : Nat → FS → FS
  | _, [] => []
  | n, s :: τ => (if is.contains n then .un else s) :: wpL is (n + 1) τ
theorem wp_go {is : List Nat} : ∀ {τ : FS} {n : Nat}, (τ.mapIdx fun i s => if is.contains (i + n) then Sl.un else s) = wpL is n τ
  | [], n => rfl
  | s :: τ, n => by
    rw [List.mapIdx_cons, Nat.zero_add]
    show _ = _ :: wpL is (n + 1) τ
    rw [← wp_go]
    congr 1
    congr 1
    funext i s
    rw [Nat.add_right_comm, Nat.add_assoc]
theorem wp_L {is : List Nat} : wipeT is τ = wpL is 0 τ := wp_go (n := 0)
theorem wp_nil {is : List Nat} {n : Nat} : wpL is n [] = [] := (rfl)
theorem wp_cons {is : List Nat} {n : Nat} {s : Sl} : wpL is n (s :: τ) = (if is.contains n then .un else s) :: wpL is (n + 1) τ := (rfl)
/-- as mergeT, from a place on -/
def mgL (is : List Nat) : Nat → FS → FS → FS
  | _, _, [] => []
  | n, t :: τ0, s :: τ => (if is.contains n then t else s) :: mgL is (n + 1) τ0 τ
  | n, [], s :: τ => (if is.contains n then .un else s) :: mgL is (n + 1) [] τ
theorem mg_go {is : List Nat} : ∀ {τ0 τ : FS} {n : Nat}, (τ.mapIdx fun i s => if is.contains (i + n) then (τ0[i]?.getD .un) else s) = mgL is n τ0 τ
  | τ0, [], n => by cases τ0 <;> rfl
  | t :: τ0, s :: τ, n => by
    rw [List.mapIdx_cons, Nat.zero_add]
    show _ = _ :: mgL is (n + 1) τ0 τ
    rw [← mg_go]
    congr 1
    congr 1
    funext i s
    rw [Nat.add_right_comm, Nat.add_assoc, List.getElem?_cons_succ]
  | [], s :: τ, n => by
    rw [List.mapIdx_cons, Nat.zero_add]
    show _ = _ :: mgL is (n + 1) [] τ
    rw [← mg_go]
    congr 1
    congr 1
    funext i s
    rw [Nat.add_right_comm, Nat.add_assoc]
    rfl
theorem mg_L {is : List Nat} {τ0 : FS} : mergeT is τ0 τ = mgL is 0 τ0 τ := mg_go (n := 0)
theorem mg_nil {is : List Nat} {n : Nat} {τ0 : FS} : mgL is n τ0 [] = [] := by cases τ0 <;> rfl
theorem mg_cons {is : List Nat} {n : Nat} {τ0 : FS} {s t : Sl} : mgL is n (t :: τ0) (s :: τ) = (if is.contains n then t else s) :: mgL is (n + 1) τ0 τ := (rfl)
theorem k_srtSet {fa : FS → Res RV} {Q : RV → FS → Prop} : okE E (evSrtSet fa τ) Q = okE E (fa τ) fun r τ1 => okO ((look τ1 r).bind lstO) fun ds => okO (tups? ds) fun nss => nss.length < 64 ∧ Q (.fr ((srtSet nss).map tupI')) τ1 := by
  unfold evSrtSet
  rw [ok_bind]
  refine okE_cong fun r τ1 => ?_
  cases look τ1 r with
  | none => rfl
  | some d =>
    cases d with
    | lst ds =>
      show okE E (match tups? ds with
        | some nss => if nss.length < 64 then .ok (.fr ((srtSet nss).map tupI')) τ1 else .no
        | none => .no) Q = okO (tups? ds) _
      cases tups? ds with
      | none => rfl
      | some nss =>
        show okE E (if nss.length < 64 then _ else Res.no) Q = (nss.length < 64 ∧ _)
        by_cases h : nss.length < 64
        · rw [if_pos h]; exact propext ⟨fun q => ⟨h, q⟩, fun q => q.2⟩
        · rw [if_neg h]; exact propext ⟨fun q => q.elim, fun q => h q.1⟩
    | _ => rfl
theorem ints_map : ∀ ns : List Int, ints? (ns.map D.int) = some ns
  | [] => rfl
  | n :: r => by
    show (ints? (r.map D.int)).map (n :: ·) = _
    rw [ints_map r]
    rfl
theorem tups_map : ∀ (nss : List (List Int)), (∀ ns ∈ nss, ns ≠ []) → tups? (nss.map tupI') = some nss
  | [], _ => rfl
  | [] :: r, h => absurd rfl (h [] (.head _))
  | (n :: ns) :: r, h => by
    have h1 := tups_map r fun x hx => h x (.tail _ hx)
    show (match ints? ((n :: ns).map D.int) with
      | some (n :: ns) => (tups? (r.map tupI')).map ((n :: ns) :: ·)
      | _ => none) = _
    rw [ints_map, h1]
    rfl
theorem srtSet_mem {nss : List (List Int)} {x : List Int} : x ∈ srtSet nss ↔ x ∈ nss := by
  unfold srtSet
  rw [(srtB_perm (lt := HT.lexLt) (dedB nss)).mem_iff, dedB_mem]
theorem srtSet_nodup {nss : List (List Int)} : (srtSet nss).Nodup := (srtB_perm (lt := HT.lexLt) (dedB nss)).nodup_iff.mpr (dedB_nodup nss)
theorem srtSet_asc {nss : List (List Int)} : (srtSet nss).Pairwise fun x y => HT.lexLt x y = true := by
  have h1 : SrtO.Srtd HT.lexLt (srtSet nss) := srtB_srtd swo_lex (dedB nss)
  have h2 : (srtSet nss).Nodup := srtSet_nodup
  have h3 : (srtSet nss).Pairwise fun x y => HT.lexLt y x = false := h1
  refine (h3.and h2).imp ?_
  rintro x y ⟨a, b⟩
  cases e : HT.lexLt x y with
  | true => rfl
  | false => exact absurd (lex_an x y e a) b
theorem sl1 {d : D} {r : List D} {Q : Out → Prop} : okO (dSl (.lst (d :: r)) none (some 1)) Q = Q (.nl [d]) := by
  have e : HT.sIx (r.length + 1) (r.length + 1) (some 1) = 1 := by
    have := HT.sIx_nat (r.length + 1) (r.length + 1) 1
    exact this.trans (by omega)
  show Q (.nl (((d :: r).drop 0).take (HT.sIx (r.length + 1) (r.length + 1) (some 1) - 0))) = _
  rw [e]
  rfl
theorem oo_addL {xs ys : List D} {Q : Out → Prop} : okO (dAdd (.lst xs) (.lst ys)) Q = (xs.length + ys.length ≤ sizeLine ∧ Q (.nl (xs ++ ys))) := oo_if
theorem oo_tupL {ds : List D} {Q : Out → Prop} : okO (cTuple [.lst ds]) Q = Q (.nt ds) := (rfl)
theorem toPs_ints : ∀ ns : List Int, toPs (ns.map D.int) = some (ns.map PyData.int)
  | [] => rfl
  | n :: r => by
    show (match toP (.int n), toPs (r.map D.int) with
      | some p, some ps => some (p :: ps)
      | _, _ => none) = _
    rw [toPs_ints r]
    rfl
theorem lay_ints : ∀ ns : List Int, PyData.canLayAll0 (ns.map PyData.int) = true
  | [] => rfl
  | n :: r => by
    show (PyData.canLay0 (.int n) && PyData.canLayAll0 (r.map PyData.int)) = true
    rw [lay_ints r]
    rfl
theorem dep_ints : ∀ ns : List Int, PyData.depthAll (ns.map PyData.int) = 0
  | [] => rfl
  | n :: r => by
    show max (PyData.depth (.int n)) (PyData.depthAll (r.map PyData.int)) = 0
    rw [dep_ints r]
    rfl
theorem shp_ints (ns : List Int) : SeqAt.shaped (.list (ns.map PyData.int)) = true := by
  show (PyData.canLayAll0 (ns.map PyData.int) && decide (PyData.depthAll (ns.map PyData.int) + 1 ≤ 64)) = true
  rw [lay_ints, dep_ints]
  rfl
/-- an empty list of ints -/
theorem dEq_nil {ns : List Int} {Q : Out → Prop} : okO (dEq (.lst (ns.map D.int)) (.lst [])) Q = Q (.sc (.bl ns.isEmpty)) := by
  have e : toP (.lst (ns.map D.int)) = some (.list (ns.map PyData.int)) := by
    show (toPs (ns.map D.int)).map PyData.list = _
    rw [toPs_ints]
    rfl
  have q : dEq (.lst (ns.map D.int)) (.lst []) = some (.sc (.bl ns.isEmpty)) := by
    unfold dEq
    rw [e]
    show (if SeqAt.shaped (.list (ns.map PyData.int)) && SeqAt.shaped (.list []) then oB (PyData.eqv (.list (ns.map PyData.int)) (.list [])) else none) = _
    rw [shp_ints]
    cases ns <;> rfl
  rw [q]
  rfl
/-- != of ints -/
theorem oo_ne {i j : Int} {Q : Out → Prop} : okO (dNe (.int i) (.int j)) Q = Q (.sc (.bl (!(i == j)))) := (rfl)
theorem oo_eq {i j : Int} {Q : Out → Prop} : okO (dEq (.int i) (.int j)) Q = Q (.sc (.bl (i == j))) := (rfl)
theorem tr_bl {b : Bool} {Q : Bool → Prop} : okO (truth (.bl b)) Q = Q b := (rfl)
theorem oo_neB {a b : Bool} {Q : Out → Prop} : okO (dNe (.bl a) (.bl b)) Q = Q (.sc (.bl (!(a == b)))) := (rfl)
theorem oo_eqB {a b : Bool} {Q : Out → Prop} : okO (dEq (.bl a) (.bl b)) Q = Q (.sc (.bl (a == b))) := (rfl)
theorem zip_tt {ds es : List D} {Q : List D → Prop} : okO (zipOf [.tup ds, .tup es]) Q = Q (zipD ds es) := (rfl)
theorem zip_lt {ds es : List D} {Q : List D → Prop} : okO (zipOf [.lst ds, .tup es]) Q = Q (zipD ds es) := (rfl)
theorem zip_ll {ds es : List D} {Q : List D → Prop} : okO (zipOf [.lst ds, .lst es]) Q = Q (zipD ds es) := (rfl)
theorem enum_l {ds : List D} {Q : List D → Prop} : okO (enumOf [.lst ds]) Q = Q (enumD ds) := (rfl)
theorem sz0 : (0 ≤ sizeLine) = True := eq_true (by decide)
theorem sz1 : (1 ≤ sizeLine) = True := eq_true (by decide)
theorem sz2 : (2 ≤ sizeLine) = True := eq_true (by decide)
theorem sz3 : (3 ≤ sizeLine) = True := eq_true (by decide)
theorem sz4 : (4 ≤ sizeLine) = True := eq_true (by decide)
theorem sz5 : (5 ≤ sizeLine) = True := eq_true (by decide)
theorem sz6 : (6 ≤ sizeLine) = True := eq_true (by decide)
theorem sz7 : (7 ≤ sizeLine) = True := eq_true (by decide)
theorem sz8 : (8 ≤ sizeLine) = True := eq_true (by decide)
theorem sz9 : (9 ≤ sizeLine) = True := eq_true (by decide)
theorem sz10 : (10 ≤ sizeLine) = True := eq_true (by decide)
theorem sz11 : (11 ≤ sizeLine) = True := eq_true (by decide)
theorem sz12 : (12 ≤ sizeLine) = True := eq_true (by decide)
theorem sz13 : (13 ≤ sizeLine) = True := eq_true (by decide)
theorem oo_abs {i : Int} {Q : Out → Prop} : okO (cAbs [.int i]) Q = Q (.sc (.int (if i < 0 then -i else i))) := (rfl)
theorem oo_intB {k : Bool} {Q : Out → Prop} : okO (cInt [.bl k]) Q = Q (.sc (.int (if k then 1 else 0))) := (rfl)
theorem pw18 {Q : Out → Prop} : okO (dPow (.int 10) (.int 18)) Q = Q (.sc (.int 1000000000000000000)) := (rfl)
theorem pw12 {Q : Out → Prop} : okO (dPow (.int 10) (.int 12)) Q = Q (.sc (.int 1000000000000)) := (rfl)
theorem mod61 {i : Int} {Q : Out → Prop} : okO (dMod (.int i) (.int 2305843009213693951)) Q = Q (.sc (.int (i % 2305843009213693951))) := oo_mod (by decide)
theorem oo_listL {ds : List D} {Q : Out → Prop} : okO (cList [.lst ds]) Q = Q (.nl ds) := (rfl)
theorem oo_listT {ds : List D} {Q : Out → Prop} : okO (cList [.tup ds]) Q = Q (.nl ds) := (rfl)
theorem oo_tupT {ds : List D} {Q : Out → Prop} : okO (cTuple [.tup ds]) Q = Q (.sc (.tup ds)) := (rfl)
theorem oo_min2 {i j : Int} {Q : Out → Prop} : okO (cMin [.int i, .int j]) Q = Q (.sc (.int (if j < i then j else i))) := (rfl)
theorem ssl_nil {ss : List Sl} : setSls [] ss τ = τ := (rfl)
theorem ssl_cons {i : Nat} {is : List Nat} {s : Sl} {ss : List Sl} : setSls (i :: is) (s :: ss) τ = setSls is ss (τ.set i s) := (rfl)
theorem oi_nil {P : Nat → Bool} {n : Nat} : okIx P n [] = true := (rfl)
theorem oi_cons {P : Nat → Bool} {n i : Nat} {is : List Nat} : okIx P n (i :: is) = ((!P i && decide (i < n)) && okIx P n is) := (rfl)
end
end Dv

set_option Elab.async false
set_option linter.all false
set_option maxRecDepth 100000
set_option maxHeartbeats 1000000
/-! Sy6: exceptions, equality, all and any, slices, texts. -/
namespace Dv
open PySem PySem.Spec PyProof.Rows L2
section
variable {E : Ex → FS → Prop} {α β : Type} {τ : FS}
/-! exceptions -/
theorem k_rse {cs : List Str} {c : Nat} {Q : SO → FS → Prop} : okE E (evRaise cs c τ) Q = (c < cs.length ∧ E ⟨c, none⟩ τ) := by
  unfold evRaise
  by_cases h : c < cs.length
  · rw [if_pos h]; exact propext ⟨fun q => ⟨h, q⟩, fun q => q.2⟩
  · rw [if_neg h]; exact propext ⟨fun q => q.elim, fun q => h q.1⟩
/-- where an exception goes within a try -/
def tryE (cs : List Str) (hl : HL) (E : Ex → FS → Prop) (Q : SO → FS → Prop) (x : Ex) (τ : FS) : Prop := match x.p with
  | none => x.c < cs.length ∧ (match pickH x.c hl with
    | some (i, z) => ¬ τ.length ≤ i ∧ Q (.rt (.val (.str z))) τ
    | none => E x τ)
  | some _ => False
theorem k_try {cs : List Str} {hl : HL} {fb : FS → Res SO} {Q : SO → FS → Prop} : okE E (evTryR cs hl fb τ) Q = okE (tryE cs hl E Q) (fb τ) Q := by
  unfold evTryR
  cases fb τ with
  | ok a τ1 => rfl
  | no => rfl
  | ex x τ1 =>
    show okE E (match x.p with
      | none => if x.c < cs.length then (match pickH x.c hl with
        | some (i, z) => if τ1.length ≤ i then Res.no else .ok (.rt (.val (.str z))) τ1
        | none => .ex x τ1) else .no
      | some _ => .no) Q = tryE cs hl E Q x τ1
    unfold tryE
    cases x.p with
    | some _ => rfl
    | none =>
      dsimp only
      by_cases h : x.c < cs.length
      · rw [if_pos h]
        refine Eq.trans ?_ (propext ⟨fun q => ⟨h, q⟩, fun q => q.2⟩)
        cases pickH x.c hl with
        | none => rfl
        | some p =>
          obtain ⟨i, z⟩ := p
          dsimp only
          by_cases hi : τ1.length ≤ i
          · rw [if_pos hi]; exact propext ⟨fun q => q.elim, fun q => q.1 hi⟩
          · rw [if_neg hi]; exact propext ⟨fun q => ⟨hi, q⟩, fun q => q.2⟩
      · rw [if_neg h]; exact propext ⟨fun q => q.elim, fun q => h q.1⟩
/-! all, any -/
theorem bls_map : ∀ (bs : List Bool), bls? (bs.map D.bl) = some bs
  | [] => rfl
  | b :: r => by
    show (bls? (r.map D.bl)).map (b :: ·) = _
    rw [bls_map r]
    rfl
theorem fm_some {f : D → α} : ∀ {L : List D}, L.filterMap (fun d => some (f d)) = L.map f
  | [] => rfl
  | d :: r => by rw [List.filterMap_cons, List.map_cons, fm_some]
theorem all_bls {bs : List Bool} {Q : Out → Prop} : okO (cAll [.lst (bs.map D.bl)]) Q = Q (.sc (.bl (bs.all id))) := by
  show okO ((bls? (bs.map D.bl)).bind fun bs => oB (bs.all id)) Q = _
  rw [bls_map]
  rfl
theorem any_bls {bs : List Bool} {Q : Out → Prop} : okO (cAny [.lst (bs.map D.bl)]) Q = Q (.sc (.bl (bs.any id))) := by
  show okO ((bls? (bs.map D.bl)).bind fun bs => oB (bs.any id)) Q = _
  rw [bls_map]
  rfl
theorem all_map {L : List D} {p : D → Bool} {Q : Out → Prop} : okO (cAll [.lst (L.filterMap fun d => some (D.bl (p d)))]) Q = Q (.sc (.bl (L.all p))) := by
  have e : (L.filterMap fun d => some (D.bl (p d))) = (L.map p).map D.bl := by rw [fm_some, List.map_map]; rfl
  rw [e, all_bls, List.all_map]
  rfl
theorem any_map {L : List D} {p : D → Bool} {Q : Out → Prop} : okO (cAny [.lst (L.filterMap fun d => some (D.bl (p d)))]) Q = Q (.sc (.bl (L.any p))) := by
  have e : (L.filterMap fun d => some (D.bl (p d))) = (L.map p).map D.bl := by rw [fm_some, List.map_map]; rfl
  rw [e, any_bls, List.any_map]
  rfl
/-! equality -/
/-- may be compared -/
def shD (d : D) : Prop := ∃ p, toP d = some p ∧ p.canLay0 = true ∧ p.depth ≤ 40
theorem sh_list : ∀ {ds : List D}, (∀ d, d ∈ ds → shD d) → ∃ ps, toPs ds = some ps ∧ PyData.canLayAll0 ps = true ∧ PyData.depthAll ps ≤ 40
  | [], _ => ⟨[], rfl, rfl, Nat.zero_le _⟩
  | d :: r, h => by
    obtain ⟨p, e1, e2, e3⟩ := h d (.head _)
    obtain ⟨ps, f1, f2, f3⟩ := sh_list (ds := r) fun x hx => h x (.tail _ hx)
    refine ⟨p :: ps, ?_, ?_, ?_⟩
    · show (match toP d, toPs r with
        | some p, some ps => some (p :: ps)
        | _, _ => none) = _
      rw [e1, f1]
    · show (p.canLay0 && PyData.canLayAll0 ps) = true
      rw [e2, f2]
      rfl
    · show max p.depth (PyData.depthAll ps) ≤ 40
      omega
theorem shaped_of {p : PyData} (h : p.canLay0 = true) (h2 : p.depth ≤ 64) : SeqAt.shaped p = true := by
  unfold SeqAt.shaped
  rw [h, decide_eq_true h2]
  rfl
theorem eqL_nil {ds : List D} (h : ∀ d, d ∈ ds → shD d) {Q : Out → Prop} : okO (dEq (.lst ds) (.lst [])) Q = Q (.sc (.bl ds.isEmpty)) := by
  obtain ⟨ps, e1, e2, e3⟩ := sh_list h
  have hd : (PyData.list ps).depth ≤ 64 := by
    show PyData.depthAll ps + 1 ≤ 64
    omega
  have e : toP (.lst ds) = some (.list ps) := by
    show (toPs ds).map PyData.list = _
    rw [e1]
    rfl
  have q : dEq (.lst ds) (.lst []) = some (.sc (.bl ds.isEmpty)) := by
    unfold dEq
    rw [e]
    show (if SeqAt.shaped (.list ps) && SeqAt.shaped (.list []) then oB (PyData.eqv (.list ps) (.list [])) else none) = _
    rw [shaped_of (p := .list ps) e2 hd]
    cases ds with
    | nil => cases e1; rfl
    | cons d r =>
      have : ps ≠ [] := fun z => by
        subst z
        have e1 : (match toP d, toPs r with
          | some p, some ps => some (p :: ps)
          | _, _ => none) = some [] := e1
        cases h1 : toP d <;> cases h2 : toPs r <;> rw [h1, h2] at e1 <;> cases e1
      cases ps with
      | nil => exact absurd rfl this
      | cons p ps => rfl
  rw [q]
  rfl
theorem dNe_of {a b : D} {k : Bool} (h : dEq a b = some (.sc (.bl k))) : dNe a b = some (.sc (.bl (!k))) := by
  unfold dEq at h
  unfold dNe
  cases e1 : toP a with
  | none => rw [e1] at h; cases h
  | some p =>
    cases e2 : toP b with
    | none => rw [e1, e2] at h; cases h
    | some q =>
      rw [e1, e2] at h
      dsimp only at h ⊢
      by_cases c : (SeqAt.shaped p && SeqAt.shaped q) = true
      · rw [if_pos c] at h ⊢
        cases h
        rfl
      · rw [if_neg c] at h
        cases h
theorem okO_eq {o : Option α} {Q : α → Prop} {a : α} (h : okO o (fun x => x = a)) : o = some a := by
  cases o with
  | none => exact h.elim
  | some b => exact congrArg some h
theorem neL_nil {ds : List D} (h : ∀ d, d ∈ ds → shD d) {Q : Out → Prop} : okO (dNe (.lst ds) (.lst [])) Q = Q (.sc (.bl (!ds.isEmpty))) := by
  have q : dEq (.lst ds) (.lst []) = some (.sc (.bl ds.isEmpty)) := by
    have := (eqL_nil h (Q := fun x => x = .sc (.bl ds.isEmpty))).mpr rfl
    exact okO_eq (Q := fun _ => True) this
  rw [dNe_of q]
  rfl
theorem eqT_nil {ds : List D} (h : ∀ d, d ∈ ds → shD d) {Q : Out → Prop} : okO (dEq (.tup ds) (.tup [])) Q = Q (.sc (.bl ds.isEmpty)) := by
  obtain ⟨ps, e1, e2, e3⟩ := sh_list h
  have hd : (PyData.tuple ps).depth ≤ 64 := by
    show PyData.depthAll ps + 1 ≤ 64
    omega
  have e : toP (.tup ds) = some (.tuple ps) := by
    show (toPs ds).map PyData.tuple = _
    rw [e1]
    rfl
  have q : dEq (.tup ds) (.tup []) = some (.sc (.bl ds.isEmpty)) := by
    unfold dEq
    rw [e]
    show (if SeqAt.shaped (.tuple ps) && SeqAt.shaped (.tuple []) then oB (PyData.eqv (.tuple ps) (.tuple [])) else none) = _
    rw [shaped_of (p := .tuple ps) e2 hd]
    cases ds with
    | nil => cases e1; rfl
    | cons d r =>
      have : ps ≠ [] := fun z => by
        subst z
        have e1 : (match toP d, toPs r with
          | some p, some ps => some (p :: ps)
          | _, _ => none) = some [] := e1
        cases h1 : toP d <;> cases h2 : toPs r <;> rw [h1, h2] at e1 <;> cases e1
      cases ps with
      | nil => exact absurd rfl this
      | cons p ps => rfl
  rw [q]
  rfl
/-! texts as lists of codes -/
abbrev Sx (l : List Nat) : Str := ⟨l.toArray⟩
theorem Sx_tl (l : List Nat) : (Sx l).cps.toList = l := (rfl)
theorem Sx_len (l : List Nat) : (Sx l).length = l.length := by simp [Sx, Str.length]
def lowC (l : List Nat) : Prop := ∀ c, c ∈ l → c < 128
theorem strOk_low {l : List Nat} (h : lowC l) : PyData.strOk (Sx l) = true := by
  unfold PyData.strOk
  rw [Array.all_eq_true']
  intro c hc
  have : c ∈ l := by simpa using hc
  have := h c this
  exact decide_eq_true (by omega)
theorem Sx_beq (a b : List Nat) : (Sx a == Sx b) = decide (a = b) := by
  by_cases h : a = b
  · subst h
    simp
  · rw [decide_eq_false h]
    have : Sx a ≠ Sx b := fun e => h (congrArg (fun x : Str => x.cps.toList) e)
    simpa using this
theorem dEq_S {a b : List Nat} (ha : lowC a) (hb : lowC b) : dEq (.str (Sx a)) (.str (Sx b)) = some (.sc (.bl (decide (a = b)))) := by
  unfold dEq
  show (if SeqAt.shaped (.str (Sx a)) && SeqAt.shaped (.str (Sx b)) then oB (Sx a == Sx b) else none) = _
  have h1 : SeqAt.shaped (.str (Sx a)) = true := shaped_of (by show PyData.strOk (Sx a) = true; exact strOk_low ha) (Nat.zero_le _)
  have h2 : SeqAt.shaped (.str (Sx b)) = true := shaped_of (by show PyData.strOk (Sx b) = true; exact strOk_low hb) (Nat.zero_le _)
  rw [h1, h2, Sx_beq]
  rfl
theorem eqS {a b : List Nat} (ha : lowC a) (hb : lowC b) {Q : Out → Prop} : okO (dEq (.str (Sx a)) (.str (Sx b))) Q = Q (.sc (.bl (decide (a = b)))) := by
  rw [dEq_S ha hb]
  rfl
theorem neS {a b : List Nat} (ha : lowC a) (hb : lowC b) {Q : Out → Prop} : okO (dNe (.str (Sx a)) (.str (Sx b))) Q = Q (.sc (.bl (!decide (a = b)))) := by
  rw [dNe_of (dEq_S ha hb)]
  rfl
theorem shD_int (i : Int) : shD (.int i) := ⟨_, rfl, rfl, Nat.zero_le _⟩
theorem shD_S {l : List Nat} (h : lowC l) : shD (.str (Sx l)) := ⟨_, rfl, strOk_low h, Nat.zero_le _⟩
theorem in_S {c : Nat} {z : Str} {Q : Out → Prop} : okO (dIn (.str (Sx [c])) (.str z)) Q = Q (.sc (.bl (decide (c ∈ z.cps.toList)))) := (rfl)
theorem nin_S {c : Nat} {z : Str} {Q : Out → Prop} : okO (dNotIn (.str (Sx [c])) (.str z)) Q = Q (.sc (.bl (!decide (c ∈ z.cps.toList)))) := (rfl)
theorem add_S {a b : List Nat} {Q : Out → Prop} : okO (dAdd (.str (Sx a)) (.str (Sx b))) Q = (a.length + b.length ≤ sizeLine ∧ Q (.sc (.str (Sx (a ++ b))))) := by
  show okO (if (Sx a).length + (Sx b).length ≤ sizeLine then oS (Sx a ++ Sx b) else none) Q = _
  rw [Sx_len, Sx_len, show Sx a ++ Sx b = Sx (a ++ b) from TL.ext_tl (TL.tl_append (Sx a) (Sx b))]
  by_cases h : a.length + b.length ≤ sizeLine
  · rw [if_pos h]; exact propext ⟨fun q => ⟨h, q⟩, fun q => q.2⟩
  · rw [if_neg h]; exact propext ⟨fun q => q.elim, fun q => h q.1⟩
theorem len_S {l : List Nat} {Q : Out → Prop} : okO (cLen [.str (Sx l)]) Q = (l.length ≤ sizeLine ∧ Q (.sc (.int l.length))) := by
  show okO (if (Sx l).length ≤ sizeLine then oI (Sx l).length else none) Q = _
  rw [Sx_len]
  by_cases h : l.length ≤ sizeLine
  · rw [if_pos h]; exact propext ⟨fun q => ⟨h, q⟩, fun q => q.2⟩
  · rw [if_neg h]; exact propext ⟨fun q => q.elim, fun q => h q.1⟩
theorem signs_S (l : List Nat) : signs (Sx l) = l.map fun c => .str (Sx [c]) := (rfl)
/-! slices -/
theorem cut_from1 {α : Type} (xs : List α) : cutL xs (some 1) none = xs.drop 1 := by
  unfold cutL
  have h1 : HT.sIx xs.length 0 (some 1) = min 1 xs.length := HT.sIx_nat xs.length 0 1
  rw [h1, HT.sIx_none]
  cases xs with
  | nil => rfl
  | cons x r =>
    rw [List.length_cons, Nat.min_eq_left (by omega)]
    show (r.drop 0).take (r.length + 1 - 1) = r.drop 0
    rw [List.drop_zero, Nat.add_sub_cancel, List.take_length]
theorem slL_1 {ds : List D} {Q : Out → Prop} : okO (dSl (.lst ds) (some 1) none) Q = Q (.nl (ds.drop 1)) := by
  show Q (.nl (cutL ds (some 1) none)) = _
  rw [cut_from1]
theorem slT_1 {d : D} {ds : List D} {Q : Out → Prop} : okO (dSl (.tup (d :: ds)) (some 1) none) Q = Q (.nt ds) := by
  have e : HT.sIx (ds.length + 1) 0 (some 1) = 1 := (HT.sIx_nat (ds.length + 1) 0 1).trans (by omega)
  show okO (if HT.sIx (ds.length + 1) 0 (some 1) = 0 ∧ HT.sIx (ds.length + 1) (ds.length + 1) none = ds.length + 1 then some (.sc (.tup (d :: ds))) else some (.nt (cutL (d :: ds) (some 1) none))) Q = _
  rw [e, if_neg (by omega), cut_from1]
  rfl
end
end Dv

set_option Elab.async false
set_option linter.all false
set_option maxRecDepth 100000
set_option maxHeartbeats 1000000
/-! Sy7: texts in rows, last places, tuples put together. -/
namespace Dv
open PySem PySem.Spec PyProof.Rows L2
section
variable {α β : Type} {τ : FS}
/-- a word -/
def wd (l : List Nat) : D := .str (Sx l)
theorem flVs_wd : ∀ ms : List (List Nat), flVs (ms.map wd) = some (ms.map fun l => V.str (Sx l))
  | [] => rfl
  | m :: r => by
    show (match flV (wd m), flVs (r.map wd) with
      | some v, some vs => some (v :: vs)
      | _, _ => none) = _
    rw [flVs_wd r]
    rfl
theorem dIn_wd {l : List Nat} {ms : List (List Nat)} : dIn (wd l) (.tup (ms.map wd)) = some (.sc (.bl (decide (l ∈ ms)))) := by
  have e : inD (wd l) (.tup (ms.map wd)) = some (decide (l ∈ ms)) := by
    show (match flV (wd l), flVs (ms.map wd) with
      | some v, some vs => some (inV v vs)
      | _, _ => none) = _
    rw [flVs_wd]
    show some (inV (V.str (Sx l)) (ms.map fun l => V.str (Sx l))) = _
    congr 1
    unfold inV
    rw [List.any_map]
    by_cases h : l ∈ ms
    · rw [decide_eq_true h]
      exact List.any_eq_true.mpr ⟨l, h, by show (Sx l == Sx l) = true; exact beq_self_eq_true _⟩
    · rw [decide_eq_false h, List.any_eq_false]
      intro x hx hc
      have hc : (Sx x == Sx l) = true := hc
      rw [Sx_beq] at hc
      exact h (of_decide_eq_true hc ▸ hx)
  unfold dIn
  rw [e]
  rfl
theorem in_wd {l : List Nat} {ms : List (List Nat)} {Q : Out → Prop} : okO (dIn (wd l) (.tup (ms.map wd))) Q = Q (.sc (.bl (decide (l ∈ ms)))) := by
  rw [dIn_wd]
  rfl
theorem ixN_m1 (n : Nat) : ixN (n + 1) (-1) = some n := by
  unfold ixN
  rw [if_neg (by omega), if_pos (by omega)]
  congr 1
  omega
theorem ix_m1 {ds : List D} {d : D} {Q : Out → Prop} : okO (dIx (.lst (ds ++ [d])) (.int (-1))) Q = Q (.sc d) := by
  show okO ((atI (ds ++ [d]) (-1)).map Out.sc) Q = _
  unfold atI
  rw [List.length_append, List.length_singleton, ixN_m1, Option.bind_some, List.getElem?_append_right (Nat.le_refl _), Nat.sub_self]
  rfl
theorem ixT_m1 {ds : List D} {d : D} {Q : Out → Prop} : okO (dIx (.tup (ds ++ [d])) (.int (-1))) Q = Q (.sc d) := by
  show okO ((atI (ds ++ [d]) (-1)).map Out.sc) Q = _
  unfold atI
  rw [List.length_append, List.length_singleton, ixN_m1, Option.bind_some, List.getElem?_append_right (Nat.le_refl _), Nat.sub_self]
  rfl
theorem sd_m1 {ds : List D} {d e : D} {Q : List D → Prop} : okO (setD (.int (-1)) e (some (.ow (ds ++ [d])))) Q = Q (ds ++ [e]) := by
  unfold setD
  dsimp only
  rw [List.length_append, List.length_singleton, ixN_m1]
  show Q ((ds ++ [d]).set ds.length e) = _
  rw [List.set_append_right _ _ (Nat.le_refl _), Nat.sub_self]
  rfl
/-- two tuples put together: a new one or one of both -/
def catT (xs ys : List D) : Out := if xs.isEmpty then .sc (.tup ys) else if ys.isEmpty then .sc (.tup xs) else .nt (xs ++ ys)
theorem outV_cat {xs ys : List D} : outV (catT xs ys) = .val (.tup (xs ++ ys)) := by
  unfold catT
  cases xs with
  | nil => rfl
  | cons x r =>
    cases ys with
    | nil => rw [List.append_nil]; rfl
    | cons y s => rfl
theorem oo_addT {xs ys : List D} {Q : Out → Prop} : okO (dAdd (.tup xs) (.tup ys)) Q = (xs.length + ys.length ≤ sizeLine ∧ Q (catT xs ys)) := by
  show okO (if xs.length + ys.length ≤ sizeLine then (if xs.isEmpty then some (.sc (.tup ys)) else if ys.isEmpty then some (.sc (.tup xs)) else some (.nt (xs ++ ys))) else none) Q = _
  by_cases h : xs.length + ys.length ≤ sizeLine
  · rw [if_pos h]
    refine Eq.trans ?_ (propext ⟨fun q => ⟨h, q⟩, fun q => q.2⟩)
    unfold catT
    by_cases c : xs.isEmpty = true
    · rw [if_pos c, if_pos c]; rfl
    · rw [if_neg c, if_neg c]
      by_cases d : ys.isEmpty = true
      · rw [if_pos d, if_pos d]; rfl
      · rw [if_neg d, if_neg d]; rfl
  · rw [if_neg h]; exact propext ⟨fun q => q.elim, fun q => h q.1⟩
theorem split_S1 {l : List Nat} {c : Nat} (hc : c < 256) (hl : l.length + 2 ≤ sizeLine) {Q : Out → Prop} : okO (gSplit (.str (Sx l)) [.str (Sx [c])]) Q = Q (.nl ((TL.spl [c] 0 [] l).map wd)) := by
  have e : Txt.split (Sx l) (Sx [c]) = (TL.spl [c] 0 [] l).map Sx := SX.split_S (by simp) (by simpa using hc)
  show okO (if ((Sx [c]).length == 0) = false ∧ (Sx l).length + 2 ≤ sizeLine then some (.nl ((Txt.split (Sx l) (Sx [c])).map .str)) else none) Q = _
  rw [Sx_len l, if_pos ⟨rfl, hl⟩, e, List.map_map]
  rfl
theorem strs_wd : ∀ ws : List (List Nat), strs? (ws.map wd) = some (ws.map Sx)
  | [] => rfl
  | w :: r => by
    show (strs? (r.map wd)).map (Sx w :: ·) = _
    rw [strs_wd r]
    rfl
theorem len_map_Sx (ws : List (List Nat)) : ((ws.map Sx).map (·.length)).sum = (ws.map List.length).sum := by
  rw [List.map_map]
  exact congrArg List.sum (List.map_congr_left fun l _ => Sx_len l)
theorem join_S {a : List Nat} {ws : List (List Nat)} (h : (ws.map List.length).sum + ws.length * a.length ≤ 16777216) {Q : Out → Prop} : okO (gJoin (.str (Sx a)) [.lst (ws.map wd)]) Q = Q (.sc (.str (Sx (TL.joinL a ws)))) := by
  show okO (match strs? (ws.map wd) with
    | some ys => if (ys.map (·.length)).sum + ys.length * (Sx a).length ≤ 16777216 then oS (Txt.join (Sx a) ys) else none
    | none => none) Q = _
  rw [strs_wd]
  dsimp only
  rw [len_map_Sx, List.length_map, Sx_len, if_pos h, show Txt.join (Sx a) (ws.map Sx) = Sx (TL.joinL a ws) from SX.join_S a ws]
  rfl
theorem words_S {l : List Nat} (hl : l.length + 2 ≤ sizeLine) {Q : Out → Prop} : okO (gWords (.str (Sx l)) []) Q = Q (.nl ((TL.wfin (l.foldl TL.wstep ([], []))).map wd)) := by
  have e : (Txt.words (Sx l)).map TL.tl = TL.wfin (l.foldl TL.wstep ([], [])) := TL.words_tl (Sx l)
  have e2 : (Txt.words (Sx l)).map D.str = ((Txt.words (Sx l)).map TL.tl).map wd := by
    rw [List.map_map]
    exact List.map_congr_left fun x _ => by
      show D.str x = D.str (Sx (TL.tl x))
      rw [show Sx (TL.tl x) = x from TL.mk_tl x]
  show okO (if (Sx l).length + 2 ≤ sizeLine then some (.nl ((Txt.words (Sx l)).map .str)) else none) Q = _
  rw [Sx_len, if_pos hl, e2, e]
  rfl
theorem ixS0 {c : Nat} {r : List Nat} (h : r.length + 1 ≤ sizeLine) {Q : Out → Prop} : okO (dIx (.str (Sx (c :: r))) (.int 0)) Q = Q (.sc (.str (Sx [c]))) := by
  show okO (if (Sx (c :: r)).length ≤ sizeLine then (atI (Sx (c :: r)).cps.toList 0).bind fun c => oS ⟨#[c]⟩ else none) Q = _
  rw [Sx_len, if_pos (show (c :: r).length ≤ sizeLine from h)]
  unfold atI
  rw [show (Sx (c :: r)).cps.toList = c :: r from rfl, show ixN (c :: r).length 0 = some 0 from ixN_at (k := 0) (by simp)]
  rfl
theorem cutS_take {l : List Nat} {k : Nat} : cutS (Sx l) none (some (k : Int)) = Sx (l.take k) := by
  rw [C8.cutS_slice]
  exact SX.slice_to (a := l) (i := (k : Int)) (by omega)
theorem cutS_drop {l : List Nat} {k : Nat} : cutS (Sx l) (some (k : Int)) none = Sx (l.drop k) := by
  rw [C8.cutS_slice]
  exact SX.slice_from (a := l) (i := (k : Int)) (by omega)
theorem slS_to1 {l : List Nat} (h : l.length ≤ sizeLine) {Q : Out → Prop} : okO (dSl (.str (Sx l)) none (some 1)) Q = Q (.sc (.str (Sx (l.take 1)))) := by
  show okO (if (Sx l).length ≤ sizeLine then oS (cutS (Sx l) none (some 1)) else none) Q = _
  rw [Sx_len, if_pos h, show cutS (Sx l) none (some 1) = Sx (l.take 1) from cutS_take (k := 1)]
  rfl
theorem slS_1 {l : List Nat} (h : l.length ≤ sizeLine) {Q : Out → Prop} : okO (dSl (.str (Sx l)) (some 1) none) Q = Q (.sc (.str (Sx (l.drop 1)))) := by
  show okO (if (Sx l).length ≤ sizeLine then oS (cutS (Sx l) (some 1) none) else none) Q = _
  rw [Sx_len, if_pos h, show cutS (Sx l) (some 1) none = Sx (l.drop 1) from cutS_drop (k := 1)]
  rfl
theorem int_S {l : List Nat} {n : Int} (h : intText? (Sx l) = some n) (hl : l.length ≤ 640) {Q : Out → Prop} : okO (cInt [.str (Sx l)]) Q = Q (.sc (.int n)) := by
  show okO (if (Sx l).length ≤ 640 then (PySem.intText? (Sx l)).bind oI else none) Q = _
  rw [Sx_len, if_pos hl, h]
  rfl
theorem set_z {a b : α} {l : List α} : (a :: l).set 0 b = b :: l := (rfl)
theorem set_s {a b : α} {l : List α} {n : Nat} : (a :: l).set (n + 1) b = a :: l.set n b := (rfl)
/-- from the law's reading to what it says -/
theorem says_of {M : LawD} {lev k : Nat} {ns : List Int} (h : okE noE (M.fx lev k [.fz (.scr ns)]) fun v ss => v = .val (.bl true)) : M.says lev k ns := by
  rw [fx_eq] at h
  unfold LawD.says
  cases e : M.fn lev k [.fz (.scr ns)] with
  | ok v ss =>
    rw [e] at h
    have h : v = .val (.bl true) := h
    rw [h]
    exact ⟨ss, rfl⟩
  | ex x ss =>
    rw [e] at h
    exact h.elim
  | no =>
    rw [e] at h
    exact h.elim
/-- a list counted -/
def enF : Nat → List D → List D
  | _, [] => []
  | k, d :: r => .tup [.int (k : Nat), d] :: enF (k + 1) r
theorem en_go : ∀ (k : Nat) (ds : List D), (ds.mapIdx fun i d => D.tup [.int ((i + k : Nat) : Int), d]) = enF k ds
  | k, [] => rfl
  | k, d :: r => by
    rw [List.mapIdx_cons, Nat.zero_add]
    show _ = _ :: enF (k + 1) r
    rw [← en_go]
    congr 1
    congr 1
    funext i d
    rw [Nat.add_right_comm, Nat.add_assoc]
theorem en_F (ds : List D) : enumD ds = enF 0 ds := en_go 0 ds
theorem okO_some {o : Option α} {a : α} (h : o = some a) {Q : α → Prop} : okO o Q = Q a := by rw [h]; rfl
end
end Dv

set_option Elab.async false
set_option linter.all false
set_option maxRecDepth 100000
set_option maxHeartbeats 1000000
/-! Sy8: comprehensions of two clauses, sums, more slices. -/
namespace Dv
open PySem PySem.Spec PyProof.Rows L2
section
variable {E : Ex → FS → Prop} {α β : Type} {τ : FS}
variable {is js : List Nat} {ga ga1 : RV → FS → Res Unit} {ft ft1 : FS → Res Bool} {fi1 : FS → Res (List D)} {fe : FS → Res RV}
theorem k_lc2 {fi : FS → Res (List D)} {Q : RV → FS → Prop} : okE E (evLc2 is js fi ga ft fi1 ga1 ft1 fe τ) Q = okE E (fi τ) fun ds τ1 => okE noE (lc2L is js ga ft fi1 ga1 ft1 fe [] ds (wipeT is τ1)) fun acc τ2 => Q (.fr acc) (mergeT is τ1 τ2) := by
  unfold evLc2
  rw [ok_bind]
  refine okE_cong fun ds τ1 => ?_
  cases lc2L is js ga ft fi1 ga1 ft1 fe [] ds (wipeT is τ1) <;> rfl
theorem lc2_nil {acc : List D} {Q : List D → FS → Prop} : okE noE (lc2L is js ga ft fi1 ga1 ft1 fe acc [] τ) Q = Q acc τ := (rfl)
theorem lc2_cons {acc r : List D} {d : D} {Q : List D → FS → Prop} : okE noE (lc2L is js ga ft fi1 ga1 ft1 fe acc (d :: r) τ) Q = okE noE (ga (.val d) τ) fun _ τ1 => τ1.length = τ.length ∧ okE noE (ft τ1) fun b τ2 => if b = true then okE noE (fi1 τ2) fun ds1 τ3 => okE noE (lcL js ga1 ft1 fe acc ds1 (wipeT js τ3)) fun acc' τ4 => okE noE (lc2L is js ga ft fi1 ga1 ft1 fe acc' r (wipeT is τ4)) Q else okE noE (lc2L is js ga ft fi1 ga1 ft1 fe acc r (wipeT is τ2)) Q := by
  rw [lc2L]
  cases ga (.val d) τ with
  | ok u τ1 =>
    show okE noE (if τ1.length = τ.length then _ else Res.no) Q = (τ1.length = τ.length ∧ _)
    by_cases hl : τ1.length = τ.length
    case neg => rw [if_neg hl]; exact propext ⟨fun q => q.elim, fun q => hl q.1⟩
    rw [if_pos hl]
    refine Eq.trans ?_ (propext ⟨fun q => ⟨hl, q⟩, fun q => q.2⟩)
    cases ft τ1 with
    | ok b τ2 =>
      cases b with
      | false => rfl
      | true =>
        show okE noE (match fi1 τ2 with
          | .ok ds1 τ3 => (match lcL js ga1 ft1 fe acc ds1 (wipeT js τ3) with
            | .ok acc' τ4 => lc2L is js ga ft fi1 ga1 ft1 fe acc' r (wipeT is τ4)
            | _ => .no)
          | _ => .no) Q = okE noE (fi1 τ2) _
        cases fi1 τ2 with
        | ok ds1 τ3 =>
          show okE noE (match lcL js ga1 ft1 fe acc ds1 (wipeT js τ3) with
            | .ok acc' τ4 => lc2L is js ga ft fi1 ga1 ft1 fe acc' r (wipeT is τ4)
            | _ => .no) Q = okE noE (lcL js ga1 ft1 fe acc ds1 (wipeT js τ3)) _
          cases lcL js ga1 ft1 fe acc ds1 (wipeT js τ3) <;> rfl
        | _ => rfl
    | _ => rfl
  | _ => rfl
theorem lc2_inv {Q : List D → FS → Prop} (I : List D → List D → FS → Prop) (he : ∀ acc τ, I acc [] τ → Q acc τ)
    (hs : ∀ acc d r τ, I acc (d :: r) τ → okE noE (ga (.val d) τ) fun _ τ1 => τ1.length = τ.length ∧ okE noE (ft τ1) fun b τ2 => if b = true then okE noE (fi1 τ2) fun ds1 τ3 => okE noE (lcL js ga1 ft1 fe acc ds1 (wipeT js τ3)) fun acc' τ4 => I acc' r (wipeT is τ4) else I acc r (wipeT is τ2)) : ∀ {ds acc : List D} {τ : FS}, I acc ds τ → okE noE (lc2L is js ga ft fi1 ga1 ft1 fe acc ds τ) Q
  | [], acc, τ, h => by rw [lc2_nil]; exact he acc τ h
  | d :: r, acc, τ, h => by
    rw [lc2_cons]
    refine ok_mono (hs acc d r τ h) fun u τ1 h1 => ⟨h1.1, ok_mono h1.2 fun b τ2 h2 => ?_⟩
    cases b with
    | false => exact lc2_inv I he hs h2
    | true => exact ok_mono h2 fun ds1 τ3 h3 => ok_mono h3 fun acc' τ4 h4 => lc2_inv I he hs h4
/-- one clause, with something in the list already -/
theorem lc_mapA {Q : List D → FS → Prop} (f : D → Option D) {ds acc0 : List D} (hl : acc0.length + ds.length ≤ sizeLine)
    (hs : ∀ d, d ∈ ds → okE noE (ga (.val d) τ) fun _ τ1 => τ1.length = τ.length ∧ okE noE (ft τ1) fun b τ2 => if b = true then okE noE (fe τ2) (fun y τ3 => okO (frz y τ3) fun p => f d = some p.1 ∧ wipeT is p.2 = τ) else f d = none ∧ wipeT is τ2 = τ)
    (hq : Q (acc0 ++ ds.filterMap f) τ) : okE noE (lcL is ga ft fe acc0 ds τ) Q := by
  refine lc_inv (fun acc r t => t = τ ∧ (∀ d, d ∈ r → d ∈ ds) ∧ acc.length + r.length ≤ sizeLine ∧ acc ++ r.filterMap f = acc0 ++ ds.filterMap f) (fun acc t h => ?_) (fun acc d r t h => ?_) ⟨rfl, fun _ h => h, hl, rfl⟩
  · obtain ⟨rfl, _, _, h⟩ := h
    rw [List.filterMap_nil, List.append_nil] at h
    rw [h]
    exact hq
  · obtain ⟨rfl, hm, hn, h⟩ := h
    rw [List.length_cons] at hn
    refine ok_mono (hs d (hm d (.head _))) fun u τ1 h1 => ⟨h1.1, ok_mono h1.2 fun b τ2 h2 => ?_⟩
    cases b with
    | false =>
      obtain ⟨e, w⟩ := h2
      refine ⟨w, fun x hx => hm x (.tail _ hx), by omega, ?_⟩
      rw [List.filterMap_cons, e] at h
      exact h
    | true =>
      refine ok_mono h2 fun y τ3 h3 => ?_
      show okO (frz y τ3) _
      have h3 : okO (frz y τ3) _ := h3
      cases q : frz y τ3 with
      | none => rw [q] at h3; exact h3.elim
      | some p =>
        rw [q] at h3
        obtain ⟨e, w⟩ := h3
        refine ⟨by omega, w, fun x hx => hm x (.tail _ hx), ?_, ?_⟩
        · rw [List.length_append, List.length_singleton]; omega
        · rw [List.filterMap_cons, e] at h
          rw [List.append_assoc]
          exact h
/-! sums, lists so often -/
theorem oo_sumI {ns : List Int} {Q : Out → Prop} : okO (cSum [.lst (ns.map D.int)]) Q = Q (.sc (.int ns.sum)) := by
  show okO ((ints? (ns.map D.int)).bind fun ns => oI ns.sum) Q = _
  rw [ints_map]
  rfl
theorem oo_sumT {ns : List Int} {Q : Out → Prop} : okO (cSum [.tup (ns.map D.int)]) Q = Q (.sc (.int ns.sum)) := by
  show okO ((ints? (ns.map D.int)).bind fun ns => oI ns.sum) Q = _
  rw [ints_map]
  rfl
theorem oo_maxT {ns : List Int} (h : ns ≠ []) {Q : Out → Prop} : okO (cMax [.tup (ns.map D.int)]) Q = Q (.sc (.int (maxL ns))) := by
  show okO ((ints? (ns.map D.int)).bind fun ns => if ns.isEmpty then none else oI (maxL ns)) Q = _
  rw [ints_map]
  cases ns with
  | nil => exact absurd rfl h
  | cons x r => rfl
theorem oo_minT {ns : List Int} (h : ns ≠ []) {Q : Out → Prop} : okO (cMin [.tup (ns.map D.int)]) Q = Q (.sc (.int (minL ns))) := by
  show okO ((ints? (ns.map D.int)).bind fun ns => if ns.isEmpty then none else oI (minL ns)) Q = _
  rw [ints_map]
  cases ns with
  | nil => exact absurd rfl h
  | cons x r => rfl
theorem dMul_l {xs : List D} {k : Int} : dMul (.lst xs) (.int k) = if -(2 ^ 63) ≤ k ∧ k < 2 ^ 63 ∧ xs.length * k.toNat ≤ sizeLine then some (Out.nl (List.replicate k.toNat xs).flatten) else none := rfl
theorem oo_rep {d : D} {n : Nat} (h : n ≤ 1000000) {Q : Out → Prop} : okO (dMul (.lst [d]) (.int (n : Int))) Q = Q (.nl (List.replicate n d)) := by
  have hs : 1000000 ≤ sizeLine := by decide
  have h1 : -(2 ^ 63) ≤ (n : Int) := by omega
  have h2 : (n : Int) < 2 ^ 63 := by omega
  have h3 : [d].length * (n : Int).toNat ≤ sizeLine := by
    rw [Int.toNat_natCast, List.length_singleton, Nat.one_mul]
    exact Nat.le_trans h hs
  have hc := And.intro h1 (And.intro h2 h3)
  rw [dMul_l, if_pos hc, Int.toNat_natCast]
  have : (List.replicate n [d]).flatten = List.replicate n d := by
    clear h hc h1 h2 h3
    induction n with
    | zero => rfl
    | succ n ih => rw [List.replicate_succ, List.flatten_cons, ih, List.replicate_succ]; rfl
  rw [this]
  rfl
theorem oo_repT {d : D} {n : Nat} (h : n ≤ 1000) (h2 : 2 ≤ n) {Q : Out → Prop} : okO (dMul (.tup [d]) (.int (n : Int))) Q = Q (.nt (List.replicate n d)) := by
  show okO (if [d].isEmpty = false ∧ 2 ≤ (n : Int) ∧ (n : Int) ≤ 1000 ∧ [d].length ≤ 1000 then some (Out.nt (List.replicate (n : Int).toNat [d]).flatten) else none) Q = _
  rw [if_pos ⟨rfl, by omega, by omega, by simp⟩, Int.toNat_natCast]
  have : (List.replicate n [d]).flatten = List.replicate n d := by
    clear h h2
    induction n with
    | zero => rfl
    | succ n ih => rw [List.replicate_succ, List.flatten_cons, ih, List.replicate_succ]; rfl
  rw [this]
  rfl
/-! slices -/
theorem sl_drop1 {ds : List D} {d : D} {Q : Out → Prop} : okO (dSl (.lst (ds ++ [d])) none (some (-1))) Q = Q (.nl ds) := by
  have e : HT.sIx (ds ++ [d]).length (ds ++ [d]).length (some (-1)) = ds.length := by
    show (if (-1 : Int) < 0 then ((-1 : Int) + ((ds ++ [d]).length : Int)).toNat else min (-1 : Int).toNat (ds ++ [d]).length) = _
    rw [if_pos (by decide), List.length_append, List.length_singleton]
    omega
  show Q (.nl (((ds ++ [d]).drop 0).take (HT.sIx (ds ++ [d]).length (ds ++ [d]).length (some (-1)) - 0))) = _
  rw [e, List.drop_zero, Nat.sub_zero, List.take_append_of_le_length (Nat.le_refl _), List.take_length]
theorem sl_ab {ds : List D} {a b : Nat} (h : b ≤ ds.length) (hab : a ≤ b) {Q : Out → Prop} : okO (dSl (.lst ds) (some (a : Int)) (some (b : Int))) Q = Q (.nl ((ds.drop a).take (b - a))) := by
  show Q (.nl ((ds.drop (HT.sIx ds.length 0 (some (a : Int)))).take (HT.sIx ds.length ds.length (some (b : Int)) - HT.sIx ds.length 0 (some (a : Int))))) = _
  rw [HT.sIx_nat, HT.sIx_nat, Nat.min_eq_left h, Nat.min_eq_left (by omega)]
/-- a list of ints -/
def lI (ns : List Int) : D := .lst (ns.map .int)
theorem lI_get {ns : List Int} {k : Nat} {n : Int} (h : ns[k]? = some n) {Q : Out → Prop} : okO (dIx (lI ns) (.int (k : Int))) Q = Q (.sc (.int n)) := oo_ix (k := k) (by rw [List.getElem?_map, h]; rfl)
theorem en_ints (k : Nat) (ns : List Int) : enF k (ns.map .int) = ns.mapIdx (fun i n => D.tup [.int ((i + k : Nat) : Int), .int n]) := by
  induction ns generalizing k with
  | nil => rfl
  | cons n r ih =>
    rw [List.map_cons, enF, List.mapIdx_cons, ih, Nat.zero_add]
    congr 1
    congr 1
    funext i n
    rw [Nat.add_right_comm, Nat.add_assoc]
end
end Dv

set_option Elab.async false
set_option linter.all false
set_option maxRecDepth 100000
set_option maxHeartbeats 1000000
namespace Dv.G
open PySem PySem.Spec PyProof.Rows L2 Dv
theorem gl0 : M.L.gl[0]? = some (("is_number" : Str), D.fn 0) := rfl
theorem gl1 : M.L.gl[1]? = some (("tupled" : Str), D.fn 2) := rfl
theorem gl2 : M.L.gl[2]? = some (("common_of" : Str), D.fn 3) := rfl
theorem gl3 : M.L.gl[3]? = some (("common_of_row" : Str), D.fn 4) := rfl
theorem gl4 : M.L.gl[4]? = some (("entering" : Str), D.fn 6) := rfl
theorem gl5 : M.L.gl[5]? = some (("turned" : Str), D.fn 8) := rfl
theorem gl6 : M.L.gl[6]? = some (("leaving" : Str), D.fn 7) := rfl
theorem gl7 : M.L.gl[7]? = some (("first_table" : Str), D.fn 5) := rfl
theorem gl8 : M.L.gl[8]? = some (("MOST_ENTRY" : Str), D.int 1000000) := rfl
theorem gl9 : M.L.gl[9]? = some (("MOST_LONG" : Str), D.int 12) := rfl
theorem gl10 : M.L.gl[10]? = some (("are_numbers" : Str), D.fn 1) := rfl
theorem gl11 : M.L.gl[11]? = some (("MOST_ROWS" : Str), D.int 40) := rfl
theorem gl12 : M.L.gl[12]? = some (("level_in" : Str), D.fn 9) := rfl
theorem gl13 : M.L.gl[13]? = some (("are_rows" : Str), D.fn 10) := rfl
theorem gl14 : M.L.gl[14]? = some (("_law_take" : Str), D.fn 13) := rfl
theorem gl15 : M.L.gl[15]? = some (("_law_lists" : Str), D.fn 17) := rfl
theorem gl16 : M.L.gl[16]? = some (("_law_same" : Str), D.fn 18) := rfl
theorem gl17 : M.L.gl[17]? = some (("_law_call" : Str), D.fn 20) := rfl
theorem gl18 : M.L.gl[18]? = some (("_law_sum" : Str), D.fn 22) := rfl
theorem gl19 : M.L.gl[19]? = some (("_law_is_int" : Str), D.fn 19) := rfl
theorem gl20 : M.L.gl[20]? = some (("_law_row" : Str), D.fn 24) := rfl
theorem gl21 : M.L.gl[21]? = some (("_law_holds" : Str), D.fn 23) := rfl
theorem gl22 : M.L.gl[22]? = some (("over_or_bar" : Str), D.fn 11) := rfl
theorem gl23 : M.L.gl[23]? = some (("_law_pick" : Str), D.fn 16) := rfl
theorem gl24 : M.L.gl[24]? = some (("_law_over" : Str), D.fn 25) := rfl
theorem gl25 : M.L.gl[25]? = some (("_law_of" : Str), D.fn 15) := rfl
theorem gl26 : M.L.gl[26]? = some (("_law_slip" : Str), D.fn 21) := rfl
theorem gl27 : M.L.gl[27]? = some (("_law_right" : Str), D.fn 26) := rfl
theorem gl28 : M.L.gl[28]? = some (("_law_box" : Str), D.fn 12) := rfl
theorem gl29 : M.L.gl[29]? = some (("_law_cells" : Str), D.fn 14) := rfl
theorem gl30 : M.L.gl[30]? = some (("law" : Str), D.fn 27) := rfl
theorem tb0 : M.L.tb 0 = some ((("thing" : Str) :: [] : List Str), ([] : List Nat)) := rfl
theorem tb1 : M.L.tb 1 = some ((("thing" : Str) :: [] : List Str), ([] : List Nat)) := rfl
theorem tb2 : M.L.tb 2 = some ((("value" : Str) :: [] : List Str), ([] : List Nat)) := rfl
theorem tb3 : M.L.tb 3 = some ((("one" : Str) :: ("other" : Str) :: [] : List Str), ([] : List Nat)) := rfl
theorem tb4 : M.L.tb 4 = some ((("row" : Str) :: [] : List Str), ([] : List Nat)) := rfl
theorem tb5 : M.L.tb 5 = some ((("rows" : Str) :: [] : List Str), ([] : List Nat)) := rfl
theorem tb6 : M.L.tb 6 = some ((("last" : Str) :: [] : List Str), ([] : List Nat)) := rfl
theorem tb7 : M.L.tb 7 = some ((("table" : Str) :: ("basis" : Str) :: ("column" : Str) :: [] : List Str), ([] : List Nat)) := rfl
theorem tb8 : M.L.tb 8 = some ((("table" : Str) :: ("place" : Str) :: ("column" : Str) :: ("by" : Str) :: [] : List Str), ([] : List Nat)) := rfl
theorem tb9 : M.L.tb 9 = some ((("rows" : Str) :: [] : List Str), ([] : List Nat)) := rfl
theorem tb10 : M.L.tb 10 = some ((("thing" : Str) :: [] : List Str), ([] : List Nat)) := rfl
theorem tb11 : M.L.tb 11 = some ((("rows" : Str) :: [] : List Str), ([0] : List Nat)) := rfl
theorem tb12 : M.L.tb 12 = some ((("script" : Str) :: ("k" : Str) :: [] : List Str), ([] : List Nat)) := rfl
theorem tb13 : M.L.tb 13 = some ((("tin" : Str) :: ("below_so" : Str) :: [] : List Str), ([] : List Nat)) := rfl
theorem tb14 : M.L.tb 14 = some ((("script" : Str) :: ("most_so" : Str) :: [] : List Str), ([] : List Nat)) := rfl
theorem tb15 : M.L.tb 15 = some ((("tin" : Str) :: ("goods_so" : Str) :: [] : List Str), ([] : List Nat)) := rfl
theorem tb16 : M.L.tb 16 = some ((("tin" : Str) :: ("goods_so" : Str) :: ("count_so" : Str) :: [] : List Str), ([] : List Nat)) := rfl
theorem tb17 : M.L.tb 17 = some ((("matter" : Str) :: [] : List Str), ([] : List Nat)) := rfl
theorem tb18 : M.L.tb 18 = some ((("got" : Str) :: ("due" : Str) :: [] : List Str), ([] : List Nat)) := rfl
theorem tb19 : M.L.tb 19 = some ((("k" : Str) :: [] : List Str), ([] : List Nat)) := rfl
theorem tb20 : M.L.tb 20 = some ((("door_so" : Str) :: ("goods_so" : Str) :: [] : List Str), ([] : List Nat)) := rfl
theorem tb21 : M.L.tb 21 = some ((("door_so" : Str) :: ("goods_so" : Str) :: [] : List Str), ([] : List Nat)) := rfl
theorem tb22 : M.L.tb 22 = some ((("row_so" : Str) :: ("numbers_so" : Str) :: [] : List Str), ([] : List Nat)) := rfl
theorem tb23 : M.L.tb 23 = some ((("rows_so" : Str) :: ("got" : Str) :: [] : List Str), ([] : List Nat)) := rfl
theorem tb24 : M.L.tb 24 = some ((("tin" : Str) :: ("long_so" : Str) :: ("wide_so" : Str) :: [] : List Str), ([] : List Nat)) := rfl
theorem tb25 : M.L.tb 25 = some ((("tin" : Str) :: ("long_so" : Str) :: ("wide_so" : Str) :: ("goal_so" : Str) :: [] : List Str), ([] : List Nat)) := rfl
theorem tb26 : M.L.tb 26 = some ((("tin" : Str) :: [] : List Str), ([] : List Nat)) := rfl
theorem tb27 : M.L.tb 27 = some ((("script" : Str) :: [] : List Str), ([] : List Nat)) := rfl
theorem sx0 : Str.ofString "told" = Sx [116, 111, 108, 100] := by decide +kernel
theorem sx1 : Str.ofString "12" = Sx [49, 50] := by decide +kernel
theorem sx2 : Str.ofString "1" = Sx [49] := by decide +kernel
theorem sx3 : Str.ofString "unfit" = Sx [117, 110, 102, 105, 116] := by decide +kernel
end Dv.G

set_option Elab.async false
set_option linter.all false
/-! Isi: isinstance, kind by kind. -/
namespace Dv
open PySem PySem.Spec PyProof.Rows L2
theorem isi_int_lt {i : Int} {Q : Out → Prop} : okO (cIsi [(.int i), (.tup [.ty "list", .ty "tuple"])]) Q = Q (.sc (.bl false)) := (rfl)
theorem isi_int_l {i : Int} {Q : Out → Prop} : okO (cIsi [(.int i), (.ty "list")]) Q = Q (.sc (.bl false)) := (rfl)
theorem isi_int_t {i : Int} {Q : Out → Prop} : okO (cIsi [(.int i), (.ty "tuple")]) Q = Q (.sc (.bl false)) := (rfl)
theorem isi_int_bs {i : Int} {Q : Out → Prop} : okO (cIsi [(.int i), (.tup [.ty "bool", .ty "str"])]) Q = Q (.sc (.bl false)) := (rfl)
theorem isi_int_b {i : Int} {Q : Out → Prop} : okO (cIsi [(.int i), (.ty "bool")]) Q = Q (.sc (.bl false)) := (rfl)
theorem isi_int_s {i : Int} {Q : Out → Prop} : okO (cIsi [(.int i), (.ty "str")]) Q = Q (.sc (.bl false)) := (rfl)
theorem isi_int_i {i : Int} {Q : Out → Prop} : okO (cIsi [(.int i), (.ty "int")]) Q = Q (.sc (.bl true)) := (rfl)
theorem isn_int {i : Int} {Q : Out → Prop} : okO (isD false (.int i) .non) Q = Q (.sc (.bl false)) := (rfl)
theorem isi_str_lt {z : Str} {Q : Out → Prop} : okO (cIsi [(.str z), (.tup [.ty "list", .ty "tuple"])]) Q = Q (.sc (.bl false)) := (rfl)
theorem isi_str_l {z : Str} {Q : Out → Prop} : okO (cIsi [(.str z), (.ty "list")]) Q = Q (.sc (.bl false)) := (rfl)
theorem isi_str_t {z : Str} {Q : Out → Prop} : okO (cIsi [(.str z), (.ty "tuple")]) Q = Q (.sc (.bl false)) := (rfl)
theorem isi_str_bs {z : Str} {Q : Out → Prop} : okO (cIsi [(.str z), (.tup [.ty "bool", .ty "str"])]) Q = Q (.sc (.bl true)) := (rfl)
theorem isi_str_b {z : Str} {Q : Out → Prop} : okO (cIsi [(.str z), (.ty "bool")]) Q = Q (.sc (.bl false)) := (rfl)
theorem isi_str_s {z : Str} {Q : Out → Prop} : okO (cIsi [(.str z), (.ty "str")]) Q = Q (.sc (.bl true)) := (rfl)
theorem isi_str_i {z : Str} {Q : Out → Prop} : okO (cIsi [(.str z), (.ty "int")]) Q = Q (.sc (.bl false)) := (rfl)
theorem isn_str {z : Str} {Q : Out → Prop} : okO (isD false (.str z) .non) Q = Q (.sc (.bl false)) := (rfl)
theorem isi_tup_lt {ds : List D} {Q : Out → Prop} : okO (cIsi [(.tup ds), (.tup [.ty "list", .ty "tuple"])]) Q = Q (.sc (.bl true)) := (rfl)
theorem isi_tup_l {ds : List D} {Q : Out → Prop} : okO (cIsi [(.tup ds), (.ty "list")]) Q = Q (.sc (.bl false)) := (rfl)
theorem isi_tup_t {ds : List D} {Q : Out → Prop} : okO (cIsi [(.tup ds), (.ty "tuple")]) Q = Q (.sc (.bl true)) := (rfl)
theorem isi_tup_bs {ds : List D} {Q : Out → Prop} : okO (cIsi [(.tup ds), (.tup [.ty "bool", .ty "str"])]) Q = Q (.sc (.bl false)) := (rfl)
theorem isi_tup_b {ds : List D} {Q : Out → Prop} : okO (cIsi [(.tup ds), (.ty "bool")]) Q = Q (.sc (.bl false)) := (rfl)
theorem isi_tup_s {ds : List D} {Q : Out → Prop} : okO (cIsi [(.tup ds), (.ty "str")]) Q = Q (.sc (.bl false)) := (rfl)
theorem isi_tup_i {ds : List D} {Q : Out → Prop} : okO (cIsi [(.tup ds), (.ty "int")]) Q = Q (.sc (.bl false)) := (rfl)
theorem isn_tup {ds : List D} {Q : Out → Prop} : okO (isD false (.tup ds) .non) Q = Q (.sc (.bl false)) := (rfl)
theorem isi_lst_lt {ds : List D} {Q : Out → Prop} : okO (cIsi [(.lst ds), (.tup [.ty "list", .ty "tuple"])]) Q = Q (.sc (.bl true)) := (rfl)
theorem isi_lst_l {ds : List D} {Q : Out → Prop} : okO (cIsi [(.lst ds), (.ty "list")]) Q = Q (.sc (.bl true)) := (rfl)
theorem isi_lst_t {ds : List D} {Q : Out → Prop} : okO (cIsi [(.lst ds), (.ty "tuple")]) Q = Q (.sc (.bl false)) := (rfl)
theorem isi_lst_bs {ds : List D} {Q : Out → Prop} : okO (cIsi [(.lst ds), (.tup [.ty "bool", .ty "str"])]) Q = Q (.sc (.bl false)) := (rfl)
theorem isi_lst_b {ds : List D} {Q : Out → Prop} : okO (cIsi [(.lst ds), (.ty "bool")]) Q = Q (.sc (.bl false)) := (rfl)
theorem isi_lst_s {ds : List D} {Q : Out → Prop} : okO (cIsi [(.lst ds), (.ty "str")]) Q = Q (.sc (.bl false)) := (rfl)
theorem isi_lst_i {ds : List D} {Q : Out → Prop} : okO (cIsi [(.lst ds), (.ty "int")]) Q = Q (.sc (.bl false)) := (rfl)
theorem isn_lst {ds : List D} {Q : Out → Prop} : okO (isD false (.lst ds) .non) Q = Q (.sc (.bl false)) := (rfl)
theorem isi_bl_lt {b : Bool} {Q : Out → Prop} : okO (cIsi [(.bl b), (.tup [.ty "list", .ty "tuple"])]) Q = Q (.sc (.bl false)) := (rfl)
theorem isi_bl_l {b : Bool} {Q : Out → Prop} : okO (cIsi [(.bl b), (.ty "list")]) Q = Q (.sc (.bl false)) := (rfl)
theorem isi_bl_t {b : Bool} {Q : Out → Prop} : okO (cIsi [(.bl b), (.ty "tuple")]) Q = Q (.sc (.bl false)) := (rfl)
theorem isi_bl_bs {b : Bool} {Q : Out → Prop} : okO (cIsi [(.bl b), (.tup [.ty "bool", .ty "str"])]) Q = Q (.sc (.bl true)) := (rfl)
theorem isi_bl_b {b : Bool} {Q : Out → Prop} : okO (cIsi [(.bl b), (.ty "bool")]) Q = Q (.sc (.bl true)) := (rfl)
theorem isi_bl_s {b : Bool} {Q : Out → Prop} : okO (cIsi [(.bl b), (.ty "str")]) Q = Q (.sc (.bl false)) := (rfl)
theorem isi_bl_i {b : Bool} {Q : Out → Prop} : okO (cIsi [(.bl b), (.ty "int")]) Q = Q (.sc (.bl true)) := (rfl)
theorem isn_bl {b : Bool} {Q : Out → Prop} : okO (isD false (.bl b) .non) Q = Q (.sc (.bl false)) := (rfl)
theorem isi_non_lt {Q : Out → Prop} : okO (cIsi [.non, (.tup [.ty "list", .ty "tuple"])]) Q = Q (.sc (.bl false)) := (rfl)
theorem isi_non_l {Q : Out → Prop} : okO (cIsi [.non, (.ty "list")]) Q = Q (.sc (.bl false)) := (rfl)
theorem isi_non_t {Q : Out → Prop} : okO (cIsi [.non, (.ty "tuple")]) Q = Q (.sc (.bl false)) := (rfl)
theorem isi_non_bs {Q : Out → Prop} : okO (cIsi [.non, (.tup [.ty "bool", .ty "str"])]) Q = Q (.sc (.bl false)) := (rfl)
theorem isi_non_b {Q : Out → Prop} : okO (cIsi [.non, (.ty "bool")]) Q = Q (.sc (.bl false)) := (rfl)
theorem isi_non_s {Q : Out → Prop} : okO (cIsi [.non, (.ty "str")]) Q = Q (.sc (.bl false)) := (rfl)
theorem isi_non_i {Q : Out → Prop} : okO (cIsi [.non, (.ty "int")]) Q = Q (.sc (.bl false)) := (rfl)
theorem isn_non {Q : Out → Prop} : okO (isD false .non .non) Q = Q (.sc (.bl true)) := (rfl)
theorem isx_int {i : Int} {Q : Out → Prop} : okO (isD true (.int i) .non) Q = Q (.sc (.bl true)) := (rfl)
theorem isx_str {z : Str} {Q : Out → Prop} : okO (isD true (.str z) .non) Q = Q (.sc (.bl true)) := (rfl)
theorem isx_tup {ds : List D} {Q : Out → Prop} : okO (isD true (.tup ds) .non) Q = Q (.sc (.bl true)) := (rfl)
theorem isx_lst {ds : List D} {Q : Out → Prop} : okO (isD true (.lst ds) .non) Q = Q (.sc (.bl true)) := (rfl)
theorem isx_bl {b : Bool} {Q : Out → Prop} : okO (isD true (.bl b) .non) Q = Q (.sc (.bl true)) := (rfl)
theorem isx_non {Q : Out → Prop} : okO (isD true (.non) .non) Q = Q (.sc (.bl false)) := (rfl)
end Dv

set_option Elab.async false
set_option linter.all false
set_option maxHeartbeats 1000000
/-! Lv1: determinants: sums that are linear in each vector and 0 where two are the same. -/
namespace Lv
abbrev Vec := Nat → Int
def add (u v : Vec) : Vec := fun c => u c + v c
def smul (k : Int) (v : Vec) : Vec := fun c => k * v c
def unit (p : Nat) : Vec := fun c => if c = p then 1 else 0
/-- linear in each, 0 where neighbours are the same, of the first r numbers of each alone -/
structure Alt (r : Nat) (f : List Vec → Int) : Prop where
  add : ∀ A u v B, f (A ++ add u v :: B) = f (A ++ u :: B) + f (A ++ v :: B)
  smul : ∀ A k v B, f (A ++ smul k v :: B) = k * f (A ++ v :: B)
  same : ∀ A v B, f (A ++ v :: v :: B) = 0
  loc : ∀ A u v B, (∀ c, c < r → u c = v c) → f (A ++ u :: B) = f (A ++ v :: B)
structure Lin (r : Nat) (g : Vec → Int) : Prop where
  add : ∀ u v, g (add u v) = g u + g v
  smul : ∀ k v, g (smul k v) = k * g v
  loc : ∀ u v, (∀ c, c < r → u c = v c) → g u = g v
/-- one left out each time, with changing signs -/
def lap (f : List Vec → Int) (g : Vec → Int) : List Vec → List Vec → Int
  | _, [] => 0
  | pre, v :: post => g v * f (pre ++ post) - lap f g (pre ++ [v]) post
section
variable {r : Nat} {f : List Vec → Int} {g : Vec → Int}
theorem lap_app (pre : List Vec) : ∀ (A B : List Vec), lap f g pre (A ++ B) = lap (fun l => f (l ++ B)) g pre A + (if A.length % 2 = 0 then lap f g (pre ++ A) B else -lap f g (pre ++ A) B) := by
  intro A
  induction A generalizing pre with
  | nil => intro B; simp [lap]
  | cons v A ih =>
    intro B
    rw [List.cons_append, lap, lap, ih, List.length_cons]
    have e : pre ++ [v] ++ A = pre ++ v :: A := by simp
    rw [e, ← List.append_assoc]
    by_cases h : A.length % 2 = 0
    · rw [if_pos h, if_neg (by omega)]
      omega
    · rw [if_neg h, if_pos (by omega)]
      omega
theorem lap_congr {f' : List Vec → Int} (h : ∀ l, f l = f' l) : ∀ (pre A : List Vec), lap f g pre A = lap f' g pre A
  | pre, [] => rfl
  | pre, v :: A => by rw [lap, lap, h, lap_congr h]
/-- where the function is changed at a place further on -/
theorem lap_lin {f1 f2 : List Vec → Int} {a b : Int} : ∀ (pre A : List Vec), (∀ l, f l = a * f1 l + b * f2 l) → lap f g pre A = a * lap f1 g pre A + b * lap f2 g pre A
  | pre, [], h => by simp [lap]
  | pre, v :: A, h => by
    rw [lap, lap, lap, h, lap_lin (pre ++ [v]) A h, Int.mul_sub, Int.mul_sub, Int.mul_add]
    have e1 : g v * (a * f1 (pre ++ A)) = a * (g v * f1 (pre ++ A)) := by rw [Int.mul_left_comm]
    have e2 : g v * (b * f2 (pre ++ A)) = b * (g v * f2 (pre ++ A)) := by rw [Int.mul_left_comm]
    omega
/-- what stands before what is left out may be changed linearly -/
theorem lap_pre {P : List Vec} (F : Alt r f) (u v w : Vec) (a b : Int) (hw : ∀ A B, f (A ++ w :: B) = a * f (A ++ u :: B) + b * f (A ++ v :: B)) : ∀ (Q A : List Vec), lap f g (P ++ w :: Q) A = a * lap f g (P ++ u :: Q) A + b * lap f g (P ++ v :: Q) A
  | Q, [] => by simp [lap]
  | Q, x :: A => by
    rw [lap, lap, lap]
    have e : ∀ z : Vec, P ++ z :: Q ++ [x] = P ++ z :: (Q ++ [x]) := fun z => by simp
    have e2 : ∀ z : Vec, P ++ z :: Q ++ A = P ++ z :: (Q ++ A) := fun z => by simp
    rw [e, e, e, e2, e2, e2, lap_pre F u v w a b hw (Q ++ [x]) A, hw, Int.mul_sub, Int.mul_sub, Int.mul_add]
    have e1 : g x * (a * f (P ++ u :: (Q ++ A))) = a * (g x * f (P ++ u :: (Q ++ A))) := by rw [Int.mul_left_comm]
    have e2 : g x * (b * f (P ++ v :: (Q ++ A))) = b * (g x * f (P ++ v :: (Q ++ A))) := by rw [Int.mul_left_comm]
    omega
theorem lap_post (hw : Vec) (u v : Vec) (a b : Int) (F : Alt r f) (hf : ∀ A B, f (A ++ hw :: B) = a * f (A ++ u :: B) + b * f (A ++ v :: B)) (hg : g hw = a * g u + b * g v) : ∀ (A pre B : List Vec), lap f g pre (A ++ hw :: B) = a * lap f g pre (A ++ u :: B) + b * lap f g pre (A ++ v :: B)
  | [], pre, B => by
    rw [List.nil_append, List.nil_append, List.nil_append, lap, lap, lap, lap_pre F u v hw a b hf [] B, hg, Int.add_mul, Int.mul_sub, Int.mul_sub, Int.mul_assoc, Int.mul_assoc]
    omega
  | x :: A, pre, B => by
    rw [List.cons_append, List.cons_append, List.cons_append, lap, lap, lap, lap_post hw u v a b F hf hg A, Int.mul_sub, Int.mul_sub]
    have e : ∀ z : Vec, pre ++ (A ++ z :: B) = (pre ++ A) ++ z :: B := fun z => by simp
    rw [e, e, e, hf, Int.mul_add]
    have e1 : g x * (a * f (pre ++ A ++ u :: B)) = a * (g x * f (pre ++ A ++ u :: B)) := by rw [Int.mul_left_comm]
    have e2 : g x * (b * f (pre ++ A ++ v :: B)) = b * (g x * f (pre ++ A ++ v :: B)) := by rw [Int.mul_left_comm]
    omega
theorem lap_same_pre (F : Alt r f) (v : Vec) (P : List Vec) : ∀ (Q A : List Vec), lap f g (P ++ v :: v :: Q) A = 0
  | Q, [] => rfl
  | Q, x :: A => by
    rw [lap]
    have e : P ++ v :: v :: Q ++ [x] = P ++ v :: v :: (Q ++ [x]) := by simp
    have e2 : P ++ v :: v :: Q ++ A = P ++ v :: v :: (Q ++ A) := by simp
    rw [e, e2, lap_same_pre F v P (Q ++ [x]) A, F.same]
    simp
theorem lap_same (F : Alt r f) (v : Vec) : ∀ (A pre B : List Vec), lap f g pre (A ++ v :: v :: B) = 0
  | [], pre, B => by
    rw [List.nil_append, lap, lap]
    have e : pre ++ [v] ++ [v] = pre ++ v :: v :: [] := by simp
    have e2 : pre ++ [v] ++ B = pre ++ v :: B := by simp
    rw [e, lap_same_pre F v pre [] B, e2]
    omega
  | x :: A, pre, B => by
    rw [List.cons_append, lap, lap_same F v A]
    have e : pre ++ (A ++ v :: v :: B) = (pre ++ A) ++ v :: v :: B := by simp
    rw [e, F.same]
    simp
theorem lap_loc_pre (F : Alt r f) {u v : Vec} (h : ∀ c, c < r → u c = v c) (P : List Vec) : ∀ (Q A : List Vec), lap f g (P ++ u :: Q) A = lap f g (P ++ v :: Q) A
  | Q, [] => rfl
  | Q, x :: A => by
    rw [lap, lap]
    have e : ∀ z : Vec, P ++ z :: Q ++ [x] = P ++ z :: (Q ++ [x]) := fun z => by simp
    have e2 : ∀ z : Vec, P ++ z :: Q ++ A = P ++ z :: (Q ++ A) := fun z => by simp
    rw [e, e, e2, e2, lap_loc_pre F h P (Q ++ [x]) A, F.loc _ u v _ h]
theorem lap_loc (F : Alt r f) (G : Lin r g) {u v : Vec} (h : ∀ c, c < r → u c = v c) : ∀ (A pre B : List Vec), lap f g pre (A ++ u :: B) = lap f g pre (A ++ v :: B)
  | [], pre, B => by
    rw [List.nil_append, List.nil_append, lap, lap, lap_loc_pre F h pre [] B, G.loc u v h]
  | x :: A, pre, B => by
    rw [List.cons_append, List.cons_append, lap, lap, lap_loc F G h A]
    have e : ∀ z : Vec, pre ++ (A ++ z :: B) = (pre ++ A) ++ z :: B := fun z => by simp
    rw [e, e, F.loc _ u v _ h]
theorem lap_alt (F : Alt r f) (G : Lin r g) : Alt r (lap f g []) := by
  refine ⟨fun A u v B => ?_, fun A k v B => ?_, fun A v B => lap_same F v A [] B, fun A u v B h => lap_loc F G h A [] B⟩
  · have := lap_post (g := g) (add u v) u v 1 1 F (fun A B => by rw [F.add]; omega) (by rw [G.add]; omega) A [] B
    omega
  · have := lap_post (g := g) (smul k v) v v k 0 F (fun A B => by rw [F.smul]; omega) (by rw [G.smul]; omega) A [] B
    omega
end
/-- the determinant of vectors, by their numbers from k on -/
def det : Nat → Nat → List Vec → Int
  | 0, _ => fun l => if l = [] then 1 else 0
  | r + 1, k => lap (det r (k + 1)) (fun v => v k) []
theorem at_lin {r k : Nat} (h : k < r) : Lin r (fun v => v k) := ⟨fun _ _ => rfl, fun _ _ => rfl, fun _ _ e => e k h⟩
theorem det_alt {R : Nat} : ∀ (r k : Nat), k + r ≤ R → Alt R (det r k)
  | 0, k, _ => by
    have z : ∀ (A : List Vec) (u : Vec) (B : List Vec), det 0 k (A ++ u :: B) = 0 := fun A u B => if_neg (by simp)
    exact ⟨fun A u v B => by rw [z, z, z]; rfl, fun A a v B => by rw [z, z]; simp, fun A v B => z A v _, fun A u v B _ => by rw [z, z]⟩
  | r + 1, k, h => lap_alt (det_alt r (k + 1) (by omega)) (at_lin (by omega))
section
variable {r : Nat} {f : List Vec → Int} {g : Vec → Int}
/-! what holds of all such sums -/
theorem Alt.zero (F : Alt r f) (A B : List Vec) : f (A ++ (fun _ => 0) :: B) = 0 := by
  have := F.smul A 0 (fun _ => 0) B
  rw [Int.zero_mul] at this
  refine Eq.trans ?_ this
  exact congrArg (fun z => f (A ++ z :: B)) (funext fun c => (Int.zero_mul _).symm)
theorem Alt.swap (F : Alt r f) (A : List Vec) (u v : Vec) (B : List Vec) : f (A ++ u :: v :: B) = -f (A ++ v :: u :: B) := by
  have h := F.same A (Lv.add u v) B
  rw [F.add] at h
  have e : ∀ x y : Vec, A ++ x :: y :: B = (A ++ [x]) ++ y :: B := fun x y => by simp
  rw [e, F.add, e, F.add] at h
  rw [← e, ← e, ← e, ← e, F.same, F.same] at h
  omega
theorem Alt.move (F : Alt r f) (v : Vec) : ∀ (Q P B : List Vec), f (P ++ v :: (Q ++ B)) = (if Q.length % 2 = 0 then f (P ++ Q ++ v :: B) else -f (P ++ Q ++ v :: B))
  | [], P, B => by simp
  | x :: Q, P, B => by
    rw [List.cons_append, F.swap, List.length_cons]
    have e : P ++ x :: v :: (Q ++ B) = (P ++ [x]) ++ v :: (Q ++ B) := by simp
    rw [e, F.move v Q (P ++ [x]) B]
    have e2 : P ++ [x] ++ Q ++ v :: B = P ++ x :: Q ++ v :: B := by simp
    rw [e2]
    by_cases h : Q.length % 2 = 0
    · rw [if_pos h, if_neg (by omega)]
    · rw [if_neg h, if_pos (by omega)]
      omega
theorem Alt.twice (F : Alt r f) (v : Vec) (A Q B : List Vec) : f (A ++ v :: (Q ++ v :: B)) = 0 := by
  have h := F.move v Q A (v :: B)
  have e : A ++ Q ++ v :: v :: B = (A ++ Q) ++ v :: v :: B := rfl
  rw [e, F.same] at h
  rw [h]
  split <;> simp
/-- the sum of unit vectors that a vector is, up to place n -/
def upto (v : Vec) : Nat → Vec
  | 0 => fun _ => 0
  | n + 1 => add (smul (v n) (unit n)) (upto v n)
theorem upto_at (v : Vec) : ∀ (n c : Nat), upto v n c = if c < n then v c else 0
  | 0, c => by simp [upto]
  | n + 1, c => by
    show v n * (if c = n then 1 else 0) + upto v n c = _
    rw [upto_at v n c]
    by_cases h : c = n
    · subst h
      rw [if_pos rfl, if_neg (by omega), if_pos (by omega)]
      omega
    · rw [if_neg h]
      by_cases h2 : c < n
      · rw [if_pos h2, if_pos (by omega)]; omega
      · rw [if_neg h2, if_neg (by omega)]; omega
theorem Alt.upto (F : Alt r f) (v : Vec) (A B : List Vec) (h : ∀ p, p < r → f (A ++ unit p :: B) = 0) : ∀ n, n ≤ r → f (A ++ Lv.upto v n :: B) = 0
  | 0, _ => F.zero A B
  | n + 1, hn => by
    show f (A ++ Lv.add (Lv.smul (v n) (unit n)) (Lv.upto v n) :: B) = 0
    rw [F.add, F.smul, h n (by omega), F.upto v A B h n (by omega)]
    simp
theorem Alt.units (F : Alt r f) (v : Vec) (A B : List Vec) (h : ∀ p, p < r → f (A ++ unit p :: B) = 0) : f (A ++ v :: B) = 0 := by
  rw [F.loc A v (Lv.upto v r) B fun c hc => by rw [upto_at, if_pos hc]]
  exact F.upto v A B h r (Nat.le_refl _)
theorem dup_split : ∀ {ps : List Nat}, ¬ ps.Nodup → ∃ p A Q B, ps = A ++ p :: (Q ++ p :: B)
  | [], h => absurd List.nodup_nil h
  | p :: r, h => by
    by_cases hp : p ∈ r
    · obtain ⟨Q, B, e⟩ := List.append_of_mem hp
      exact ⟨p, [], Q, B, by rw [e]; rfl⟩
    · obtain ⟨q, A, Q, B, e⟩ := dup_split (ps := r) fun hr => h (List.nodup_cons.mpr ⟨hp, hr⟩)
      exact ⟨q, p :: A, Q, B, by rw [e]; rfl⟩
theorem nodup_le : ∀ (n : Nat) (ps : List Nat), ps.Nodup → (∀ p, p ∈ ps → p < n) → ps.length ≤ n
  | 0, ps, _, h => by
    cases ps with
    | nil => exact Nat.le_refl _
    | cons p r => exact absurd (h p (.head _)) (by omega)
  | n + 1, ps, hd, h => by
    have h1 := nodup_le n (ps.filter fun p => decide (p ≠ n)) (List.Pairwise.filter _ hd) fun p hp => by
      obtain ⟨a, b⟩ := List.mem_filter.mp hp
      have := h p a
      have := of_decide_eq_true b
      omega
    have h2 : ps.length ≤ (ps.filter fun p => decide (p ≠ n)).length + 1 := by
      clear h h1
      induction ps with
      | nil => simp
      | cons p r ih =>
        rw [List.nodup_cons] at hd
        rw [List.filter_cons, List.length_cons]
        by_cases e : p = n
        · subst e
          rw [if_neg (by simp)]
          have : r.filter (fun q => decide (q ≠ p)) = r := List.filter_eq_self.mpr fun q hq => decide_eq_true fun e => hd.1 (e ▸ hq)
          rw [this]
          exact Nat.le_refl _
        · rw [if_pos (decide_eq_true e), List.length_cons]
          have := ih hd.2
          omega
    omega
/-- more vectors than places: 0 -/
theorem Alt.vanish (F : Alt r f) : ∀ (B : List Vec) (ps : List Nat), (∀ p, p ∈ ps → p < r) → r < ps.length + B.length → f (ps.map unit ++ B) = 0
  | [], ps, hp, hl => by
    rw [List.append_nil]
    have hd : ¬ ps.Nodup := fun h => by
      have := nodup_le r ps h hp
      simp at hl
      omega
    obtain ⟨p, A, Q, B, e⟩ := dup_split hd
    rw [e, List.map_append, List.map_cons, List.map_append, List.map_cons]
    exact F.twice _ _ _ _
  | v :: B, ps, hp, hl => F.units v (ps.map unit) B fun p hq => by
    have := F.vanish B (ps ++ [p]) (fun x hx => by
      rcases List.mem_append.mp hx with h | h
      · exact hp x h
      · obtain rfl : x = p := by simpa using h
        exact hq) (by simp at hl ⊢; omega)
    rw [List.map_append, List.append_assoc] at this
    exact this
/-- one vector put in the place of each, by turns -/
def put (f : List Vec → Int) (g : Vec → Int) (v : Vec) : List Vec → List Vec → Int
  | _, [] => 0
  | pre, x :: Q => g x * f (pre ++ v :: Q) + put f g v (pre ++ [x]) Q
theorem lap_put (F : Alt r f) (v : Vec) : ∀ (B pre : List Vec), lap f g (v :: pre) B = if pre.length % 2 = 0 then put f g v pre B else -put f g v pre B
  | [], pre => by simp [lap, put]
  | x :: Q, pre => by
    rw [lap, put]
    have e : v :: pre ++ [x] = v :: (pre ++ [x]) := rfl
    have m := F.move v pre [] Q
    rw [e, lap_put F v Q (pre ++ [x]), show v :: pre ++ Q = [] ++ v :: (pre ++ Q) from rfl, m, List.length_append, List.length_singleton, List.nil_append]
    by_cases h : pre.length % 2 = 0
    · rw [if_pos h, if_neg (by omega), if_pos h]; omega
    · rw [if_neg h, if_pos (by omega), if_neg h, Int.mul_neg]; omega
/-- Cramer's: of as many vectors as places -/
theorem cramer (F : Alt r f) (G : Lin r g) (v : Vec) (B : List Vec) (h : r ≤ B.length) : g v * f B = put f g v [] B := by
  have h0 := (lap_alt F G).vanish (v :: B) [] (fun _ h => by cases h) (by simp; omega)
  have h1 : lap f g [] (v :: B) = g v * f B - lap f g [v] B := rfl
  have h2 := lap_put (g := g) F v B []
  rw [if_pos (show ([] : List Vec).length % 2 = 0 from rfl)] at h2
  rw [List.map_nil, List.nil_append, h1, h2] at h0
  omega
end
end Lv

set_option Elab.async false
set_option linter.all false
set_option maxHeartbeats 1000000
/-! Lv2: tables by determinants. -/
namespace Lv
/-! sums -/
def sm : Nat → (Nat → Int) → Int
  | 0, _ => 0
  | n + 1, F => sm n F + F n
theorem sm_congr {F G : Nat → Int} : ∀ {n : Nat}, (∀ i, i < n → F i = G i) → sm n F = sm n G
  | 0, _ => rfl
  | n + 1, h => by
    show sm n F + F n = sm n G + G n
    rw [sm_congr fun i hi => h i (by omega), h n (by omega)]
theorem sm_zero {F : Nat → Int} : ∀ {n : Nat}, (∀ i, i < n → F i = 0) → sm n F = 0
  | 0, _ => rfl
  | n + 1, h => by
    show sm n F + F n = 0
    rw [sm_zero fun i hi => h i (by omega), h n (by omega)]
    rfl
theorem sm_add {F G : Nat → Int} : ∀ {n : Nat}, sm n (fun i => F i + G i) = sm n F + sm n G
  | 0 => rfl
  | n + 1 => by
    show sm n _ + (F n + G n) = (sm n F + F n) + (sm n G + G n)
    rw [sm_add]
    omega
theorem sm_mul {F : Nat → Int} {k : Int} : ∀ {n : Nat}, sm n (fun i => k * F i) = k * sm n F
  | 0 => by simp [sm]
  | n + 1 => by
    show sm n _ + k * F n = k * (sm n F + F n)
    rw [sm_mul, Int.mul_add]
theorem sm_first {F : Nat → Int} : ∀ {n : Nat}, sm (n + 1) F = F 0 + sm n (fun i => F (i + 1))
  | 0 => by simp [sm]
  | n + 1 => by
    show sm (n + 1) F + F (n + 1) = F 0 + (sm n (fun i => F (i + 1)) + F (n + 1))
    rw [sm_first]
    omega
theorem sm_one {F : Nat → Int} {a : Nat} : ∀ {n : Nat}, a < n → (∀ i, i < n → i ≠ a → F i = 0) → sm n F = F a
  | n + 1, ha, h => by
    show sm n F + F n = F a
    by_cases e : a = n
    · subst e
      rw [sm_zero fun i hi => h i (by omega) (by omega)]
      omega
    · rw [sm_one (a := a) (by omega) fun i hi hn => h i (by omega) hn, h n (by omega) (fun q => e q.symm)]
      omega
theorem sm_two {F : Nat → Int} {a b : Nat} (hab : a ≠ b) : ∀ {n : Nat}, a < n → b < n → (∀ i, i < n → i ≠ a → i ≠ b → F i = 0) → sm n F = F a + F b
  | n + 1, ha, hb, h => by
    show sm n F + F n = _
    by_cases e : a = n
    · subst e
      rw [sm_one (a := b) (by omega) fun i hi hn => h i (by omega) (by omega) hn]
      omega
    · by_cases e2 : b = n
      · subst e2
        rw [sm_one (a := a) (by omega) fun i hi hn => h i (by omega) hn (by omega)]
      · rw [sm_two hab (by omega) (by omega) fun i hi h1 h2 => h i (by omega) h1 h2, h n (by omega) (fun q => e q.symm) (fun q => e2 q.symm)]
        omega
theorem sm_pos {F : Nat → Int} : ∀ {n : Nat}, 0 < sm n F → ∃ i, i < n ∧ 0 < F i
  | 0, h => absurd h (by simp [sm])
  | n + 1, h => by
    have h : 0 < sm n F + F n := h
    by_cases e : 0 < F n
    · exact ⟨n, by omega, e⟩
    · obtain ⟨i, hi, q⟩ := sm_pos (F := F) (n := n) (by omega)
      exact ⟨i, by omega, q⟩
theorem sm_nonneg {F : Nat → Int} : ∀ {n : Nat}, (∀ i, i < n → 0 ≤ F i) → 0 ≤ sm n F
  | 0, _ => Int.le_refl _
  | n + 1, h => by
    show 0 ≤ sm n F + F n
    have := sm_nonneg (F := F) (n := n) fun i hi => h i (by omega)
    have := h n (by omega)
    omega
theorem sm_all0 {F : Nat → Int} : ∀ {n : Nat}, (∀ i, i < n → 0 ≤ F i) → sm n F = 0 → ∀ i, i < n → F i = 0
  | 0, _, _, i, hi => by omega
  | n + 1, h, e, i, hi => by
    have e : sm n F + F n = 0 := e
    have h1 := sm_nonneg (F := F) (n := n) fun i hi => h i (by omega)
    have h2 := h n (by omega)
    by_cases q : i = n
    · subst q; omega
    · exact sm_all0 (n := n) (fun i hi => h i (by omega)) (by omega) i (by omega)
theorem sm_swap {F : Nat → Nat → Int} {m : Nat} : ∀ {n : Nat}, sm n (fun i => sm m (fun j => F i j)) = sm m (fun j => sm n (fun i => F i j))
  | 0 => by
    show 0 = sm m fun j => 0
    rw [sm_zero fun i _ => rfl]
  | n + 1 => by
    show sm n (fun i => sm m (fun j => F i j)) + sm m (fun j => F n j) = sm m (fun j => sm n (fun i => F i j) + F n j)
    rw [sm_add, sm_swap]
/-! vectors by their places -/
section
variable {r : Nat} {f : List Vec → Int} {g : Vec → Int}
def z0 : Vec := fun _ => 0
theorem put_sm (v : Vec) : ∀ (Q pre : List Vec), put f g v pre Q = sm Q.length fun i => g (Q.getD i z0) * f (pre ++ Q.set i v)
  | [], pre => rfl
  | x :: Q, pre => by
    rw [put, List.length_cons, sm_first, put_sm v Q (pre ++ [x])]
    congr 1
    refine sm_congr fun i _ => ?_
    have e : pre ++ [x] ++ Q.set i v = pre ++ (x :: Q).set (i + 1) v := by simp
    rw [e]
    rfl
theorem set_split {v : Vec} : ∀ {l : List Vec} {a : Nat}, a < l.length → ∃ A B, A.length = a ∧ ∀ x, l.set a x = A ++ x :: B
  | x :: l, 0, _ => ⟨[], l, rfl, fun _ => rfl⟩
  | x :: l, a + 1, h => by
    obtain ⟨A, B, e1, e2⟩ := set_split (v := v) (l := l) (a := a) (by simp at h; omega)
    exact ⟨x :: A, B, by rw [List.length_cons, e1], fun y => by rw [List.set_cons_succ, e2]; rfl⟩
theorem Alt.setAdd (F : Alt r f) {l : List Vec} {a : Nat} (h : a < l.length) (u v : Vec) : f (l.set a (Lv.add u v)) = f (l.set a u) + f (l.set a v) := by
  obtain ⟨A, B, _, e⟩ := set_split (v := u) h
  rw [e, e, e, F.add]
theorem Alt.setSmul (F : Alt r f) {l : List Vec} {a : Nat} (h : a < l.length) (k : Int) (v : Vec) : f (l.set a (Lv.smul k v)) = k * f (l.set a v) := by
  obtain ⟨A, B, _, e⟩ := set_split (v := v) h
  rw [e, e, F.smul]
theorem Alt.setLoc (F : Alt r f) {l : List Vec} {a : Nat} (h : a < l.length) {u v : Vec} (e : ∀ c, c < r → u c = v c) : f (l.set a u) = f (l.set a v) := by
  obtain ⟨A, B, _, q⟩ := set_split (v := v) h
  rw [q, q, F.loc _ u v _ e]
theorem Alt.setLin (F : Alt r f) {l : List Vec} {a : Nat} (h : a < l.length) : Lin r fun x => f (l.set a x) := ⟨fun u v => F.setAdd h u v, fun k v => F.setSmul h k v, fun u v e => F.setLoc h e⟩
theorem two_split {v : Vec} : ∀ {l : List Vec} {a b : Nat}, a < b → l[a]? = some v → l[b]? = some v → ∃ A Q B, l = A ++ v :: (Q ++ v :: B)
  | x :: l, 0, b + 1, _, h1, h2 => by
    rw [List.getElem?_cons_zero] at h1
    rw [List.getElem?_cons_succ] at h2
    cases h1
    obtain ⟨Q, B, e⟩ := List.append_of_mem (List.mem_of_getElem? h2)
    exact ⟨[], Q, B, by rw [e]; rfl⟩
  | x :: l, a + 1, b + 1, h, h1, h2 => by
    rw [List.getElem?_cons_succ] at h1 h2
    obtain ⟨A, Q, B, e⟩ := two_split (by omega) h1 h2
    exact ⟨x :: A, Q, B, by rw [e]; rfl⟩
theorem Alt.at2 (F : Alt r f) {l : List Vec} {a b : Nat} {v : Vec} (h : a ≠ b) (h1 : l[a]? = some v) (h2 : l[b]? = some v) : f l = 0 := by
  have key : ∀ {a b : Nat}, a < b → l[a]? = some v → l[b]? = some v → f l = 0 := fun h h1 h2 => by
    obtain ⟨A, Q, B, e⟩ := two_split h h1 h2
    rw [e]
    exact F.twice v A Q B
  rcases Nat.lt_or_gt_of_ne h with h | h
  · exact key h h1 h2
  · exact key h h2 h1
theorem Alt.setSwap (F : Alt r f) {l : List Vec} {a b : Nat} (hab : a ≠ b) (ha : a < l.length) (hb : b < l.length) (x y : Vec) : f ((l.set a x).set b y) = -f ((l.set a y).set b x) := by
  have same : ∀ z : Vec, f ((l.set a z).set b z) = 0 := fun z => F.at2 hab (v := z) (by rw [List.getElem?_set_ne (Ne.symm hab), List.getElem?_set_self ha]) (by rw [List.getElem?_set_self (by rw [List.length_set]; exact hb)])
  have h := same (Lv.add x y)
  have hb' : ∀ z : Vec, b < (l.set a z).length := fun z => by rw [List.length_set]; exact hb
  rw [F.setAdd (hb' _), List.set_comm _ _ hab, List.set_comm _ _ hab, F.setAdd (by rw [List.length_set]; exact ha), F.setAdd (by rw [List.length_set]; exact ha), ← List.set_comm _ _ hab, ← List.set_comm _ _ hab, ← List.set_comm _ _ hab, ← List.set_comm _ _ hab, same, same] at h
  omega
end
/-! unit vectors -/
def units : Nat → Nat → List Vec
  | _, 0 => []
  | k, r + 1 => unit k :: units (k + 1) r
theorem units_len : ∀ (r k : Nat), (units k r).length = r
  | 0, _ => rfl
  | r + 1, k => by rw [units, List.length_cons, units_len]
theorem units_get : ∀ (r k i : Nat), i < r → (units k r).getD i z0 = unit (k + i)
  | r + 1, k, 0, _ => rfl
  | r + 1, k, i + 1, h => by
    rw [units, List.getD_cons_succ, units_get r (k + 1) i (by omega)]
    congr 1
    omega
theorem lap_none {f : List Vec → Int} {g : Vec → Int} : ∀ (post pre : List Vec), (∀ x, x ∈ post → g x = 0) → lap f g pre post = 0
  | [], pre, _ => rfl
  | x :: Q, pre, h => by
    rw [lap, h x (.head _), lap_none Q _ fun y hy => h y (.tail _ hy)]
    simp
theorem units_low : ∀ (r k c : Nat), c < k → ∀ x, x ∈ units k r → x c = 0
  | 0, _, _, _, _, hx => by cases hx
  | r + 1, k, c, h, x, hx => by
    rcases List.mem_cons.mp hx with rfl | hx
    · exact if_neg (by omega)
    · exact units_low r (k + 1) c (by omega) x hx
theorem det_units : ∀ (r k : Nat), det r k (units k r) = 1
  | 0, _ => rfl
  | r + 1, k => by
    show lap (det r (k + 1)) (fun v => v k) [] (unit k :: units (k + 1) r) = 1
    rw [lap, lap_none _ _ (units_low r (k + 1) k (by omega)), List.nil_append, det_units r (k + 1)]
    simp [unit]
theorem det_alt0 (r : Nat) : Alt r (det r 0) := det_alt r 0 (by omega)
theorem det_unit_set (r i : Nat) (hi : i < r) (v : Vec) : det r 0 ((units 0 r).set i v) = v i := by
  have h := cramer (det_alt0 r) (at_lin hi) v (units 0 r) (by rw [units_len]; exact Nat.le_refl _)
  rw [det_units, put_sm, units_len, sm_one hi fun j hj hn => by
    rw [units_get r 0 j hj]
    simp only [unit]
    rw [if_neg (by omega), Int.zero_mul]] at h
  rw [units_get r 0 i hi] at h
  simp only [unit, List.nil_append] at h
  rw [if_pos (by omega)] at h
  omega
/-! tables -/
section
variable (col : Nat → Vec) (R : Nat)
def Bv (β : List Nat) : List Vec := β.map col ++ [unit R]
def dd (β : List Nat) : Int := det (R + 1) 0 (Bv col R β)
def TT (β : List Nat) (i j : Nat) : Int := det (R + 1) 0 ((Bv col R β).set i (col j))
variable {col R} {β : List Nat}
theorem Bv_len (h : β.length = R) : (Bv col R β).length = R + 1 := by
  unfold Bv
  rw [List.length_append, List.length_map, h]
  rfl
theorem Bv_set (h : β.length = R) {p c : Nat} (hp : p < R) : Bv col R (β.set p c) = (Bv col R β).set p (col c) := by
  unfold Bv
  rw [List.map_set, List.set_append_left _ _ (by rw [List.length_map]; omega)]
theorem Bv_get (h : β.length = R) {i : Nat} (hi : i < R) : (Bv col R β)[i]? = some (col (β.getD i 0)) := by
  unfold Bv
  rw [List.getElem?_append_left (by rw [List.length_map]; omega), List.getElem?_map, List.getD_eq_getElem?_getD, List.getElem?_eq_getElem (by omega)]
  rfl
theorem Bv_last (h : β.length = R) : (Bv col R β)[R]? = some (unit R) := by
  unfold Bv
  rw [List.getElem?_append_right (by rw [List.length_map]; omega), List.length_map, h, Nat.sub_self]
  rfl
theorem dd_set (h : β.length = R) {p c : Nat} (hp : p < R) : dd col R (β.set p c) = TT col R β p c := by
  unfold dd TT
  rw [Bv_set h hp]
theorem TT_same (h : β.length = R) {p c j : Nat} (hp : p < R) : TT col R (β.set p c) p j = TT col R β p j := by
  unfold TT
  rw [Bv_set h hp, List.set_set]
theorem getD_of {l : List Vec} {i : Nat} {v : Vec} (h : l[i]? = some v) : l.getD i z0 = v := by
  rw [List.getD_eq_getElem?_getD, h]
  rfl
theorem set_self {l : List Vec} {i : Nat} {v : Vec} (h : l[i]? = some v) : l.set i v = l := by
  apply List.ext_getElem?
  intro n
  by_cases e : i = n
  · subst e
    rw [List.getElem?_set_self (List.getElem?_eq_some_iff.mp h).1, h]
  · rw [List.getElem?_set_ne e]
/-- Cramer's for a table -/
theorem TT_lin (h : β.length = R) {g : Vec → Int} (G : Lin (R + 1) g) (j : Nat) : g (col j) * dd col R β = sm R (fun i => g (col (β.getD i 0)) * TT col R β i j) + g (unit R) * TT col R β R j := by
  have q := cramer (det_alt0 (R + 1)) G (col j) (Bv col R β) (by rw [Bv_len h]; exact Nat.le_refl _)
  rw [put_sm, Bv_len h] at q
  unfold dd
  rw [q]
  show sm R _ + _ = _
  congr 1
  · refine sm_congr fun i hi => ?_
    rw [getD_of (Bv_get h hi), List.nil_append]
    rfl
  · show g ((Bv col R β).getD R z0) * det (R + 1) 0 ([] ++ (Bv col R β).set R (col j)) = _
    rw [getD_of (Bv_last h), List.nil_append]
    rfl
/-- a step of the table -/
theorem TT_step (h : β.length = R) {p c i j : Nat} (hp : p < R) (hi : i ≤ R) (hn : i ≠ p) : dd col R β * TT col R (β.set p c) i j = TT col R β i j * TT col R β p c - TT col R β i c * TT col R β p j := by
  have F := det_alt0 (R + 1)
  have hl := Bv_len (col := col) h
  have hpl : p < (Bv col R β).length := by omega
  have hil : i < ((Bv col R β).set p (col c)).length := by rw [List.length_set]; omega
  have q := cramer F (F.setLin (l := (Bv col R β).set p (col c)) hil) (col j) (Bv col R β) (by omega)
  rw [put_sm, hl, sm_two hn (by omega) (by omega) fun k hk h1 h2 => by
    have hk2 : ∃ v, (Bv col R β)[k]? = some v := ⟨_, List.getElem?_eq_getElem (by omega)⟩
    obtain ⟨v, ev⟩ := hk2
    rw [getD_of ev]
    have := F.at2 (l := ((Bv col R β).set p (col c)).set i v) (a := k) (b := i) (v := v) h1 (by rw [List.getElem?_set_ne (Ne.symm h1), List.getElem?_set_ne (Ne.symm h2), ev]) (by rw [List.getElem?_set_self hil])
    rw [this, Int.zero_mul]] at q
  have hv : ∃ v, (Bv col R β)[i]? = some v := ⟨_, List.getElem?_eq_getElem (by omega)⟩
  have hw : ∃ w, (Bv col R β)[p]? = some w := ⟨_, List.getElem?_eq_getElem (by omega)⟩
  obtain ⟨v, ev⟩ := hv
  obtain ⟨w, ew⟩ := hw
  rw [getD_of ev, getD_of ew, List.nil_append, List.nil_append] at q
  have e1 : det (R + 1) 0 (((Bv col R β).set p (col c)).set i v) = det (R + 1) 0 ((Bv col R β).set p (col c)) := by rw [set_self (l := (Bv col R β).set p (col c)) (i := i) (by rw [List.getElem?_set_ne (Ne.symm hn), ev])]
  have e2 : det (R + 1) 0 (((Bv col R β).set p (col c)).set i w) = -det (R + 1) 0 ((Bv col R β).set i (col c)) := by rw [F.setSwap (Ne.symm hn) hpl (by omega), set_self ew]
  rw [e1, e2, Int.neg_mul] at q
  unfold dd TT
  rw [Bv_set h hp, Int.mul_comm, q, Int.mul_comm (det (R + 1) 0 ((Bv col R β).set p (col c)))]
  omega
theorem TT_basic (h : β.length = R) {i k : Nat} (hi : i ≤ R) (hk : k < R) : TT col R β i (β.getD k 0) = if i = k then dd col R β else 0 := by
  unfold TT dd
  by_cases e : i = k
  · subst e
    rw [if_pos rfl, set_self (Bv_get h hk)]
  · rw [if_neg e]
    exact (det_alt0 (R + 1)).at2 e (v := col (β.getD k 0)) (by rw [List.getElem?_set_self (by rw [Bv_len h]; omega)]) (by rw [List.getElem?_set_ne e, Bv_get h hk])
end
end Lv

set_option Elab.async false
set_option linter.all false
set_option maxHeartbeats 1000000
/-! Lv3: the least column in, the least out (Bland): no basis comes back. -/
namespace Lv
section
variable (col : Nat → Vec) (R N : Nat)
structure Ok (β : List Nat) : Prop where
  len : β.length = R
  lt : ∀ j, j ∈ β → j < N
  pos : 0 < dd col R β
  rhs : ∀ i, i < R → 0 ≤ TT col R β i N
structure Piv (β : List Nat) (c p : Nat) : Prop where
  clt : c < N
  neg : TT col R β R c < 0
  low : ∀ j, j < c → 0 ≤ TT col R β R j
  plt : p < R
  up : 0 < TT col R β p c
  least : ∀ i, i < R → 0 < TT col R β i c → TT col R β p N * TT col R β i c ≤ TT col R β i N * TT col R β p c
  tie : ∀ i, i < R → 0 < TT col R β i c → TT col R β p N * TT col R β i c = TT col R β i N * TT col R β p c → β.getD p 0 ≤ β.getD i 0
variable {col R N} {β : List Nat} {c p : Nat}
theorem mem_get {x : Nat} {l : List Nat} : x ∈ l ↔ ∃ i, i < l.length ∧ l.getD i 0 = x := by
  constructor
  · intro h
    obtain ⟨i, hi, e⟩ := List.getElem_of_mem h
    exact ⟨i, hi, by rw [List.getD_eq_getElem?_getD, List.getElem?_eq_getElem hi]; exact e⟩
  · rintro ⟨i, hi, e⟩
    rw [List.getD_eq_getElem?_getD, List.getElem?_eq_getElem hi] at e
    exact e ▸ List.getElem_mem hi
theorem set_getD {l : List Nat} {p c i : Nat} (hp : p < l.length) : (l.set p c).getD i 0 = if i = p then c else l.getD i 0 := by
  rw [List.getD_eq_getElem?_getD, List.getD_eq_getElem?_getD]
  by_cases e : i = p
  · subst e
    rw [if_pos rfl, List.getElem?_set_self hp]
    rfl
  · rw [if_neg e, List.getElem?_set_ne (Ne.symm e)]
/-- what is basic has nothing in the last row -/
theorem basic_zero (O : Ok col R N β) {x : Nat} (h : x ∈ β) : TT col R β R x = 0 := by
  obtain ⟨k, hk, rfl⟩ := mem_get.mp h
  have hl := O.len
  rw [TT_basic O.len (Nat.le_refl _) (by omega), if_neg (by omega)]
theorem in_fresh (O : Ok col R N β) (P : Piv col R N β c p) : c ∉ β := fun h => by
  have := P.neg
  rw [basic_zero O h] at this
  omega
theorem get_inj (O : Ok col R N β) {i k : Nat} (hi : i < R) (hk : k < R) (e : β.getD i 0 = β.getD k 0) : i = k := by
  have h1 := TT_basic (col := col) O.len (i := i) (k := k) (by omega) hk
  have h2 := TT_basic (col := col) O.len (i := i) (k := i) (by omega) hi
  rw [if_pos rfl, e, h1] at h2
  have := O.pos
  by_cases q : i = k
  · exact q
  · rw [if_neg q] at h2
    omega
theorem ok_next (O : Ok col R N β) (P : Piv col R N β c p) : Ok col R N (β.set p c) := by
  have hl := O.len
  have hp := P.plt
  have hup := P.up
  have hd := O.pos
  refine ⟨by rw [List.length_set, hl], fun j hj => ?_, by rw [dd_set hl hp]; exact hup, fun i hi => ?_⟩
  · obtain ⟨k, hk, rfl⟩ := mem_get.mp hj
    rw [List.length_set] at hk
    rw [set_getD (by omega)]
    by_cases e : k = p
    · rw [if_pos e]; exact P.clt
    · rw [if_neg e]; exact O.lt _ (mem_get.mpr ⟨k, hk, rfl⟩)
  · by_cases e : i = p
    · subst e
      rw [TT_same hl hp]
      exact O.rhs i hi
    · have h := TT_step (col := col) hl (c := c) (j := N) hp (Nat.le_of_lt hi) e
      have h1 := O.rhs i hi
      have h2 := O.rhs p hp
      have key : 0 ≤ dd col R β * TT col R (β.set p c) i N := by
        rw [h]
        by_cases q : 0 < TT col R β i c
        · have := P.least i hi q
          rw [Int.mul_comm (TT col R β i c)]
          omega
        · have e1 : 0 ≤ TT col R β i N * TT col R β p c := Int.mul_nonneg h1 (by omega)
          have e2 : TT col R β i c * TT col R β p N ≤ 0 := Int.mul_nonpos_of_nonpos_of_nonneg (by omega) h2
          omega
      rcases Int.lt_or_le (TT col R (β.set p c) i N) 0 with q | q
      · have := Int.mul_neg_of_pos_of_neg hd q
        omega
      · exact q
theorem obj_next (O : Ok col R N β) (P : Piv col R N β c p) : TT col R β R N * dd col R (β.set p c) ≤ TT col R (β.set p c) R N * dd col R β ∧ (TT col R β R N * dd col R (β.set p c) = TT col R (β.set p c) R N * dd col R β → TT col R β p N = 0) := by
  have hl := O.len
  have hp := P.plt
  have h := TT_step (col := col) hl (c := c) (j := N) hp (Nat.le_refl R) (by omega)
  have h1 : 0 ≤ -TT col R β R c * TT col R β p N := Int.mul_nonneg (by have := P.neg; omega) (O.rhs p hp)
  rw [Int.neg_mul] at h1
  rw [dd_set hl hp, Int.mul_comm (TT col R (β.set p c) R N), h]
  refine ⟨by omega, fun e => ?_⟩
  have : TT col R β R c * TT col R β p N = 0 := by omega
  rcases Int.mul_eq_zero.mp this with q | q
  · have := P.neg
    omega
  · exact q
/-- zero, or not in the basis -/
def zr (col : Nat → Vec) (R N : Nat) (β : List Nat) (j : Nat) : Prop := ∀ i, i < R → β.getD i 0 = j → TT col R β i N = 0
theorem zr_next (O : Ok col R N β) (P : Piv col R N β c p) (z : TT col R β p N = 0) (j : Nat) : zr col R N (β.set p c) j ↔ zr col R N β j := by
  have hl := O.len
  have hp := P.plt
  have hd := O.pos
  have hu := P.up
  constructor
  · intro h i hi e
    by_cases q : i = p
    · rw [q]; exact z
    · have h1 := h i hi (by rw [set_getD (by omega), if_neg q]; exact e)
      have h2 := TT_step (col := col) hl (c := c) (j := N) hp (Nat.le_of_lt hi) q
      rw [h1, z, Int.mul_zero, Int.mul_zero] at h2
      have h3 : TT col R β i N * TT col R β p c = 0 := by omega
      rcases Int.mul_eq_zero.mp h3 with q | q
      · exact q
      · omega
  · intro h i hi e
    rw [set_getD (by omega)] at e
    by_cases q : i = p
    · rw [q, TT_same hl hp]; exact z
    · rw [if_neg q] at e
      have h1 := h i hi e
      have h2 := TT_step (col := col) hl (c := c) (j := N) hp (Nat.le_of_lt hi) q
      rw [h1, z, Int.mul_zero, Int.zero_mul] at h2
      rcases Int.mul_eq_zero.mp (show dd col R β * TT col R (β.set p c) i N = 0 by omega) with q | q
      · omega
      · exact q
theorem fle_trans {a b c d e f : Int} (hb : 0 < b) (hd : 0 < d) (hf : 0 < f) (h1 : a * d ≤ c * b) (h2 : c * f ≤ e * d) : a * f ≤ e * b := by
  have k1 : a * d * f ≤ c * b * f := Int.mul_le_mul_of_nonneg_right h1 (Int.le_of_lt hf)
  have k2 : c * f * b ≤ e * d * b := Int.mul_le_mul_of_nonneg_right h2 (Int.le_of_lt hb)
  have e1 : c * b * f = c * f * b := by rw [Int.mul_assoc, Int.mul_assoc, Int.mul_comm b]
  have e2 : a * d * f = a * f * d := by rw [Int.mul_assoc, Int.mul_assoc, Int.mul_comm d]
  have e3 : e * d * b = e * b * d := by rw [Int.mul_assoc, Int.mul_assoc, Int.mul_comm d]
  exact Int.le_of_mul_le_mul_right (by omega : a * f * d ≤ e * b * d) hd
/-! a row of steps -/
structure Run (col : Nat → Vec) (R N : Nat) (b : Nat → List Nat) (c p : Nat → Nat) (n : Nat) : Prop where
  ok0 : Ok col R N (b 0)
  piv : ∀ k, k < n → Piv col R N (b k) (c k) (p k)
  next : ∀ k, k < n → b (k + 1) = (b k).set (p k) (c k)
variable {b : Nat → List Nat} {cs ps : Nat → Nat} {n : Nat}
theorem Run.ok (U : Run col R N b cs ps n) : ∀ k, k ≤ n → Ok col R N (b k)
  | 0, _ => U.ok0
  | k + 1, h => by
    rw [U.next k (by omega)]
    exact ok_next (U.ok k (by omega)) (U.piv k (by omega))
def ob (col : Nat → Vec) (R N : Nat) (β : List Nat) : Int := TT col R β R N
theorem Run.mono (U : Run col R N b cs ps n) (i : Nat) : ∀ j, i ≤ j → j ≤ n → ob col R N (b i) * dd col R (b j) ≤ ob col R N (b j) * dd col R (b i) := by
  intro j
  induction j with
  | zero =>
    intro h _
    obtain rfl : i = 0 := by omega
    exact Int.le_refl _
  | succ j ih =>
    intro h hn
    by_cases e : i = j + 1
    · subst e
      exact Int.le_refl _
    · have h1 := ih (by omega) (by omega)
      have h2 := (obj_next (U.ok j (by omega)) (U.piv j (by omega))).1
      rw [← U.next j (by omega)] at h2
      exact fle_trans (U.ok i (by omega)).pos (U.ok j (by omega)).pos (U.ok (j + 1) hn).pos h1 h2
theorem Run.flat (U : Run col R N b cs ps n) (hc : b 0 = b n) {k : Nat} (hk : k < n) : TT col R (b k) (ps k) N = 0 := by
  have h1 := U.mono 0 k (by omega) (by omega)
  have h2 := U.mono (k + 1) n (by omega) (Nat.le_refl _)
  rw [← hc] at h2
  have p0 := (U.ok 0 (by omega)).pos
  have pk := (U.ok k (by omega)).pos
  have pk1 := (U.ok (k + 1) (by omega)).pos
  have h3 := fle_trans pk1 p0 pk h2 h1
  have h4 := obj_next (U.ok k (by omega)) (U.piv k hk)
  rw [← U.next k hk] at h4
  exact h4.2 (Int.le_antisymm h4.1 h3)
theorem Run.zr (U : Run col R N b cs ps n) (hc : b 0 = b n) (j : Nat) : ∀ k, k ≤ n → (Lv.zr col R N (b k) j ↔ Lv.zr col R N (b 0) j)
  | 0, _ => Iff.rfl
  | k + 1, h => by
    rw [U.next k (by omega), zr_next (U.ok k (by omega)) (U.piv k (by omega)) (U.flat hc (by omega)), U.zr hc j k (by omega)]
/-- what comes in some time -/
theorem Run.comes (U : Run col R N b cs ps n) {x i : Nat} : ∀ j, i ≤ j → j ≤ n → x ∉ b i → x ∈ b j → ∃ k, i ≤ k ∧ k < j ∧ cs k = x := by
  intro j
  induction j with
  | zero =>
    intro h _ h1 h2
    obtain rfl : i = 0 := by omega
    exact absurd h2 h1
  | succ j ih =>
    intro h hn h1 h2
    by_cases e : i = j + 1
    · subst e
      exact absurd h2 h1
    · by_cases q : x ∈ b j
      · obtain ⟨k, a, b', e⟩ := ih (by omega) (by omega) h1 q
        exact ⟨k, a, by omega, e⟩
      · refine ⟨j, by omega, by omega, ?_⟩
        rw [U.next j (by omega)] at h2
        obtain ⟨m, hm, e2⟩ := mem_get.mp h2
        rw [List.length_set] at hm
        have hp := (U.piv j (by omega)).plt
        have hl := (U.ok j (by omega)).len
        rw [set_getD (by omega)] at e2
        by_cases q2 : m = ps j
        · rw [if_pos q2] at e2; exact e2
        · rw [if_neg q2] at e2
          exact absurd (mem_get.mpr ⟨m, hm, e2⟩) q
theorem Run.goes (U : Run col R N b cs ps n) {x i : Nat} : ∀ j, i ≤ j → j ≤ n → x ∈ b i → x ∉ b j → ∃ k, i ≤ k ∧ k < j ∧ (b k).getD (ps k) 0 = x := by
  intro j
  induction j with
  | zero =>
    intro h _ h1 h2
    obtain rfl : i = 0 := by omega
    exact absurd h1 h2
  | succ j ih =>
    intro h hn h1 h2
    by_cases e : i = j + 1
    · subst e
      exact absurd h1 h2
    · by_cases q : x ∈ b j
      · refine ⟨j, by omega, by omega, ?_⟩
        obtain ⟨m, hm, e2⟩ := mem_get.mp q
        have hp := (U.piv j (by omega)).plt
        have hl := (U.ok j (by omega)).len
        by_cases q2 : m = ps j
        · rw [← q2]; exact e2
        · refine absurd (mem_get.mpr ⟨m, ?_, ?_⟩) h2
          · rw [U.next j (by omega), List.length_set]; exact hm
          · rw [U.next j (by omega), set_getD (by omega), if_neg q2]; exact e2
      · obtain ⟨k, a, b', e⟩ := ih (by omega) (by omega) h1 q
        exact ⟨k, a, by omega, e⟩
theorem max_of (cs : Nat → Nat) : ∀ n, 0 < n → ∃ k, k < n ∧ ∀ i, i < n → cs i ≤ cs k
  | 1, _ => ⟨0, by omega, fun i hi => by
    have : i = 0 := by omega
    rw [this]
    exact Nat.le_refl _⟩
  | n + 2, _ => by
    obtain ⟨k, hk, h⟩ := max_of cs (n + 1) (by omega)
    by_cases q : cs k ≤ cs (n + 1)
    · refine ⟨n + 1, by omega, fun i hi => ?_⟩
      by_cases e : i = n + 1
      · rw [e]; exact Nat.le_refl _
      · exact Nat.le_trans (h i (by omega)) q
    · refine ⟨k, by omega, fun i hi => ?_⟩
      by_cases e : i = n + 1
      · rw [e]; omega
      · exact h i (by omega)
/-- no basis comes back -/
theorem Run.no_cycle (U : Run col R N b cs ps n) (hn : 0 < n) (hc : b 0 = b n) : False := by
  obtain ⟨kb, hkb, hmax⟩ := max_of cs n hn
  generalize hq : cs kb = q at hmax
  have Ob := U.ok kb (by omega)
  have Pb := U.piv kb hkb
  rw [hq] at Pb
  have fresh : q ∉ b kb := in_fresh Ob Pb
  have hin : q ∈ b (kb + 1) := by
    rw [U.next kb hkb, mem_get]
    have hp := Pb.plt
    have hl := Ob.len
    exact ⟨ps kb, by rw [List.length_set]; omega, by rw [set_getD (by omega), if_pos rfl]; exact hq⟩
  -- it leaves some time
  obtain ⟨a, ha, hleave⟩ : ∃ a, a < n ∧ (b a).getD (ps a) 0 = q := by
    by_cases h0 : q ∈ b 0
    · obtain ⟨k, _, h2, e⟩ := U.goes kb (by omega) (by omega) h0 fresh
      exact ⟨k, by omega, e⟩
    · rw [hc] at h0
      obtain ⟨k, _, h2, e⟩ := U.goes n (show kb + 1 ≤ n by omega) (Nat.le_refl _) hin h0
      exact ⟨k, h2, e⟩
  have Oa := U.ok a (by omega)
  have Pa := U.piv a ha
  have hla := Oa.len
  have hpa := Pa.plt
  have hqa : q ∈ b a := mem_get.mpr ⟨ps a, by omega, hleave⟩
  have hca : cs a < q := by
    have h1 := hmax a ha
    have h2 : cs a ≠ q := fun e => in_fresh Oa Pa (e ▸ hqa)
    omega
  have G : Lin (R + 1) fun x => det (R + 1) 0 ((Bv col R (b kb)).set R x) := (det_alt0 (R + 1)).setLin (by rw [Bv_len Ob.len]; omega)
  have key := TT_lin (col := col) Oa.len G (cs a)
  have e1 : det (R + 1) 0 ((Bv col R (b kb)).set R (unit R)) = dd col R (b kb) := by
    unfold dd
    rw [set_self (Bv_last Ob.len)]
  have key : TT col R (b kb) R (cs a) * dd col R (b a) = sm R (fun i => TT col R (b kb) R ((b a).getD i 0) * TT col R (b a) i (cs a)) + dd col R (b kb) * TT col R (b a) R (cs a) := by
    rw [← e1]
    exact key
  have k1 : 0 ≤ TT col R (b kb) R (cs a) * dd col R (b a) := Int.mul_nonneg (Pb.low _ hca) (Int.le_of_lt Oa.pos)
  have k2 : dd col R (b kb) * TT col R (b a) R (cs a) < 0 := Int.mul_neg_of_pos_of_neg Ob.pos Pa.neg
  obtain ⟨i, hi, hpos⟩ := sm_pos (F := fun i => TT col R (b kb) R ((b a).getD i 0) * TT col R (b a) i (cs a)) (n := R) (by omega)
  generalize hr : (b a).getD i 0 = r at hpos
  have hra : r ∈ b a := mem_get.mpr ⟨i, by omega, hr⟩
  have hrb : r ∉ b kb := fun h => by
    rw [basic_zero Ob h, Int.zero_mul] at hpos
    omega
  have hrq : r ≤ q := by
    by_cases h0 : r ∈ b 0
    · rw [hc] at h0
      obtain ⟨k, _, h2, e⟩ := U.comes n (show kb ≤ n by omega) (Nat.le_refl _) hrb h0
      rw [← e]
      exact hmax k h2
    · obtain ⟨k, _, h2, e⟩ := U.comes a (by omega) (by omega) h0 hra
      rw [← e]
      exact hmax k (by omega)
  have hne : r ≠ q := fun e => by
    have h1 : i = ps a := get_inj Oa hi hpa (by rw [hr, e, hleave])
    have h2 := Pa.up
    rw [← h1] at h2
    have h3 := Pb.neg
    rw [e] at hpos
    have := Int.mul_neg_of_neg_of_pos h3 h2
    omega
  have hlow := Pb.low r (by omega)
  have hup : 0 < TT col R (b a) i (cs a) := by
    rcases Int.lt_or_le 0 (TT col R (b a) i (cs a)) with h | h
    · exact h
    · have := Int.mul_nonpos_of_nonneg_of_nonpos hlow h
      omega
  have hz : Lv.zr col R N (b a) r := by
    rw [U.zr hc r a (by omega), ← U.zr hc r kb (by omega)]
    intro m hm e
    exact absurd (mem_get.mpr ⟨m, by rw [Ob.len]; exact hm, e⟩) hrb
  have z1 := hz i hi hr
  have z2 := U.flat hc ha
  have := Pa.tie i hi hup (by rw [z1, z2, Int.zero_mul, Int.zero_mul])
  rw [hleave, hr] at this
  omega
end
end Lv

set_option Elab.async false
set_option linter.all false
set_option maxHeartbeats 1000000
/-! Lv4: how many steps there are; there is a row that goes out; what the last table tells. -/
namespace Lv
section
variable {col : Nat → Vec} {R N : Nat} {β : List Nat} {c p : Nat} {b : Nat → List Nat} {cs ps : Nat → Nat} {n : Nat}
theorem Run.part (U : Run col R N b cs ps n) {i j : Nat} (h : i ≤ j) (hj : j ≤ n) : Run col R N (fun k => b (i + k)) (fun k => cs (i + k)) (fun k => ps (i + k)) (j - i) :=
  ⟨U.ok i (by omega), fun k hk => U.piv (i + k) (by omega), fun k hk => U.next (i + k) (by omega)⟩
theorem Run.diff (U : Run col R N b cs ps n) {i j : Nat} (h : i < j) (hj : j ≤ n) : b i ≠ b j := fun e =>
  (U.part (i := i) (j := j) (by omega) hj).no_cycle (by omega) (by
    show b (i + 0) = b (i + (j - i))
    rw [show i + (j - i) = j by omega]
    exact e)
/-- a basis as a number -/
def enc (N : Nat) : List Nat → Nat
  | [] => 0
  | x :: r => x + N * enc N r
theorem enc_lt (N : Nat) : ∀ (l : List Nat), (∀ x, x ∈ l → x < N) → enc N l < N ^ l.length
  | [], _ => by simp [enc]
  | x :: r, h => by
    have h1 := h x (.head _)
    have h2 := enc_lt N r fun y hy => h y (.tail _ hy)
    rw [enc, List.length_cons, Nat.pow_succ, Nat.mul_comm]
    have : N * (enc N r + 1) ≤ N * N ^ r.length := Nat.mul_le_mul_left N h2
    rw [Nat.mul_comm N (N ^ r.length)] at this
    rw [Nat.mul_comm (N ^ r.length)] at *
    rw [Nat.mul_add] at this
    rw [Nat.mul_comm (enc N r) N]
    omega
theorem enc_inj (N : Nat) : ∀ (l m : List Nat), l.length = m.length → (∀ x, x ∈ l → x < N) → (∀ x, x ∈ m → x < N) → enc N l = enc N m → l = m
  | [], [], _, _, _, _ => rfl
  | x :: l, y :: m, hl, h1, h2, e => by
    have a := h1 x (.head _)
    have b := h2 y (.head _)
    rw [enc, enc] at e
    have hx : x = y := by
      have := congrArg (· % N) e
      simp only [Nat.add_mul_mod_self_left] at this
      rwa [Nat.mod_eq_of_lt a, Nat.mod_eq_of_lt b] at this
    subst hx
    have he : enc N l = enc N m := Nat.eq_of_mul_eq_mul_left (show 0 < N by omega) (by omega)
    rw [enc_inj N l m (by simpa using hl) (fun z hz => h1 z (.tail _ hz)) (fun z hz => h2 z (.tail _ hz)) he]
theorem Run.bound (U : Run col R N b cs ps n) : n < N ^ R := by
  have hd : ((List.range (n + 1)).map fun k => enc N (b k)).Nodup := by
    unfold List.Nodup
    rw [List.pairwise_map]
    refine (List.pairwise_lt_range (n := n + 1)).imp_of_mem fun {i j} hi hj hij e => ?_
    have hi := List.mem_range.mp hi
    have hj := List.mem_range.mp hj
    have Oi := U.ok i (by omega)
    have Oj := U.ok j (by omega)
    exact U.diff hij (by omega) (enc_inj N _ _ (by rw [Oi.len, Oj.len]) Oi.lt Oj.lt e)
  have := nodup_le (N ^ R) _ hd fun x hx => by
    obtain ⟨k, hk, rfl⟩ := List.mem_map.mp hx
    have O := U.ok k (by have := List.mem_range.mp hk; omega)
    have := enc_lt N (b k) O.lt
    rwa [O.len] at this
  rw [List.length_map, List.length_range] at this
  omega
/-! the sum of all numbers of a vector -/
def tot (R : Nat) (v : Vec) : Int := sm (R + 1) v
theorem tot_lin : Lin (R + 1) (tot R) := ⟨fun u v => sm_add, fun k v => sm_mul, fun u v h => sm_congr h⟩
theorem tot_unit {q : Nat} (h : q ≤ R) : tot R (unit q) = 1 := by
  have := sm_one (F := unit q) (a := q) (n := R + 1) (by omega) fun i _ hn => if_neg hn
  exact this.trans (if_pos rfl)
/-- what the columns add up to -/
structure Tot (col : Nat → Vec) (R N : Nat) : Prop where
  nn : ∀ j, j < N → 0 ≤ tot R (col j)
  rhs : tot R (col N) = 0
theorem some_up (O : Ok col R N β) (S : Tot col R N) (hc : c < N) (h : TT col R β R c < 0) : ∃ i, i < R ∧ 0 < TT col R β i c := by
  have key := TT_lin (col := col) O.len tot_lin c
  rw [tot_unit (Nat.le_refl R), Int.one_mul] at key
  have h1 := Int.mul_nonneg (S.nn c hc) (Int.le_of_lt O.pos)
  obtain ⟨i, hi, q⟩ := sm_pos (F := fun i => tot R (col (β.getD i 0)) * TT col R β i c) (n := R) (by omega)
  refine ⟨i, hi, ?_⟩
  have h2 := S.nn _ (O.lt _ (mem_get.mpr ⟨i, by rw [O.len]; exact hi, rfl⟩))
  rcases Int.lt_or_le 0 (TT col R β i c) with z | z
  · exact z
  · have := Int.mul_nonpos_of_nonneg_of_nonpos h2 z
    have q : 0 < tot R (col (β.getD i 0)) * TT col R β i c := q
    omega
/-- the last row's end is below 0, or what has a sum above 0 has nothing -/
theorem last_zero (O : Ok col R N β) (S : Tot col R N) (h : TT col R β R N = 0) : ∀ i, i < R → tot R (col (β.getD i 0)) * TT col R β i N = 0 := by
  have key := TT_lin (col := col) O.len tot_lin N
  rw [S.rhs, Int.zero_mul, h, Int.mul_zero, Int.add_zero] at key
  exact sm_all0 (fun i hi => Int.mul_nonneg (S.nn _ (O.lt _ (mem_get.mpr ⟨i, by rw [O.len]; exact hi, rfl⟩))) (O.rhs i hi)) key.symm
theorem last_neg (O : Ok col R N β) (S : Tot col R N) : TT col R β R N ≤ 0 := by
  have key := TT_lin (col := col) O.len tot_lin N
  rw [S.rhs, Int.zero_mul, tot_unit (Nat.le_refl R), Int.one_mul] at key
  have := sm_nonneg (F := fun i => tot R (col (β.getD i 0)) * TT col R β i N) (n := R) fun i hi => Int.mul_nonneg (S.nn _ (O.lt _ (mem_get.mpr ⟨i, by rw [O.len]; exact hi, rfl⟩))) (O.rhs i hi)
  omega
/-- what the right side is made of, number by number -/
theorem rhs_at (O : Ok col R N β) {q : Nat} (hq : q < R) : (col N) q * dd col R β = sm R fun i => (col (β.getD i 0)) q * TT col R β i N := by
  have key := TT_lin (col := col) O.len (g := fun v => v q) (at_lin (by omega)) N
  rw [key]
  have : unit R q = 0 := if_neg (by omega)
  rw [this, Int.zero_mul, Int.add_zero]
/-- the last row tells each column's worth by those of unit vectors -/
theorem last_lin (O : Ok col R N β) : Lin (R + 1) fun x => det (R + 1) 0 ((Bv col R β).set R x) := (det_alt0 (R + 1)).setLin (by rw [Bv_len O.len]; omega)
end
end Lv

set_option Elab.async false
set_option linter.all false
set_option maxHeartbeats 1000000
/-! Lv5: how great a determinant gets. -/
namespace Lv
theorem lap_bound {f : List Vec → Int} {g : Vec → Int} {M B n : Nat} : ∀ (post pre : List Vec), pre.length + post.length ≤ n → (∀ v, v ∈ pre → (g v).natAbs ≤ M) → (∀ v, v ∈ post → (g v).natAbs ≤ M) → (∀ l, l.length ≤ n → (∀ v, v ∈ l → v ∈ pre ∨ v ∈ post) → (f l).natAbs ≤ B) → (lap f g pre post).natAbs ≤ post.length * (M * B)
  | [], pre, _, _, _, _ => by simp [lap]
  | v :: post, pre, hn, h1, h2, h3 => by
    rw [List.length_cons] at hn
    have ih := lap_bound (f := f) (g := g) (M := M) (B := B) (n := n) post (pre ++ [v]) (by rw [List.length_append, List.length_singleton]; omega) (fun x hx => by
      rcases List.mem_append.mp hx with hx | hx
      · exact h1 x hx
      · rw [List.mem_singleton] at hx; subst hx; exact h2 _ (.head _)) (fun x hx => h2 x (.tail _ hx)) fun l hl hm => h3 l hl fun x hx => by
        rcases hm x hx with q | q
        · rcases List.mem_append.mp q with q | q
          · exact .inl q
          · rw [List.mem_singleton] at q; subst q; exact .inr (.head _)
        · exact .inr (.tail _ q)
    have hv := h2 v (.head _)
    have hf := h3 (pre ++ post) (by rw [List.length_append]; omega) fun x hx => by
      rcases List.mem_append.mp hx with q | q
      · exact .inl q
      · exact .inr (.tail _ q)
    have hm : (g v * f (pre ++ post)).natAbs ≤ M * B := by
      rw [Int.natAbs_mul]
      exact Nat.mul_le_mul hv hf
    rw [lap, List.length_cons, Nat.succ_mul]
    omega
theorem det_bound {M L : Nat} : ∀ (r k : Nat) (l : List Vec), l.length ≤ L → (∀ v, v ∈ l → ∀ c, (v c).natAbs ≤ M) → (det r k l).natAbs ≤ (L * M) ^ r
  | 0, k, l, _, _ => by
    show (if l = [] then (1 : Int) else 0).natAbs ≤ _
    split
    · simp
    · simp
  | r + 1, k, l, hl, h => by
    have := lap_bound (f := det r (k + 1)) (g := fun v => v k) (M := M) (B := (L * M) ^ r) (n := l.length) l [] (by simp) (fun v hv => by cases hv) (fun v hv => h v hv k) fun l' hl' hm => det_bound r (k + 1) l' (by omega) fun v hv => by
      rcases hm v hv with q | q
      · cases q
      · exact h v q
    show (lap (det r (k + 1)) (fun v => v k) [] l).natAbs ≤ _
    refine Nat.le_trans this ?_
    rw [Nat.pow_succ, Nat.mul_comm ((L * M) ^ r), Nat.mul_assoc]
    exact Nat.mul_le_mul_right _ hl
theorem TT_bound {col : Nat → Vec} {R M : Nat} {β : List Nat} (hM : 1 ≤ M) (h : ∀ j c, (col j c).natAbs ≤ M) (hl : β.length = R) (i j : Nat) : (TT col R β i j).natAbs ≤ ((R + 1) * M) ^ (R + 1) := by
  refine det_bound (R + 1) 0 _ (by rw [List.length_set, Bv_len hl]; exact Nat.le_refl _) fun v hv c => ?_
  rcases List.mem_or_eq_of_mem_set hv with q | q
  · unfold Bv at q
    rcases List.mem_append.mp q with q | q
    · obtain ⟨x, _, rfl⟩ := List.mem_map.mp q
      exact h x c
    · rw [List.mem_singleton] at q
      subst q
      unfold unit
      split
      · simpa using hM
      · simp
  · subst q
    exact h j c
theorem dd_bound {col : Nat → Vec} {R M : Nat} {β : List Nat} (hM : 1 ≤ M) (h : ∀ j c, (col j c).natAbs ≤ M) (hl : β.length = R) : (dd col R β).natAbs ≤ ((R + 1) * M) ^ (R + 1) := by
  refine det_bound (R + 1) 0 _ (by rw [Bv_len hl]; exact Nat.le_refl _) fun v q c => ?_
  unfold Bv at q
  rcases List.mem_append.mp q with q | q
  · obtain ⟨x, _, rfl⟩ := List.mem_map.mp q
    exact h x c
  · rw [List.mem_singleton] at q
    subst q
    unfold unit
    split
    · simpa using hM
    · simp
/-- a basis of helpers: the table is the columns -/
theorem Bv_units {col : Nat → Vec} {R m : Nat} (h : ∀ q, q < R → col (m + q) = unit q) : Bv col R ((List.range R).map fun q => m + q) = units 0 (R + 1) := by
  unfold Bv
  apply List.ext_getElem?
  intro i
  rcases Nat.lt_or_ge i R with hi | hi
  · rw [List.getElem?_append_left (by rw [List.length_map, List.length_map, List.length_range]; exact hi), List.map_map, List.getElem?_map, List.getElem?_range hi]
    have := units_get (R + 1) 0 i (by omega)
    rw [List.getD_eq_getElem?_getD, List.getElem?_eq_getElem (by rw [units_len]; omega)] at this
    rw [List.getElem?_eq_getElem (by rw [units_len]; omega)]
    have this : (units 0 (R + 1))[i]'(by rw [units_len]; omega) = unit (0 + i) := this
    rw [this, Nat.zero_add]
    show some (col (m + i)) = _
    rw [h i hi]
  · rcases Nat.eq_or_lt_of_le hi with e | hl
    · subst e
      rw [List.getElem?_append_right (by rw [List.length_map, List.length_map, List.length_range]; exact Nat.le_refl _), List.length_map, List.length_map, List.length_range, Nat.sub_self]
      have := units_get (R + 1) 0 R (by omega)
      rw [List.getD_eq_getElem?_getD, List.getElem?_eq_getElem (by rw [units_len]; omega)] at this
      rw [List.getElem?_eq_getElem (l := units 0 (R + 1)) (i := R) (by rw [units_len]; omega)]
      have this : (units 0 (R + 1))[R]'(by rw [units_len]; omega) = unit (0 + R) := this
      rw [this, Nat.zero_add]
      rfl
    · rw [List.getElem?_eq_none (by rw [List.length_append, List.length_map, List.length_map, List.length_range, List.length_singleton]; omega), List.getElem?_eq_none (by rw [units_len]; omega)]
theorem TT_first {col : Nat → Vec} {R m : Nat} (h : ∀ q, q < R → col (m + q) = unit q) {i j : Nat} (hi : i ≤ R) : TT col R ((List.range R).map fun q => m + q) i j = col j i := by
  unfold TT
  rw [Bv_units h]
  exact det_unit_set (R + 1) i (by omega) _
theorem dd_first {col : Nat → Vec} {R m : Nat} (h : ∀ q, q < R → col (m + q) = unit q) : dd col R ((List.range R).map fun q => m + q) = 1 := by
  unfold dd
  rw [Bv_units h]
  exact det_units (R + 1) 0
end Lv

set_option Elab.async false
set_option linter.all false
set_option maxHeartbeats 1000000
/-! Lv6: a basis that steps lead to; the next table. -/
namespace Lv
variable {col : Nat → Vec} {R N : Nat} {β : List Nat} {c p k : Nat}
def Reach (col : Nat → Vec) (R N n : Nat) (β : List Nat) : Prop := ∃ b cs ps, Run col R N b cs ps n ∧ b n = β
theorem Reach.ok (h : Reach col R N k β) : Ok col R N β := by
  obtain ⟨b, cs, ps, U, rfl⟩ := h
  exact U.ok k (Nat.le_refl _)
theorem Reach.bound (h : Reach col R N k β) : k < N ^ R := by
  obtain ⟨b, cs, ps, U, rfl⟩ := h
  exact U.bound
theorem Reach.first (O : Ok col R N β) : Reach col R N 0 β := ⟨fun _ => β, fun _ => 0, fun _ => 0, ⟨O, fun k hk => absurd hk (Nat.not_lt_zero k), fun k hk => absurd hk (Nat.not_lt_zero k)⟩, rfl⟩
theorem Reach.next (h : Reach col R N k β) (P : Piv col R N β c p) : Reach col R N (k + 1) (β.set p c) := by
  obtain ⟨b, cs, ps, U, rfl⟩ := h
  refine ⟨fun i => if i ≤ k then b i else (b k).set p c, fun i => if i < k then cs i else c, fun i => if i < k then ps i else p, ⟨?_, fun i hi => ?_, fun i hi => ?_⟩, if_neg (by omega)⟩
  · show Ok col R N (if 0 ≤ k then b 0 else (b k).set p c)
    rw [if_pos (by omega)]
    exact U.ok0
  · show Piv col R N (if i ≤ k then b i else _) (if i < k then cs i else c) (if i < k then ps i else p)
    rw [if_pos (by omega)]
    by_cases e : i < k
    · rw [if_pos e, if_pos e]; exact U.piv i e
    · rw [if_neg e, if_neg e, show i = k by omega]; exact P
  · show (if i + 1 ≤ k then b (i + 1) else (b k).set p c) = (if i ≤ k then b i else _).set (if i < k then ps i else p) (if i < k then cs i else c)
    rw [if_pos (show i ≤ k by omega)]
    by_cases e : i < k
    · rw [if_pos e, if_pos e, if_pos (by omega)]; exact U.next i e
    · rw [if_neg e, if_neg e, if_neg (by omega), show i = k by omega]
theorem TT_div (O : Ok col R N β) {i j : Nat} (hp : p < R) (hi : i ≤ R) (hn : i ≠ p) : (TT col R β i j * TT col R β p c - TT col R β i c * TT col R β p j) / dd col R β = TT col R (β.set p c) i j := by
  have h := TT_step (col := col) O.len (c := c) (j := j) hp hi hn
  rw [← h]
  exact Int.mul_ediv_cancel_left _ (by have := O.pos; omega)
end Lv

set_option Elab.async false
set_option linter.all false
set_option maxHeartbeats 1000000
/-! Lv7: a linear thing by unit vectors; weights from a basis. -/
namespace Lv
theorem Lin.upto {r : Nat} {g : Vec → Int} (G : Lin r g) (v : Vec) : ∀ n, g (Lv.upto v n) = sm n fun c => v c * g (unit c)
  | 0 => by
    have h := G.smul 0 (fun _ => 0)
    have e : Lv.smul 0 (fun _ => 0) = Lv.upto v 0 := by
      funext c
      rw [upto_at]
      simp [Lv.smul]
    rw [e] at h
    rw [h, Int.zero_mul]
    rfl
  | n + 1 => by
    have e : Lv.upto v (n + 1) = Lv.add (Lv.upto v n) (Lv.smul (v n) (unit n)) := by
      funext c
      show _ = Lv.upto v n c + v n * unit n c
      rw [upto_at, upto_at]
      unfold unit
      by_cases h1 : c < n
      · rw [if_pos (by omega), if_pos h1, if_neg (by omega)]; omega
      · by_cases h2 : c = n
        · rw [if_pos (by omega), if_neg h1, if_pos h2, h2]; omega
        · rw [if_neg (by omega), if_neg h1, if_neg h2]; omega
    rw [e, G.add, G.smul, Lin.upto G v n]
    rfl
theorem Lin.units {r : Nat} {g : Vec → Int} (G : Lin r g) (v : Vec) : g v = sm r fun c => v c * g (unit c) := by
  rw [← Lin.upto G v r]
  refine G.loc _ _ fun c hc => ?_
  rw [upto_at, if_pos hc]
/-- a sum where one number is another one -/
theorem sm_set {F : Nat → Int} {l : List Int} {a : Nat} {x : Int} : ∀ {m : Nat}, a < m → a < l.length → sm m (fun j => F j * (l.set a x).getD j 0) = sm m (fun j => F j * l.getD j 0) + F a * (x - l.getD a 0)
  | 0, h, _ => by omega
  | m + 1, h, hl => by
    show sm m _ + F m * _ = sm m _ + F m * _ + _
    have hg : ∀ j, (l.set a x).getD j 0 = if a = j then x else l.getD j 0 := fun j => by
      rw [List.getD_eq_getElem?_getD, List.getD_eq_getElem?_getD, List.getElem?_set]
      by_cases e : a = j
      · subst e; rw [if_pos rfl, if_pos hl, if_pos rfl]; rfl
      · rw [if_neg e, if_neg e]
    by_cases e : a = m
    · subst e
      rw [show sm a (fun j => F j * (l.set a x).getD j 0) = sm a (fun j => F j * l.getD j 0) from sm_congr fun i hi => by rw [hg, if_neg (by omega)]]
      rw [hg, if_pos rfl, Int.mul_sub]
      omega
    · rw [sm_set (m := m) (by omega) hl, hg, if_neg (by omega)]
      omega
/-- the weights that a basis tells -/
def wts (T : Nat → Int) (β : List Nat) (m : Nat) : Nat → List Int
  | 0 => List.replicate m 0
  | k + 1 => if β.getD k 0 < m then (wts T β m k).set (β.getD k 0) (T k) else wts T β m k
theorem wts_len {T : Nat → Int} {β : List Nat} {m : Nat} : ∀ k, (wts T β m k).length = m
  | 0 => List.length_replicate
  | k + 1 => by
    unfold wts
    split
    · rw [List.length_set, wts_len k]
    · exact wts_len k
theorem wts_none {T : Nat → Int} {β : List Nat} {m j : Nat} : ∀ k, (∀ i, i < k → β.getD i 0 ≠ j) → (wts T β m k).getD j 0 = 0
  | 0, _ => by
    unfold wts
    rw [List.getD_eq_getElem?_getD, List.getElem?_replicate]
    split <;> rfl
  | k + 1, h => by
    have ih := wts_none (T := T) (β := β) (m := m) (j := j) k fun i hi => h i (by omega)
    unfold wts
    split
    · rw [List.getD_eq_getElem?_getD, List.getElem?_set, if_neg (h k (by omega)), ← List.getD_eq_getElem?_getD]
      exact ih
    · exact ih
theorem wts_nn {T : Nat → Int} {β : List Nat} {m : Nat} : ∀ k, (∀ i, i < k → 0 ≤ T i) → ∀ x, x ∈ wts T β m k → 0 ≤ x
  | 0, _, x, hx => by
    have := List.eq_of_mem_replicate hx
    omega
  | k + 1, h, x, hx => by
    have ih := wts_nn (T := T) (β := β) (m := m) k fun i hi => h i (by omega)
    unfold wts at hx
    split at hx
    · rcases List.mem_or_eq_of_mem_set hx with q | q
      · exact ih x q
      · rw [q]; exact h k (by omega)
    · exact ih x hx
theorem wts_of {T : Nat → Int} {β : List Nat} {m : Nat} : ∀ k, ∀ x, x ∈ wts T β m k → x = 0 ∨ ∃ i, i < k ∧ x = T i
  | 0, x, hx => .inl (List.eq_of_mem_replicate hx)
  | k + 1, x, hx => by
    have ih := wts_of (T := T) (β := β) (m := m) k
    unfold wts at hx
    split at hx
    · rcases List.mem_or_eq_of_mem_set hx with q | q
      · rcases ih x q with e | ⟨i, hi, e⟩
        · exact .inl e
        · exact .inr ⟨i, by omega, e⟩
      · exact .inr ⟨k, by omega, q⟩
    · rcases ih x hx with e | ⟨i, hi, e⟩
      · exact .inl e
      · exact .inr ⟨i, by omega, e⟩
theorem wts_sum {T F : Nat → Int} {β : List Nat} {m : Nat} : ∀ k, (∀ i j, i < k → j < k → β.getD i 0 = β.getD j 0 → i = j) → sm m (fun j => F j * (wts T β m k).getD j 0) = sm k fun i => if β.getD i 0 < m then F (β.getD i 0) * T i else 0
  | 0, _ => by
    refine sm_zero fun j hj => ?_
    have := wts_none (T := T) (β := β) (m := m) (j := j) 0 fun i hi => by omega
    rw [this, Int.mul_zero]
  | k + 1, h => by
    have ih := wts_sum (T := T) (F := F) (β := β) (m := m) k fun i j hi hj => h i j (by omega) (by omega)
    show _ = sm k _ + (if β.getD k 0 < m then F (β.getD k 0) * T k else 0)
    rw [← ih]
    rw [wts]
    by_cases hm : β.getD k 0 < m
    · rw [if_pos hm, if_pos hm, sm_set hm (by rw [wts_len]; exact hm)]
      have := wts_none (T := T) (β := β) (m := m) (j := β.getD k 0) k fun i hi e => by
        have := h i k (by omega) (by omega) e
        omega
      rw [this, Int.sub_zero]
    · rw [if_neg hm, if_neg hm, Int.add_zero]
end Lv

set_option Elab.async false
set_option linter.all false
set_option maxRecDepth 100000
set_option maxHeartbeats 4000000
namespace Dv.G
open PySem PySem.Spec PyProof.Rows L2 Dv
local macro_rules | `(tactic| walk_at "ev") => `(tactic| simp only [evB, k_seq, evS, k_if, evT, evAndTs, evOrTs, k_bl, k_op2, evE, evA, evAnds, evOrs, evO, evI, evG, evGs, k_var, k_con, k_tru, k_andT, k_orT, k_notT, k_andV, k_orV, k_notV, k_tup, k_lst, k_drop, k_call, isFn_fn, k_co, lb_nil, lb_val, lb_fr, lb_sl, owL_fz, owL_ow, pm_nil, pm_cons, ps_val, ps_fr, ps_sl, pasS_fz, pasS_ow, wb_nil, wb_vl, wb_fr, wb_sl, owB_fz, owB_ow, isOw_s, isOwS_ow, outS_L, ol_nil, ol_ow, ol_fz, hasS_at, hasO_fz, hasO_ow, List.getElem?_cons_zero, List.getElem?_cons_succ, true_and, and_true, look_val, look_fr, look_sl, slD_fz, slD_ow, oo_some, KC.g, K2.g, KF.g, KM.g, KN.g, KM.ty, KN.ty, oo_cmp, oo_lt, isBl_bl, outV_sc, outV_nl, outV_nt, Option.bind_some, oo_mul, oo_add, oo_sub, oo_neg, oo_int, ix0, ix1, ix2, ixT0, ixT1, ixT2, decide_eq_true_eq, k_asg, k_consA, k_nilA, k_opN, k_op1, st_val, st_fr, st_sl, stS_fz, stS_ow, k_gtup, seqO_tup, seqO_lst, gs_nl, gs_cn, k_par, pp_nil, pp_cons, pr_fr, pr_val, pr_sl, k_app, k_ext, k_pop, k_popAt, owO_ow, lstO_lst, intO_int, k_mth, k_mth0, ps_none, ps_some, k_sl, outB_bl, k_chain, k_items, wk_fr, wk_lst, wk_tup, wk_scr, wk_sl, wkS_lst, wkS_tup, wkS_scr, wkS_ow, k_signs, isStr_str, k_rng, oo_rng1, oo_rng2, k_frzI, fa_nil, fa_cons, frz_sl, frS1_fz, frS1_ow, k_for, goL_nx, goL_ct, goL_bk, goL_rt, k_lc, oo_lenL, oo_lenT, oo_lenS, k_seti, goS_nx, goS_rt, k_nx, k_ret, end_val, end_fr, end_nx, mm_nil, mm_cons, sd0, sd1, sd2, frz_val, frz_fr, rt_val, rt_fr, rt_sl, rtS_fz, rtS_ow, set_z, set_s, List.length_cons, List.length_nil, Nat.reduceAdd, Nat.reduceLeDiff, Bool.false_eq_true, or_self, or_false, false_or, not_false_eq_true, List.getElem?_nil, Int.reduceLT, List.cons_append, List.nil_append, List.append_nil, List.nodup_nil, List.nodup_cons, List.not_mem_nil, ite_true, ite_false, if_true, if_false, if_pos, lent, bindOk, beq_self_eq_true, Bool.and_self, wp_L, wp_nil, wp_cons, mg_L, mg_nil, mg_cons, k_yes, k_srtSet, List.contains_cons, List.contains_nil, Nat.reduceBEq, Bool.or_false, Bool.false_or, Bool.or_true, only, Bool.not_false, Bool.not_true, eq_self, Nat.reduceEqDiff, sl1, oo_addL, oo_tupL, oo_ne, oo_eq, tr_bl, oo_neB, oo_eqB, zip_tt, zip_ll, enum_l, AGs.len, sz0, sz1, sz2, sz3, sz4, sz5, sz6, sz7, sz8, sz9, sz10, sz11, sz12, sz13, oo_abs, oo_intB, pw18, pw12, mod61, oo_listL, oo_listT, oo_tupT, oo_min2, ssl_nil, ssl_cons, oi_nil, oi_cons, Nat.reduceLT, decide_true, Bool.and_true, Bool.true_and, k_rse, k_try, in_S, nin_S, add_S, len_S, signs_S, all_map, any_map, slL_1, slT_1, oo_addT, outV_cat, ix_m1, ixT_m1, sd_m1, gl0, gl1, gl2, gl3, gl4, gl5, gl6, gl7, gl8, gl9, gl10, gl11, gl12, gl13, gl14, gl15, gl16, gl17, gl18, gl19, gl20, gl21, gl22, gl23, gl24, gl25, gl26, gl27, gl28, gl29, gl30, tb0, tb1, tb2, tb3, tb4, tb5, tb6, tb7, tb8, tb9, tb10, tb11, tb12, tb13, tb14, tb15, tb16, tb17, tb18, tb19, tb20, tb21, tb22, tb23, tb24, tb25, tb26, tb27, sx0, sx1, sx2, sx3, isi_int_lt, isi_int_l, isi_int_t, isi_int_bs, isi_int_b, isi_int_s, isi_int_i, isn_int, isi_str_lt, isi_str_l, isi_str_t, isi_str_bs, isi_str_b, isi_str_s, isi_str_i, isn_str, isi_tup_lt, isi_tup_l, isi_tup_t, isi_tup_bs, isi_tup_b, isi_tup_s, isi_tup_i, isn_tup, isi_lst_lt, isi_lst_l, isi_lst_t, isi_lst_bs, isi_lst_b, isi_lst_s, isi_lst_i, isn_lst, isi_bl_lt, isi_bl_l, isi_bl_t, isi_bl_bs, isi_bl_b, isi_bl_s, isi_bl_i, isn_bl, isi_non_lt, isi_non_l, isi_non_t, isi_non_bs, isi_non_b, isi_non_s, isi_non_i, isn_non, isx_int, isx_str, isx_tup, isx_lst, isx_bl, isx_non])
theorem mulB {i j : Int} (h : i.natAbs < 2 ^ 64) : mulOk i j = true := by
  unfold mulOk
  rw [decide_eq_true h]
  rfl
theorem mulB2 {i j : Int} (h : j.natAbs < 2 ^ 64) : mulOk i j = true := by
  unfold mulOk
  rw [decide_eq_true h, Bool.or_true]
  rfl
/-- the box: what is left to draw from, the seed, how many were made so far -/
def tinS (a b c : Int) : Sl := .ow [.int a, .int b, .int c]
theorem take_ok (l : Nat) (a b c n : Int) (hn : 0 < n) (hb : n.natAbs.log2 < 9000) (hc : 0 ≤ c) (hc2 : c < 1000000000) : okE noE (M.fx (l + 1) 13 [tinS a b c, .fz (.int n)]) fun v ss => ∃ r a' c', v = .val (.int (r % n)) ∧ ss = [tinS a' b c', .un] ∧ 0 ≤ c' ∧ c' ≤ c + 1 := by
  refine k_fn (d := d13) (τ := [tinS a b c, .fz (.int n), .un, .un, .un, .un]) rfl rfl ?_
  simp only [tinS, d13, b13, evB, k_seq, evS, k_if, evT, k_bl, k_op2, evE, k_var, k_con, hasS_at, hasO_fz, hasO_ow, List.getElem?_cons_zero, List.getElem?_cons_succ, true_and, look_val, look_fr, look_sl, slD_fz, slD_ow, oo_some, KC.g, K2.g, KF.g, oo_cmp, isBl_bl, outV_sc, outV_nl, outV_nt, Option.bind_some, oo_mul, oo_add, oo_int, ix0, ix1, ix2,
    decide_eq_true_eq, k_asg, evA, k_consA, k_nilA, k_opN, evG, st_val, k_seti, goS_nx, goS_rt, k_nx, k_ret, end_val, mm_nil, mm_cons, sd0, sd2, frz_val, oo_mod hn, oo_div hn hb, oo_mod, oo_div, rt_val, rt_fr, rt_sl, rtS_fz, rtS_ow, List.set_cons_zero, List.set_cons_succ, lent, isOw, List.length_cons, List.length_nil, Nat.reduceAdd, Nat.reduceLeDiff, Bool.false_eq_true, or_self, not_false_eq_true,
    List.getElem?_nil, Int.reduceLT, oo_div (j := 1000003) (by decide) (by decide), oo_div (j := 64) (by decide) (by decide)]
  have m1 : mulOk 48271 (c + 1) = true := mulB (by decide)
  have m2 : ∀ i : Int, mulOk i (39373 + (c + 1)) = true := fun i => mulB2 (by omega)
  split
  · exact ⟨_, _, _, rfl, rfl, hc, by omega⟩
  · refine ⟨m1, m2 _, mulB2 (by omega), mulB2 (by decide), _, _, _, rfl, rfl, by omega, Int.le_refl _⟩
end Dv.G

set_option Elab.async false
set_option linter.all false
set_option maxRecDepth 100000
set_option maxHeartbeats 4000000
namespace Dv.G
open PySem PySem.Spec PyProof.Rows L2 Dv
local macro_rules | `(tactic| walk_at "ev") => `(tactic| simp only [evB, k_seq, evS, k_if, evT, evAndTs, evOrTs, k_bl, k_op2, evE, evA, evAnds, evOrs, evO, evI, evG, evGs, k_var, k_con, k_tru, k_andT, k_orT, k_notT, k_andV, k_orV, k_notV, k_tup, k_lst, k_drop, k_call, isFn_fn, k_co, lb_nil, lb_val, lb_fr, lb_sl, owL_fz, owL_ow, pm_nil, pm_cons, ps_val, ps_fr, ps_sl, pasS_fz, pasS_ow, wb_nil, wb_vl, wb_fr, wb_sl, owB_fz, owB_ow, isOw_s, isOwS_ow, outS_L, ol_nil, ol_ow, ol_fz, hasS_at, hasO_fz, hasO_ow, List.getElem?_cons_zero, List.getElem?_cons_succ, true_and, and_true, look_val, look_fr, look_sl, slD_fz, slD_ow, oo_some, KC.g, K2.g, KF.g, KM.g, KN.g, KM.ty, KN.ty, oo_cmp, oo_lt, isBl_bl, outV_sc, outV_nl, outV_nt, Option.bind_some, oo_mul, oo_add, oo_sub, oo_neg, oo_int, ix0, ix1, ix2, ixT0, ixT1, ixT2, decide_eq_true_eq, k_asg, k_consA, k_nilA, k_opN, k_op1, st_val, st_fr, st_sl, stS_fz, stS_ow, k_gtup, seqO_tup, seqO_lst, gs_nl, gs_cn, k_par, pp_nil, pp_cons, pr_fr, pr_val, pr_sl, k_app, k_ext, k_pop, k_popAt, owO_ow, lstO_lst, intO_int, k_mth, k_mth0, ps_none, ps_some, k_sl, outB_bl, k_chain, k_items, wk_fr, wk_lst, wk_tup, wk_scr, wk_sl, wkS_lst, wkS_tup, wkS_scr, wkS_ow, k_signs, isStr_str, k_rng, oo_rng1, oo_rng2, k_frzI, fa_nil, fa_cons, frz_sl, frS1_fz, frS1_ow, k_for, goL_nx, goL_ct, goL_bk, goL_rt, k_lc, oo_lenL, oo_lenT, oo_lenS, k_seti, goS_nx, goS_rt, k_nx, k_ret, end_val, end_fr, end_nx, mm_nil, mm_cons, sd0, sd1, sd2, frz_val, frz_fr, rt_val, rt_fr, rt_sl, rtS_fz, rtS_ow, set_z, set_s, List.length_cons, List.length_nil, Nat.reduceAdd, Nat.reduceLeDiff, Bool.false_eq_true, or_self, or_false, false_or, not_false_eq_true, List.getElem?_nil, Int.reduceLT, List.cons_append, List.nil_append, List.append_nil, List.nodup_nil, List.nodup_cons, List.not_mem_nil, ite_true, ite_false, if_true, if_false, if_pos, lent, bindOk, beq_self_eq_true, Bool.and_self, wp_L, wp_nil, wp_cons, mg_L, mg_nil, mg_cons, k_yes, k_srtSet, List.contains_cons, List.contains_nil, Nat.reduceBEq, Bool.or_false, Bool.false_or, Bool.or_true, only, Bool.not_false, Bool.not_true, eq_self, Nat.reduceEqDiff, sl1, oo_addL, oo_tupL, oo_ne, oo_eq, tr_bl, oo_neB, oo_eqB, zip_tt, zip_ll, enum_l, AGs.len, sz0, sz1, sz2, sz3, sz4, sz5, sz6, sz7, sz8, sz9, sz10, sz11, sz12, sz13, oo_abs, oo_intB, pw18, pw12, mod61, oo_listL, oo_listT, oo_tupT, oo_min2, ssl_nil, ssl_cons, oi_nil, oi_cons, Nat.reduceLT, decide_true, Bool.and_true, Bool.true_and, k_rse, k_try, in_S, nin_S, add_S, len_S, signs_S, all_map, any_map, slL_1, slT_1, oo_addT, outV_cat, ix_m1, ixT_m1, sd_m1, gl0, gl1, gl2, gl3, gl4, gl5, gl6, gl7, gl8, gl9, gl10, gl11, gl12, gl13, gl14, gl15, gl16, gl17, gl18, gl19, gl20, gl21, gl22, gl23, gl24, gl25, gl26, gl27, gl28, gl29, gl30, tb0, tb1, tb2, tb3, tb4, tb5, tb6, tb7, tb8, tb9, tb10, tb11, tb12, tb13, tb14, tb15, tb16, tb17, tb18, tb19, tb20, tb21, tb22, tb23, tb24, tb25, tb26, tb27, sx0, sx1, sx2, sx3, tinS, isi_int_lt, isi_int_l, isi_int_t, isi_int_bs, isi_int_b, isi_int_s, isi_int_i, isn_int, isi_str_lt, isi_str_l, isi_str_t, isi_str_bs, isi_str_b, isi_str_s, isi_str_i, isn_str, isi_tup_lt, isi_tup_l, isi_tup_t, isi_tup_bs, isi_tup_b, isi_tup_s, isi_tup_i, isn_tup, isi_lst_lt, isi_lst_l, isi_lst_t, isi_lst_bs, isi_lst_b, isi_lst_s, isi_lst_i, isn_lst, isi_bl_lt, isi_bl_l, isi_bl_t, isi_bl_bs, isi_bl_b, isi_bl_s, isi_bl_i, isn_bl, isi_non_lt, isi_non_l, isi_non_t, isi_non_bs, isi_non_b, isi_non_s, isi_non_i, isn_non, isx_int, isx_str, isx_tup, isx_lst, isx_bl, isx_non])
theorem ix_in {gs : List D} {i : Int} (h0 : 0 ≤ i) (h1 : i < gs.length) : ∃ g, g ∈ gs ∧ dIx (.lst gs) (.int i) = some (.sc g) := by
  obtain ⟨k, rfl⟩ := Int.eq_ofNat_of_zero_le h0
  have hk : k < gs.length := by omega
  refine ⟨gs[k], List.getElem_mem hk, ?_⟩
  show (atI gs (k : Int)).map Out.sc = _
  unfold atI
  rw [ixN_at hk, Option.bind_some, List.getElem?_eq_getElem hk]
  rfl
theorem log_sz {n : Nat} (h : n ≤ sizeLine) : ((n : Int)).natAbs.log2 < 9000 := by
  have h1 : ((n : Int)).natAbs = n := rfl
  rw [h1]
  rcases Nat.eq_zero_or_pos n with rfl | hp
  · decide
  · have h2 : n < 2 ^ 8999 := Nat.lt_of_le_of_lt h (by unfold sizeLine; exact Nat.lt_of_lt_of_le (by decide : 16777216 < 2 ^ 25) (Nat.pow_le_pow_right (by decide) (by decide)))
    exact Nat.lt_succ_of_lt ((Nat.log2_lt (by omega)).mpr h2)
theorem of_ok (l : Nat) (a b c : Int) (gs : List D) (hg : gs ≠ []) (hn : gs.length ≤ sizeLine) (hc : 0 ≤ c) (hc2 : c < 1000000000) : okE noE (M.fx (l + 2) 15 [tinS a b c, .ow gs]) fun v ss => ∃ g a' c', g ∈ gs ∧ v = .val g ∧ ss = [tinS a' b c', .ow gs] ∧ 0 ≤ c' ∧ c' ≤ c + 1 := by
  refine k_fn (d := d15) (τ := [tinS a b c, .ow gs]) rfl rfl ?_
  simp only [d15, b15]
  walk_at "ev"
  have hp : 0 < (gs.length : Int) := by
    have := List.length_pos_iff.mpr hg
    omega
  refine ok_mono (take_ok l a b c gs.length hp (log_sz hn) hc hc2) ?_
  rintro v ss ⟨r, a', c', rfl, rfl, h1, h2⟩
  obtain ⟨g, hm, e⟩ := ix_in (gs := gs) (i := r % gs.length) (Int.emod_nonneg r (by omega)) (Int.emod_lt_of_pos r hp)
  walk_at "ev"
  rw [e]
  walk_at "ev"
  exact ⟨_, _, _, hm, rfl, rfl, h1, h2⟩
theorem div2 {i : Int} {Q : Out → Prop} : okO (dDiv (.int i) (.int 2)) Q = Q (.sc (.int (i / 2))) := oo_div (by decide) (by decide)
end Dv.G

set_option Elab.async false
set_option linter.all false
set_option maxRecDepth 100000
set_option maxHeartbeats 4000000
namespace Dv.G
open PySem PySem.Spec PyProof.Rows L2 Dv
local macro_rules | `(tactic| walk_at "ev") => `(tactic| simp only [evB, k_seq, evS, k_if, evT, evAndTs, evOrTs, k_bl, k_op2, evE, evA, evAnds, evOrs, evO, evI, evG, evGs, k_var, k_con, k_tru, k_andT, k_orT, k_notT, k_andV, k_orV, k_notV, k_tup, k_lst, k_drop, k_call, isFn_fn, k_co, lb_nil, lb_val, lb_fr, lb_sl, owL_fz, owL_ow, pm_nil, pm_cons, ps_val, ps_fr, ps_sl, pasS_fz, pasS_ow, wb_nil, wb_vl, wb_fr, wb_sl, owB_fz, owB_ow, isOw_s, isOwS_ow, outS_L, ol_nil, ol_ow, ol_fz, hasS_at, hasO_fz, hasO_ow, List.getElem?_cons_zero, List.getElem?_cons_succ, true_and, and_true, look_val, look_fr, look_sl, slD_fz, slD_ow, oo_some, KC.g, K2.g, KF.g, KM.g, KN.g, KM.ty, KN.ty, oo_cmp, oo_lt, isBl_bl, outV_sc, outV_nl, outV_nt, Option.bind_some, oo_mul, oo_add, oo_sub, oo_neg, oo_int, ix0, ix1, ix2, ixT0, ixT1, ixT2, decide_eq_true_eq, k_asg, k_consA, k_nilA, k_opN, k_op1, st_val, st_fr, st_sl, stS_fz, stS_ow, k_gtup, seqO_tup, seqO_lst, gs_nl, gs_cn, k_par, pp_nil, pp_cons, pr_fr, pr_val, pr_sl, k_app, k_ext, k_pop, k_popAt, owO_ow, lstO_lst, intO_int, k_mth, k_mth0, ps_none, ps_some, k_sl, outB_bl, k_chain, k_items, wk_fr, wk_lst, wk_tup, wk_scr, wk_sl, wkS_lst, wkS_tup, wkS_scr, wkS_ow, k_signs, isStr_str, k_rng, oo_rng1, oo_rng2, k_frzI, fa_nil, fa_cons, frz_sl, frS1_fz, frS1_ow, k_for, goL_nx, goL_ct, goL_bk, goL_rt, k_lc, oo_lenL, oo_lenT, oo_lenS, k_seti, goS_nx, goS_rt, k_nx, k_ret, end_val, end_fr, end_nx, mm_nil, mm_cons, sd0, sd1, sd2, frz_val, frz_fr, rt_val, rt_fr, rt_sl, rtS_fz, rtS_ow, set_z, set_s, List.length_cons, List.length_nil, Nat.reduceAdd, Nat.reduceLeDiff, Bool.false_eq_true, or_self, or_false, false_or, not_false_eq_true, List.getElem?_nil, Int.reduceLT, List.cons_append, List.nil_append, List.append_nil, List.nodup_nil, List.nodup_cons, List.not_mem_nil, ite_true, ite_false, if_true, if_false, if_pos, lent, bindOk, beq_self_eq_true, Bool.and_self, wp_L, wp_nil, wp_cons, mg_L, mg_nil, mg_cons, k_yes, k_srtSet, List.contains_cons, List.contains_nil, Nat.reduceBEq, Bool.or_false, Bool.false_or, Bool.or_true, only, Bool.not_false, Bool.not_true, eq_self, Nat.reduceEqDiff, sl1, oo_addL, oo_tupL, oo_ne, oo_eq, tr_bl, oo_neB, oo_eqB, zip_tt, zip_ll, enum_l, AGs.len, sz0, sz1, sz2, sz3, sz4, sz5, sz6, sz7, sz8, sz9, sz10, sz11, sz12, sz13, oo_abs, oo_intB, pw18, pw12, mod61, oo_listL, oo_listT, oo_tupT, oo_min2, ssl_nil, ssl_cons, oi_nil, oi_cons, Nat.reduceLT, decide_true, Bool.and_true, Bool.true_and, k_rse, k_try, in_S, nin_S, add_S, len_S, signs_S, all_map, any_map, slL_1, slT_1, oo_addT, outV_cat, ix_m1, ixT_m1, sd_m1, gl0, gl1, gl2, gl3, gl4, gl5, gl6, gl7, gl8, gl9, gl10, gl11, gl12, gl13, gl14, gl15, gl16, gl17, gl18, gl19, gl20, gl21, gl22, gl23, gl24, gl25, gl26, gl27, gl28, gl29, gl30, tb0, tb1, tb2, tb3, tb4, tb5, tb6, tb7, tb8, tb9, tb10, tb11, tb12, tb13, tb14, tb15, tb16, tb17, tb18, tb19, tb20, tb21, tb22, tb23, tb24, tb25, tb26, tb27, sx0, sx1, sx2, sx3, tinS, div2, isi_int_lt, isi_int_l, isi_int_t, isi_int_bs, isi_int_b, isi_int_s, isi_int_i, isn_int, isi_str_lt, isi_str_l, isi_str_t, isi_str_bs, isi_str_b, isi_str_s, isi_str_i, isn_str, isi_tup_lt, isi_tup_l, isi_tup_t, isi_tup_bs, isi_tup_b, isi_tup_s, isi_tup_i, isn_tup, isi_lst_lt, isi_lst_l, isi_lst_t, isi_lst_bs, isi_lst_b, isi_lst_s, isi_lst_i, isn_lst, isi_bl_lt, isi_bl_l, isi_bl_t, isi_bl_bs, isi_bl_b, isi_bl_s, isi_bl_i, isn_bl, isi_non_lt, isi_non_l, isi_non_t, isi_non_bs, isi_non_b, isi_non_s, isi_non_i, isn_non, isx_int, isx_str, isx_tup, isx_lst, isx_bl, isx_non])
/-- it comes out true -/
def SameD (l : Nat) (d : D) : Prop := okE noE (M.fx l 18 [.fz d, .fz d]) fun v ss => v = .val (.bl true) ∧ ss = [.un, .un]
theorem same_int (l : Nat) (i : Int) : SameD (l + 1) (.int i) := by
  refine k_fn (d := d18) (τ := [.fz (.int i), .fz (.int i), .un, .un]) rfl rfl ?_
  simp only [d18, b18]
  walk_at "ev"
theorem zip_self : ∀ {ds : List D} {d : D}, d ∈ zipD ds ds → ∃ e, e ∈ ds ∧ d = .tup [e, e] := fun {ds d} h => by
  unfold zipD at h
  obtain ⟨p, hp, rfl⟩ := List.mem_map.mp h
  obtain ⟨i, hi, e⟩ := List.getElem_of_mem hp
  rw [List.getElem_zip] at e
  subst e
  exact ⟨_, List.getElem_mem _, rfl⟩
theorem zip_len (ds : List D) : (zipD ds ds).length = ds.length := by
  unfold zipD
  rw [List.length_map, List.length_zip, Nat.min_self]
theorem same_tup (l : Nat) (ds : List D) (h : ∀ d, d ∈ ds → SameD l d) (hl : ds.length ≤ sizeLine) : SameD (l + 1) (.tup ds) := by
  refine k_fn (d := d18) (τ := [.fz (.tup ds), .fz (.tup ds), .un, .un]) rfl rfl ?_
  simp only [d18, b18]
  walk_at "ev"
  refine lc_map (fun _ => some (.bl true)) (by rw [zip_len]; exact hl) (fun d hd => ?_) ?_
  · obtain ⟨e, he, rfl⟩ := zip_self hd
    walk_at "ev"
    refine ok_mono (h e he) ?_
    rintro v ss ⟨rfl, rfl⟩
    walk_at "ev"
  · walk_at "ev"
    exact congrArg (fun b => RV.val (D.bl b)) (by simp)
theorem same_lst (l : Nat) (ds : List D) (h : ∀ d, d ∈ ds → SameD l d) (hl : ds.length ≤ sizeLine) : SameD (l + 1) (.lst ds) := by
  refine k_fn (d := d18) (τ := [.fz (.lst ds), .fz (.lst ds), .un, .un]) rfl rfl ?_
  simp only [d18, b18]
  walk_at "ev"
  refine lc_map (fun _ => some (.bl true)) (by rw [zip_len]; exact hl) (fun d hd => ?_) ?_
  · obtain ⟨e, he, rfl⟩ := zip_self hd
    walk_at "ev"
    refine ok_mono (h e he) ?_
    rintro v ss ⟨rfl, rfl⟩
    walk_at "ev"
  · walk_at "ev"
    exact congrArg (fun b => RV.val (D.bl b)) (by simp)
theorem same_oo (l : Nat) (ds : List D) (h : ∀ d, d ∈ ds → SameD l d) (hl : ds.length ≤ sizeLine) : okE noE (M.fx (l + 1) 18 [.ow ds, .ow ds]) fun v ss => v = .val (.bl true) ∧ ss = [.fz (.lst ds), .fz (.lst ds)] := by
  refine k_fn (d := d18) (τ := [.ow ds, .ow ds, .un, .un]) rfl rfl ?_
  simp only [d18, b18]
  walk_at "ev"
  refine lc_map (fun _ => some (.bl true)) (by rw [zip_len]; exact hl) (fun d hd => ?_) ?_
  · obtain ⟨e, he, rfl⟩ := zip_self hd
    walk_at "ev"
    refine ok_mono (h e he) ?_
    rintro v ss ⟨rfl, rfl⟩
    walk_at "ev"
  · walk_at "ev"
    exact congrArg (fun b => RV.val (D.bl b)) (by simp)
theorem same_of (l : Nat) (ds : List D) (h : ∀ d, d ∈ ds → SameD l d) (hl : ds.length ≤ sizeLine) : okE noE (M.fx (l + 1) 18 [.ow ds, .fz (.lst ds)]) fun v ss => v = .val (.bl true) ∧ ss = [.fz (.lst ds), .un] := by
  refine k_fn (d := d18) (τ := [.ow ds, .fz (.lst ds), .un, .un]) rfl rfl ?_
  simp only [d18, b18]
  walk_at "ev"
  refine lc_map (fun _ => some (.bl true)) (by rw [zip_len]; exact hl) (fun d hd => ?_) ?_
  · obtain ⟨e, he, rfl⟩ := zip_self hd
    walk_at "ev"
    refine ok_mono (h e he) ?_
    rintro v ss ⟨rfl, rfl⟩
    walk_at "ev"
  · walk_at "ev"
    exact congrArg (fun b => RV.val (D.bl b)) (by simp)
theorem same_ints (l : Nat) (ns : List Int) (hl : ns.length ≤ sizeLine) : SameD (l + 2) (.tup (ns.map .int)) := same_tup (l + 1) _ (fun d hd => by
  obtain ⟨i, _, rfl⟩ := List.mem_map.mp hd
  exact same_int l i) (by rw [List.length_map]; exact hl)
theorem same_pair (l : Nat) (d e : D) (h1 : SameD l d) (h2 : SameD l e) : SameD (l + 1) (.tup [d, e]) := same_tup l _ (fun x hx => by
  simp only [List.mem_cons, List.not_mem_nil, or_false] at hx
  rcases hx with rfl | rfl
  · exact h1
  · exact h2) (show 2 ≤ sizeLine by decide)
theorem box_ok (l : Nat) (i : Int) (r : List Int) : okE noE (M.fx (l + 1) 12 [.ow ((i :: r).map .int), .fz (.int 0)]) fun v ss => ∃ a b, v = .fr [.int a, .int b, .int 0] ∧ ss = [.ow ((i :: r).map .int), .un] := by
  refine k_fn (d := d12) (τ := [.ow ((i :: r).map .int), .fz (.int 0), .un]) rfl rfl ?_
  simp only [d12, b12, List.map_cons]
  walk_at "ev"
  rw [if_pos (by omega)]
  exact ⟨mulB2 (by (repeat' split) <;> decide), by decide, _, _, rfl, rfl⟩
theorem erase_perm : ∀ (l : List D) (i : Nat) (h : i < l.length), (l[i] :: l.eraseIdx i).Perm l
  | x :: r, 0, _ => .refl _
  | x :: r, i + 1, h => (List.Perm.swap x _ _).trans (.cons x (erase_perm r i (Nat.lt_of_succ_lt_succ h)))
theorem pick_ok (l : Nat) (a b c n : Int) (gs : List D) (hc : 0 ≤ c) (hc2 : c < 700000000) (hn : 0 ≤ n) (hn2 : n ≤ 20) (hg : gs.length ≤ sizeLine) : okE noE (M.fx (l + 2) 16 [tinS a b c, .ow gs, .fz (.int n)]) fun v ss => ∃ a' c' fs rest s, v = .fr fs ∧ (fs ++ rest).Perm gs ∧ fs.length = min n.toNat gs.length ∧ ss = [tinS a' b c', s, .un] ∧ 0 ≤ c' ∧ c' ≤ c + 20 := by
  refine k_fn (d := d16) (τ := [tinS a b c, .ow gs, .fz (.int n), .un, .un, .un]) rfl rfl ?_
  simp only [d16, b16]
  walk_at "ev"
  generalize hN : (if (gs.length : Int) < n then (gs.length : Int) else n) = m
  have hm : 0 ≤ m ∧ m ≤ 20 ∧ m.toNat = min n.toNat gs.length := by
    subst hN
    split <;> omega
  refine ⟨by unfold inR; simp only [Bool.and_eq_true, decide_eq_true_eq]; omega, ?_⟩
  have hR : (rngD 0 m.toNat).length = m.toNat := by
    unfold rngD
    rw [List.length_map, List.length_range]
  refine for_inv (fun rest τ => ∃ (a' c' : Int) (pool fs : List D) (z : Sl), τ = [tinS a' b c', .ow gs, .fz (.int n), .ow pool, .ow fs, z] ∧ (fs ++ pool).Perm gs ∧ rest.length ≤ pool.length ∧ fs.length + rest.length = m.toNat ∧ 0 ≤ c' ∧ c' + (rest.length : Int) ≤ c + m) (fun τ h => ?_) (fun d r τ h => ?_) ⟨a, c, gs, [], .un, rfl, .refl _, by rw [hR]; omega, by rw [hR]; simp, hc, by rw [hR]; omega⟩
  · obtain ⟨a', c', pool, fs, z, rfl, h1, h2, h3, h4, h5⟩ := h
    rw [List.length_nil] at h3 h5
    walk_at "ev"
    exact ⟨_, _, fs, pool, _, rfl, h1, by omega, rfl, h4, by omega⟩
  · obtain ⟨a', c', pool, fs, z, rfl, h1, h2, h3, h4, h5⟩ := h
    rw [List.length_cons] at h2 h3 h5
    walk_at "ev"
    have hlen := h1.length_eq
    rw [List.length_append] at hlen
    have hpl : pool.length ≤ sizeLine := by omega
    refine ok_mono (take_ok l a' b c' pool.length (by omega) (log_sz hpl) h4 (by omega)) ?_
    rintro v ss ⟨q, a2, c2, rfl, rfl, i1, i2⟩
    have k1 := Int.emod_nonneg q (show (pool.length : Int) ≠ 0 by omega)
    have k2 := Int.emod_lt_of_pos q (show 0 < (pool.length : Int) by omega)
    generalize q % (pool.length : Int) = j at k1 k2
    have hj : j.toNat < pool.length := by omega
    have hsz : sizeLine = 16777216 := rfl
    walk_at "ev"
    rw [List.getElem?_eq_getElem hj]
    walk_at "ev"
    refine ⟨by omega, by omega, _, _, _, _, _, rfl, ?_, ?_, ?_, i1, by omega⟩
    · refine List.Perm.trans ?_ h1
      rw [List.append_assoc]
      exact List.Perm.append_left fs (erase_perm pool _ hj)
    · rw [List.length_eraseIdx_of_lt hj]
      omega
    · rw [List.length_append, List.length_singleton]
      omega
/-- the head is of a plain kind -/
def plH : D → Bool
  | .fn _ => false
  | .ty _ => false
  | .scr _ => false
  | _ => true
def isNum : D → Bool
  | .int _ => true
  | _ => false
theorem is_number_g (l : Nat) (d : D) (h : plH d = true) : okE noE (M.fx (l + 1) 0 [.fz d]) fun v ss => v = .val (.bl (isNum d)) ∧ ss = [.un] := by
  refine k_fn (d := d0) (τ := [.fz d]) rfl rfl ?_
  simp only [d0, b0]
  cases d <;> first | cases h; done | (walk_at "ev"; simp only [isNum, and_self])
def areNum : D → Bool
  | .tup ds => ds.all isNum
  | _ => false
theorem are_numbers_g (l : Nat) (d : D) (h : plH d = true) (h2 : ∀ ds, d = .tup ds → ds.length ≤ sizeLine ∧ ∀ e, e ∈ ds → plH e = true) : okE noE (M.fx (l + 2) 1 [.fz d]) fun v ss => v = .val (.bl (areNum d)) ∧ ss = [.un] := by
  refine k_fn (d := d1) (τ := [.fz d, .un]) rfl rfl ?_
  simp only [d1, b1]
  cases d with
  | tup ds =>
    obtain ⟨hl, hp⟩ := h2 ds rfl
    walk_at "ev"
    refine lc_map (fun d => some (.bl (isNum d))) hl (fun d hd => ?_) ?_
    · walk_at "ev"
      refine ok_mono (is_number_g l d (hp d hd)) ?_
      rintro v ss ⟨rfl, rfl⟩
      walk_at "ev"
    · walk_at "ev"
      simp only [areNum]
  | fn k => cases h
  | ty k => cases h
  | scr k => cases h
  | _ => walk_at "ev"; simp only [areNum, and_self]
theorem all_ints (ns : List Int) : (ns.map D.int).all isNum = true := by
  rw [List.all_map, List.all_eq_true]
  intro x _
  rfl
theorem are_ints (l : Nat) (ns : List Int) (hl : ns.length ≤ sizeLine) : okE noE (M.fx (l + 2) 1 [.fz (.tup (ns.map .int))]) fun v ss => v = .val (.bl true) ∧ ss = [.un] := by
  refine ok_mono (are_numbers_g l (.tup (ns.map .int)) rfl fun ds e => ?_) ?_
  · cases e
    rw [List.length_map]
    refine ⟨hl, fun e he => ?_⟩
    obtain ⟨i, _, rfl⟩ := List.mem_map.mp he
    rfl
  · rintro v ss ⟨rfl, rfl⟩
    refine ⟨?_, rfl⟩
    unfold areNum
    dsimp only
    rw [all_ints]
def TupS (l : Nat) (d e : D) : Prop := okE noE (M.fx l 2 [.fz d]) fun v ss => v = .val e ∧ ss = [.un]
theorem tupled_int (l : Nat) (i : Int) : TupS (l + 1) (.int i) (.int i) := by
  refine k_fn (d := d2) (τ := [.fz (.int i), .un]) rfl rfl ?_
  simp only [d2, b2]
  walk_at "ev"
theorem tupled_t (l : Nat) (ds : List D) (f : D → D) (h : ∀ d, d ∈ ds → TupS l d (f d)) (hl : ds.length ≤ sizeLine) : TupS (l + 1) (.tup ds) (.tup (ds.map f)) := by
  refine k_fn (d := d2) (τ := [.fz (.tup ds), .un]) rfl rfl ?_
  simp only [d2, b2]
  walk_at "ev"
  refine lc_map (fun d => some (f d)) hl (fun d hd => ?_) ?_
  · walk_at "ev"
    refine ok_mono (h d hd) ?_
    rintro v ss ⟨rfl, rfl⟩
    walk_at "ev"
  · walk_at "ev"
    rw [fm_some]
theorem tupled_l (l : Nat) (ds : List D) (f : D → D) (h : ∀ d, d ∈ ds → TupS l d (f d)) (hl : ds.length ≤ sizeLine) : TupS (l + 1) (.lst ds) (.tup (ds.map f)) := by
  refine k_fn (d := d2) (τ := [.fz (.lst ds), .un]) rfl rfl ?_
  simp only [d2, b2]
  walk_at "ev"
  refine lc_map (fun d => some (f d)) hl (fun d hd => ?_) ?_
  · walk_at "ev"
    refine ok_mono (h d hd) ?_
    rintro v ss ⟨rfl, rfl⟩
    walk_at "ev"
  · walk_at "ev"
    rw [fm_some]
theorem tupled_o (l : Nat) (ds : List D) (f : D → D) (h : ∀ d, d ∈ ds → TupS l d (f d)) (hl : ds.length ≤ sizeLine) : okE noE (M.fx (l + 1) 2 [.ow ds]) fun v ss => v = .val (.tup (ds.map f)) ∧ ∃ s, ss = [s] := by
  refine k_fn (d := d2) (τ := [.ow ds, .un]) rfl rfl ?_
  simp only [d2, b2]
  walk_at "ev"
  refine lc_map (fun d => some (f d)) hl (fun d hd => ?_) ?_
  · walk_at "ev"
    refine ok_mono (h d hd) ?_
    rintro v ss ⟨rfl, rfl⟩
    walk_at "ev"
  · walk_at "ev"
    rw [fm_some]
    exact ⟨rfl, _, rfl⟩
theorem tupled_ints (l : Nat) (ns : List Int) (hl : ns.length ≤ sizeLine) : TupS (l + 2) (.tup (ns.map .int)) (.tup (ns.map .int)) := by
  have := tupled_t (l + 1) (ns.map .int) id (fun d hd => by
    obtain ⟨p, _, rfl⟩ := List.mem_map.mp hd
    exact tupled_int l p) (by rw [List.length_map]; exact hl)
  rwa [List.map_id] at this
theorem slScr1 {n : Int} {ns : List Int} {Q : Out → Prop} : okO (dSl (.scr (n :: ns)) none (some 1)) Q = Q (.nl [.int n]) := by
  have e : HT.sIx (ns.length + 1) (ns.length + 1) (some 1) = 1 := (HT.sIx_nat (ns.length + 1) (ns.length + 1) 1).trans (by omega)
  show Q (.nl ((((n :: ns).drop 0).take (HT.sIx (ns.length + 1) (ns.length + 1) (some 1) - 0)).map .int)) = _
  rw [e]
  rfl
theorem slScr0 {Q : Out → Prop} : okO (dSl (.scr []) none (some 1)) Q = Q (.nl []) := rfl
theorem slScrR {ns : List Int} {lo hi : Option Int} {Q : Out → Prop} : okO (dSl (.scr ns) lo hi) Q = Q (.nl ((cutL ns lo hi).map .int)) := rfl
theorem cut_le {α : Type} (xs : List α) (lo hi : Option Int) : (cutL xs lo hi).length ≤ xs.length := by
  unfold cutL
  rw [List.length_take, List.length_drop]
  omega
theorem take1 (ns : List Int) : cutL ns none (some 1) = [] ∨ ∃ n, cutL ns none (some 1) = [n] := by
  cases ns with
  | nil => exact .inl rfl
  | cons n r =>
    refine .inr ⟨n, ?_⟩
    have e : HT.sIx (r.length + 1) (r.length + 1) (some 1) = 1 := (HT.sIx_nat (r.length + 1) (r.length + 1) 1).trans (by omega)
    show (((n :: r).drop 0).take (HT.sIx (r.length + 1) (r.length + 1) (some 1) - 0)) = _
    rw [e]
    rfl
theorem tr_nil {Q : Bool → Prop} : okO (truth (.lst [])) Q = Q false := rfl
theorem tr_cons {d : D} {r : List D} {Q : Bool → Prop} : okO (truth (.lst (d :: r))) Q = Q true := rfl
theorem cells_ok (l : Nat) (ns : List Int) (hn : ns.length ≤ 63) : okE noE (M.fx (l + 1) 14 [.fz (.scr ns), .fz (.int 1)]) fun v ss => ∃ i, v = .fr [.int i] ∧ ss = [.un, .un] := by
  refine k_fn (d := d14) (τ := [.fz (.scr ns), .fz (.int 1), .un, .un, .un, .un]) rfl rfl ?_
  simp only [d14, b14]
  have hc : ((cutL ns (some 1) (some 63))).length ≤ 63 := Nat.le_trans (cut_le _ _ _) hn
  walk_at "ev"
  rw [slScrR]
  walk_at "ev"
  have fin : ∃ i, (okO (truth (.lst ((cutL ns none (some 1)).map .int))) fun k => if k = true then (cutL ns none (some 1)).map D.int = [.int i] else i = 0) := by
    rcases take1 ns with h | ⟨n, h⟩
    · rw [h]; exact ⟨0, rfl⟩
    · rw [h]; exact ⟨n, rfl⟩
  obtain ⟨i, hi⟩ := fin
  rcases take1 ns with h | ⟨n, h⟩ <;> rw [h]
  · rw [List.map_nil, tr_nil]
    walk_at "ev"
    rw [slScrR]
    walk_at "ev"
    rw [en_F]
    refine for_inv (fun rest τ => ∃ (k : Nat) (ms : List Int) (i : Int) (z3 z4 z5 : Sl), rest = enF k (ms.map .int) ∧ k + ms.length ≤ 100 ∧ τ = [Sl.fz (.scr ns), .fz (.int 1), .ow [.int i], z3, z4, z5]) (fun τ h => ?_) (fun d r τ h => ?_) ⟨0, cutL ns (some 1) (some 63), 0, .un, .un, .un, rfl, by omega, rfl⟩
    · obtain ⟨k, ms, i, z3, z4, z5, _, _, rfl⟩ := h
      walk_at "ev"
      exact ⟨_, rfl⟩
    · obtain ⟨k, ms, i, z3, z4, z5, h1, h2, rfl⟩ := h
      match ms, h1, h2 with
      | m :: ms, h1, h2 =>
      have h1 : d :: r = .tup [.int (k : Nat), .int m] :: enF (k + 1) (ms.map .int) := h1
      injection h1 with e1 e2
      subst e1
      subst e2
      rw [List.length_cons] at h2
      walk_at "ev"
      rw [oo_mod (by decide), Int.emod_one]
      walk_at "ev"
      exact ⟨mulB2 (by omega), k + 1, ms, _, _, _, _, rfl, by omega, rfl⟩
  · rw [List.map_cons, List.map_nil, tr_cons]
    walk_at "ev"
    rw [slScrR]
    walk_at "ev"
    rw [en_F]
    refine for_inv (fun rest τ => ∃ (k : Nat) (ms : List Int) (i : Int) (z3 z4 z5 : Sl), rest = enF k (ms.map .int) ∧ k + ms.length ≤ 100 ∧ τ = [Sl.fz (.scr ns), .fz (.int 1), .ow [.int i], z3, z4, z5]) (fun τ h => ?_) (fun d r τ h => ?_) ⟨0, cutL ns (some 1) (some 63), n, .un, .un, .un, rfl, by omega, rfl⟩
    · obtain ⟨k, ms, i, z3, z4, z5, _, _, rfl⟩ := h
      walk_at "ev"
      exact ⟨_, rfl⟩
    · obtain ⟨k, ms, i, z3, z4, z5, h1, h2, rfl⟩ := h
      match ms, h1, h2 with
      | m :: ms, h1, h2 =>
      have h1 : d :: r = .tup [.int (k : Nat), .int m] :: enF (k + 1) (ms.map .int) := h1
      injection h1 with e1 e2
      subst e1
      subst e2
      rw [List.length_cons] at h2
      walk_at "ev"
      rw [oo_mod (by decide), Int.emod_one]
      walk_at "ev"
      exact ⟨mulB2 (by omega), k + 1, ms, _, _, _, _, rfl, by omega, rfl⟩
theorem fm_map {α : Type} {f : D → Option D} {g h : α → D} (e : ∀ x, f (g x) = some (h x)) : ∀ {l : List α}, (l.map g).filterMap f = l.map h
  | [] => rfl
  | x :: r => by rw [List.map_cons, List.filterMap_cons, e, List.map_cons, fm_map e]
theorem lists_int (l : Nat) (i : Int) : okE noE (M.fx (l + 1) 17 [.fz (.int i)]) fun v ss => v = .val (.int i) ∧ ss = [.un] := by
  refine k_fn (d := d17) (τ := [.fz (.int i), .un]) rfl rfl ?_
  simp only [d17, b17]
  walk_at "ev"
theorem lists_ints (l : Nat) (ns : List Int) (hl : ns.length ≤ sizeLine) : okE noE (M.fx (l + 2) 17 [.fz (.tup (ns.map .int))]) fun v ss => v = .fr (ns.map .int) ∧ ss = [.un] := by
  refine k_fn (d := d17) (τ := [.fz (.tup (ns.map .int)), .un]) rfl rfl ?_
  simp only [d17, b17]
  walk_at "ev"
  refine lc_map some (by rw [List.length_map]; exact hl) (fun d hd => ?_) ?_
  · obtain ⟨i, _, rfl⟩ := List.mem_map.mp hd
    walk_at "ev"
    refine ok_mono (lists_int l i) ?_
    rintro v ss ⟨rfl, rfl⟩
    walk_at "ev"
  · walk_at "ev"
    rw [fm_some (f := fun d => d), List.map_id']
end Dv.G

set_option Elab.async false
set_option linter.all false
set_option maxRecDepth 100000
set_option maxHeartbeats 4000000
namespace Dv.G
open PySem PySem.Spec PyProof.Rows L2 Dv
local macro_rules | `(tactic| walk_at "ev") => `(tactic| simp only [evB, k_seq, evS, k_if, evT, evAndTs, evOrTs, k_bl, k_op2, evE, evA, evAnds, evOrs, evO, evI, evG, evGs, k_var, k_con, k_tru, k_andT, k_orT, k_notT, k_andV, k_orV, k_notV, k_tup, k_lst, k_drop, k_call, isFn_fn, k_co, lb_nil, lb_val, lb_fr, lb_sl, owL_fz, owL_ow, pm_nil, pm_cons, ps_val, ps_fr, ps_sl, pasS_fz, pasS_ow, wb_nil, wb_vl, wb_fr, wb_sl, owB_fz, owB_ow, isOw_s, isOwS_ow, outS_L, ol_nil, ol_ow, ol_fz, hasS_at, hasO_fz, hasO_ow, List.getElem?_cons_zero, List.getElem?_cons_succ, true_and, and_true, look_val, look_fr, look_sl, slD_fz, slD_ow, oo_some, KC.g, K2.g, KF.g, KM.g, KN.g, KM.ty, KN.ty, oo_cmp, oo_lt, isBl_bl, outV_sc, outV_nl, outV_nt, Option.bind_some, oo_mul, oo_add, oo_sub, oo_neg, oo_int, ix0, ix1, ix2, ixT0, ixT1, ixT2, decide_eq_true_eq, k_asg, k_consA, k_nilA, k_opN, k_op1, st_val, st_fr, st_sl, stS_fz, stS_ow, k_gtup, seqO_tup, seqO_lst, gs_nl, gs_cn, k_par, pp_nil, pp_cons, pr_fr, pr_val, pr_sl, k_app, k_ext, k_pop, k_popAt, owO_ow, lstO_lst, intO_int, k_mth, k_mth0, ps_none, ps_some, k_sl, outB_bl, k_chain, k_items, wk_fr, wk_lst, wk_tup, wk_scr, wk_sl, wkS_lst, wkS_tup, wkS_scr, wkS_ow, k_signs, isStr_str, k_rng, oo_rng1, oo_rng2, k_frzI, fa_nil, fa_cons, frz_sl, frS1_fz, frS1_ow, k_for, goL_nx, goL_ct, goL_bk, goL_rt, k_lc, oo_lenL, oo_lenT, oo_lenS, k_seti, goS_nx, goS_rt, k_nx, k_ret, end_val, end_fr, end_nx, mm_nil, mm_cons, sd0, sd1, sd2, frz_val, frz_fr, rt_val, rt_fr, rt_sl, rtS_fz, rtS_ow, set_z, set_s, List.length_cons, List.length_nil, Nat.reduceAdd, Nat.reduceLeDiff, Bool.false_eq_true, or_self, or_false, false_or, not_false_eq_true, List.getElem?_nil, Int.reduceLT, List.cons_append, List.nil_append, List.append_nil, List.nodup_nil, List.nodup_cons, List.not_mem_nil, ite_true, ite_false, if_true, if_false, if_pos, lent, bindOk, beq_self_eq_true, Bool.and_self, wp_L, wp_nil, wp_cons, mg_L, mg_nil, mg_cons, k_yes, k_srtSet, List.contains_cons, List.contains_nil, Nat.reduceBEq, Bool.or_false, Bool.false_or, Bool.or_true, only, Bool.not_false, Bool.not_true, eq_self, Nat.reduceEqDiff, sl1, oo_addL, oo_tupL, oo_ne, oo_eq, tr_bl, oo_neB, oo_eqB, zip_tt, zip_ll, enum_l, AGs.len, sz0, sz1, sz2, sz3, sz4, sz5, sz6, sz7, sz8, sz9, sz10, sz11, sz12, sz13, oo_abs, oo_intB, pw18, pw12, mod61, oo_listL, oo_listT, oo_tupT, oo_min2, ssl_nil, ssl_cons, oi_nil, oi_cons, Nat.reduceLT, decide_true, Bool.and_true, Bool.true_and, k_rse, k_try, in_S, nin_S, add_S, len_S, signs_S, all_map, any_map, slL_1, slT_1, oo_addT, outV_cat, ix_m1, ixT_m1, sd_m1, gl0, gl1, gl2, gl3, gl4, gl5, gl6, gl7, gl8, gl9, gl10, gl11, gl12, gl13, gl14, gl15, gl16, gl17, gl18, gl19, gl20, gl21, gl22, gl23, gl24, gl25, gl26, gl27, gl28, gl29, gl30, tb0, tb1, tb2, tb3, tb4, tb5, tb6, tb7, tb8, tb9, tb10, tb11, tb12, tb13, tb14, tb15, tb16, tb17, tb18, tb19, tb20, tb21, tb22, tb23, tb24, tb25, tb26, tb27, sx0, sx1, sx2, sx3, tinS, div2, zip_ll, k_lc2, lc2_nil, oo_sumI, isi_int_lt, isi_int_l, isi_int_t, isi_int_bs, isi_int_b, isi_int_s, isi_int_i, isn_int, isi_str_lt, isi_str_l, isi_str_t, isi_str_bs, isi_str_b, isi_str_s, isi_str_i, isn_str, isi_tup_lt, isi_tup_l, isi_tup_t, isi_tup_bs, isi_tup_b, isi_tup_s, isi_tup_i, isn_tup, isi_lst_lt, isi_lst_l, isi_lst_t, isi_lst_bs, isi_lst_b, isi_lst_s, isi_lst_i, isn_lst, isi_bl_lt, isi_bl_l, isi_bl_t, isi_bl_bs, isi_bl_b, isi_bl_s, isi_bl_i, isn_bl, isi_non_lt, isi_non_l, isi_non_t, isi_non_bs, isi_non_b, isi_non_s, isi_non_i, isn_non, isx_int, isx_str, isx_tup, isx_lst, isx_bl, isx_non])
theorem rng_nil {lo : Int} : rngD lo 0 = [] := rfl
theorem rng_cons {lo : Int} {n : Nat} : rngD lo (n + 1) = .int lo :: rngD (lo + 1) n := by
  unfold rngD
  rw [List.range_succ_eq_map, List.map_cons, List.map_map]
  congr 1
  · simp
  · refine List.map_congr_left fun i _ => ?_
    simp only [Function.comp_apply]
    congr 1
    omega
theorem rng_len {lo : Int} {n : Nat} : (rngD lo n).length = n := by
  unfold rngD
  rw [List.length_map, List.length_range]
theorem rng_mem {lo : Int} {n : Nat} {d : D} (h : d ∈ rngD lo n) : ∃ i : Nat, i < n ∧ d = .int (lo + i) := by
  unfold rngD at h
  obtain ⟨i, hi, rfl⟩ := List.mem_map.mp h
  exact ⟨i, List.mem_range.mp hi, rfl⟩
/-! tables -/
/-- a row of w numbers -/
def rw' (w : Nat) (T : Nat → Int) : List Int := (List.range w).map T
def tbl (r w : Nat) (T : Nat → Nat → Int) : List D := (List.range r).map fun i => lI (rw' w (T i))
theorem rw_len {w : Nat} {T : Nat → Int} : (rw' w T).length = w := by unfold rw'; rw [List.length_map, List.length_range]
theorem rw_get {w : Nat} {T : Nat → Int} {j : Nat} (h : j < w) : (rw' w T)[j]? = some (T j) := by
  unfold rw'
  rw [List.getElem?_map, List.getElem?_range h]
  rfl
theorem rw_succ {w : Nat} {T : Nat → Int} : rw' (w + 1) T = rw' w T ++ [T w] := by
  unfold rw'
  rw [List.range_succ, List.map_append]
  rfl
theorem tbl_len {r w : Nat} {T : Nat → Nat → Int} : (tbl r w T).length = r := by unfold tbl; rw [List.length_map, List.length_range]
theorem tbl_get {r w : Nat} {T : Nat → Nat → Int} {i : Nat} (h : i < r) : (tbl r w T)[i]? = some (lI (rw' w (T i))) := by
  unfold tbl
  rw [List.getElem?_map, List.getElem?_range h]
  rfl
theorem tbl_succ {r w : Nat} {T : Nat → Nat → Int} : tbl (r + 1) w T = tbl r w T ++ [lI (rw' w (T r))] := by
  unfold tbl
  rw [List.range_succ, List.map_append]
  rfl
theorem ix_tbl {r w : Nat} {T : Nat → Nat → Int} {i : Nat} (h : i < r) {Q : Out → Prop} : okO (dIx (.lst (tbl r w T)) (.int (i : Int))) Q = Q (.sc (lI (rw' w (T i)))) := oo_ix (tbl_get h)
theorem ix_rw {w : Nat} {T : Nat → Int} {j : Nat} (h : j < w) {Q : Out → Prop} : okO (dIx (lI (rw' w T)) (.int (j : Int))) Q = Q (.sc (.int (T j))) := lI_get (rw_get h)
theorem ix_rwL {w : Nat} {T : Nat → Int} {Q : Out → Prop} : okO (dIx (lI (rw' (w + 1) T)) (.int (-1))) Q = Q (.sc (.int (T w))) := by
  unfold lI
  rw [rw_succ, List.map_append]
  exact ix_m1
theorem ix_tblL {r w : Nat} {T : Nat → Nat → Int} {Q : Out → Prop} : okO (dIx (.lst (tbl (r + 1) w T)) (.int (-1))) Q = Q (.sc (lI (rw' w (T r)))) := by
  rw [tbl_succ]
  exact ix_m1
def big (i : Int) : Prop := i.natAbs < 2 ^ 5000
theorem big_mul {i j : Int} (h1 : big i) (h2 : big j) : mulOk i j = true := by
  have lg : ∀ {i : Int}, big i → i.natAbs.log2 < 5000 := fun {i} h => by
    rcases Nat.eq_zero_or_pos i.natAbs with h0 | hp
    · rw [h0]; decide
    · exact (Nat.log2_lt (by omega)).mpr h
  have a := lg h1
  have b := lg h2
  unfold mulOk
  have : i.natAbs.log2 + j.natAbs.log2 < 1000000 := by omega
  rw [decide_eq_true this, Bool.or_true]
/-- the first below 0, from place k on -/
def negF (T : Nat → Int) : Nat → Nat → D
  | _, 0 => .non
  | k, n + 1 => if T k < 0 then .int (k : Int) else negF T (k + 1) n
theorem entering_ok (l w : Nat) (T : Nat → Int) (hw : w ≤ 1000) : okE noE (M.fx (l + 1) 6 [.fz (lI (rw' (w + 1) T))]) fun v ss => v = .val (negF T 0 w) ∧ ss = [.un] := by
  refine k_fn (d := d6) (τ := [.fz (.lst ((rw' (w + 1) T).map .int)), .un, .un]) rfl rfl ?_
  simp only [d6, b6]
  walk_at "ev"
  rw [rw_succ, List.map_append, show [T w].map D.int = [.int (T w)] from rfl, show okO (dSl (.lst ((rw' w T).map D.int ++ [.int (T w)])) none (some (-1))) _ = _ from sl_drop1]
  walk_at "ev"
  rw [en_F]
  refine for_inv (fun rest τ => ∃ (k n : Nat) (z1 z2 : Sl), k + n = w ∧ rest = enF k ((List.range n).map fun j => D.int (T (k + j))) ∧ τ = [Sl.fz (.lst ((rw' w T).map D.int ++ [.int (T w)])), z1, z2] ∧ negF T k n = negF T 0 w) (fun τ h => ?_) (fun d r τ h => ?_) ⟨0, w, .un, .un, by omega, by unfold rw'; rw [List.map_map]; simp only [Nat.zero_add]; rfl, rfl, rfl⟩
  · obtain ⟨k, n, z1, z2, h1, h2, rfl, h4⟩ := h
    have : n = 0 := by
      cases n with
      | zero => rfl
      | succ n =>
        rw [List.range_succ_eq_map] at h2
        cases h2
    subst this
    rw [← h4]
    walk_at "ev"
    rfl
  · obtain ⟨k, n, z1, z2, h1, h2, rfl, h4⟩ := h
    cases n with
    | zero => cases h2
    | succ n =>
      rw [List.range_succ_eq_map, List.map_cons, enF, List.map_map] at h2
      injection h2 with e1 e2
      subst e1
      subst e2
      walk_at "ev"
      rw [negF] at h4
      by_cases hneg : T k < 0
      · rw [if_pos hneg] at h4
        rw [if_pos (by simpa using hneg), ← h4]
      · rw [if_neg hneg] at h4
        rw [if_neg (by simpa using hneg)]
        refine ⟨k + 1, n, _, _, by omega, ?_, rfl, h4⟩
        congr 1
        refine List.map_congr_left fun j _ => ?_
        simp only [Function.comp_apply]
        congr 2
        omega
/-! what goes out -/
/-- the best row so far: of the least share, of several the one of the least column -/
def Best (T : Nat → Nat → Int) (w c : Nat) (β : List Nat) (k : Nat) : D → Prop
  | .non => ∀ i, i < k → T i c ≤ 0
  | .int p => ∃ q : Nat, p = (q : Int) ∧ q < k ∧ 0 < T q c ∧ (∀ i, i < k → 0 < T i c → T q w * T i c ≤ T i w * T q c) ∧ ∀ i, i < k → 0 < T i c → T q w * T i c = T i w * T q c → β.getD q 0 ≤ β.getD i 0
  | _ => False
theorem beta_get {β : List Nat} {i : Nat} (h : i < β.length) {Q : Out → Prop} : okO (dIx (.lst (β.map fun (x : Nat) => D.int (x : Int))) (.int (i : Int))) Q = Q (.sc (.int ((β.getD i 0 : Nat) : Int))) := oo_ix (by
  rw [List.getElem?_map, List.getElem?_eq_getElem h, List.getD_eq_getElem?_getD, List.getElem?_eq_getElem h]
  rfl)
theorem best_next {T : Nat → Nat → Int} {w c : Nat} {β : List Nat} {k q : Nat} (hq : q < k) (hp : 0 < T q c) (h1 : ∀ i, i < k → 0 < T i c → T q w * T i c ≤ T i w * T q c) (h2 : ∀ i, i < k → 0 < T i c → T q w * T i c = T i w * T q c → β.getD q 0 ≤ β.getD i 0) (hk : 0 < T k c) (hl : T k w * T q c < T q w * T k c ∨ (T k w * T q c = T q w * T k c ∧ β.getD k 0 ≤ β.getD q 0)) : Best T w c β (k + 1) (.int (k : Int)) := by
  have hle : T k w * T q c ≤ T q w * T k c := by omega
  refine ⟨k, rfl, by omega, hk, fun i hi hpos => ?_, fun i hi hpos e => ?_⟩
  · by_cases e : i = k
    · rw [e]; exact Int.le_refl _
    · exact Lv.fle_trans hk hp hpos hle (h1 i (by omega) hpos)
  · by_cases e2 : i = k
    · rw [e2]; exact Nat.le_refl _
    · have a := h1 i (by omega) hpos
      have b : T i w * T q c ≤ T q w * T i c := Lv.fle_trans hpos hk hp (Int.le_of_eq e.symm) hle
      have e3 := h2 i (by omega) hpos (Int.le_antisymm a b)
      have e4 : T q w * T k c ≤ T k w * T q c := Lv.fle_trans hp hpos hk a (Int.le_of_eq e.symm)
      omega
theorem best_stay {T : Nat → Nat → Int} {w c : Nat} {β : List Nat} {k q : Nat} (hq : q < k) (hp : 0 < T q c) (h1 : ∀ i, i < k → 0 < T i c → T q w * T i c ≤ T i w * T q c) (h2 : ∀ i, i < k → 0 < T i c → T q w * T i c = T i w * T q c → β.getD q 0 ≤ β.getD i 0) (hl : 0 < T k c → (T q w * T k c < T k w * T q c ∨ (T k w * T q c = T q w * T k c ∧ β.getD q 0 < β.getD k 0))) : Best T w c β (k + 1) (.int (q : Int)) := by
  refine ⟨q, rfl, by omega, hp, fun i hi hpos => ?_, fun i hi hpos e => ?_⟩
  · by_cases e : i = k
    · subst e
      have := hl hpos
      omega
    · exact h1 i (by omega) hpos
  · by_cases e2 : i = k
    · subst e2
      have := hl hpos
      omega
    · exact h2 i (by omega) hpos e
theorem leaving_ok (l R w c : Nat) (T : Nat → Nat → Int) (β : List Nat) (hb : β.length = R) (hR : R ≤ 1000) (hc : c < w) (hbig : ∀ i j, big (T i j)) : okE noE (M.fx (l + 1) 7 [.ow (tbl (R + 1) (w + 1) T), .ow (β.map fun (x : Nat) => D.int (x : Int)), .fz (.int (c : Int))]) fun v ss => (∃ d, v = .val d ∧ Best T w c β R d) ∧ ss = [.ow (tbl (R + 1) (w + 1) T), .ow (β.map fun (x : Nat) => D.int (x : Int)), .un] := by
  refine k_fn (d := d7) (τ := [.ow (tbl (R + 1) (w + 1) T), .ow (β.map fun (x : Nat) => D.int (x : Int)), .fz (.int (c : Int)), .un, .un, .un, .un, .un]) rfl rfl ?_
  simp only [d7, b7]
  walk_at "ev"
  rw [List.length_map, hb]
  refine ⟨by unfold inR; simp only [Bool.and_eq_true, decide_eq_true_eq]; omega, ?_⟩
  rw [Int.toNat_natCast]
  refine for_inv (fun rest τ => ∃ (k n : Nat) (best : D) (z4 z5 z6 z7 : Sl), k + n = R ∧ rest = rngD (k : Int) n ∧ τ = [.ow (tbl (R + 1) (w + 1) T), .ow (β.map fun (x : Nat) => D.int (x : Int)), .fz (.int (c : Int)), .fz best, z4, z5, z6, z7] ∧ Best T w c β k best) (fun τ h => ?_) (fun d r τ h => ?_) ⟨0, R, .non, .un, .un, .un, .un, by omega, rfl, rfl, fun i hi => absurd hi (by omega)⟩
  · obtain ⟨k, n, best, z4, z5, z6, z7, h1, h2, rfl, h4⟩ := h
    have : n = 0 := by
      have := congrArg List.length h2
      rw [rng_len] at this
      simpa using this.symm
    subst this
    rw [show k = R by omega] at h4
    walk_at "ev"
    exact ⟨_, rfl, h4⟩
  · obtain ⟨k, n, best, z4, z5, z6, z7, h1, h2, rfl, h4⟩ := h
    cases n with
    | zero => cases h2
    | succ n =>
      rw [rng_cons] at h2
      injection h2 with e1 e2
      subst e1
      subst e2
      have hk : k < R + 1 := by omega
      have hkb : k < β.length := by omega
      have nx : ((k : Int) + 1) = ((k + 1 : Nat) : Int) := rfl
      rw [nx]
      walk_at "ev"
      rw [ix_tbl hk]
      walk_at "ev"
      rw [ix_rw (by omega)]
      walk_at "ev"
      by_cases hpos : 0 < T k c
      case neg =>
        rw [if_pos (show T k c ≤ 0 by omega)]
        refine ⟨k + 1, n, best, _, _, _, _, by omega, rfl, rfl, ?_⟩
        cases best with
        | non =>
          intro i hi
          by_cases e : i = k
          · rw [e]; omega
          · exact h4 i (by omega)
        | int p =>
          obtain ⟨q, rfl, a1, a2, a3, a4⟩ := h4
          exact best_stay a1 a2 a3 a4 fun h => absurd h hpos
        | _ => exact h4.elim
      rw [if_neg (show ¬ T k c ≤ 0 by omega)]
      cases best with
      | non =>
        walk_at "ev"
        exact ⟨k + 1, n, .int (k : Int), _, _, _, _, by omega, rfl, rfl, k, rfl, by omega, hpos, fun i hi hp => by
          by_cases e : i = k
          · rw [e]; exact Int.le_refl _
          · have := h4 i (by omega)
            omega, fun i hi hp _ => by
          by_cases e : i = k
          · rw [e]; exact Nat.le_refl _
          · have := h4 i (by omega)
            omega⟩
      | int p =>
        obtain ⟨q, rfl, a1, a2, a3, a4⟩ := h4
        have hq : q < R + 1 := by omega
        have hqb : q < β.length := by omega
        walk_at "ev"
        rw [ix_rwL]
        walk_at "ev"
        rw [ix_tbl hq]
        walk_at "ev"
        rw [ix_rw (by omega)]
        walk_at "ev"
        refine ⟨big_mul (hbig _ _) (hbig _ _), ?_⟩
        rw [ix_tbl hq]
        walk_at "ev"
        rw [ix_rwL]
        walk_at "ev"
        rw [ix_rw (by omega)]
        walk_at "ev"
        refine ⟨big_mul (hbig _ _) (hbig _ _), ?_⟩
        by_cases g : T q w * T k c < T k w * T q c
        · rw [if_pos g]
          exact ⟨k + 1, n, .int (q : Int), _, _, _, _, by omega, rfl, rfl, best_stay a1 a2 a3 a4 fun _ => .inl g⟩
        rw [if_neg g]
        by_cases g2 : T k w * T q c = T q w * T k c
        · rw [if_pos (by simpa using g2), beta_get hkb]
          walk_at "ev"
          rw [beta_get hqb]
          walk_at "ev"
          by_cases g3 : β.getD q 0 < β.getD k 0
          · rw [if_pos (show ((β.getD q 0 : Nat) : Int) < ((β.getD k 0 : Nat) : Int) by omega)]
            exact ⟨k + 1, n, .int (q : Int), _, _, _, _, by omega, rfl, rfl, best_stay a1 a2 a3 a4 fun _ => .inr ⟨g2, g3⟩⟩
          · rw [if_neg (show ¬ ((β.getD q 0 : Nat) : Int) < ((β.getD k 0 : Nat) : Int) by omega)]
            exact ⟨k + 1, n, .int (k : Int), _, _, _, _, by omega, rfl, rfl, best_next a1 a2 a3 a4 hpos (.inr ⟨g2, by omega⟩)⟩
        · rw [if_neg (by simpa using g2)]
          exact ⟨k + 1, n, .int (k : Int), _, _, _, _, by omega, rfl, rfl, best_next a1 a2 a3 a4 hpos (.inl (by omega))⟩
      | _ => exact h4.elim
end Dv.G

set_option Elab.async false
set_option linter.all false
set_option maxRecDepth 100000
set_option maxHeartbeats 4000000
namespace Dv.G
open PySem PySem.Spec PyProof.Rows L2 Dv
local macro_rules | `(tactic| walk_at "ev") => `(tactic| simp only [evB, k_seq, evS, k_if, evT, evAndTs, evOrTs, k_bl, k_op2, evE, evA, evAnds, evOrs, evO, evI, evG, evGs, k_var, k_con, k_tru, k_andT, k_orT, k_notT, k_andV, k_orV, k_notV, k_tup, k_lst, k_drop, k_call, isFn_fn, k_co, lb_nil, lb_val, lb_fr, lb_sl, owL_fz, owL_ow, pm_nil, pm_cons, ps_val, ps_fr, ps_sl, pasS_fz, pasS_ow, wb_nil, wb_vl, wb_fr, wb_sl, owB_fz, owB_ow, isOw_s, isOwS_ow, outS_L, ol_nil, ol_ow, ol_fz, hasS_at, hasO_fz, hasO_ow, List.getElem?_cons_zero, List.getElem?_cons_succ, true_and, and_true, look_val, look_fr, look_sl, slD_fz, slD_ow, oo_some, KC.g, K2.g, KF.g, KM.g, KN.g, KM.ty, KN.ty, oo_cmp, oo_lt, isBl_bl, outV_sc, outV_nl, outV_nt, Option.bind_some, oo_mul, oo_add, oo_sub, oo_neg, oo_int, ix0, ix1, ix2, ixT0, ixT1, ixT2, decide_eq_true_eq, k_asg, k_consA, k_nilA, k_opN, k_op1, st_val, st_fr, st_sl, stS_fz, stS_ow, k_gtup, seqO_tup, seqO_lst, gs_nl, gs_cn, k_par, pp_nil, pp_cons, pr_fr, pr_val, pr_sl, k_app, k_ext, k_pop, k_popAt, owO_ow, lstO_lst, intO_int, k_mth, k_mth0, ps_none, ps_some, k_sl, outB_bl, k_chain, k_items, wk_fr, wk_lst, wk_tup, wk_scr, wk_sl, wkS_lst, wkS_tup, wkS_scr, wkS_ow, k_signs, isStr_str, k_rng, oo_rng1, oo_rng2, k_frzI, fa_nil, fa_cons, frz_sl, frS1_fz, frS1_ow, k_for, goL_nx, goL_ct, goL_bk, goL_rt, k_lc, oo_lenL, oo_lenT, oo_lenS, k_seti, goS_nx, goS_rt, k_nx, k_ret, end_val, end_fr, end_nx, mm_nil, mm_cons, sd0, sd1, sd2, frz_val, frz_fr, rt_val, rt_fr, rt_sl, rtS_fz, rtS_ow, set_z, set_s, List.length_cons, List.length_nil, Nat.reduceAdd, Nat.reduceLeDiff, Bool.false_eq_true, or_self, or_false, false_or, not_false_eq_true, List.getElem?_nil, Int.reduceLT, List.cons_append, List.nil_append, List.append_nil, List.nodup_nil, List.nodup_cons, List.not_mem_nil, ite_true, ite_false, if_true, if_false, if_pos, lent, bindOk, beq_self_eq_true, Bool.and_self, wp_L, wp_nil, wp_cons, mg_L, mg_nil, mg_cons, k_yes, k_srtSet, List.contains_cons, List.contains_nil, Nat.reduceBEq, Bool.or_false, Bool.false_or, Bool.or_true, only, Bool.not_false, Bool.not_true, eq_self, Nat.reduceEqDiff, sl1, oo_addL, oo_tupL, oo_ne, oo_eq, tr_bl, oo_neB, oo_eqB, zip_tt, zip_ll, enum_l, AGs.len, sz0, sz1, sz2, sz3, sz4, sz5, sz6, sz7, sz8, sz9, sz10, sz11, sz12, sz13, oo_abs, oo_intB, pw18, pw12, mod61, oo_listL, oo_listT, oo_tupT, oo_min2, ssl_nil, ssl_cons, oi_nil, oi_cons, Nat.reduceLT, decide_true, Bool.and_true, Bool.true_and, k_rse, k_try, in_S, nin_S, add_S, len_S, signs_S, all_map, any_map, slL_1, slT_1, oo_addT, outV_cat, ix_m1, ixT_m1, sd_m1, gl0, gl1, gl2, gl3, gl4, gl5, gl6, gl7, gl8, gl9, gl10, gl11, gl12, gl13, gl14, gl15, gl16, gl17, gl18, gl19, gl20, gl21, gl22, gl23, gl24, gl25, gl26, gl27, gl28, gl29, gl30, tb0, tb1, tb2, tb3, tb4, tb5, tb6, tb7, tb8, tb9, tb10, tb11, tb12, tb13, tb14, tb15, tb16, tb17, tb18, tb19, tb20, tb21, tb22, tb23, tb24, tb25, tb26, tb27, sx0, sx1, sx2, sx3, tinS, div2, zip_ll, k_lc2, lc2_nil, oo_sumI, isi_int_lt, isi_int_l, isi_int_t, isi_int_bs, isi_int_b, isi_int_s, isi_int_i, isn_int, isi_str_lt, isi_str_l, isi_str_t, isi_str_bs, isi_str_b, isi_str_s, isi_str_i, isn_str, isi_tup_lt, isi_tup_l, isi_tup_t, isi_tup_bs, isi_tup_b, isi_tup_s, isi_tup_i, isn_tup, isi_lst_lt, isi_lst_l, isi_lst_t, isi_lst_bs, isi_lst_b, isi_lst_s, isi_lst_i, isn_lst, isi_bl_lt, isi_bl_l, isi_bl_t, isi_bl_bs, isi_bl_b, isi_bl_s, isi_bl_i, isn_bl, isi_non_lt, isi_non_l, isi_non_t, isi_non_bs, isi_non_b, isi_non_s, isi_non_i, isn_non, isx_int, isx_str, isx_tup, isx_lst, isx_bl, isx_non])
/-- a row behind a step -/
def stepR (a b : Nat → Int) (c : Nat) (by' : Int) (j : Nat) : Int := (a j * b c - a c * b j) / by'
def stepT (T : Nat → Nat → Int) (p c : Nat) (by' : Int) (i j : Nat) : Int := if i = p then T p j else stepR (T i) (T p) c by' j
theorem zip_rw {w : Nat} {a b : Nat → Int} : zipD ((rw' w a).map .int) ((rw' w b).map .int) = (List.range w).map fun j => D.tup [.int (a j), .int (b j)] := by
  unfold zipD rw'
  rw [List.map_map, List.map_map, List.zip_map', List.map_map]
  rfl
theorem oo_divB {i j : Int} {Q : Out → Prop} (h : 0 < j) (h2 : j.natAbs < 2 ^ 5000) : okO (dDiv (.int i) (.int j)) Q = Q (.sc (.int (i / j))) := oo_div h (by
  rcases Nat.eq_zero_or_pos j.natAbs with h0 | hp
  · rw [h0]; decide
  · exact Nat.lt_of_lt_of_le ((Nat.log2_lt (by omega)).mpr h2) (by decide))
theorem turned_ok (l R w p c : Nat) (T : Nat → Nat → Int) (by' : Int) (hp : p < R + 1) (hR : R ≤ 1000) (hc : c < w) (hw : w ≤ 1000) (hbig : ∀ i j, big (T i j)) (hb : 0 < by') (hb2 : big by') : okE noE (M.fx (l + 1) 8 [.ow (tbl (R + 1) (w + 1) T), .fz (.int (p : Int)), .fz (.int (c : Int)), .fz (.int by')]) fun v ss => v = .fr (tbl (R + 1) (w + 1) (stepT T p c by')) ∧ ∃ s, ss = [s, .un, .un, .un] := by
  refine k_fn (d := d8) (τ := [.ow (tbl (R + 1) (w + 1) T), .fz (.int (p : Int)), .fz (.int (c : Int)), .fz (.int by'), .un, .un, .un, .un, .un, .un]) rfl rfl ?_
  simp only [d8, b8]
  have hmax : 1000000 ≤ sizeLine := by decide
  walk_at "ev"
  rw [ix_tbl hp]
  walk_at "ev"
  rw [en_F]
  have hen : ∀ n k : Nat, enF k ((List.range n).map fun i => lI (rw' (w + 1) (T (k + i)))) = (List.range n).map fun i => D.tup [.int ((k + i : Nat) : Int), lI (rw' (w + 1) (T (k + i)))] := by
    intro n
    induction n with
    | zero => intro k; rfl
    | succ n ih =>
      intro k
      rw [List.range_succ_eq_map, List.map_cons, List.map_cons, enF, List.map_map, List.map_map]
      congr 1
      have := ih (k + 1)
      rw [show (fun i => D.tup [.int ((k + i : Nat) : Int), lI (rw' (w + 1) (T (k + i)))]) ∘ Nat.succ = fun i => D.tup [.int ((k + 1 + i : Nat) : Int), lI (rw' (w + 1) (T (k + 1 + i)))] by
        funext i
        simp only [Function.comp_apply, Nat.succ_eq_add_one, show k + (i + 1) = k + 1 + i by omega], ← this]
      congr 1
      refine List.map_congr_left fun i _ => ?_
      simp only [Function.comp_apply, Nat.succ_eq_add_one, show k + (i + 1) = k + 1 + i by omega]
  have e0 : enF 0 (tbl (R + 1) (w + 1) T) = (List.range (R + 1)).map fun i => D.tup [.int ((0 + i : Nat) : Int), lI (rw' (w + 1) (T (0 + i)))] := by
    rw [← hen]
    unfold tbl
    simp only [Nat.zero_add]
  rw [e0]
  refine for_inv (fun rest τ => ∃ (k n : Nat) (z6 z7 z8 z9 : Sl), k + n = R + 1 ∧ rest = ((List.range n).map fun i => D.tup [.int ((k + i : Nat) : Int), lI (rw' (w + 1) (T (k + i)))]) ∧ τ = [.fz (.lst (tbl (R + 1) (w + 1) T)), .fz (.int (p : Int)), .fz (.int (c : Int)), .fz (.int by'), .fz (lI (rw' (w + 1) (T p))), .ow (tbl k (w + 1) (stepT T p c by')), z6, z7, z8, z9]) (fun τ h => ?_) (fun d r τ h => ?_) ⟨0, R + 1, .un, .un, .un, .un, by omega, rfl, rfl⟩
  · obtain ⟨k, n, z6, z7, z8, z9, h1, h2, rfl⟩ := h
    have : n = 0 := by
      have := congrArg List.length h2
      rw [List.length_map, List.length_range] at this
      simpa using this.symm
    subst this
    rw [show k = R + 1 by omega]
    walk_at "ev"
    exact ⟨_, rfl⟩
  · obtain ⟨k, n, z6, z7, z8, z9, h1, h2, rfl⟩ := h
    cases n with
    | zero => cases h2
    | succ n =>
      rw [List.range_succ_eq_map, List.map_cons, List.map_map] at h2
      injection h2 with e1 e2
      subst e1
      subst e2
      have hrest : (List.range n).map ((fun i => D.tup [.int ((k + i : Nat) : Int), lI (rw' (w + 1) (T (k + i)))]) ∘ Nat.succ) = (List.range n).map fun i => D.tup [.int ((k + 1 + i : Nat) : Int), lI (rw' (w + 1) (T (k + 1 + i)))] := by
        refine List.map_congr_left fun i _ => ?_
        simp only [Function.comp_apply, Nat.succ_eq_add_one, show k + (i + 1) = k + 1 + i by omega]
      rw [hrest]
      simp only [Nat.add_zero]
      walk_at "ev"
      by_cases e : k = p
      · subst e
        rw [if_pos (by simp), tbl_len]
        rw [show tbl k (w + 1) (stepT T k c by') ++ [lI (rw' (w + 1) (T k))] = tbl (k + 1) (w + 1) (stepT T k c by') by
          have : lI (rw' (w + 1) (stepT T k c by' k)) = lI (rw' (w + 1) (T k)) := by
            unfold stepT
            simp only [if_true]
          rw [tbl_succ, this]]
        exact ⟨by omega, k + 1, n, _, _, _, _, by omega, rfl, rfl⟩
      · rw [if_neg (by simp; omega)]
        simp only [lI]
        walk_at "ev"
        rw [zip_rw]
        refine lc_map (fun d => match d with
          | .tup [.int x, .int y] => some (.int ((x * T p c - T k c * y) / by'))
          | _ => none) (by rw [List.length_map, List.length_range]; omega) (fun d hd => ?_) ?_
        · obtain ⟨j, hj, rfl⟩ := List.mem_map.mp hd
          walk_at "ev"
          rw [show okO (dIx (.lst ((rw' (w + 1) (T p)).map .int)) (.int (c : Int))) _ = _ from ix_rw (by omega)]
          walk_at "ev"
          refine ⟨big_mul (hbig _ _) (hbig _ _), ?_⟩
          rw [show okO (dIx (.lst ((rw' (w + 1) (T k)).map .int)) (.int (c : Int))) _ = _ from ix_rw (by omega)]
          walk_at "ev"
          refine ⟨big_mul (hbig _ _) (hbig _ _), ?_⟩
          rw [oo_divB hb hb2]
          walk_at "ev"
        · walk_at "ev"
          rw [tbl_len, fm_map (g := fun j => D.tup [.int (T k j), .int (T p j)]) (h := fun j => .int ((T k j * T p c - T k c * T p j) / by')) fun j => rfl]
          rw [show tbl k (w + 1) (stepT T p c by') ++ [D.lst ((List.range (w + 1)).map fun j => D.int ((T k j * T p c - T k c * T p j) / by'))] = tbl (k + 1) (w + 1) (stepT T p c by') by
            have : lI (rw' (w + 1) (stepT T p c by' k)) = .lst ((List.range (w + 1)).map fun j => D.int ((T k j * T p c - T k c * T p j) / by')) := by
              unfold lI rw' stepT stepR
              rw [List.map_map]
              refine congrArg D.lst (List.map_congr_left fun j _ => ?_)
              simp only [Function.comp_apply, if_neg e]
            rw [tbl_succ, this]]
          exact ⟨by omega, k + 1, n, _, _, _, _, by omega, rfl, rfl⟩
end Dv.G

set_option Elab.async false
set_option linter.all false
set_option maxRecDepth 100000
set_option maxHeartbeats 4000000
namespace Dv.G
open PySem PySem.Spec PyProof.Rows L2 Dv
local macro_rules | `(tactic| walk_at "ev") => `(tactic| simp only [evB, k_seq, evS, k_if, evT, evAndTs, evOrTs, k_bl, k_op2, evE, evA, evAnds, evOrs, evO, evI, evG, evGs, k_var, k_con, k_tru, k_andT, k_orT, k_notT, k_andV, k_orV, k_notV, k_tup, k_lst, k_drop, k_call, isFn_fn, k_co, lb_nil, lb_val, lb_fr, lb_sl, owL_fz, owL_ow, pm_nil, pm_cons, ps_val, ps_fr, ps_sl, pasS_fz, pasS_ow, wb_nil, wb_vl, wb_fr, wb_sl, owB_fz, owB_ow, isOw_s, isOwS_ow, outS_L, ol_nil, ol_ow, ol_fz, hasS_at, hasO_fz, hasO_ow, List.getElem?_cons_zero, List.getElem?_cons_succ, true_and, and_true, look_val, look_fr, look_sl, slD_fz, slD_ow, oo_some, KC.g, K2.g, KF.g, KM.g, KN.g, KM.ty, KN.ty, oo_cmp, oo_lt, isBl_bl, outV_sc, outV_nl, outV_nt, Option.bind_some, oo_mul, oo_add, oo_sub, oo_neg, oo_int, ix0, ix1, ix2, ixT0, ixT1, ixT2, decide_eq_true_eq, k_asg, k_consA, k_nilA, k_opN, k_op1, st_val, st_fr, st_sl, stS_fz, stS_ow, k_gtup, seqO_tup, seqO_lst, gs_nl, gs_cn, k_par, pp_nil, pp_cons, pr_fr, pr_val, pr_sl, k_app, k_ext, k_pop, k_popAt, owO_ow, lstO_lst, intO_int, k_mth, k_mth0, ps_none, ps_some, k_sl, outB_bl, k_chain, k_items, wk_fr, wk_lst, wk_tup, wk_scr, wk_sl, wkS_lst, wkS_tup, wkS_scr, wkS_ow, k_signs, isStr_str, k_rng, oo_rng1, oo_rng2, k_frzI, fa_nil, fa_cons, frz_sl, frS1_fz, frS1_ow, k_for, goL_nx, goL_ct, goL_bk, goL_rt, k_lc, oo_lenL, oo_lenT, oo_lenS, k_seti, goS_nx, goS_rt, k_nx, k_ret, end_val, end_fr, end_nx, mm_nil, mm_cons, sd0, sd1, sd2, frz_val, frz_fr, rt_val, rt_fr, rt_sl, rtS_fz, rtS_ow, set_z, set_s, List.length_cons, List.length_nil, Nat.reduceAdd, Nat.reduceLeDiff, Bool.false_eq_true, or_self, or_false, false_or, not_false_eq_true, List.getElem?_nil, Int.reduceLT, List.cons_append, List.nil_append, List.append_nil, List.nodup_nil, List.nodup_cons, List.not_mem_nil, ite_true, ite_false, if_true, if_false, if_pos, lent, bindOk, beq_self_eq_true, Bool.and_self, wp_L, wp_nil, wp_cons, mg_L, mg_nil, mg_cons, k_yes, k_srtSet, List.contains_cons, List.contains_nil, Nat.reduceBEq, Bool.or_false, Bool.false_or, Bool.or_true, only, Bool.not_false, Bool.not_true, eq_self, Nat.reduceEqDiff, sl1, oo_addL, oo_tupL, oo_ne, oo_eq, tr_bl, oo_neB, oo_eqB, zip_tt, zip_ll, enum_l, AGs.len, sz0, sz1, sz2, sz3, sz4, sz5, sz6, sz7, sz8, sz9, sz10, sz11, sz12, sz13, oo_abs, oo_intB, pw18, pw12, mod61, oo_listL, oo_listT, oo_tupT, oo_min2, ssl_nil, ssl_cons, oi_nil, oi_cons, Nat.reduceLT, decide_true, Bool.and_true, Bool.true_and, k_rse, k_try, in_S, nin_S, add_S, len_S, signs_S, all_map, any_map, slL_1, slT_1, oo_addT, outV_cat, ix_m1, ixT_m1, sd_m1, gl0, gl1, gl2, gl3, gl4, gl5, gl6, gl7, gl8, gl9, gl10, gl11, gl12, gl13, gl14, gl15, gl16, gl17, gl18, gl19, gl20, gl21, gl22, gl23, gl24, gl25, gl26, gl27, gl28, gl29, gl30, tb0, tb1, tb2, tb3, tb4, tb5, tb6, tb7, tb8, tb9, tb10, tb11, tb12, tb13, tb14, tb15, tb16, tb17, tb18, tb19, tb20, tb21, tb22, tb23, tb24, tb25, tb26, tb27, sx0, sx1, sx2, sx3, tinS, div2, zip_ll, k_lc2, lc2_nil, oo_sumI, isi_int_lt, isi_int_l, isi_int_t, isi_int_bs, isi_int_b, isi_int_s, isi_int_i, isn_int, isi_str_lt, isi_str_l, isi_str_t, isi_str_bs, isi_str_b, isi_str_s, isi_str_i, isn_str, isi_tup_lt, isi_tup_l, isi_tup_t, isi_tup_bs, isi_tup_b, isi_tup_s, isi_tup_i, isn_tup, isi_lst_lt, isi_lst_l, isi_lst_t, isi_lst_bs, isi_lst_b, isi_lst_s, isi_lst_i, isn_lst, isi_bl_lt, isi_bl_l, isi_bl_t, isi_bl_bs, isi_bl_b, isi_bl_s, isi_bl_i, isn_bl, isi_non_lt, isi_non_l, isi_non_t, isi_non_bs, isi_non_b, isi_non_s, isi_non_i, isn_non, isx_int, isx_str, isx_tup, isx_lst, isx_bl, isx_non])
/-! the first table -/
def colF (rows : List (List Int)) (n : Nat) (j : Nat) : Lv.Vec :=
  if j < rows.length then fun q => if q < n then (rows.getD j []).getD q 0 else if q = n then 1 else if q = n + 1 then -(rows.getD j []).sum - 1 else 0
  else if j < rows.length + (n + 1) then Lv.unit (j - rows.length) else fun q => if q = n then 1 else if q = n + 1 then -1 else 0
structure RowsOk (rows : List (List Int)) (n : Nat) : Prop where
  len : ∀ r, r ∈ rows → r.length = n
  m1 : 1 ≤ rows.length
  m2 : rows.length ≤ 40
  n1 : 1 ≤ n
  n2 : n ≤ 12
  lim : ∀ r, r ∈ rows → ∀ x, x ∈ r → -1000000 ≤ x ∧ x ≤ 1000000
theorem rw_app {a b : Nat} {T : Nat → Int} : rw' (a + b) T = rw' a T ++ rw' b fun j => T (a + j) := by
  unfold rw'
  rw [List.range_add, List.map_append, List.map_map]
  rfl
theorem rw_congr {w : Nat} {T U : Nat → Int} (h : ∀ j, j < w → T j = U j) : rw' w T = rw' w U := List.map_congr_left fun j hj => h j (List.mem_range.mp hj)
theorem map_rw {rows : List (List Int)} {h : List Int → Int} : rows.map h = rw' rows.length fun j => h (rows.getD j []) := by
  unfold rw'
  apply List.ext_getElem?
  intro i
  rw [List.getElem?_map, List.getElem?_map]
  by_cases hi : i < rows.length
  · rw [List.getElem?_range hi, List.getElem?_eq_getElem hi]
    show some (h rows[i]) = some (h (rows.getD i []))
    rw [List.getD_eq_getElem?_getD, List.getElem?_eq_getElem hi]
    rfl
  · rw [List.getElem?_eq_none (by omega), List.getElem?_eq_none (by rw [List.length_range]; omega)]
    rfl
theorem rep_rw {k : Int} {n : Nat} : List.replicate n k = rw' n fun _ => k := by
  unfold rw'
  rw [List.map_const', List.length_range]
theorem mem_getD {rows : List (List Int)} {j : Nat} (h : j < rows.length) : rows.getD j [] ∈ rows := by
  rw [List.getD_eq_getElem?_getD, List.getElem?_eq_getElem h]
  exact List.getElem_mem h
/-- a row of the first table -/
theorem row0 {rows : List (List Int)} {n p : Nat} (h : RowsOk rows n) (hp : p ≤ n) : rw' (rows.length + (n + 1) + 1) (fun j => colF rows n j p) = (if p < n then rows.map fun r => r.getD p 0 else List.replicate rows.length 1) ++ (rw' (n + 1) fun q => if p = q then 1 else 0) ++ [if p = n then 1 else 0] := by
  rw [rw_succ, rw_app]
  congr 1
  · congr 1
    · by_cases hpn : p < n
      · rw [if_pos hpn, map_rw]
        refine rw_congr fun j hj => ?_
        unfold colF
        rw [if_pos hj]
        try dsimp only
        rw [if_pos hpn]
      · rw [if_neg hpn, rep_rw]
        refine rw_congr fun j hj => ?_
        unfold colF
        rw [if_pos hj]
        try dsimp only
        rw [if_neg hpn, if_pos (by omega)]
    · refine rw_congr fun q hq => ?_
      unfold colF
      rw [if_neg (by omega), if_pos (by omega)]
      unfold Lv.unit
      rw [show rows.length + q - rows.length = q by omega]
  · unfold colF
    rw [if_neg (by omega), if_neg (by omega)]
    try dsimp only
    by_cases e : p = n
    · rw [if_pos e, if_pos e]
    · rw [if_neg e, if_neg e, if_neg (by omega)]
theorem row0L {rows : List (List Int)} {n : Nat} (h : RowsOk rows n) : rw' (rows.length + (n + 1) + 1) (fun j => colF rows n j (n + 1)) = (rows.map fun r => -r.sum - 1) ++ List.replicate (n + 1) 0 ++ [-1] := by
  rw [rw_succ, rw_app]
  congr 1
  · congr 1
    · rw [map_rw]
      refine rw_congr fun j hj => ?_
      unfold colF
      rw [if_pos hj]
      try dsimp only
      rw [if_neg (by omega), if_neg (by omega), if_pos rfl]
    · rw [rep_rw]
      refine rw_congr fun q hq => ?_
      unfold colF
      rw [if_neg (by omega), if_pos (by omega)]
      unfold Lv.unit
      rw [if_neg (by omega)]
  · unfold colF
    rw [if_neg (by omega), if_neg (by omega)]
    try dsimp only
    rw [if_neg (by omega), if_pos rfl]
theorem ix_ints {r : List Int} {p : Nat} (hp : p < r.length) {Q : Out → Prop} : okO (dIx (.tup (r.map .int)) (.int (p : Int))) Q = Q (.sc (.int (r.getD p 0))) := oo_ixT (by
  rw [List.getElem?_map, List.getElem?_eq_getElem hp, List.getD_eq_getElem?_getD, List.getElem?_eq_getElem hp]
  rfl)
theorem inR_nat {n : Nat} (h : n ≤ 1000000) : inR (n : Int) = true := by
  unfold inR
  simp only [decide_eq_true_eq, Bool.and_eq_true]
  omega
def sumF : D → Option D
  | .tup ds => (ints? ds).map fun ns => .int (-ns.sum - 1)
  | _ => none
def atF (k : Nat) : D → Option D
  | .tup ds => ds[k]?
  | _ => none
def isF (k : Nat) : D → Option D
  | .int j => some (.int (if (k : Int) = j then 1 else 0))
  | _ => none
theorem sumF_map (rows : List (List Int)) : (rows.map tupI').filterMap sumF = (rows.map fun r => -r.sum - 1).map .int := by
  rw [List.map_map]
  refine fm_map (f := sumF) (g := tupI') (h := fun r => .int (-r.sum - 1)) fun r => ?_
  show (ints? (r.map D.int)).map _ = _
  rw [ints_map]
  rfl
theorem atF_map {n k : Nat} (hk : k < n) : ∀ (rows : List (List Int)), (∀ r, r ∈ rows → r.length = n) → (rows.map tupI').filterMap (atF k) = (rows.map fun r => r.getD k 0).map .int
  | [], _ => rfl
  | r :: rs, h => by
    have h1 := h r (.head _)
    rw [List.map_cons, List.filterMap_cons, show atF k (tupI' r) = some (.int (r.getD k 0)) by
      show (r.map D.int)[k]? = _
      rw [List.getElem?_map, List.getElem?_eq_getElem (by omega), List.getD_eq_getElem?_getD, List.getElem?_eq_getElem (by omega)]
      rfl, atF_map hk rs fun x hx => h x (.tail _ hx)]
    rfl
theorem isF_map (k n : Nat) : (rngD 0 n).filterMap (isF k) = (rw' n fun q => if k = q then 1 else 0).map .int := by
  unfold rngD rw'
  rw [List.map_map]
  refine fm_map (f := isF k) (g := fun i : Nat => D.int (0 + (i : Int))) (h := fun q => .int (if k = q then 1 else 0)) fun q => ?_
  unfold isF
  dsimp only
  by_cases e : k = q
  · rw [if_pos e, if_pos (by omega)]
  · rw [if_neg e, if_neg (by omega)]
local macro_rules | `(tactic| walk_at "w1") => `(tactic| simp only [st_val, stS_fz, set_z, set_s, k_seq, k_asg, k_if, k_bl, k_op2, k_var, k_con, k_lst, k_consA, k_nilA, k_opN, fa_nil, fa_cons, frz_val, look_fr, look_sl, look_val, slD_fz, lb_sl, sz1, List.length_cons, List.length_nil, Nat.reduceAdd, true_and, hasS_at, hasO_fz, mm_nil, mm_cons, oo_lenT, outV_sc, outV_nl, oo_some, List.getElem?_cons_zero, List.getElem?_cons_succ, mg_L, mg_nil, mg_cons, k_drop, k_app, Nat.reduceBEq, oo_add, List.contains_cons, List.contains_nil, Bool.or_false, Bool.false_or, Bool.or_true, Bool.false_eq_true, if_true, if_false, ite_true, ite_false, lent, Nat.reduceLeDiff, or_self, or_false, not_false_eq_true, List.getElem?_nil])
theorem first_table_ok (l n : Nat) (rows : List (List Int)) (h : RowsOk rows n) : okE noE (M.fx (l + 1) 5 [.fz (.tup (rows.map tupI'))]) fun v ss => v = .fr (tbl (n + 2) (rows.length + (n + 1) + 1) fun i j => colF rows n j i) ∧ ss = [.un] := by
  have h1 := h.m1
  have h2 := h.m2
  have h3 := h.n1
  have h4 := h.n2
  have hmax : 1000000 ≤ sizeLine := by decide
  obtain ⟨r0, rs, e0⟩ : ∃ r0 rs, rows = r0 :: rs := by
    cases rows with
    | nil => simp at h1
    | cons a b => exact ⟨a, b, rfl⟩
  have hr0 : r0.length = n := h.len r0 (by rw [e0]; exact .head _)
  have hix : (rows.map tupI')[0]? = some (.tup (r0.map .int)) := by rw [e0]; rfl
  refine k_fn (d := d5) (τ := [.fz (.tup (rows.map tupI')), .un, .un, .un, .un, .un, .un]) rfl rfl ?_
  simp only [d5, b5]
  walk_at "ev"
  rw [show okO (dIx (.tup (rows.map tupI')) (.int 0)) _ = _ from oo_ixT (k := 0) hix]
  walk_at "ev"
  rw [List.length_map, hr0]
  have hin : inR ((n : Int) + 1) = true := inR_nat (n := n + 1) (by omega)
  refine ⟨hin, ?_⟩
  rw [show ((n : Int) + 1).toNat = n + 1 by omega]
  refine for_inv (fun rest τ => ∃ (k m : Nat) (z3 z4 z5 z6 : Sl), k + m = n + 1 ∧ rest = rngD (k : Int) m ∧ τ = [.fz (.tup (rows.map tupI')), .fz (.int (n : Int)), .ow (tbl k (rows.length + (n + 1) + 1) fun i j => colF rows n j i), z3, z4, z5, z6]) (fun τ hI => ?_) (fun d r τ hI => ?_) ⟨0, n + 1, .un, .un, .un, .un, by omega, rfl, rfl⟩
  · obtain ⟨k, m, z3, z4, z5, z6, e1, e2, rfl⟩ := hI
    have : m = 0 := by
      have := congrArg List.length e2
      rw [rng_len] at this
      simpa using this.symm
    subst this
    rw [show k = n + 1 by omega]
    walk_at "ev"
    refine lc_map sumF (by rw [List.length_map]; omega) (fun d hd => ?_) ?_
    · obtain ⟨row, hr, rfl⟩ := List.mem_map.mp hd
      simp only [tupI']
      walk_at "ev"
      rw [oo_sumT]
      walk_at "ev"
      show (ints? (row.map D.int)).map _ = _
      rw [ints_map]
      rfl
    · rw [sumF_map]
      walk_at "w1"
      rw [show okO (dMul (.lst [D.int 0]) (.int ((n : Int) + 1))) _ = _ from oo_rep (n := n + 1) (by omega)]
      walk_at "ev"
      simp only [List.length_append, List.length_map, List.length_replicate, tbl_len]
      refine ⟨by omega, by omega, by omega, ?_⟩
      rw [tbl_succ (r := n + 1), row0L h]
      unfold lI
      rw [List.map_append, List.map_append, List.map_replicate]
      rfl
  · obtain ⟨k, m, z3, z4, z5, z6, e1, e2, rfl⟩ := hI
    cases m with
    | zero => rw [rng_nil] at e2; cases e2
    | succ m =>
      rw [rng_cons] at e2
      injection e2 with e3 e4
      subst e3
      subst e4
      generalize hF : tbl k (rows.length + (n + 1) + 1) (fun i j => colF rows n j i) = F
      generalize hR : rows.map tupI' = RW
      simp only [st_val, stS_fz, set_z, set_s, k_seq, k_asg, k_if, k_bl, k_op2, k_var, List.getElem?_cons_zero, List.getElem?_cons_succ, look_sl, slD_fz, lb_sl, oo_lt, outV_sc, look_val, Option.bind_some, isBl_bl, oo_some, decide_eq_true_eq]
      by_cases hk : k < n
      · rw [if_pos (show (k : Int) < (n : Int) by omega)]
        walk_at "ev"
        refine lc_map (atF k) (by rw [← hR, List.length_map]; omega) (fun d hd => ?_) ?_
        · rw [← hR] at hd
          obtain ⟨row, hr, rfl⟩ := List.mem_map.mp hd
          have hl := h.len row hr
          simp only [tupI']
          walk_at "ev"
          rw [ix_ints (by omega)]
          walk_at "ev"
          show (row.map D.int)[k]? = _
          rw [List.getElem?_map, List.getElem?_eq_getElem (by omega), List.getD_eq_getElem?_getD, List.getElem?_eq_getElem (by omega)]
          rfl
        rw [← hR, atF_map hk rows h.len]
        walk_at "ev"
        refine ⟨hin, ?_⟩
        rw [show ((n : Int) + 1).toNat = n + 1 by omega]
        refine lc_map (isF k) (by rw [rng_len]; omega) (fun d hd => ?_) ?_
        · obtain ⟨q, hq, rfl⟩ := rng_mem hd
          walk_at "ev"
          unfold isF
          dsimp only
          by_cases e : (k : Int) = 0 + (q : Int)
          · rw [if_pos e, if_pos (by rw [beq_iff_eq]; exact e)]
          · rw [if_neg e, if_neg (by rw [beq_iff_eq]; exact e)]
        · rw [isF_map]
          walk_at "ev"
          have hFl : F.length = k := by rw [← hF, tbl_len]
          simp only [List.length_append, List.length_map, List.length_replicate, rw_len, hFl]
          have e3 : [D.int (if ((k : Int) == (n : Int)) = true then 1 else 0)] = [if k = n then (1 : Int) else 0].map D.int := by
            by_cases e : k = n
            · rw [if_pos e, if_pos (by rw [beq_iff_eq]; omega)]; rfl
            · rw [if_neg e, if_neg (by rw [beq_iff_eq]; omega)]; rfl
          have e4 : F ++ [D.lst ((rows.map fun r => r.getD k 0).map D.int ++ (rw' (n + 1) fun q => if k = q then 1 else 0).map D.int ++ [D.int (if ((k : Int) == (n : Int)) = true then 1 else 0)])] = tbl (k + 1) (rows.length + (n + 1) + 1) fun i j => colF rows n j i := by
            rw [tbl_succ, hF, row0 h (by omega), if_pos hk, e3]
            unfold lI
            rw [List.map_append, List.map_append]
          rw [e4]
          exact ⟨by omega, by omega, by omega, k + 1, m, _, _, _, _, by omega, rfl, rfl⟩
      · rw [if_neg (show ¬ (k : Int) < (n : Int) by omega)]
        walk_at "w1"
        rw [show okO (dMul (.lst [D.int 1]) (.int ((RW.length : Nat) : Int))) _ = _ from oo_rep (by rw [← hR, List.length_map]; omega)]
        rw [← hR, List.length_map]
        walk_at "ev"
        refine ⟨hin, ?_⟩
        rw [show ((n : Int) + 1).toNat = n + 1 by omega]
        refine lc_map (isF k) (by rw [rng_len]; omega) (fun d hd => ?_) ?_
        · obtain ⟨q, hq, rfl⟩ := rng_mem hd
          walk_at "ev"
          unfold isF
          dsimp only
          by_cases e : (k : Int) = 0 + (q : Int)
          · rw [if_pos e, if_pos (by rw [beq_iff_eq]; exact e)]
          · rw [if_neg e, if_neg (by rw [beq_iff_eq]; exact e)]
        · rw [isF_map]
          walk_at "ev"
          have hFl : F.length = k := by rw [← hF, tbl_len]
          simp only [List.length_append, List.length_map, List.length_replicate, rw_len, hFl]
          have e3 : [D.int (if ((k : Int) == (n : Int)) = true then 1 else 0)] = [if k = n then (1 : Int) else 0].map D.int := by
            by_cases e : k = n
            · rw [if_pos e, if_pos (by rw [beq_iff_eq]; omega)]; rfl
            · rw [if_neg e, if_neg (by rw [beq_iff_eq]; omega)]; rfl
          have e4 : F ++ [D.lst (List.replicate rows.length (D.int 1) ++ (rw' (n + 1) fun q => if k = q then 1 else 0).map D.int ++ [D.int (if ((k : Int) == (n : Int)) = true then 1 else 0)])] = tbl (k + 1) (rows.length + (n + 1) + 1) fun i j => colF rows n j i := by
            rw [tbl_succ, hF, row0 h (by omega), if_neg hk, e3]
            unfold lI
            rw [List.map_append, List.map_append, List.map_replicate]
          rw [e4]
          exact ⟨by omega, by omega, by omega, k + 1, m, _, _, _, _, by omega, rfl, rfl⟩
end Dv.G

set_option Elab.async false
set_option linter.all false
set_option maxRecDepth 100000
set_option maxHeartbeats 4000000
namespace Dv.G
open PySem PySem.Spec PyProof.Rows L2 Dv
local macro_rules | `(tactic| walk_at "ev") => `(tactic| simp only [evB, k_seq, evS, k_if, evT, evAndTs, evOrTs, k_bl, k_op2, evE, evA, evAnds, evOrs, evO, evI, evG, evGs, k_var, k_con, k_tru, k_andT, k_orT, k_notT, k_andV, k_orV, k_notV, k_tup, k_lst, k_drop, k_call, isFn_fn, k_co, lb_nil, lb_val, lb_fr, lb_sl, owL_fz, owL_ow, pm_nil, pm_cons, ps_val, ps_fr, ps_sl, pasS_fz, pasS_ow, wb_nil, wb_vl, wb_fr, wb_sl, owB_fz, owB_ow, isOw_s, isOwS_ow, outS_L, ol_nil, ol_ow, ol_fz, hasS_at, hasO_fz, hasO_ow, List.getElem?_cons_zero, List.getElem?_cons_succ, true_and, and_true, look_val, look_fr, look_sl, slD_fz, slD_ow, oo_some, KC.g, K2.g, KF.g, KM.g, KN.g, KM.ty, KN.ty, oo_cmp, oo_lt, isBl_bl, outV_sc, outV_nl, outV_nt, Option.bind_some, oo_mul, oo_add, oo_sub, oo_neg, oo_int, ix0, ix1, ix2, ixT0, ixT1, ixT2, decide_eq_true_eq, k_asg, k_consA, k_nilA, k_opN, k_op1, st_val, st_fr, st_sl, stS_fz, stS_ow, k_gtup, seqO_tup, seqO_lst, gs_nl, gs_cn, k_par, pp_nil, pp_cons, pr_fr, pr_val, pr_sl, k_app, k_ext, k_pop, k_popAt, owO_ow, lstO_lst, intO_int, k_mth, k_mth0, ps_none, ps_some, k_sl, outB_bl, k_chain, k_items, wk_fr, wk_lst, wk_tup, wk_scr, wk_sl, wkS_lst, wkS_tup, wkS_scr, wkS_ow, k_signs, isStr_str, k_rng, oo_rng1, oo_rng2, k_frzI, fa_nil, fa_cons, frz_sl, frS1_fz, frS1_ow, k_for, goL_nx, goL_ct, goL_bk, goL_rt, k_lc, oo_lenL, oo_lenT, oo_lenS, k_seti, goS_nx, goS_rt, k_nx, k_ret, end_val, end_fr, end_nx, mm_nil, mm_cons, sd0, sd1, sd2, frz_val, frz_fr, rt_val, rt_fr, rt_sl, rtS_fz, rtS_ow, set_z, set_s, List.length_cons, List.length_nil, Nat.reduceAdd, Nat.reduceLeDiff, Bool.false_eq_true, or_self, or_false, false_or, not_false_eq_true, List.getElem?_nil, Int.reduceLT, List.cons_append, List.nil_append, List.append_nil, List.nodup_nil, List.nodup_cons, List.not_mem_nil, ite_true, ite_false, if_true, if_false, if_pos, lent, bindOk, beq_self_eq_true, Bool.and_self, wp_L, wp_nil, wp_cons, mg_L, mg_nil, mg_cons, k_yes, k_srtSet, List.contains_cons, List.contains_nil, Nat.reduceBEq, Bool.or_false, Bool.false_or, Bool.or_true, only, Bool.not_false, Bool.not_true, eq_self, Nat.reduceEqDiff, sl1, oo_addL, oo_tupL, oo_ne, oo_eq, tr_bl, oo_neB, oo_eqB, zip_tt, zip_ll, enum_l, AGs.len, sz0, sz1, sz2, sz3, sz4, sz5, sz6, sz7, sz8, sz9, sz10, sz11, sz12, sz13, oo_abs, oo_intB, pw18, pw12, mod61, oo_listL, oo_listT, oo_tupT, oo_min2, ssl_nil, ssl_cons, oi_nil, oi_cons, Nat.reduceLT, decide_true, Bool.and_true, Bool.true_and, k_rse, k_try, in_S, nin_S, add_S, len_S, signs_S, all_map, any_map, slL_1, slT_1, oo_addT, outV_cat, ix_m1, ixT_m1, sd_m1, gl0, gl1, gl2, gl3, gl4, gl5, gl6, gl7, gl8, gl9, gl10, gl11, gl12, gl13, gl14, gl15, gl16, gl17, gl18, gl19, gl20, gl21, gl22, gl23, gl24, gl25, gl26, gl27, gl28, gl29, gl30, tb0, tb1, tb2, tb3, tb4, tb5, tb6, tb7, tb8, tb9, tb10, tb11, tb12, tb13, tb14, tb15, tb16, tb17, tb18, tb19, tb20, tb21, tb22, tb23, tb24, tb25, tb26, tb27, sx0, sx1, sx2, sx3, tinS, div2, zip_ll, k_lc2, lc2_nil, oo_sumI, isi_int_lt, isi_int_l, isi_int_t, isi_int_bs, isi_int_b, isi_int_s, isi_int_i, isn_int, isi_str_lt, isi_str_l, isi_str_t, isi_str_bs, isi_str_b, isi_str_s, isi_str_i, isn_str, isi_tup_lt, isi_tup_l, isi_tup_t, isi_tup_bs, isi_tup_b, isi_tup_s, isi_tup_i, isn_tup, isi_lst_lt, isi_lst_l, isi_lst_t, isi_lst_bs, isi_lst_b, isi_lst_s, isi_lst_i, isn_lst, isi_bl_lt, isi_bl_l, isi_bl_t, isi_bl_bs, isi_bl_b, isi_bl_s, isi_bl_i, isn_bl, isi_non_lt, isi_non_l, isi_non_t, isi_non_bs, isi_non_b, isi_non_s, isi_non_i, isn_non, isx_int, isx_str, isx_tup, isx_lst, isx_bl, isx_non])
/-! the columns -/
section
variable {rows : List (List Int)} {n : Nat}
theorem colF_unit {q : Nat} (hq : q < n + 1) : colF rows n (rows.length + q) = Lv.unit q := by
  unfold colF
  rw [if_neg (by omega), if_pos (by omega), show rows.length + q - rows.length = q by omega]
theorem sum_bound : ∀ (r : List Int) (M : Nat), (∀ x, x ∈ r → x.natAbs ≤ M) → r.sum.natAbs ≤ r.length * M
  | [], _, _ => by simp
  | x :: r, M, h => by
    have h1 := h x (.head _)
    have h2 := sum_bound r M fun y hy => h y (.tail _ hy)
    rw [List.sum_cons, List.length_cons, Nat.succ_mul]
    omega
theorem row_abs (h : RowsOk rows n) {r : List Int} (hr : r ∈ rows) {x : Int} (hx : x ∈ r) : x.natAbs ≤ 1000000 := by
  have := h.lim r hr x hx
  omega
theorem row_sum (h : RowsOk rows n) {r : List Int} (hr : r ∈ rows) : r.sum.natAbs ≤ 12000000 := by
  have := sum_bound r 1000000 fun x hx => row_abs h hr hx
  rw [h.len r hr] at this
  have h4 := h.n2
  omega
theorem getD_abs (h : RowsOk rows n) {r : List Int} (hr : r ∈ rows) (c : Nat) : (r.getD c 0).natAbs ≤ 1000000 := by
  rw [List.getD_eq_getElem?_getD]
  by_cases hc : c < r.length
  · rw [List.getElem?_eq_getElem hc]
    exact row_abs h hr (List.getElem_mem hc)
  · rw [List.getElem?_eq_none (by omega)]
    decide
theorem colF_bound (h : RowsOk rows n) (j c : Nat) : (colF rows n j c).natAbs ≤ 2 ^ 24 := by
  unfold colF
  by_cases hj : j < rows.length
  · rw [if_pos hj]
    have hm := mem_getD hj
    try dsimp only
    by_cases h1 : c < n
    · rw [if_pos h1]
      exact Nat.le_trans (getD_abs h hm c) (by decide)
    · rw [if_neg h1]
      by_cases h2 : c = n
      · rw [if_pos h2]; decide
      · rw [if_neg h2]
        by_cases h3 : c = n + 1
        · rw [if_pos h3]
          have := row_sum h hm
          have : (2 : Nat) ^ 24 = 16777216 := by decide
          omega
        · rw [if_neg h3]; decide
  · rw [if_neg hj]
    by_cases h1 : j < rows.length + (n + 1)
    · rw [if_pos h1]
      unfold Lv.unit
      split
      · decide
      · decide
    · rw [if_neg h1]
      try dsimp only
      by_cases h2 : c = n
      · rw [if_pos h2]; decide
      · rw [if_neg h2]
        by_cases h3 : c = n + 1
        · rw [if_pos h3]; decide
        · rw [if_neg h3]; decide
theorem TT_big (h : RowsOk rows n) {β : List Nat} (hl : β.length = n + 1) (i j : Nat) : big (Lv.TT (colF rows n) (n + 1) β i j) := by
  have := Lv.TT_bound (M := 2 ^ 24) (by decide) (colF_bound h) hl i j
  have h4 := h.n2
  have h1 : (n + 1 + 1) * 2 ^ 24 ≤ 2 ^ 28 := by
    have : (n + 2) * 2 ^ 24 ≤ 16 * 2 ^ 24 := Nat.mul_le_mul_right _ (by omega)
    exact Nat.le_trans this (by decide)
  have h2 : ((n + 1 + 1) * 2 ^ 24) ^ (n + 1 + 1) ≤ (2 ^ 28) ^ 14 := Nat.le_trans (Nat.pow_le_pow_left h1 _) (Nat.pow_le_pow_right (by decide) (by omega))
  have h3 : ((2 : Nat) ^ 28) ^ 14 < 2 ^ 5000 := by
    rw [← Nat.pow_mul]
    exact Nat.pow_lt_pow_right (by decide) (by decide)
  unfold big
  omega
theorem dd_big (h : RowsOk rows n) {β : List Nat} (hl : β.length = n + 1) : big (Lv.dd (colF rows n) (n + 1) β) := by
  have := Lv.dd_bound (M := 2 ^ 24) (by decide) (colF_bound h) hl
  have h4 := h.n2
  have h1 : (n + 1 + 1) * 2 ^ 24 ≤ 2 ^ 28 := by
    have : (n + 2) * 2 ^ 24 ≤ 16 * 2 ^ 24 := Nat.mul_le_mul_right _ (by omega)
    exact Nat.le_trans this (by decide)
  have h2 : ((n + 1 + 1) * 2 ^ 24) ^ (n + 1 + 1) ≤ (2 ^ 28) ^ 14 := Nat.le_trans (Nat.pow_le_pow_left h1 _) (Nat.pow_le_pow_right (by decide) (by omega))
  have h3 : ((2 : Nat) ^ 28) ^ 14 < 2 ^ 5000 := by
    rw [← Nat.pow_mul]
    exact Nat.pow_lt_pow_right (by decide) (by decide)
  unfold big
  omega
theorem sm_list : ∀ (r : List Int), Lv.sm r.length (fun q => r.getD q 0) = r.sum
  | [] => rfl
  | x :: r => by
    rw [List.length_cons, Lv.sm_first, List.sum_cons, List.getD_cons_zero]
    have := sm_list r
    simp only [List.getD_cons_succ]
    rw [this]
theorem tot_row (h : RowsOk rows n) {j : Nat} (hj : j < rows.length) : Lv.tot (n + 1) (colF rows n j) = 0 := by
  have hm := mem_getD hj
  have hl := h.len _ hm
  unfold Lv.tot
  have e1 : Lv.sm (n + 1 + 1) (colF rows n j) = Lv.sm n (colF rows n j) + colF rows n j n + colF rows n j (n + 1) := rfl
  have e2 : Lv.sm n (colF rows n j) = (rows.getD j []).sum := by
    rw [← sm_list, hl]
    refine Lv.sm_congr fun q hq => ?_
    unfold colF
    rw [if_pos hj]
    try dsimp only
    rw [if_pos hq]
  have e3 : colF rows n j n = 1 := by
    unfold colF
    rw [if_pos hj]
    try dsimp only
    rw [if_neg (by omega), if_pos rfl]
  have e4 : colF rows n j (n + 1) = -(rows.getD j []).sum - 1 := by
    unfold colF
    rw [if_pos hj]
    try dsimp only
    rw [if_neg (by omega), if_neg (by omega), if_pos rfl]
  rw [e1, e2, e3, e4]
  omega
theorem colF_tot (h : RowsOk rows n) : Lv.Tot (colF rows n) (n + 1) (rows.length + (n + 1)) := by
  refine ⟨fun j hj => ?_, ?_⟩
  · by_cases e : j < rows.length
    · rw [tot_row h e]; decide
    · have : colF rows n j = Lv.unit (j - rows.length) := by
        have := colF_unit (rows := rows) (n := n) (q := j - rows.length) (by omega)
        rwa [show rows.length + (j - rows.length) = j by omega] at this
      rw [this, Lv.tot_unit (by omega)]
      decide
  · unfold Lv.tot
    have e1 : Lv.sm (n + 1 + 1) (colF rows n (rows.length + (n + 1))) = Lv.sm n (colF rows n (rows.length + (n + 1))) + colF rows n (rows.length + (n + 1)) n + colF rows n (rows.length + (n + 1)) (n + 1) := rfl
    have hc : ∀ q, colF rows n (rows.length + (n + 1)) q = if q = n then 1 else if q = n + 1 then -1 else 0 := fun q => by
      unfold colF
      rw [if_neg (by omega), if_neg (by omega)]
    rw [e1, Lv.sm_zero fun i hi => by rw [hc, if_neg (by omega), if_neg (by omega)], hc, hc, if_pos rfl, if_neg (by omega), if_pos rfl]
    decide
/-- the first basis -/
def beta0 (m n : Nat) : List Nat := (List.range (n + 1)).map fun q => m + q
theorem ok0 (h : RowsOk rows n) : Lv.Ok (colF rows n) (n + 1) (rows.length + (n + 1)) (beta0 rows.length n) := by
  refine ⟨by unfold beta0; rw [List.length_map, List.length_range], fun j hj => ?_, ?_, fun i hi => ?_⟩
  · obtain ⟨q, hq, rfl⟩ := List.mem_map.mp hj
    have := List.mem_range.mp hq
    omega
  · unfold beta0
    rw [Lv.dd_first fun q hq => colF_unit hq]
    decide
  · unfold beta0
    rw [Lv.TT_first (fun q hq => colF_unit hq) (by omega)]
    unfold colF
    rw [if_neg (by omega), if_neg (by omega)]
    try dsimp only
    rw [if_neg (show ¬ i = n + 1 by omega)]
    split
    · decide
    · decide
theorem tbl_congr {r w : Nat} {T U : Nat → Nat → Int} (h : ∀ i, i < r → ∀ j, j < w → T i j = U i j) : tbl r w T = tbl r w U := by
  unfold tbl
  refine List.map_congr_left fun i hi => ?_
  rw [rw_congr fun j hj => h i (List.mem_range.mp hi) j hj]
theorem tbl_first (rows : List (List Int)) (n : Nat) : tbl (n + 2) (rows.length + (n + 1) + 1) (fun i j => colF rows n j i) = tbl (n + 2) (rows.length + (n + 1) + 1) (Lv.TT (colF rows n) (n + 1) (beta0 rows.length n)) := tbl_congr fun i hi j _ => by
  unfold beta0
  rw [Lv.TT_first (fun q hq => colF_unit hq) (by omega)]
theorem tbl_next {β : List Nat} {p c : Nat} (O : Lv.Ok (colF rows n) (n + 1) (rows.length + (n + 1)) β) (hp : p < n + 1) : tbl (n + 2) (rows.length + (n + 1) + 1) (stepT (Lv.TT (colF rows n) (n + 1) β) p c (Lv.dd (colF rows n) (n + 1) β)) = tbl (n + 2) (rows.length + (n + 1) + 1) (Lv.TT (colF rows n) (n + 1) (β.set p c)) := tbl_congr fun i hi j _ => by
  unfold stepT stepR
  by_cases e : i = p
  · rw [if_pos e, e, Lv.TT_same O.len hp]
  · rw [if_neg e]
    exact Lv.TT_div O hp (by omega) e
end
theorem negF_cases (T : Nat → Int) : ∀ (n k : Nat), (negF T k n = .non ∧ ∀ j, k ≤ j → j < k + n → 0 ≤ T j) ∨ ∃ c, negF T k n = .int ((c : Nat) : Int) ∧ k ≤ c ∧ c < k + n ∧ T c < 0 ∧ ∀ j, k ≤ j → j < c → 0 ≤ T j
  | 0, k => .inl ⟨rfl, fun j h1 h2 => by omega⟩
  | n + 1, k => by
    unfold negF
    by_cases h : T k < 0
    · rw [if_pos h]
      exact .inr ⟨k, rfl, by omega, by omega, h, fun j h1 h2 => by omega⟩
    · rw [if_neg h]
      have hk : ∀ j, k ≤ j → ¬ k + 1 ≤ j → 0 ≤ T j := fun j h1 h2 => by
        rw [show j = k by omega]; omega
      rcases negF_cases T n (k + 1) with ⟨e, q⟩ | ⟨c, e, c1, c2, c3, q⟩
      · refine .inl ⟨e, fun j h1 h2 => ?_⟩
        by_cases h3 : k + 1 ≤ j
        · exact q j h3 (by omega)
        · exact hk j h1 h3
      · refine .inr ⟨c, e, by omega, by omega, c3, fun j h1 h2 => ?_⟩
        by_cases h3 : k + 1 ≤ j
        · exact q j h3 h2
        · exact hk j h1 h3
end Dv.G

set_option Elab.async false
set_option linter.all false
set_option maxRecDepth 100000
set_option maxHeartbeats 4000000
namespace Dv.G
open PySem PySem.Spec PyProof.Rows L2 Dv
local macro_rules | `(tactic| walk_at "ev") => `(tactic| simp only [evB, k_seq, evS, k_if, evT, evAndTs, evOrTs, k_bl, k_op2, evE, evA, evAnds, evOrs, evO, evI, evG, evGs, k_var, k_con, k_tru, k_andT, k_orT, k_notT, k_andV, k_orV, k_notV, k_tup, k_lst, k_drop, k_call, isFn_fn, k_co, lb_nil, lb_val, lb_fr, lb_sl, owL_fz, owL_ow, pm_nil, pm_cons, ps_val, ps_fr, ps_sl, pasS_fz, pasS_ow, wb_nil, wb_vl, wb_fr, wb_sl, owB_fz, owB_ow, isOw_s, isOwS_ow, outS_L, ol_nil, ol_ow, ol_fz, hasS_at, hasO_fz, hasO_ow, List.getElem?_cons_zero, List.getElem?_cons_succ, true_and, and_true, look_val, look_fr, look_sl, slD_fz, slD_ow, oo_some, KC.g, K2.g, KF.g, KM.g, KN.g, KM.ty, KN.ty, oo_cmp, oo_lt, isBl_bl, outV_sc, outV_nl, outV_nt, Option.bind_some, oo_mul, oo_add, oo_sub, oo_neg, oo_int, ix0, ix1, ix2, ixT0, ixT1, ixT2, decide_eq_true_eq, k_asg, k_consA, k_nilA, k_opN, k_op1, st_val, st_fr, st_sl, stS_fz, stS_ow, k_gtup, seqO_tup, seqO_lst, gs_nl, gs_cn, k_par, pp_nil, pp_cons, pr_fr, pr_val, pr_sl, k_app, k_ext, k_pop, k_popAt, owO_ow, lstO_lst, intO_int, k_mth, k_mth0, ps_none, ps_some, k_sl, outB_bl, k_chain, k_items, wk_fr, wk_lst, wk_tup, wk_scr, wk_sl, wkS_lst, wkS_tup, wkS_scr, wkS_ow, k_signs, isStr_str, k_rng, oo_rng1, oo_rng2, k_frzI, fa_nil, fa_cons, frz_sl, frS1_fz, frS1_ow, k_for, goL_nx, goL_ct, goL_bk, goL_rt, k_lc, oo_lenL, oo_lenT, oo_lenS, k_seti, goS_nx, goS_rt, k_nx, k_ret, end_val, end_fr, end_nx, mm_nil, mm_cons, sd0, sd1, sd2, frz_val, frz_fr, rt_val, rt_fr, rt_sl, rtS_fz, rtS_ow, set_z, set_s, List.length_cons, List.length_nil, Nat.reduceAdd, Nat.reduceLeDiff, Bool.false_eq_true, or_self, or_false, false_or, not_false_eq_true, List.getElem?_nil, Int.reduceLT, List.cons_append, List.nil_append, List.append_nil, List.nodup_nil, List.nodup_cons, List.not_mem_nil, ite_true, ite_false, if_true, if_false, if_pos, lent, bindOk, beq_self_eq_true, Bool.and_self, wp_L, wp_nil, wp_cons, mg_L, mg_nil, mg_cons, k_yes, k_srtSet, List.contains_cons, List.contains_nil, Nat.reduceBEq, Bool.or_false, Bool.false_or, Bool.or_true, only, Bool.not_false, Bool.not_true, eq_self, Nat.reduceEqDiff, sl1, oo_addL, oo_tupL, oo_ne, oo_eq, tr_bl, oo_neB, oo_eqB, zip_tt, zip_ll, enum_l, AGs.len, sz0, sz1, sz2, sz3, sz4, sz5, sz6, sz7, sz8, sz9, sz10, sz11, sz12, sz13, oo_abs, oo_intB, pw18, pw12, mod61, oo_listL, oo_listT, oo_tupT, oo_min2, ssl_nil, ssl_cons, oi_nil, oi_cons, Nat.reduceLT, decide_true, Bool.and_true, Bool.true_and, k_rse, k_try, in_S, nin_S, add_S, len_S, signs_S, all_map, any_map, slL_1, slT_1, oo_addT, outV_cat, ix_m1, ixT_m1, sd_m1, gl0, gl1, gl2, gl3, gl4, gl5, gl6, gl7, gl8, gl9, gl10, gl11, gl12, gl13, gl14, gl15, gl16, gl17, gl18, gl19, gl20, gl21, gl22, gl23, gl24, gl25, gl26, gl27, gl28, gl29, gl30, tb0, tb1, tb2, tb3, tb4, tb5, tb6, tb7, tb8, tb9, tb10, tb11, tb12, tb13, tb14, tb15, tb16, tb17, tb18, tb19, tb20, tb21, tb22, tb23, tb24, tb25, tb26, tb27, sx0, sx1, sx2, sx3, tinS, div2, zip_ll, k_lc2, lc2_nil, oo_sumI, isi_int_lt, isi_int_l, isi_int_t, isi_int_bs, isi_int_b, isi_int_s, isi_int_i, isn_int, isi_str_lt, isi_str_l, isi_str_t, isi_str_bs, isi_str_b, isi_str_s, isi_str_i, isn_str, isi_tup_lt, isi_tup_l, isi_tup_t, isi_tup_bs, isi_tup_b, isi_tup_s, isi_tup_i, isn_tup, isi_lst_lt, isi_lst_l, isi_lst_t, isi_lst_bs, isi_lst_b, isi_lst_s, isi_lst_i, isn_lst, isi_bl_lt, isi_bl_l, isi_bl_t, isi_bl_bs, isi_bl_b, isi_bl_s, isi_bl_i, isn_bl, isi_non_lt, isi_non_l, isi_non_t, isi_non_bs, isi_non_b, isi_non_s, isi_non_i, isn_non, isx_int, isx_str, isx_tup, isx_lst, isx_bl, isx_non])
/-! what the last table tells -/
/-- the sum of a row with numbers, place by place -/
def dotP (r xs : List Int) : Int := Lv.sm r.length fun q => r.getD q 0 * xs.getD q 0
/-- numbers above 0 with all rows -/
structure IsOver (rows : List (List Int)) (n : Nat) (xs : List Int) : Prop where
  len : xs.length = n
  pos : ∀ r, r ∈ rows → 0 < dotP r xs
/-- weights that bring the rows to nothing -/
structure IsBar (rows : List (List Int)) (n : Nat) (xs : List Int) : Prop where
  len : xs.length = rows.length
  nn : ∀ x, x ∈ xs → 0 ≤ x
  some : ∃ x, x ∈ xs ∧ 0 < x
  zero : ∀ q, q < n → Lv.sm rows.length (fun j => (rows.getD j []).getD q 0 * xs.getD j 0) = 0
section
variable {rows : List (List Int)} {n : Nat} {β : List Nat}
theorem colF_end (q : Nat) : colF rows n (rows.length + (n + 1)) q = if q = n then 1 else if q = n + 1 then -1 else 0 := by
  unfold colF
  rw [if_neg (by omega), if_neg (by omega)]
theorem colF_low {j : Nat} (hj : j < rows.length) (q : Nat) : colF rows n j q = if q < n then (rows.getD j []).getD q 0 else if q = n then 1 else if q = n + 1 then -(rows.getD j []).sum - 1 else 0 := by
  unfold colF
  rw [if_pos hj]
theorem helper_zero (h : RowsOk rows n) (O : Lv.Ok (colF rows n) (n + 1) (rows.length + (n + 1)) β) (hz : Lv.TT (colF rows n) (n + 1) β (n + 1) (rows.length + (n + 1)) = 0) {i : Nat} (hi : i < n + 1) (hb : ¬ β.getD i 0 < rows.length) : Lv.TT (colF rows n) (n + 1) β i (rows.length + (n + 1)) = 0 := by
  have h1 := Lv.last_zero O (colF_tot h) hz i hi
  have h2 := O.lt _ (Lv.mem_get.mpr ⟨i, by rw [O.len]; exact hi, rfl⟩)
  have h3 : colF rows n (β.getD i 0) = Lv.unit (β.getD i 0 - rows.length) := by
    have := colF_unit (rows := rows) (n := n) (q := β.getD i 0 - rows.length) (by omega)
    rwa [show rows.length + (β.getD i 0 - rows.length) = β.getD i 0 by omega] at this
  rw [h3, Lv.tot_unit (by omega), Int.one_mul] at h1
  exact h1
theorem wts_part (h : RowsOk rows n) (O : Lv.Ok (colF rows n) (n + 1) (rows.length + (n + 1)) β) (hz : Lv.TT (colF rows n) (n + 1) β (n + 1) (rows.length + (n + 1)) = 0) {q : Nat} (hq : q < n + 1) : Lv.sm rows.length (fun j => colF rows n j q * (Lv.wts (fun i => Lv.TT (colF rows n) (n + 1) β i (rows.length + (n + 1))) β rows.length (n + 1)).getD j 0) = (if q = n then 1 else 0) * Lv.dd (colF rows n) (n + 1) β := by
  rw [Lv.wts_sum (n + 1) fun i j hi hj e => Lv.get_inj O hi hj e]
  have := Lv.rhs_at O (q := q) hq
  rw [colF_end] at this
  rw [show (if q = n then (1 : Int) else 0) = if q = n then 1 else if q = n + 1 then -1 else 0 by
    by_cases e : q = n
    · rw [if_pos e, if_pos e]
    · rw [if_neg e, if_neg e, if_neg (by omega)]]
  rw [this]
  refine Lv.sm_congr fun i hi => ?_
  try dsimp only
  by_cases hb : β.getD i 0 < rows.length
  · rw [if_pos hb]
  · rw [if_neg hb, helper_zero h O hz hi hb, Int.mul_zero]
theorem bar_of (h : RowsOk rows n) (O : Lv.Ok (colF rows n) (n + 1) (rows.length + (n + 1)) β) (hz : Lv.TT (colF rows n) (n + 1) β (n + 1) (rows.length + (n + 1)) = 0) : IsBar rows n (Lv.wts (fun i => Lv.TT (colF rows n) (n + 1) β i (rows.length + (n + 1))) β rows.length (n + 1)) := by
  refine ⟨Lv.wts_len _, Lv.wts_nn _ fun i hi => O.rhs i hi, ?_, fun q hq => ?_⟩
  · have h1 := wts_part h O hz (q := n) (by omega)
    rw [if_pos rfl, Int.one_mul] at h1
    have h2 := O.pos
    obtain ⟨j, hj, q⟩ := Lv.sm_pos (n := rows.length) (F := fun j => colF rows n j n * (Lv.wts (fun i => Lv.TT (colF rows n) (n + 1) β i (rows.length + (n + 1))) β rows.length (n + 1)).getD j 0) (by omega)
    have q : 0 < colF rows n j n * (Lv.wts (fun i => Lv.TT (colF rows n) (n + 1) β i (rows.length + (n + 1))) β rows.length (n + 1)).getD j 0 := q
    rw [colF_low hj, if_neg (by omega), if_pos rfl, Int.one_mul] at q
    refine ⟨_, ?_, q⟩
    rw [List.getD_eq_getElem?_getD, List.getElem?_eq_getElem (by rw [Lv.wts_len]; exact hj)]
    exact List.getElem_mem _
  · have h1 := wts_part h O hz (q := q) (by omega)
    rw [if_neg (by omega), Int.zero_mul] at h1
    refine Eq.trans (Lv.sm_congr fun j hj => ?_) h1
    rw [colF_low hj, if_pos hq]
/-- the numbers that the last row tells -/
def ups (rows : List (List Int)) (n : Nat) (β : List Nat) : List Int := rw' n fun q => Lv.TT (colF rows n) (n + 1) β (n + 1) (rows.length + q) - Lv.dd (colF rows n) (n + 1) β
theorem over_of (h : RowsOk rows n) (O : Lv.Ok (colF rows n) (n + 1) (rows.length + (n + 1)) β) (hL : ∀ j, j < rows.length + (n + 1) → 0 ≤ Lv.TT (colF rows n) (n + 1) β (n + 1) j) (hz : Lv.TT (colF rows n) (n + 1) β (n + 1) (rows.length + (n + 1)) ≠ 0) : IsOver rows n (ups rows n β) := by
  refine ⟨rw_len, fun r hr => ?_⟩
  have hneg := Lv.last_neg O (colF_tot h)
  have G := Lv.last_lin (col := colF rows n) O
  obtain ⟨j, hj, e⟩ := List.getElem_of_mem hr
  have hrj : rows.getD j [] = r := by
    rw [List.getD_eq_getElem?_getD, List.getElem?_eq_getElem hj]
    exact e
  have hl := h.len r hr
  have gu : ∀ q, q < n + 1 → Lv.det (n + 1 + 1) 0 ((Lv.Bv (colF rows n) (n + 1) β).set (n + 1) (Lv.unit q)) = Lv.TT (colF rows n) (n + 1) β (n + 1) (rows.length + q) := fun q hq => by
    unfold Lv.TT
    rw [colF_unit hq]
  have gl : Lv.det (n + 1 + 1) 0 ((Lv.Bv (colF rows n) (n + 1) β).set (n + 1) (Lv.unit (n + 1))) = Lv.dd (colF rows n) (n + 1) β := by
    unfold Lv.dd
    rw [Lv.set_self (Lv.Bv_last O.len)]
  have ej := G.units (colF rows n j)
  have eN := G.units (colF rows n (rows.length + (n + 1)))
  have e3 : ∀ v : Lv.Vec, Lv.sm (n + 1 + 1) (fun c => v c * Lv.det (n + 1 + 1) 0 ((Lv.Bv (colF rows n) (n + 1) β).set (n + 1) (Lv.unit c))) = Lv.sm n (fun c => v c * Lv.TT (colF rows n) (n + 1) β (n + 1) (rows.length + c)) + v n * Lv.TT (colF rows n) (n + 1) β (n + 1) (rows.length + n) + v (n + 1) * Lv.dd (colF rows n) (n + 1) β := fun v => by
    show Lv.sm n _ + v n * _ + v (n + 1) * _ = _
    rw [gl, gu n (by omega)]
    congr 2
    exact Lv.sm_congr fun q hq => by rw [gu q (by omega)]
  rw [e3] at ej eN
  rw [Lv.sm_zero fun i hi => by rw [colF_end, if_neg (by omega), if_neg (by omega), Int.zero_mul], colF_end, if_pos rfl, colF_end, if_neg (by omega), if_pos rfl] at eN
  rw [colF_low hj, if_neg (by omega), if_pos rfl, colF_low hj, if_neg (by omega), if_neg (by omega), if_pos rfl, hrj] at ej
  have e4 : Lv.sm n (fun c => colF rows n j c * Lv.TT (colF rows n) (n + 1) β (n + 1) (rows.length + c)) = dotP r (ups rows n β) + r.sum * Lv.dd (colF rows n) (n + 1) β := by
    have e5 : r.sum * Lv.dd (colF rows n) (n + 1) β = Lv.sm n fun q => Lv.dd (colF rows n) (n + 1) β * r.getD q 0 := by
      rw [Lv.sm_mul, ← hl, sm_list, Int.mul_comm]
    unfold dotP
    rw [hl, e5, ← Lv.sm_add]
    refine Lv.sm_congr fun q hq => ?_
    rw [colF_low hj, if_pos hq, hrj]
    have : (ups rows n β).getD q 0 = Lv.TT (colF rows n) (n + 1) β (n + 1) (rows.length + q) - Lv.dd (colF rows n) (n + 1) β := by
      unfold ups
      rw [List.getD_eq_getElem?_getD, rw_get hq]
      rfl
    rw [this, Int.mul_sub, Int.mul_comm (Lv.dd _ _ _)]
    omega
  rw [e4] at ej
  have hLj := hL j (by omega)
  have ej : Lv.TT (colF rows n) (n + 1) β (n + 1) j = _ := ej
  have eN : Lv.TT (colF rows n) (n + 1) β (n + 1) (rows.length + (n + 1)) = _ := eN
  have e6 : (-r.sum - 1) * Lv.dd (colF rows n) (n + 1) β = -(r.sum * Lv.dd (colF rows n) (n + 1) β) - Lv.dd (colF rows n) (n + 1) β := by
    rw [Int.sub_mul, Int.neg_mul, Int.one_mul]
  rw [e6] at ej
  omega
end
end Dv.G

set_option Elab.async false
set_option linter.all false
set_option maxRecDepth 100000
set_option maxHeartbeats 4000000
namespace Dv.G
open PySem PySem.Spec PyProof.Rows L2 Dv
local macro_rules | `(tactic| walk_at "ev") => `(tactic| simp only [evB, k_seq, evS, k_if, evT, evAndTs, evOrTs, k_bl, k_op2, evE, evA, evAnds, evOrs, evO, evI, evG, evGs, k_var, k_con, k_tru, k_andT, k_orT, k_notT, k_andV, k_orV, k_notV, k_tup, k_lst, k_drop, k_call, isFn_fn, k_co, lb_nil, lb_val, lb_fr, lb_sl, owL_fz, owL_ow, pm_nil, pm_cons, ps_val, ps_fr, ps_sl, pasS_fz, pasS_ow, wb_nil, wb_vl, wb_fr, wb_sl, owB_fz, owB_ow, isOw_s, isOwS_ow, outS_L, ol_nil, ol_ow, ol_fz, hasS_at, hasO_fz, hasO_ow, List.getElem?_cons_zero, List.getElem?_cons_succ, true_and, and_true, look_val, look_fr, look_sl, slD_fz, slD_ow, oo_some, KC.g, K2.g, KF.g, KM.g, KN.g, KM.ty, KN.ty, oo_cmp, oo_lt, isBl_bl, outV_sc, outV_nl, outV_nt, Option.bind_some, oo_mul, oo_add, oo_sub, oo_neg, oo_int, ix0, ix1, ix2, ixT0, ixT1, ixT2, decide_eq_true_eq, k_asg, k_consA, k_nilA, k_opN, k_op1, st_val, st_fr, st_sl, stS_fz, stS_ow, k_gtup, seqO_tup, seqO_lst, gs_nl, gs_cn, k_par, pp_nil, pp_cons, pr_fr, pr_val, pr_sl, k_app, k_ext, k_pop, k_popAt, owO_ow, lstO_lst, intO_int, k_mth, k_mth0, ps_none, ps_some, k_sl, outB_bl, k_chain, k_items, wk_fr, wk_lst, wk_tup, wk_scr, wk_sl, wkS_lst, wkS_tup, wkS_scr, wkS_ow, k_signs, isStr_str, k_rng, oo_rng1, oo_rng2, k_frzI, fa_nil, fa_cons, frz_sl, frS1_fz, frS1_ow, k_for, goL_nx, goL_ct, goL_bk, goL_rt, k_lc, oo_lenL, oo_lenT, oo_lenS, k_seti, goS_nx, goS_rt, k_nx, k_ret, end_val, end_fr, end_nx, mm_nil, mm_cons, sd0, sd1, sd2, frz_val, frz_fr, rt_val, rt_fr, rt_sl, rtS_fz, rtS_ow, set_z, set_s, List.length_cons, List.length_nil, Nat.reduceAdd, Nat.reduceLeDiff, Bool.false_eq_true, or_self, or_false, false_or, not_false_eq_true, List.getElem?_nil, Int.reduceLT, List.cons_append, List.nil_append, List.append_nil, List.nodup_nil, List.nodup_cons, List.not_mem_nil, ite_true, ite_false, if_true, if_false, if_pos, lent, bindOk, beq_self_eq_true, Bool.and_self, wp_L, wp_nil, wp_cons, mg_L, mg_nil, mg_cons, k_yes, k_srtSet, List.contains_cons, List.contains_nil, Nat.reduceBEq, Bool.or_false, Bool.false_or, Bool.or_true, only, Bool.not_false, Bool.not_true, eq_self, Nat.reduceEqDiff, sl1, oo_addL, oo_tupL, oo_ne, oo_eq, tr_bl, oo_neB, oo_eqB, zip_tt, zip_ll, enum_l, AGs.len, sz0, sz1, sz2, sz3, sz4, sz5, sz6, sz7, sz8, sz9, sz10, sz11, sz12, sz13, oo_abs, oo_intB, pw18, pw12, mod61, oo_listL, oo_listT, oo_tupT, oo_min2, ssl_nil, ssl_cons, oi_nil, oi_cons, Nat.reduceLT, decide_true, Bool.and_true, Bool.true_and, k_rse, k_try, in_S, nin_S, add_S, len_S, signs_S, all_map, any_map, slL_1, slT_1, oo_addT, outV_cat, ix_m1, ixT_m1, sd_m1, gl0, gl1, gl2, gl3, gl4, gl5, gl6, gl7, gl8, gl9, gl10, gl11, gl12, gl13, gl14, gl15, gl16, gl17, gl18, gl19, gl20, gl21, gl22, gl23, gl24, gl25, gl26, gl27, gl28, gl29, gl30, tb0, tb1, tb2, tb3, tb4, tb5, tb6, tb7, tb8, tb9, tb10, tb11, tb12, tb13, tb14, tb15, tb16, tb17, tb18, tb19, tb20, tb21, tb22, tb23, tb24, tb25, tb26, tb27, sx0, sx1, sx2, sx3, tinS, div2, zip_ll, k_lc2, lc2_nil, oo_sumI, isi_int_lt, isi_int_l, isi_int_t, isi_int_bs, isi_int_b, isi_int_s, isi_int_i, isn_int, isi_str_lt, isi_str_l, isi_str_t, isi_str_bs, isi_str_b, isi_str_s, isi_str_i, isn_str, isi_tup_lt, isi_tup_l, isi_tup_t, isi_tup_bs, isi_tup_b, isi_tup_s, isi_tup_i, isn_tup, isi_lst_lt, isi_lst_l, isi_lst_t, isi_lst_bs, isi_lst_b, isi_lst_s, isi_lst_i, isn_lst, isi_bl_lt, isi_bl_l, isi_bl_t, isi_bl_bs, isi_bl_b, isi_bl_s, isi_bl_i, isn_bl, isi_non_lt, isi_non_l, isi_non_t, isi_non_bs, isi_non_b, isi_non_s, isi_non_i, isn_non, isx_int, isx_str, isx_tup, isx_lst, isx_bl, isx_non])
/-! the greatest common divisor -/
/-- the rest, with the sign of what divides -/
def pm (x y : Int) : Int := if 0 < y then x % y else x.fmod y
theorem pm_sub (x y : Int) : ∃ k, pm x y = x - y * k := by
  unfold pm
  split
  · exact ⟨x / y, Int.emod_def x y⟩
  · exact ⟨x.fdiv y, Int.fmod_def x y⟩
theorem pm_sg {x y : Int} (h : y ≠ 0) : (0 < y ∧ 0 ≤ pm x y ∧ pm x y < y) ∨ (y < 0 ∧ y < pm x y ∧ pm x y ≤ 0) := by
  unfold pm
  by_cases hp : 0 < y
  · rw [if_pos hp]
    exact .inl ⟨hp, Int.emod_nonneg x h, Int.emod_lt_of_pos x hp⟩
  · rw [if_neg hp]
    have h1 : x.fmod y = -((-x).fmod (-y)) := by rw [Int.neg_fmod_neg, Int.neg_neg]
    have h2 : (-x).fmod (-y) = (-x) % (-y) := Int.fmod_eq_emod_of_nonneg _ (by omega)
    have h3 := Int.emod_nonneg (-x) (b := -y) (by omega)
    have h4 := Int.emod_lt_of_pos (-x) (b := -y) (by omega)
    rw [h1, h2]
    exact .inr ⟨by omega, by omega, by omega⟩
theorem pm_dvd {x y g : Int} : (g ∣ y ∧ g ∣ pm x y) ↔ (g ∣ x ∧ g ∣ y) := by
  obtain ⟨k, e⟩ := pm_sub x y
  constructor
  · rintro ⟨h1, h2⟩
    refine ⟨?_, h1⟩
    have : x = pm x y + y * k := by rw [e]; omega
    rw [this]
    exact Int.dvd_add h2 (Int.dvd_trans h1 (Int.dvd_mul_right y k))
  · rintro ⟨h1, h2⟩
    refine ⟨h2, ?_⟩
    rw [e]
    exact Int.dvd_sub h1 (Int.dvd_trans h2 (Int.dvd_mul_right y k))
theorem oo_pm {i j : Int} (h : j ≠ 0) {Q : Out → Prop} : okO (dMod (.int i) (.int j)) Q = Q (.sc (.int (pm i j))) := by
  show okO (if 0 < j then oI (i % j) else if j ≠ 0 then oI (i.fmod j) else none) Q = _
  unfold pm
  by_cases hp : 0 < j
  · rw [if_pos hp, if_pos hp]; rfl
  · rw [if_neg hp, if_neg hp, if_pos h]; rfl
/-- same signs, the second nearer to 0 -/
def sg (x y : Int) : Prop := (0 < x ∧ 0 ≤ y ∧ y < x) ∨ (x < 0 ∧ x < y ∧ y ≤ 0)
theorem sg_step {x y : Int} (h : sg x y) (hy : y ≠ 0) {k : Nat} (hk : x.natAbs * y.natAbs < 2 ^ (k + 1)) : y.natAbs * (pm x y).natAbs < 2 ^ k := by
  have h0 : 2 * (pm x y).natAbs ≤ x.natAbs := by
    rcases h with ⟨a, b, c⟩ | ⟨a, b, c⟩
    · have hp : 0 < y := by omega
      have e : pm x y = x % y := if_pos hp
      have h1 := Int.emod_nonneg x hy
      have h2 := Int.emod_lt_of_pos x hp
      have h3 := Int.mul_ediv_add_emod x y
      have h4 : 1 ≤ x / y := by
        rcases Int.lt_or_le 0 (x / y) with q | q
        · omega
        · have := Int.mul_nonpos_of_nonneg_of_nonpos (a := y) (b := x / y) (by omega) q
          omega
      have h5 : y * 1 ≤ y * (x / y) := Int.mul_le_mul_of_nonneg_left h4 (by omega)
      rw [e]
      omega
    · have hp : ¬ 0 < y := by omega
      have e : pm x y = x.fmod y := if_neg hp
      have h6 : x.fmod y = -((-x).fmod (-y)) := by rw [Int.neg_fmod_neg, Int.neg_neg]
      have h7 : (-x).fmod (-y) = (-x) % (-y) := Int.fmod_eq_emod_of_nonneg _ (by omega)
      have h1 := Int.emod_nonneg (-x) (b := -y) (by omega)
      have h2 := Int.emod_lt_of_pos (-x) (b := -y) (by omega)
      have h3 := Int.mul_ediv_add_emod (-x) (-y)
      have h4 : 1 ≤ (-x) / (-y) := by
        rcases Int.lt_or_le 0 ((-x) / (-y)) with q | q
        · omega
        · have := Int.mul_nonpos_of_nonneg_of_nonpos (a := -y) (b := (-x) / (-y)) (by omega) q
          omega
      have h5 : -y * 1 ≤ -y * ((-x) / (-y)) := Int.mul_le_mul_of_nonneg_left h4 (by omega)
      rw [e, h6, h7]
      omega
  have h1 : y.natAbs * (2 * (pm x y).natAbs) ≤ y.natAbs * x.natAbs := Nat.mul_le_mul_left _ h0
  rw [Nat.mul_left_comm, Nat.mul_comm y.natAbs x.natAbs] at h1
  rw [Nat.pow_succ] at hk
  omega
theorem pm_self {x y : Int} (h : y ≠ 0) : sg y (pm x y) := by
  rcases pm_sg (x := x) h with ⟨a, b, c⟩ | ⟨a, b, c⟩
  · exact .inl ⟨a, b, c⟩
  · exact .inr ⟨a, b, c⟩
theorem common_of_ok (l : Nat) (a b : Int) (hb : big b) : okE noE (M.fx (l + 1) 3 [.fz (.int a), .fz (.int b)]) fun v ss => (∃ c : Int, v = .val (.int c) ∧ 0 ≤ c ∧ ∀ g : Int, g ∣ c ↔ g ∣ a ∧ g ∣ b) ∧ ss = [.un, .un] := by
  refine k_fn (d := d3) (τ := [.fz (.int a), .fz (.int b)]) rfl rfl ?_
  simp only [d3, b3]
  walk_at "ev"
  refine whl_inv (fun fuel τ => ∃ x y : Int, τ = [.fz (.int x), .fz (.int y)] ∧ (∀ g : Int, (g ∣ x ∧ g ∣ y) ↔ g ∣ a ∧ g ∣ b) ∧ ((fuel = 1000000000000000000000000000000 ∧ y = b) ∨ (sg x y ∧ ∃ k, x.natAbs * y.natAbs < 2 ^ k ∧ k + 1 ≤ fuel))) (fun fuel τ hI => ?_) ⟨a, b, rfl, fun g => Iff.rfl, .inl ⟨rfl, rfl⟩⟩
  obtain ⟨x, y, rfl, hd, hs⟩ := hI
  obtain ⟨fuel, rfl⟩ : ∃ m, fuel = m + 1 := ⟨fuel - 1, by
    rcases hs with ⟨e, _⟩ | ⟨_, k, _, e⟩
    · omega
    · omega⟩
  refine ⟨fuel, rfl, ?_⟩
  walk_at "ev"
  by_cases hy : y = 0
  · subst hy
    rw [if_neg (by simp)]
    refine ⟨_, rfl, by split <;> omega, fun g => ?_⟩
    rw [← hd g]
    have h0 : g ∣ (0 : Int) := ⟨0, by simp⟩
    split
    · exact ⟨fun q => ⟨(Int.dvd_neg).mp q, h0⟩, fun q => (Int.dvd_neg).mpr q.1⟩
    · exact ⟨fun q => ⟨q, h0⟩, fun q => q.1⟩
  · rw [if_pos (by simpa using hy), oo_pm hy]
    walk_at "ev"
    refine ⟨⟨rfl, rfl⟩, y, pm x y, rfl, fun g => pm_dvd.trans (hd g), .inr ⟨pm_self hy, ?_⟩⟩
    rcases hs with ⟨e, e2⟩ | ⟨hsg, k, hk, hf⟩
    · subst e2
      refine ⟨10000, ?_, by omega⟩
      have h1 : y.natAbs < 2 ^ 5000 := hb
      have h2 : (pm x y).natAbs < 2 ^ 5000 := by
        rcases pm_self (x := x) hy with ⟨a, b, c⟩ | ⟨a, b, c⟩
        · omega
        · omega
      have h3 : (2 : Nat) ^ 10000 = 2 ^ 5000 * 2 ^ 5000 := by rw [← Nat.pow_add]
      rw [h3]
      exact Nat.mul_lt_mul'' h1 h2
    · cases k with
      | zero =>
        have : x.natAbs * y.natAbs < 1 := hk
        have hx : 0 < x.natAbs := by
          rcases hsg with ⟨a, b, c⟩ | ⟨a, b, c⟩
          · omega
          · omega
        have := Nat.mul_pos hx (show 0 < y.natAbs by omega)
        omega
      | succ k => exact ⟨k, sg_step hsg hy hk, by omega⟩
/-- of all -/
theorem common_of_row_ok (l : Nat) (ns : List Int) (hb : ∀ x, x ∈ ns → big x) : okE noE (M.fx (l + 2) 4 [.ow (ns.map .int)]) fun v ss => (∃ c : Int, v = .val (.int c) ∧ 0 ≤ c ∧ ∀ g : Int, g ∣ c ↔ ∀ x, x ∈ ns → g ∣ x) ∧ ss = [.fz (.lst (ns.map .int))] := by
  refine k_fn (d := d4) (τ := [.ow (ns.map .int), .un, .un]) rfl rfl ?_
  simp only [d4, b4]
  walk_at "ev"
  refine for_inv (fun rest τ => ∃ (don rem : List Int) (c : Int) (z : Sl), ns = don ++ rem ∧ rest = rem.map D.int ∧ τ = [.fz (.lst (ns.map D.int)), .fz (.int c), z] ∧ 0 ≤ c ∧ ∀ g : Int, g ∣ c ↔ ∀ x, x ∈ don → g ∣ x) (fun τ hI => ?_) (fun d r τ hI => ?_) ⟨[], ns, 0, .un, rfl, rfl, rfl, by decide, fun g => Iff.intro (fun _ x hx => nomatch hx) (fun _ => Exists.intro 0 (by simp))⟩
  · obtain ⟨don, rem, c, z, e1, e2, rfl, h0, h1⟩ := hI
    have : rem = [] := List.map_eq_nil_iff.mp e2.symm
    subst this
    rw [List.append_nil] at e1
    subst e1
    walk_at "ev"
    exact ⟨c, rfl, h0, h1⟩
  · obtain ⟨don, rem, c, z, e1, e2, rfl, h0, h1⟩ := hI
    cases rem with
    | nil => cases e2
    | cons x rem =>
      injection e2 with e3 e4
      subst e3
      subst e4
      walk_at "ev"
      refine ok_mono (common_of_ok l c x (hb x (by rw [e1]; exact List.mem_append_right _ (.head _)))) ?_
      rintro _ _ ⟨⟨c', rfl, h2, h3⟩, rfl⟩
      walk_at "ev"
      refine ⟨don ++ [x], rem, c', _, by rw [e1, List.append_assoc]; rfl, rfl, rfl, h2, fun g => ?_⟩
      rw [h3 g, h1 g]
      constructor
      · rintro ⟨q1, q2⟩ y hy
        rcases List.mem_append.mp hy with hy | hy
        · exact q1 y hy
        · rw [List.mem_singleton] at hy; subst hy; exact q2
      · intro q
        exact ⟨fun y hy => q y (List.mem_append_left _ hy), q x (List.mem_append_right _ (.head _))⟩
end Dv.G

set_option Elab.async false
set_option linter.all false
set_option maxRecDepth 100000
set_option maxHeartbeats 4000000
namespace Dv.G
open PySem PySem.Spec PyProof.Rows L2 Dv
local macro_rules | `(tactic| walk_at "ev") => `(tactic| simp only [evB, k_seq, evS, k_if, evT, evAndTs, evOrTs, k_bl, k_op2, evE, evA, evAnds, evOrs, evO, evI, evG, evGs, k_var, k_con, k_tru, k_andT, k_orT, k_notT, k_andV, k_orV, k_notV, k_tup, k_lst, k_drop, k_call, isFn_fn, k_co, lb_nil, lb_val, lb_fr, lb_sl, owL_fz, owL_ow, pm_nil, pm_cons, ps_val, ps_fr, ps_sl, pasS_fz, pasS_ow, wb_nil, wb_vl, wb_fr, wb_sl, owB_fz, owB_ow, isOw_s, isOwS_ow, outS_L, ol_nil, ol_ow, ol_fz, hasS_at, hasO_fz, hasO_ow, List.getElem?_cons_zero, List.getElem?_cons_succ, true_and, and_true, look_val, look_fr, look_sl, slD_fz, slD_ow, oo_some, KC.g, K2.g, KF.g, KM.g, KN.g, KM.ty, KN.ty, oo_cmp, oo_lt, isBl_bl, outV_sc, outV_nl, outV_nt, Option.bind_some, oo_mul, oo_add, oo_sub, oo_neg, oo_int, ix0, ix1, ix2, ixT0, ixT1, ixT2, decide_eq_true_eq, k_asg, k_consA, k_nilA, k_opN, k_op1, st_val, st_fr, st_sl, stS_fz, stS_ow, k_gtup, seqO_tup, seqO_lst, gs_nl, gs_cn, k_par, pp_nil, pp_cons, pr_fr, pr_val, pr_sl, k_app, k_ext, k_pop, k_popAt, owO_ow, lstO_lst, intO_int, k_mth, k_mth0, ps_none, ps_some, k_sl, outB_bl, k_chain, k_items, wk_fr, wk_lst, wk_tup, wk_scr, wk_sl, wkS_lst, wkS_tup, wkS_scr, wkS_ow, k_signs, isStr_str, k_rng, oo_rng1, oo_rng2, k_frzI, fa_nil, fa_cons, frz_sl, frS1_fz, frS1_ow, k_for, goL_nx, goL_ct, goL_bk, goL_rt, k_lc, oo_lenL, oo_lenT, oo_lenS, k_seti, goS_nx, goS_rt, k_nx, k_ret, end_val, end_fr, end_nx, mm_nil, mm_cons, sd0, sd1, sd2, frz_val, frz_fr, rt_val, rt_fr, rt_sl, rtS_fz, rtS_ow, set_z, set_s, List.length_cons, List.length_nil, Nat.reduceAdd, Nat.reduceLeDiff, Bool.false_eq_true, or_self, or_false, false_or, not_false_eq_true, List.getElem?_nil, Int.reduceLT, List.cons_append, List.nil_append, List.append_nil, List.nodup_nil, List.nodup_cons, List.not_mem_nil, ite_true, ite_false, if_true, if_false, if_pos, lent, bindOk, beq_self_eq_true, Bool.and_self, wp_L, wp_nil, wp_cons, mg_L, mg_nil, mg_cons, k_yes, k_srtSet, List.contains_cons, List.contains_nil, Nat.reduceBEq, Bool.or_false, Bool.false_or, Bool.or_true, only, Bool.not_false, Bool.not_true, eq_self, Nat.reduceEqDiff, sl1, oo_addL, oo_tupL, oo_ne, oo_eq, tr_bl, oo_neB, oo_eqB, zip_tt, zip_ll, enum_l, AGs.len, sz0, sz1, sz2, sz3, sz4, sz5, sz6, sz7, sz8, sz9, sz10, sz11, sz12, sz13, oo_abs, oo_intB, pw18, pw12, mod61, oo_listL, oo_listT, oo_tupT, oo_min2, ssl_nil, ssl_cons, oi_nil, oi_cons, Nat.reduceLT, decide_true, Bool.and_true, Bool.true_and, k_rse, k_try, in_S, nin_S, add_S, len_S, signs_S, all_map, any_map, slL_1, slT_1, oo_addT, outV_cat, ix_m1, ixT_m1, sd_m1, gl0, gl1, gl2, gl3, gl4, gl5, gl6, gl7, gl8, gl9, gl10, gl11, gl12, gl13, gl14, gl15, gl16, gl17, gl18, gl19, gl20, gl21, gl22, gl23, gl24, gl25, gl26, gl27, gl28, gl29, gl30, tb0, tb1, tb2, tb3, tb4, tb5, tb6, tb7, tb8, tb9, tb10, tb11, tb12, tb13, tb14, tb15, tb16, tb17, tb18, tb19, tb20, tb21, tb22, tb23, tb24, tb25, tb26, tb27, sx0, sx1, sx2, sx3, tinS, div2, zip_ll, k_lc2, lc2_nil, oo_sumI, isi_int_lt, isi_int_l, isi_int_t, isi_int_bs, isi_int_b, isi_int_s, isi_int_i, isn_int, isi_str_lt, isi_str_l, isi_str_t, isi_str_bs, isi_str_b, isi_str_s, isi_str_i, isn_str, isi_tup_lt, isi_tup_l, isi_tup_t, isi_tup_bs, isi_tup_b, isi_tup_s, isi_tup_i, isn_tup, isi_lst_lt, isi_lst_l, isi_lst_t, isi_lst_bs, isi_lst_b, isi_lst_s, isi_lst_i, isn_lst, isi_bl_lt, isi_bl_l, isi_bl_t, isi_bl_bs, isi_bl_b, isi_bl_s, isi_bl_i, isn_bl, isi_non_lt, isi_non_l, isi_non_t, isi_non_bs, isi_non_b, isi_non_s, isi_non_i, isn_non, isx_int, isx_str, isx_tup, isx_lst, isx_bl, isx_non])
local macro_rules | `(tactic| walk_at "w1") => `(tactic| simp only [st_val, stS_fz, set_z, set_s, k_seq, k_asg, k_if, k_bl, k_op2, k_var, k_con, k_lst, k_consA, k_nilA, k_opN, fa_nil, fa_cons, frz_val, look_fr, look_sl, look_val, slD_fz, lb_sl, sz1, List.length_cons, List.length_nil, Nat.reduceAdd, true_and, hasS_at, hasO_fz, mm_nil, mm_cons, oo_lenT, outV_sc, outV_nl, oo_some, List.getElem?_cons_zero, List.getElem?_cons_succ, mg_L, mg_nil, mg_cons, k_drop, k_app, Nat.reduceBEq, oo_add, List.contains_cons, List.contains_nil, Bool.or_false, Bool.false_or, Bool.or_true, Bool.false_eq_true, if_true, if_false, ite_true, ite_false, lent, Nat.reduceLeDiff, or_self, or_false, not_false_eq_true, List.getElem?_nil])
/-- what is told of the rows -/
def Told (rows : List (List Int)) (n : Nat) (d : D) : Prop := ∃ (b : Bool) (xs : List Int), d = .tup [.bl b, .tup (xs.map .int)] ∧ (∀ x, x ∈ xs → big x) ∧ (b = true → IsOver rows n xs) ∧ (b = false → IsBar rows n xs)
theorem getD_div {c : Int} {xs : List Int} (q : Nat) : (xs.map fun x => x / c).getD q 0 = xs.getD q 0 / c := by
  rw [List.getD_eq_getElem?_getD, List.getD_eq_getElem?_getD, List.getElem?_map]
  cases xs[q]? with
  | none => exact (Int.zero_ediv c).symm
  | some x => rfl
theorem getD_dvd {c : Int} {xs : List Int} (h : ∀ x, x ∈ xs → c ∣ x) (q : Nat) : c ∣ xs.getD q 0 := by
  rw [List.getD_eq_getElem?_getD]
  rcases Nat.lt_or_ge q xs.length with hq | hq
  · rw [List.getElem?_eq_getElem hq]
    exact h _ (List.getElem_mem hq)
  · rw [List.getElem?_eq_none hq]
    exact Exists.intro 0 (by simp)
theorem sm_div {F : Nat → Int} {c : Int} {xs : List Int} (h : ∀ x, x ∈ xs → c ∣ x) (m : Nat) : Lv.sm m (fun j => F j * xs.getD j 0) = c * Lv.sm m (fun j => F j * (xs.map fun x => x / c).getD j 0) := by
  rw [← Lv.sm_mul]
  refine Lv.sm_congr fun j _ => ?_
  rw [getD_div, Int.mul_left_comm, Int.mul_ediv_cancel' (getD_dvd h j)]
theorem over_div {rows : List (List Int)} {n : Nat} {c : Int} {xs : List Int} (hc : 0 < c) (h : ∀ x, x ∈ xs → c ∣ x) (o : IsOver rows n xs) : IsOver rows n (xs.map fun x => x / c) := by
  refine ⟨by rw [List.length_map, o.len], fun r hr => ?_⟩
  have := o.pos r hr
  unfold dotP at this ⊢
  rw [sm_div h] at this
  exact Int.pos_of_mul_pos_right this hc
theorem bar_div {rows : List (List Int)} {n : Nat} {c : Int} {xs : List Int} (hc : 0 < c) (h : ∀ x, x ∈ xs → c ∣ x) (o : IsBar rows n xs) : IsBar rows n (xs.map fun x => x / c) := by
  refine ⟨by rw [List.length_map, o.len], fun y hy => ?_, ?_, fun q hq => ?_⟩
  · obtain ⟨x, hx, rfl⟩ := List.mem_map.mp hy
    exact Int.ediv_nonneg (o.nn x hx) (by omega)
  · obtain ⟨x, hx, hp⟩ := o.some
    refine ⟨x / c, List.mem_map_of_mem hx, ?_⟩
    have := Int.mul_ediv_cancel' (h x hx)
    rw [← this] at hp
    exact Int.pos_of_mul_pos_right hp hc
  · have := o.zero q hq
    rw [sm_div h] at this
    rcases Int.mul_eq_zero.mp this with e | e
    · omega
    · exact e
theorem big_div {c x : Int} (hc : 0 < c) (h : big x) : big (x / c) := by
  unfold big at *
  have := Int.natAbs_ediv_le_natAbs x c
  omega
theorem level_in_ok (l n : Nat) (rows : List (List Int)) (h : RowsOk rows n) : okE noE (M.fx (l + 3) 9 [.fz (.tup (rows.map tupI'))]) fun v ss => (∃ d, v = .val d ∧ Told rows n d) ∧ ss = [.un] := by
  have h1 := h.m1
  have h2 := h.m2
  have h3 := h.n1
  have h4 := h.n2
  have hmax : 1000000 ≤ sizeLine := by decide
  obtain ⟨r0, rs, e0⟩ : ∃ r0 rs, rows = r0 :: rs := by
    cases rows with
    | nil => simp at h1
    | cons a b => exact ⟨a, b, rfl⟩
  have hr0 : r0.length = n := h.len r0 (by rw [e0]; exact .head _)
  have hix : (rows.map tupI')[0]? = some (.tup (r0.map .int)) := by rw [e0]; rfl
  refine k_fn (d := d9) (τ := [.fz (.tup (rows.map tupI')), .un, .un, .un, .un, .un, .un, .un, .un, .un, .un, .un]) rfl rfl ?_
  simp only [d9, b9]
  walk_at "ev"
  rw [show okO (dIx (.tup (rows.map tupI')) (.int 0)) _ = _ from oo_ixT (k := 0) hix]
  walk_at "ev"
  rw [List.length_map, List.length_map, hr0]
  refine ok_mono (first_table_ok (l + 1) n rows h) ?_
  rintro _ _ ⟨rfl, rfl⟩
  walk_at "ev"
  refine ⟨inR_nat (n := n + 1) (by omega), ?_⟩
  rw [show ((n : Int) + 1).toNat = n + 1 by omega]
  refine lc_map (fun d => match d with
    | .int i => some (.int ((rows.length : Int) + i))
    | _ => none) (by rw [rng_len]; omega) (fun d hd => ?_) ?_
  · obtain ⟨q, hq, rfl⟩ := rng_mem hd
    walk_at "ev"
  rw [show (rngD 0 (n + 1)).filterMap (fun d => match d with
    | .int i => some (D.int ((rows.length : Int) + i))
    | _ => none) = (beta0 rows.length n).map fun (x : Nat) => D.int (x : Int) by
    unfold rngD beta0
    rw [List.map_map]
    refine fm_map (g := fun i : Nat => D.int (0 + (i : Int))) (h := (fun (x : Nat) => D.int (x : Int)) ∘ fun q => rows.length + q) fun q => ?_
    simp only [Function.comp_apply]
    congr 2
    omega]
  walk_at "ev"
  rw [tbl_first, show okO (dIx (.lst (tbl (n + 2) (rows.length + (n + 1) + 1) (Lv.TT (colF rows n) (n + 1) (beta0 rows.length n)))) (.int (-1))) _ = _ from ix_tblL]
  walk_at "ev"
  refine ok_mono (entering_ok (l + 1) (rows.length + (n + 1)) (Lv.TT (colF rows n) (n + 1) (beta0 rows.length n) (n + 1)) (by omega)) ?_
  rintro _ _ ⟨rfl, rfl⟩
  walk_at "ev"
  refine whl_inv (fun fuel τ => ∃ (k : Nat) (β : List Nat) (z6 z8 : Sl), Lv.Reach (colF rows n) (n + 1) (rows.length + (n + 1)) k β ∧ fuel + k = 1000000000000000000000000000000 ∧ τ = [.fz (.tup (rows.map tupI')), .fz (.int (n : Int)), .fz (.int (rows.length : Int)), .ow (tbl (n + 2) (rows.length + (n + 1) + 1) (Lv.TT (colF rows n) (n + 1) β)), .ow (β.map fun (x : Nat) => D.int (x : Int)), .fz (.int (Lv.dd (colF rows n) (n + 1) β)), z6, .fz (negF (Lv.TT (colF rows n) (n + 1) β (n + 1)) 0 (rows.length + (n + 1))), z8, .un, .un, .un]) (fun fuel τ hI => ?_) ⟨0, _, _, _, Lv.Reach.first (ok0 h), rfl, by
    have : Lv.dd (colF rows n) (n + 1) (beta0 rows.length n) = 1 := Lv.dd_first fun q hq => colF_unit hq
    rw [this]⟩
  obtain ⟨k, β, z6, z8, hre, hf, rfl⟩ := hI
  have hb := hre.bound
  have hO := hre.ok
  have hpow : (rows.length + (n + 1)) ^ (n + 1) ≤ 53 ^ 13 := Nat.le_trans (Nat.pow_le_pow_left (by omega) _) (Nat.pow_le_pow_right (by decide) (by omega))
  have hpow2 : (53 : Nat) ^ 13 < 1000000000000000000000000000000 := by decide
  obtain ⟨fuel, rfl⟩ : ∃ m, fuel = m + 1 := ⟨fuel - 1, by omega⟩
  refine ⟨fuel, rfl, ?_⟩
  rcases negF_cases (Lv.TT (colF rows n) (n + 1) β (n + 1)) (rows.length + (n + 1)) 0 with ⟨e, hn⟩ | ⟨c, e, _, c2, c3, c4⟩
  · rw [e]
    walk_at "ev"
    rw [show okO (dIx (.lst (tbl (n + 2) (rows.length + (n + 1) + 1) (Lv.TT (colF rows n) (n + 1) β))) (.int (-1))) _ = _ from ix_tblL]
    walk_at "ev"
    rw [ix_rwL]
    walk_at "ev"
    by_cases hz : Lv.TT (colF rows n) (n + 1) β (n + 1) (rows.length + (n + 1)) = 0
    · rw [if_pos (by rw [hz]; rfl), show okO (dMul (.lst [D.int 0]) (.int ((rows.length : Nat) : Int))) _ = _ from oo_rep (by omega)]
      walk_at "ev"
      rw [en_F]
      refine for_inv (fun rest τ => ∃ (k : Nat) (z6 z10 : Sl), k ≤ n + 1 ∧ rest = enF k ((β.drop k).map fun (x : Nat) => D.int (x : Int)) ∧ τ = [Sl.fz (D.tup (List.map tupI' rows)), Sl.fz (D.int ↑n), Sl.fz (D.int ↑rows.length),
        Sl.ow (tbl (n + 2) (rows.length + (n + 1) + 1) (Lv.TT (colF rows n) (n + 1) β)),
        Sl.fz (D.lst (List.map (fun (x : Nat) => D.int (x : Int)) β)), Sl.fz (D.int (Lv.dd (colF rows n) (n + 1) β)), z6, Sl.fz D.non,
        z8, Sl.ow ((Lv.wts (fun i => Lv.TT (colF rows n) (n + 1) β i (rows.length + (n + 1))) β rows.length k).map .int), z10, Sl.un]) (fun τ hI => ?_) (fun d r τ hI => ?_) ⟨0, _, _, by omega, rfl, by rw [Lv.wts, List.map_replicate]⟩
      · obtain ⟨k', z6', z10, hk, e2, rfl⟩ := hI
        have : k' = n + 1 := by
          rcases Nat.lt_or_ge k' (n + 1) with q | q
          · rw [List.drop_eq_getElem_cons (by rw [hO.len]; exact q)] at e2
            cases e2
          · omega
        subst this
        have hxb : ∀ x, x ∈ Lv.wts (fun i => Lv.TT (colF rows n) (n + 1) β i (rows.length + (n + 1))) β rows.length (n + 1) → big x := fun x hx => by
          rcases Lv.wts_of _ x hx with q | ⟨i, _, q⟩
          · rw [q]; show (0 : Int).natAbs < _; exact Nat.pos_of_ne_zero (by simp)
          · rw [q]; exact TT_big h hO.len _ _
        have hbar := bar_of h hO hz
        have hlen : (Lv.wts (fun i => Lv.TT (colF rows n) (n + 1) β i (rows.length + (n + 1))) β rows.length (n + 1)).length = rows.length := Lv.wts_len _
        generalize hxs : Lv.wts (fun i => Lv.TT (colF rows n) (n + 1) β i (rows.length + (n + 1))) β rows.length (n + 1) = xs at hxb hbar hlen ⊢
        have hnz : ∃ x, x ∈ xs ∧ x ≠ 0 := by
          obtain ⟨x, hx, hp⟩ := hbar.some
          exact ⟨x, hx, by omega⟩
        walk_at "ev"
        refine ok_mono (common_of_row_ok l xs hxb) ?_
        rintro _ _ ⟨⟨g, rfl, hg0, hgd⟩, rfl⟩
        walk_at "ev"
        rw [show okO (dIx (.lst (tbl (n + 2) (rows.length + (n + 1) + 1) (Lv.TT (colF rows n) (n + 1) β))) (.int (-1))) _ = _ from ix_tblL]
        walk_at "ev"
        rw [ix_rwL]
        walk_at "ev"
        have hdv : ∀ x, x ∈ xs → g ∣ x := (hgd g).mp (Int.dvd_refl g)
        have hgp : 0 < g := by
          rcases Int.lt_or_eq_of_le hg0 with q | q
          · exact q
          · obtain ⟨x, hx, hn0⟩ := hnz
            have := hdv x hx
            rw [← q, Int.zero_dvd] at this
            exact absurd this hn0
        have hgb : big g := by
          obtain ⟨x, hx, hn0⟩ := hnz
          have h5 := hxb x hx
          have h6 := Nat.le_of_dvd (by omega) (Int.natAbs_dvd_natAbs.mpr (hdv x hx))
          unfold big at *
          omega
        refine lc_map (fun d => match d with
          | .int x => some (.int (x / g))
          | _ => none) (by rw [List.length_map, hlen]; omega) (fun d hd => ?_) ?_
        · obtain ⟨x, hx, rfl⟩ := List.mem_map.mp hd
          walk_at "ev"
          rw [oo_divB hgp hgb]
          walk_at "ev"
        rw [fm_map (g := D.int) (h := fun x => .int (x / g)) fun x => rfl]
        walk_at "ev"
        refine ⟨_, rfl, false, xs.map fun x => x / g, ?_, fun y hy => ?_, (fun q => nomatch q), fun _ => bar_div hgp hdv hbar⟩
        · rw [hz, List.map_map]
          rfl
        · obtain ⟨x, hx, rfl⟩ := List.mem_map.mp hy
          exact big_div hgp (hxb x hx)
      · obtain ⟨k', z6', z10, hk, e2, rfl⟩ := hI
        have hk2 : k' < n + 1 := by
          rcases Nat.lt_or_ge k' (n + 1) with q | q
          · exact q
          · rw [List.drop_eq_nil_of_le (by rw [hO.len]; exact q)] at e2
            cases e2
        rw [List.drop_eq_getElem_cons (by rw [hO.len]; exact hk2), List.map_cons, enF] at e2
        injection e2 with e3 e4
        subst e3
        subst e4
        have hx : β[k']'(by rw [hO.len]; exact hk2) = β.getD k' 0 := by
          rw [List.getD_eq_getElem?_getD, List.getElem?_eq_getElem (by rw [hO.len]; exact hk2)]
          rfl
        rw [hx]
        walk_at "ev"
        by_cases hbm : β.getD k' 0 < rows.length
        · rw [if_pos (by omega), ix_tbl (by omega)]
          walk_at "ev"
          rw [ix_rwL]
          walk_at "ev"
          rw [oo_set (by rw [List.length_map, Lv.wts_len]; exact hbm)]
          rw [← List.map_set]
          refine ⟨k' + 1, .fz (.int (k' : Int)), .fz (.int ((β.getD k' 0 : Nat) : Int)), by omega, rfl, ?_⟩
          rw [Lv.wts, if_pos hbm]
          rfl
        · rw [if_neg (by omega)]
          refine ⟨k' + 1, .fz (.int (k' : Int)), .fz (.int ((β.getD k' 0 : Nat) : Int)), by omega, rfl, ?_⟩
          rw [Lv.wts, if_neg hbm]
    · rw [if_neg (by rw [beq_iff_eq]; exact hz)]
      rw [show okO (dIx (.lst (tbl (n + 2) (rows.length + (n + 1) + 1) (Lv.TT (colF rows n) (n + 1) β))) (.int (-1))) _ = _ from ix_tblL]
      walk_at "ev"
      rw [show okO (dSl (lI (rw' (rows.length + (n + 1) + 1) (Lv.TT (colF rows n) (n + 1) β (n + 1)))) (some ((rows.length : Nat) : Int)) (some ((rows.length : Int) + (n : Int)))) _ = _ from sl_ab (b := rows.length + n) (by rw [List.length_map, rw_len]; omega) (by omega)]
      walk_at "ev"
      have hups : (((rw' (rows.length + (n + 1) + 1) (Lv.TT (colF rows n) (n + 1) β (n + 1))).map D.int).drop rows.length).take (rows.length + n - rows.length) = (List.range n).map fun q => D.int (Lv.TT (colF rows n) (n + 1) β (n + 1) (rows.length + q)) := by
        apply List.ext_getElem?
        intro q
        rw [List.getElem?_take, List.getElem?_drop, List.getElem?_map, List.getElem?_map]
        by_cases hq : q < n
        · rw [if_pos (by omega), rw_get (by omega), List.getElem?_range hq]
          rfl
        · rw [if_neg (by omega), List.getElem?_eq_none (by rw [List.length_range]; omega)]
          rfl
      rw [hups]
      refine lc_map (fun d => match d with
        | .int x => some (.int (x - Lv.dd (colF rows n) (n + 1) β))
        | _ => none) (by rw [List.length_map, List.length_range]; omega) (fun d hd => ?_) ?_
      · obtain ⟨q, hq, rfl⟩ := List.mem_map.mp hd
        walk_at "ev"
      rw [fm_map (g := fun q => D.int (Lv.TT (colF rows n) (n + 1) β (n + 1) (rows.length + q))) (h := fun q => .int (Lv.TT (colF rows n) (n + 1) β (n + 1) (rows.length + q) - Lv.dd (colF rows n) (n + 1) β)) fun q => rfl]
      rw [show ((List.range n).map fun q => D.int (Lv.TT (colF rows n) (n + 1) β (n + 1) (rows.length + q) - Lv.dd (colF rows n) (n + 1) β)) = (ups rows n β).map D.int by
        unfold ups rw'
        rw [List.map_map]
        rfl]
      have hxb : ∀ x, x ∈ ups rows n β → big x := fun x hx => by
        obtain ⟨q, _, rfl⟩ := List.mem_map.mp hx
        have h5 := Lv.TT_bound (M := 2 ^ 24) (by decide) (colF_bound h) hO.len (n + 1) (rows.length + q)
        have h6 := Lv.dd_bound (M := 2 ^ 24) (by decide) (colF_bound h) hO.len
        have h7 : (n + 1 + 1) * 2 ^ 24 ≤ 2 ^ 28 := by
          have : (n + 2) * 2 ^ 24 ≤ 16 * 2 ^ 24 := Nat.mul_le_mul_right _ (by omega)
          exact Nat.le_trans this (by decide)
        have h8 : ((n + 1 + 1) * 2 ^ 24) ^ (n + 1 + 1) ≤ (2 ^ 28) ^ 14 := Nat.le_trans (Nat.pow_le_pow_left h7 _) (Nat.pow_le_pow_right (by decide) (by omega))
        have h9 : 2 * ((2 : Nat) ^ 28) ^ 14 < 2 ^ 5000 := by
          rw [← Nat.pow_mul, Nat.mul_comm, ← Nat.pow_succ]
          exact Nat.pow_lt_pow_right (by decide) (by decide)
        unfold big
        omega
      have hover := over_of h hO (fun j hj => hn j (by omega) (by omega)) hz
      have hlen : (ups rows n β).length = n := rw_len
      have hnz : ∃ x, x ∈ ups rows n β ∧ x ≠ 0 := by
        rcases Classical.em (∃ x, x ∈ ups rows n β ∧ x ≠ 0) with q | q
        · exact q
        · have h5 := hover.pos r0 (by rw [e0]; exact .head _)
          unfold dotP at h5
          rw [Lv.sm_zero fun i hi => by
            have : (ups rows n β).getD i 0 = 0 := by
              rw [List.getD_eq_getElem?_getD, List.getElem?_eq_getElem (by rw [hlen]; omega)]
              rcases Int.decEq ((ups rows n β)[i]'(by rw [hlen]; omega)) 0 with z | z
              · exact absurd ⟨_, List.getElem_mem _, z⟩ q
              · exact z
            rw [this, Int.mul_zero]] at h5
          omega
      generalize hxs : ups rows n β = xs at hxb hover hlen hnz ⊢
      walk_at "ev"
      refine ok_mono (common_of_row_ok l xs hxb) ?_
      rintro _ _ ⟨⟨g, rfl, hg0, hgd⟩, rfl⟩
      walk_at "ev"
      rw [show okO (dIx (.lst (tbl (n + 2) (rows.length + (n + 1) + 1) (Lv.TT (colF rows n) (n + 1) β))) (.int (-1))) _ = _ from ix_tblL]
      walk_at "ev"
      rw [ix_rwL]
      walk_at "ev"
      have hdv : ∀ x, x ∈ xs → g ∣ x := (hgd g).mp (Int.dvd_refl g)
      have hgp : 0 < g := by
        rcases Int.lt_or_eq_of_le hg0 with q | q
        · exact q
        · obtain ⟨x, hx, hn0⟩ := hnz
          have := hdv x hx
          rw [← q, Int.zero_dvd] at this
          exact absurd this hn0
      have hgb : big g := by
        obtain ⟨x, hx, hn0⟩ := hnz
        have h5 := hxb x hx
        have h6 := Nat.le_of_dvd (by omega) (Int.natAbs_dvd_natAbs.mpr (hdv x hx))
        unfold big at *
        omega
      refine lc_map (fun d => match d with
        | .int x => some (.int (x / g))
        | _ => none) (by rw [List.length_map, hlen]; omega) (fun d hd => ?_) ?_
      · obtain ⟨x, hx, rfl⟩ := List.mem_map.mp hd
        walk_at "ev"
        rw [oo_divB hgp hgb]
        walk_at "ev"
      rw [fm_map (g := D.int) (h := fun x => .int (x / g)) fun x => rfl]
      walk_at "ev"
      refine ⟨_, rfl, true, xs.map fun x => x / g, ?_, fun y hy => ?_, fun _ => over_div hgp hdv hover, (fun q => nomatch q)⟩
      · rw [List.map_map]
        have : (!Lv.TT (colF rows n) (n + 1) β (n + 1) (rows.length + (n + 1)) == 0) = true := by simpa using hz
        rw [this]
        rfl
      · obtain ⟨x, hx, rfl⟩ := List.mem_map.mp hy
        exact big_div hgp (hxb x hx)
  · rw [e]
    walk_at "ev"
    refine ⟨by decide, ?_⟩
    refine ok_mono (leaving_ok (l + 1) (n + 1) (rows.length + (n + 1)) c (Lv.TT (colF rows n) (n + 1) β) β hO.len (by omega) (by omega) (TT_big h hO.len)) ?_
    rintro _ _ ⟨⟨d, rfl, hbest⟩, rfl⟩
    obtain ⟨iu, hiu, hup⟩ := Lv.some_up hO (colF_tot h) (c := c) (by omega) c3
    obtain ⟨p, rfl, hp, hpos, hleast, htie⟩ : ∃ p : Nat, d = .int (p : Int) ∧ p < n + 1 ∧ 0 < Lv.TT (colF rows n) (n + 1) β p c ∧ (∀ i, i < n + 1 → 0 < Lv.TT (colF rows n) (n + 1) β i c → Lv.TT (colF rows n) (n + 1) β p (rows.length + (n + 1)) * Lv.TT (colF rows n) (n + 1) β i c ≤ Lv.TT (colF rows n) (n + 1) β i (rows.length + (n + 1)) * Lv.TT (colF rows n) (n + 1) β p c) ∧ (∀ i, i < n + 1 → 0 < Lv.TT (colF rows n) (n + 1) β i c → Lv.TT (colF rows n) (n + 1) β p (rows.length + (n + 1)) * Lv.TT (colF rows n) (n + 1) β i c = Lv.TT (colF rows n) (n + 1) β i (rows.length + (n + 1)) * Lv.TT (colF rows n) (n + 1) β p c → β.getD p 0 ≤ β.getD i 0) := by
      cases d with
      | non => exact absurd (hbest iu hiu) (by omega)
      | int i => obtain ⟨q, rfl, a, b, c', d'⟩ := hbest; exact ⟨q, rfl, a, b, c', d'⟩
      | _ => exact hbest.elim
    have hP : Lv.Piv (colF rows n) (n + 1) (rows.length + (n + 1)) β c p := ⟨by omega, c3, fun j hj => c4 j (by omega) hj, hp, hpos, hleast, htie⟩
    walk_at "ev"
    rw [ix_tbl (by omega)]
    walk_at "ev"
    rw [ix_rw (by omega)]
    walk_at "ev"
    refine ok_mono (turned_ok (l + 1) (n + 1) (rows.length + (n + 1)) p c (Lv.TT (colF rows n) (n + 1) β) (Lv.dd (colF rows n) (n + 1) β) (by omega) (by omega) (by omega) (by omega) (TT_big h hO.len) hO.pos (dd_big h hO.len)) ?_
    rintro _ _ ⟨rfl, s, rfl⟩
    rw [tbl_next hO hp]
    walk_at "ev"
    rw [show okO (setD (.int (p : Int)) (.int (c : Int)) (some (Sl.ow (β.map fun (x : Nat) => D.int (x : Int))))) _ = _ from oo_set (by rw [List.length_map, hO.len]; exact hp)]
    rw [show (β.map fun (x : Nat) => D.int (x : Int)).set p (.int (c : Int)) = (β.set p c).map fun (x : Nat) => D.int (x : Int) from (List.map_set (f := fun (x : Nat) => D.int (x : Int))).symm]
    walk_at "ev"
    rw [show okO (dIx (.lst (tbl (n + 2) (rows.length + (n + 1) + 1) (Lv.TT (colF rows n) (n + 1) (β.set p c)))) (.int (-1))) _ = _ from ix_tblL]
    walk_at "ev"
    refine ok_mono (entering_ok (l + 1) (rows.length + (n + 1)) (Lv.TT (colF rows n) (n + 1) (β.set p c) (n + 1)) (by omega)) ?_
    rintro _ _ ⟨rfl, rfl⟩
    walk_at "ev"
    exact ⟨k + 1, β.set p c, .fz (.int (p : Int)), .fz (.int (Lv.TT (colF rows n) (n + 1) β p c)), hre.next hP, by omega, by rw [Lv.dd_set hO.len hp]⟩
end Dv.G

set_option Elab.async false
set_option linter.all false
set_option maxRecDepth 100000
set_option maxHeartbeats 4000000
namespace Dv.G
open PySem PySem.Spec PyProof.Rows L2 Dv
local macro_rules | `(tactic| walk_at "ev") => `(tactic| simp only [evB, k_seq, evS, k_if, evT, evAndTs, evOrTs, k_bl, k_op2, evE, evA, evAnds, evOrs, evO, evI, evG, evGs, k_var, k_con, k_tru, k_andT, k_orT, k_notT, k_andV, k_orV, k_notV, k_tup, k_lst, k_drop, k_call, isFn_fn, k_co, lb_nil, lb_val, lb_fr, lb_sl, owL_fz, owL_ow, pm_nil, pm_cons, ps_val, ps_fr, ps_sl, pasS_fz, pasS_ow, wb_nil, wb_vl, wb_fr, wb_sl, owB_fz, owB_ow, isOw_s, isOwS_ow, outS_L, ol_nil, ol_ow, ol_fz, hasS_at, hasO_fz, hasO_ow, List.getElem?_cons_zero, List.getElem?_cons_succ, true_and, and_true, look_val, look_fr, look_sl, slD_fz, slD_ow, oo_some, KC.g, K2.g, KF.g, KM.g, KN.g, KM.ty, KN.ty, oo_cmp, oo_lt, isBl_bl, outV_sc, outV_nl, outV_nt, Option.bind_some, oo_mul, oo_add, oo_sub, oo_neg, oo_int, ix0, ix1, ix2, ixT0, ixT1, ixT2, decide_eq_true_eq, k_asg, k_consA, k_nilA, k_opN, k_op1, st_val, st_fr, st_sl, stS_fz, stS_ow, k_gtup, seqO_tup, seqO_lst, gs_nl, gs_cn, k_par, pp_nil, pp_cons, pr_fr, pr_val, pr_sl, k_app, k_ext, k_pop, k_popAt, owO_ow, lstO_lst, intO_int, k_mth, k_mth0, ps_none, ps_some, k_sl, outB_bl, k_chain, k_items, wk_fr, wk_lst, wk_tup, wk_scr, wk_sl, wkS_lst, wkS_tup, wkS_scr, wkS_ow, k_signs, isStr_str, k_rng, oo_rng1, oo_rng2, k_frzI, fa_nil, fa_cons, frz_sl, frS1_fz, frS1_ow, k_for, goL_nx, goL_ct, goL_bk, goL_rt, k_lc, oo_lenL, oo_lenT, oo_lenS, k_seti, goS_nx, goS_rt, k_nx, k_ret, end_val, end_fr, end_nx, mm_nil, mm_cons, sd0, sd1, sd2, frz_val, frz_fr, rt_val, rt_fr, rt_sl, rtS_fz, rtS_ow, set_z, set_s, List.length_cons, List.length_nil, Nat.reduceAdd, Nat.reduceLeDiff, Bool.false_eq_true, or_self, or_false, false_or, not_false_eq_true, List.getElem?_nil, Int.reduceLT, List.cons_append, List.nil_append, List.append_nil, List.nodup_nil, List.nodup_cons, List.not_mem_nil, ite_true, ite_false, if_true, if_false, if_pos, lent, bindOk, beq_self_eq_true, Bool.and_self, wp_L, wp_nil, wp_cons, mg_L, mg_nil, mg_cons, k_yes, k_srtSet, List.contains_cons, List.contains_nil, Nat.reduceBEq, Bool.or_false, Bool.false_or, Bool.or_true, only, Bool.not_false, Bool.not_true, eq_self, Nat.reduceEqDiff, sl1, oo_addL, oo_tupL, oo_ne, oo_eq, tr_bl, oo_neB, oo_eqB, zip_tt, zip_ll, enum_l, AGs.len, sz0, sz1, sz2, sz3, sz4, sz5, sz6, sz7, sz8, sz9, sz10, sz11, sz12, sz13, oo_abs, oo_intB, pw18, pw12, mod61, oo_listL, oo_listT, oo_tupT, oo_min2, ssl_nil, ssl_cons, oi_nil, oi_cons, Nat.reduceLT, decide_true, Bool.and_true, Bool.true_and, k_rse, k_try, in_S, nin_S, add_S, len_S, signs_S, all_map, any_map, slL_1, slT_1, oo_addT, outV_cat, ix_m1, ixT_m1, sd_m1, gl0, gl1, gl2, gl3, gl4, gl5, gl6, gl7, gl8, gl9, gl10, gl11, gl12, gl13, gl14, gl15, gl16, gl17, gl18, gl19, gl20, gl21, gl22, gl23, gl24, gl25, gl26, gl27, gl28, gl29, gl30, tb0, tb1, tb2, tb3, tb4, tb5, tb6, tb7, tb8, tb9, tb10, tb11, tb12, tb13, tb14, tb15, tb16, tb17, tb18, tb19, tb20, tb21, tb22, tb23, tb24, tb25, tb26, tb27, sx0, sx1, sx2, sx3, tinS, div2, zip_ll, k_lc2, lc2_nil, oo_sumI, isi_int_lt, isi_int_l, isi_int_t, isi_int_bs, isi_int_b, isi_int_s, isi_int_i, isn_int, isi_str_lt, isi_str_l, isi_str_t, isi_str_bs, isi_str_b, isi_str_s, isi_str_i, isn_str, isi_tup_lt, isi_tup_l, isi_tup_t, isi_tup_bs, isi_tup_b, isi_tup_s, isi_tup_i, isn_tup, isi_lst_lt, isi_lst_l, isi_lst_t, isi_lst_bs, isi_lst_b, isi_lst_s, isi_lst_i, isn_lst, isi_bl_lt, isi_bl_l, isi_bl_t, isi_bl_bs, isi_bl_b, isi_bl_s, isi_bl_i, isn_bl, isi_non_lt, isi_non_l, isi_non_t, isi_non_bs, isi_non_b, isi_non_s, isi_non_i, isn_non, isx_int, isx_str, isx_tup, isx_lst, isx_bl, isx_non])
/-! are_rows, over_or_bar -/
theorem fm_true : ∀ (row : List Int), row.filterMap ((fun _ => some (D.bl true)) ∘ D.int) = List.replicate row.length (D.bl true)
  | [] => rfl
  | x :: r => by
    rw [List.filterMap_cons, fm_true r]
    rfl
theorem all_t (L : List D) : (L.all fun _ => true) = true := List.all_eq_true.mpr fun _ _ => rfl
theorem any_f (L : List D) : (L.any fun _ => false) = false := by
  rw [List.any_eq_false]
  intro _ _ h
  cases h
theorem are_rows_ok (l n : Nat) (rows : List (List Int)) (h : RowsOk rows n) : okE noE (M.fx (l + 3) 10 [.fz (.tup (rows.map tupI'))]) fun v ss => v = .val (.bl true) ∧ ss = [.un] := by
  have h1 := h.m1
  have h2 := h.m2
  have h3 := h.n1
  have h4 := h.n2
  have hmax : 1000000 ≤ sizeLine := by decide
  obtain ⟨r0, rs, e0⟩ : ∃ r0 rs, rows = r0 :: rs := by
    cases rows with
    | nil => simp at h1
    | cons a b => exact ⟨a, b, rfl⟩
  have hr0 : r0.length = n := h.len r0 (by rw [e0]; exact .head _)
  have hix : (rows.map tupI')[0]? = some (.tup (r0.map .int)) := by rw [e0]; rfl
  refine k_fn (d := d10) (τ := [.fz (.tup (rows.map tupI')), .un, .un]) rfl rfl ?_
  simp only [d10, b10]
  walk_at "ev"
  rw [List.length_map, if_pos (show (1 : Int) ≤ (rows.length : Int) by omega), if_neg (by simp; omega)]
  refine lc_map (fun d => some (.bl true)) (by rw [List.length_map]; omega) (fun d hd => ?_) ?_
  · obtain ⟨r, hr, rfl⟩ := List.mem_map.mp hd
    simp only [tupI']
    walk_at "ev"
    refine ok_mono (are_ints l r (by rw [h.len r hr]; omega)) ?_
    rintro _ _ ⟨rfl, rfl⟩
    walk_at "ev"
  walk_at "ev"
  rw [all_t]
  walk_at "ev"
  rw [show okO (dIx (.tup (rows.map tupI')) (.int 0)) _ = _ from oo_ixT (k := 0) hix]
  walk_at "ev"
  rw [List.length_map, hr0, if_pos (show (1 : Int) ≤ (n : Int) by omega), if_neg (by simp; omega)]
  refine lc_map (fun d => some (.bl false)) (by rw [List.length_map]; omega) (fun d hd => ?_) ?_
  · obtain ⟨r, hr, rfl⟩ := List.mem_map.mp hd
    simp only [tupI']
    walk_at "ev"
    rw [show okO (dIx (.tup (rows.map tupI')) (.int 0)) _ = _ from oo_ixT (k := 0) hix]
    walk_at "ev"
    rw [List.length_map, List.length_map, h.len r hr, hr0]
    simp
  walk_at "ev"
  rw [any_f]
  walk_at "ev"
  refine lc2_inv (fun acc rest τ => ∃ (k : Nat) (rem : List (List Int)), acc = List.replicate k (.bl true) ∧ rest = rem.map tupI' ∧ (∀ r, r ∈ rem → r ∈ rows) ∧ τ = [Sl.fz (D.tup (List.map tupI' rows)), Sl.un, Sl.un] ∧ k + 12 * rem.length ≤ 500) (fun acc τ hI => ?_) (fun acc d r τ hI => ?_) ⟨0, rows, rfl, rfl, fun _ q => q, rfl, by omega⟩
  · obtain ⟨k, rem, rfl, _, _, rfl, _⟩ := hI
    walk_at "ev"
    rw [show List.replicate k (D.bl true) = (List.replicate k true).map D.bl from (List.map_replicate).symm, all_bls]
    have : (List.replicate k true).all id = true := List.all_eq_true.mpr fun x hx => by
      rw [List.eq_of_mem_replicate hx]
      rfl
    rw [this]
    walk_at "ev"
  · obtain ⟨k, rem, rfl, e2, hm, rfl, hk⟩ := hI
    cases rem with
    | nil => cases e2
    | cons row rem =>
      injection e2 with e3 e4
      subst e3
      subst e4
      have hr := hm row (.head _)
      have hl := h.len row hr
      rw [List.length_cons] at hk
      simp only [tupI']
      walk_at "ev"
      refine lc_mapA (fun d => some (.bl true)) (by rw [List.length_replicate, List.length_map]; omega) (fun d hd => ?_) ?_
      · obtain ⟨x, hx, rfl⟩ := List.mem_map.mp hd
        have := h.lim row hr x hx
        walk_at "ev"
        rw [decide_eq_true (show (if x < 0 then -x else x) ≤ 1000000 by split <;> omega)]
      · walk_at "ev"
        refine ⟨k + row.length, rem, ?_, rfl, fun r q => hm r (.tail _ q), by omega⟩
        rw [List.filterMap_map, fm_true row, List.replicate_append_replicate]
theorem tupI_tup {l : Nat} {r : List Int} (hl : r.length ≤ sizeLine) : TupS (l + 2) (tupI' r) (tupI' r) := tupled_ints l r hl
theorem tup_rows (l n : Nat) (rows : List (List Int)) (h : RowsOk rows n) : TupS (l + 3) (.tup (rows.map tupI')) (.tup (rows.map tupI')) := by
  have h2 := h.m2
  have h4 := h.n2
  have hmax : 1000000 ≤ sizeLine := by decide
  have := tupled_t (l + 2) (rows.map tupI') id (fun d hd => by
    obtain ⟨r, hr, rfl⟩ := List.mem_map.mp hd
    exact tupI_tup (by rw [h.len r hr]; omega)) (by rw [List.length_map]; omega)
  rwa [List.map_id] at this
theorem over_or_bar_ok (l n : Nat) (rows : List (List Int)) (h : RowsOk rows n) : okE noE (M.fx (l + 4) 11 [.fz (.tup (rows.map tupI'))]) fun v ss => (∃ d, v = .val d ∧ Told rows n d) ∧ ss = [.un] := by
  refine k_fn (d := d11) (τ := [.fz (.tup (rows.map tupI')), .un]) rfl rfl ?_
  simp only [d11, b11]
  walk_at "ev"
  refine ok_mono (tup_rows l n rows h) ?_
  rintro _ _ ⟨rfl, rfl⟩
  walk_at "ev"
  refine ok_mono (are_rows_ok l n rows h) ?_
  rintro _ _ ⟨rfl, rfl⟩
  walk_at "ev"
  refine ok_mono (level_in_ok l n rows h) ?_
  rintro _ _ ⟨⟨d, rfl, hd⟩, rfl⟩
  walk_at "ev"
  exact ⟨_, rfl, hd⟩
def toT : D → D
  | .lst ds => .tup ds
  | d => d
theorem lst_tup {l : Nat} {r : List Int} (hl : r.length ≤ sizeLine) : TupS (l + 2) (.lst (r.map .int)) (.tup (r.map .int)) := by
  have := tupled_l (l + 1) (r.map .int) id (fun d hd => by
    obtain ⟨i, _, rfl⟩ := List.mem_map.mp hd
    exact tupled_int l i) (by rw [List.length_map]; exact hl)
  rwa [List.map_id] at this
theorem over_or_bar_ok_l (l n : Nat) (rows : List (List Int)) (h : RowsOk rows n) : okE noE (M.fx (l + 4) 11 [.ow (rows.map fun r => D.lst (r.map .int))]) fun v ss => (∃ d, v = .val d ∧ Told rows n d) ∧ ∃ s, ss = [s] := by
  refine k_fn (d := d11) (τ := [.ow (rows.map fun r => D.lst (r.map .int)), .un]) rfl rfl ?_
  simp only [d11, b11]
  walk_at "ev"
  have h2 := h.m2
  have h4 := h.n2
  have hmax : 1000000 ≤ sizeLine := by decide
  have e : (rows.map fun r => D.lst (r.map .int)).map toT = rows.map tupI' := by
    rw [List.map_map]
    rfl
  have ht := tupled_o (l + 2) (rows.map fun r => D.lst (r.map .int)) toT (fun d hd => by
    obtain ⟨r, hr, rfl⟩ := List.mem_map.mp hd
    exact lst_tup (by rw [h.len r hr]; omega)) (by rw [List.length_map]; omega)
  rw [e] at ht
  refine ok_mono ht ?_
  rintro _ _ ⟨rfl, s, rfl⟩
  walk_at "ev"
  refine ok_mono (are_rows_ok l n rows h) ?_
  rintro _ _ ⟨rfl, rfl⟩
  walk_at "ev"
  refine ok_mono (level_in_ok l n rows h) ?_
  rintro _ _ ⟨⟨d, rfl, hd⟩, rfl⟩
  walk_at "ev"
  exact ⟨⟨_, rfl, hd⟩, _, rfl⟩
end Dv.G

set_option Elab.async false
set_option linter.all false
set_option maxRecDepth 100000
set_option maxHeartbeats 4000000
namespace Dv.G
open PySem PySem.Spec PyProof.Rows L2 Dv
local macro_rules | `(tactic| walk_at "ev") => `(tactic| simp only [evB, k_seq, evS, k_if, evT, evAndTs, evOrTs, k_bl, k_op2, evE, evA, evAnds, evOrs, evO, evI, evG, evGs, k_var, k_con, k_tru, k_andT, k_orT, k_notT, k_andV, k_orV, k_notV, k_tup, k_lst, k_drop, k_call, isFn_fn, k_co, lb_nil, lb_val, lb_fr, lb_sl, owL_fz, owL_ow, pm_nil, pm_cons, ps_val, ps_fr, ps_sl, pasS_fz, pasS_ow, wb_nil, wb_vl, wb_fr, wb_sl, owB_fz, owB_ow, isOw_s, isOwS_ow, outS_L, ol_nil, ol_ow, ol_fz, hasS_at, hasO_fz, hasO_ow, List.getElem?_cons_zero, List.getElem?_cons_succ, true_and, and_true, look_val, look_fr, look_sl, slD_fz, slD_ow, oo_some, KC.g, K2.g, KF.g, KM.g, KN.g, KM.ty, KN.ty, oo_cmp, oo_lt, isBl_bl, outV_sc, outV_nl, outV_nt, Option.bind_some, oo_mul, oo_add, oo_sub, oo_neg, oo_int, ix0, ix1, ix2, ixT0, ixT1, ixT2, decide_eq_true_eq, k_asg, k_consA, k_nilA, k_opN, k_op1, st_val, st_fr, st_sl, stS_fz, stS_ow, k_gtup, seqO_tup, seqO_lst, gs_nl, gs_cn, k_par, pp_nil, pp_cons, pr_fr, pr_val, pr_sl, k_app, k_ext, k_pop, k_popAt, owO_ow, lstO_lst, intO_int, k_mth, k_mth0, ps_none, ps_some, k_sl, outB_bl, k_chain, k_items, wk_fr, wk_lst, wk_tup, wk_scr, wk_sl, wkS_lst, wkS_tup, wkS_scr, wkS_ow, k_signs, isStr_str, k_rng, oo_rng1, oo_rng2, k_frzI, fa_nil, fa_cons, frz_sl, frS1_fz, frS1_ow, k_for, goL_nx, goL_ct, goL_bk, goL_rt, k_lc, oo_lenL, oo_lenT, oo_lenS, k_seti, goS_nx, goS_rt, k_nx, k_ret, end_val, end_fr, end_nx, mm_nil, mm_cons, sd0, sd1, sd2, frz_val, frz_fr, rt_val, rt_fr, rt_sl, rtS_fz, rtS_ow, set_z, set_s, List.length_cons, List.length_nil, Nat.reduceAdd, Nat.reduceLeDiff, Bool.false_eq_true, or_self, or_false, false_or, not_false_eq_true, List.getElem?_nil, Int.reduceLT, List.cons_append, List.nil_append, List.append_nil, List.nodup_nil, List.nodup_cons, List.not_mem_nil, ite_true, ite_false, if_true, if_false, if_pos, lent, bindOk, beq_self_eq_true, Bool.and_self, wp_L, wp_nil, wp_cons, mg_L, mg_nil, mg_cons, k_yes, k_srtSet, List.contains_cons, List.contains_nil, Nat.reduceBEq, Bool.or_false, Bool.false_or, Bool.or_true, only, Bool.not_false, Bool.not_true, eq_self, Nat.reduceEqDiff, sl1, oo_addL, oo_tupL, oo_ne, oo_eq, tr_bl, oo_neB, oo_eqB, zip_tt, zip_ll, enum_l, AGs.len, sz0, sz1, sz2, sz3, sz4, sz5, sz6, sz7, sz8, sz9, sz10, sz11, sz12, sz13, oo_abs, oo_intB, pw18, pw12, mod61, oo_listL, oo_listT, oo_tupT, oo_min2, ssl_nil, ssl_cons, oi_nil, oi_cons, Nat.reduceLT, decide_true, Bool.and_true, Bool.true_and, k_rse, k_try, in_S, nin_S, add_S, len_S, signs_S, all_map, any_map, slL_1, slT_1, oo_addT, outV_cat, ix_m1, ixT_m1, sd_m1, gl0, gl1, gl2, gl3, gl4, gl5, gl6, gl7, gl8, gl9, gl10, gl11, gl12, gl13, gl14, gl15, gl16, gl17, gl18, gl19, gl20, gl21, gl22, gl23, gl24, gl25, gl26, gl27, gl28, gl29, gl30, tb0, tb1, tb2, tb3, tb4, tb5, tb6, tb7, tb8, tb9, tb10, tb11, tb12, tb13, tb14, tb15, tb16, tb17, tb18, tb19, tb20, tb21, tb22, tb23, tb24, tb25, tb26, tb27, sx0, sx1, sx2, sx3, tinS, div2, zip_ll, k_lc2, lc2_nil, oo_sumI, zip_lt, isi_int_lt, isi_int_l, isi_int_t, isi_int_bs, isi_int_b, isi_int_s, isi_int_i, isn_int, isi_str_lt, isi_str_l, isi_str_t, isi_str_bs, isi_str_b, isi_str_s, isi_str_i, isn_str, isi_tup_lt, isi_tup_l, isi_tup_t, isi_tup_bs, isi_tup_b, isi_tup_s, isi_tup_i, isn_tup, isi_lst_lt, isi_lst_l, isi_lst_t, isi_lst_bs, isi_lst_b, isi_lst_s, isi_lst_i, isn_lst, isi_bl_lt, isi_bl_l, isi_bl_t, isi_bl_bs, isi_bl_b, isi_bl_s, isi_bl_i, isn_bl, isi_non_lt, isi_non_l, isi_non_t, isi_non_bs, isi_non_b, isi_non_s, isi_non_i, isn_non, isx_int, isx_str, isx_tup, isx_lst, isx_bl, isx_non])
/-! the law's own defs -/
def dotZ (r xs : List Int) : Int := ((r.zip xs).map fun p => p.1 * p.2).sum
theorem dotZ_sm : ∀ (r xs : List Int), r.length = xs.length → dotZ r xs = Lv.sm r.length fun q => r.getD q 0 * xs.getD q 0
  | [], [], _ => rfl
  | x :: r, y :: xs, h => by
    rw [List.length_cons, Lv.sm_first]
    show x * y + dotZ r xs = _
    rw [dotZ_sm r xs (by simpa using h)]
    rfl
theorem zip_ints (r xs : List Int) : zipD (r.map .int) (xs.map .int) = (r.zip xs).map fun p => D.tup [.int p.1, .int p.2] := by
  unfold zipD
  rw [List.zip_map, List.map_map]
  rfl
theorem is_int_ok (l : Nat) (i : Int) : okE noE (M.fx (l + 1) 19 [.fz (.int i)]) fun v ss => v = .val (.bl true) ∧ ss = [.un] := by
  refine k_fn (d := d19) (τ := [.fz (.int i)]) rfl rfl ?_
  simp only [d19, b19]
  walk_at "ev"
theorem sum_ok (l : Nat) (r xs : List Int) (hl : r.length ≤ 1000) (h1 : ∀ x, x ∈ r → big x) (h2 : ∀ x, x ∈ xs → big x) : okE noE (M.fx (l + 1) 22 [.fz (.tup (r.map .int)), .fz (.tup (xs.map .int))]) fun v ss => v = .val (.int (dotZ r xs)) ∧ ss = [.un, .un] := by
  refine k_fn (d := d22) (τ := [.fz (.tup (r.map .int)), .fz (.tup (xs.map .int)), .un, .un]) rfl rfl ?_
  simp only [d22, b22]
  have hmax : 1000000 ≤ sizeLine := by decide
  walk_at "ev"
  rw [zip_ints]
  refine lc_map (fun d => match d with
    | .tup [.int x, .int y] => some (.int (x * y))
    | _ => none) (by rw [List.length_map, List.length_zip]; omega) (fun d hd => ?_) ?_
  · obtain ⟨p, hp, rfl⟩ := List.mem_map.mp hd
    obtain ⟨q1, q2⟩ := List.of_mem_zip (show (p.1, p.2) ∈ r.zip xs from hp)
    walk_at "ev"
    exact big_mul (h1 _ q1) (h2 _ q2)
  rw [fm_map (g := fun p : Int × Int => D.tup [.int p.1, .int p.2]) (h := fun p => .int (p.1 * p.2)) fun p => rfl]
  rw [show ((r.zip xs).map fun p => D.int (p.1 * p.2)) = ((r.zip xs).map fun p => p.1 * p.2).map D.int by rw [List.map_map]; rfl]
  walk_at "ev"
  rfl
theorem sum_okL (l : Nat) (r xs : List Int) (hl : r.length ≤ 1000) (h1 : ∀ x, x ∈ r → big x) (h2 : ∀ x, x ∈ xs → big x) : okE noE (M.fx (l + 1) 22 [.ow (r.map .int), .fz (.tup (xs.map .int))]) fun v ss => v = .val (.int (dotZ r xs)) ∧ ∃ s, ss = [s, .un] := by
  refine k_fn (d := d22) (τ := [.ow (r.map .int), .fz (.tup (xs.map .int)), .un, .un]) rfl rfl ?_
  simp only [d22, b22]
  have hmax : 1000000 ≤ sizeLine := by decide
  walk_at "ev"
  rw [zip_ints]
  refine lc_map (fun d => match d with
    | .tup [.int x, .int y] => some (.int (x * y))
    | _ => none) (by rw [List.length_map, List.length_zip]; omega) (fun d hd => ?_) ?_
  · obtain ⟨p, hp, rfl⟩ := List.mem_map.mp hd
    obtain ⟨q1, q2⟩ := List.of_mem_zip (show (p.1, p.2) ∈ r.zip xs from hp)
    walk_at "ev"
    exact big_mul (h1 _ q1) (h2 _ q2)
  rw [fm_map (g := fun p : Int × Int => D.tup [.int p.1, .int p.2]) (h := fun p => .int (p.1 * p.2)) fun p => rfl]
  rw [show ((r.zip xs).map fun p => D.int (p.1 * p.2)) = ((r.zip xs).map fun p => p.1 * p.2).map D.int by rw [List.map_map]; rfl]
  walk_at "ev"
  exact ⟨rfl, _, rfl⟩
end Dv.G

set_option Elab.async false
set_option linter.all false
set_option maxRecDepth 100000
set_option maxHeartbeats 4000000
namespace Dv.G
open PySem PySem.Spec PyProof.Rows L2 Dv
local macro_rules | `(tactic| walk_at "ev") => `(tactic| simp only [evB, k_seq, evS, k_if, evT, evAndTs, evOrTs, k_bl, k_op2, evE, evA, evAnds, evOrs, evO, evI, evG, evGs, k_var, k_con, k_tru, k_andT, k_orT, k_notT, k_andV, k_orV, k_notV, k_tup, k_lst, k_drop, k_call, isFn_fn, k_co, lb_nil, lb_val, lb_fr, lb_sl, owL_fz, owL_ow, pm_nil, pm_cons, ps_val, ps_fr, ps_sl, pasS_fz, pasS_ow, wb_nil, wb_vl, wb_fr, wb_sl, owB_fz, owB_ow, isOw_s, isOwS_ow, outS_L, ol_nil, ol_ow, ol_fz, hasS_at, hasO_fz, hasO_ow, List.getElem?_cons_zero, List.getElem?_cons_succ, true_and, and_true, look_val, look_fr, look_sl, slD_fz, slD_ow, oo_some, KC.g, K2.g, KF.g, KM.g, KN.g, KM.ty, KN.ty, oo_cmp, oo_lt, isBl_bl, outV_sc, outV_nl, outV_nt, Option.bind_some, oo_mul, oo_add, oo_sub, oo_neg, oo_int, ix0, ix1, ix2, ixT0, ixT1, ixT2, decide_eq_true_eq, k_asg, k_consA, k_nilA, k_opN, k_op1, st_val, st_fr, st_sl, stS_fz, stS_ow, k_gtup, seqO_tup, seqO_lst, gs_nl, gs_cn, k_par, pp_nil, pp_cons, pr_fr, pr_val, pr_sl, k_app, k_ext, k_pop, k_popAt, owO_ow, lstO_lst, intO_int, k_mth, k_mth0, ps_none, ps_some, k_sl, outB_bl, k_chain, k_items, wk_fr, wk_lst, wk_tup, wk_scr, wk_sl, wkS_lst, wkS_tup, wkS_scr, wkS_ow, k_signs, isStr_str, k_rng, oo_rng1, oo_rng2, k_frzI, fa_nil, fa_cons, frz_sl, frS1_fz, frS1_ow, k_for, goL_nx, goL_ct, goL_bk, goL_rt, k_lc, oo_lenL, oo_lenT, oo_lenS, k_seti, goS_nx, goS_rt, k_nx, k_ret, end_val, end_fr, end_nx, mm_nil, mm_cons, sd0, sd1, sd2, frz_val, frz_fr, rt_val, rt_fr, rt_sl, rtS_fz, rtS_ow, set_z, set_s, List.length_cons, List.length_nil, Nat.reduceAdd, Nat.reduceLeDiff, Bool.false_eq_true, or_self, or_false, false_or, not_false_eq_true, List.getElem?_nil, Int.reduceLT, List.cons_append, List.nil_append, List.append_nil, List.nodup_nil, List.nodup_cons, List.not_mem_nil, ite_true, ite_false, if_true, if_false, if_pos, lent, bindOk, beq_self_eq_true, Bool.and_self, wp_L, wp_nil, wp_cons, mg_L, mg_nil, mg_cons, k_yes, k_srtSet, List.contains_cons, List.contains_nil, Nat.reduceBEq, Bool.or_false, Bool.false_or, Bool.or_true, only, Bool.not_false, Bool.not_true, eq_self, Nat.reduceEqDiff, sl1, oo_addL, oo_tupL, oo_ne, oo_eq, tr_bl, oo_neB, oo_eqB, zip_tt, zip_ll, enum_l, AGs.len, sz0, sz1, sz2, sz3, sz4, sz5, sz6, sz7, sz8, sz9, sz10, sz11, sz12, sz13, oo_abs, oo_intB, pw18, pw12, mod61, oo_listL, oo_listT, oo_tupT, oo_min2, ssl_nil, ssl_cons, oi_nil, oi_cons, Nat.reduceLT, decide_true, Bool.and_true, Bool.true_and, k_rse, k_try, in_S, nin_S, add_S, len_S, signs_S, all_map, any_map, slL_1, slT_1, oo_addT, outV_cat, ix_m1, ixT_m1, sd_m1, gl0, gl1, gl2, gl3, gl4, gl5, gl6, gl7, gl8, gl9, gl10, gl11, gl12, gl13, gl14, gl15, gl16, gl17, gl18, gl19, gl20, gl21, gl22, gl23, gl24, gl25, gl26, gl27, gl28, gl29, gl30, tb0, tb1, tb2, tb3, tb4, tb5, tb6, tb7, tb8, tb9, tb10, tb11, tb12, tb13, tb14, tb15, tb16, tb17, tb18, tb19, tb20, tb21, tb22, tb23, tb24, tb25, tb26, tb27, sx0, sx1, sx2, sx3, tinS, div2, zip_ll, k_lc2, lc2_nil, oo_sumI, zip_lt, isi_int_lt, isi_int_l, isi_int_t, isi_int_bs, isi_int_b, isi_int_s, isi_int_i, isn_int, isi_str_lt, isi_str_l, isi_str_t, isi_str_bs, isi_str_b, isi_str_s, isi_str_i, isn_str, isi_tup_lt, isi_tup_l, isi_tup_t, isi_tup_bs, isi_tup_b, isi_tup_s, isi_tup_i, isn_tup, isi_lst_lt, isi_lst_l, isi_lst_t, isi_lst_bs, isi_lst_b, isi_lst_s, isi_lst_i, isn_lst, isi_bl_lt, isi_bl_l, isi_bl_t, isi_bl_bs, isi_bl_b, isi_bl_s, isi_bl_i, isn_bl, isi_non_lt, isi_non_l, isi_non_t, isi_non_bs, isi_non_b, isi_non_s, isi_non_i, isn_non, isx_int, isx_str, isx_tup, isx_lst, isx_bl, isx_non])
/-! what is told, as the law looks at it -/
theorem fm_none : ∀ L : List D, L.filterMap (fun _ => (none : Option D)) = []
  | [] => rfl
  | _ :: r => fm_none r
theorem ne_nil {Q : Out → Prop} : okO (dNe (.lst []) (.lst [])) Q = Q (.sc (.bl false)) := rfl
theorem eq_nil {Q : Out → Prop} : okO (dEq (.lst []) (.lst [])) Q = Q (.sc (.bl true)) := rfl
theorem holds_ok (l n : Nat) (rows : List (List Int)) (d : D) (h : RowsOk rows n) (ht : Told rows n d) : okE noE (M.fx (l + 2) 23 [.fz (.tup (rows.map tupI')), .fz d]) fun v ss => v = .val (.bl true) ∧ ss = [.un, .un] := by
  obtain ⟨b, xs, rfl, hbig, hover, hbar⟩ := ht
  have h1 := h.m1
  have h2 := h.m2
  have h3 := h.n1
  have h4 := h.n2
  have hmax : 1000000 ≤ sizeLine := by decide
  obtain ⟨r0, rs, e0⟩ : ∃ r0 rs, rows = r0 :: rs := by
    cases rows with
    | nil => simp at h1
    | cons a b => exact ⟨a, b, rfl⟩
  have hr0 : r0.length = n := h.len r0 (by rw [e0]; exact .head _)
  have hix : (rows.map tupI')[0]? = some (.tup (r0.map .int)) := by rw [e0]; rfl
  have hlx : xs.length ≤ 1000 := by
    cases b with
    | false => rw [(hbar rfl).len]; omega
    | true => rw [(hover rfl).len]; omega
  refine k_fn (d := d23) (τ := [.fz (.tup (rows.map tupI')), .fz (.tup [.bl b, .tup (xs.map .int)]), .un, .un]) rfl rfl ?_
  simp only [d23, b23]
  walk_at "ev"
  rw [if_neg (show ¬ (!((2 : Nat) : Int) == 2) = true by decide)]
  refine lc_map (fun _ => none) (by rw [List.length_map]; omega) (fun d hd => ?_) ?_
  · obtain ⟨x, hx, rfl⟩ := List.mem_map.mp hd
    walk_at "ev"
    refine ok_mono (is_int_ok l x) ?_
    rintro _ _ ⟨rfl, rfl⟩
    walk_at "ev"
  rw [fm_none]
  walk_at "ev"
  rw [ne_nil]
  walk_at "ev"
  cases b with
  | true =>
    have ho := hover rfl
    walk_at "ev"
    rw [show okO (dIx (.tup (rows.map tupI')) (.int 0)) _ = _ from oo_ixT (k := 0) hix]
    walk_at "ev"
    rw [List.length_map, List.length_map, ho.len, hr0, show ((n : Int) == (n : Int)) = true from beq_self_eq_true _]
    walk_at "ev"
    refine lc_map (fun _ => none) (by rw [List.length_map]; omega) (fun d hd => ?_) ?_
    · obtain ⟨r, hr, rfl⟩ := List.mem_map.mp hd
      have hl := h.len r hr
      simp only [tupI']
      walk_at "ev"
      refine ok_mono (sum_ok l r xs (by omega) (fun x hx => by have := row_abs h hr hx; unfold big; omega) hbig) ?_
      rintro _ _ ⟨rfl, rfl⟩
      walk_at "ev"
      have hp := ho.pos r hr
      rw [if_neg (by
        rw [dotZ_sm r xs (by rw [hl, ho.len])]
        unfold dotP at hp
        omega)]
      walk_at "ev"
    rw [fm_none]
    walk_at "ev"
    rw [eq_nil]
    walk_at "ev"
  | false =>
    have hb := hbar rfl
    walk_at "ev"
    rw [List.length_map, List.length_map, hb.len, if_neg (by simp), oo_minT (by
      intro e
      have := hb.len
      rw [e] at this
      simp at this
      omega)]
    walk_at "ev"
    have hne : xs ≠ [] := by
      intro e
      have := hb.len
      rw [e] at this
      simp at this
      omega
    rw [if_neg (by
      have := hb.nn _ (minL_mem hne)
      omega), oo_maxT hne]
    walk_at "ev"
    rw [if_neg (by
      obtain ⟨x, hx, hp⟩ := hb.some
      have := maxL_ge hx
      simp
      omega)]
    rw [show okO (dIx (.tup (rows.map tupI')) (.int 0)) _ = _ from oo_ixT (k := 0) hix]
    walk_at "ev"
    rw [List.length_map, hr0]
    refine ⟨inR_nat (by omega), ?_⟩
    rw [show ((n : Nat) : Int).toNat = n by omega]
    refine lc_map (fun _ => none) (by rw [rng_len]; omega) (fun d hd => ?_) ?_
    · obtain ⟨q, hq, rfl⟩ := rng_mem hd
      rw [show (0 : Int) + (q : Int) = ((q : Nat) : Int) by omega]
      walk_at "ev"
      refine lc_map (atF q) (by rw [List.length_map]; omega) (fun d hd => ?_) ?_
      · obtain ⟨row, hr, rfl⟩ := List.mem_map.mp hd
        have hl := h.len row hr
        simp only [tupI']
        walk_at "ev"
        rw [ix_ints (by omega)]
        walk_at "ev"
        show (row.map D.int)[q]? = _
        rw [List.getElem?_map, List.getElem?_eq_getElem (by omega), List.getD_eq_getElem?_getD, List.getElem?_eq_getElem (by omega)]
        rfl
      rw [atF_map hq rows h.len]
      walk_at "ev"
      refine ok_mono (sum_okL l (rows.map fun r => r.getD q 0) xs (by rw [List.length_map]; omega) (fun x hx => by
        obtain ⟨r, hr, rfl⟩ := List.mem_map.mp hx
        have := getD_abs h hr q
        unfold big
        omega) hbig) ?_
      rintro _ _ ⟨rfl, s, rfl⟩
      walk_at "ev"
      have hz : dotZ (rows.map fun r => r.getD q 0) xs = 0 := by
        rw [dotZ_sm _ xs (by rw [List.length_map, hb.len]), List.length_map]
        refine Eq.trans (Lv.sm_congr fun j hj => ?_) (hb.zero q hq)
        congr 1
        rw [List.getD_eq_getElem?_getD, List.getElem?_map, List.getD_eq_getElem?_getD (l := rows), List.getElem?_eq_getElem hj]
        rfl
      rw [hz]
      exact trivial
    rw [fm_none]
    walk_at "ev"
    rw [eq_nil]
    walk_at "ev"
end Dv.G

set_option Elab.async false
set_option linter.all false
set_option maxRecDepth 100000
set_option maxHeartbeats 4000000
namespace Dv.G
open PySem PySem.Spec PyProof.Rows L2 Dv
local macro_rules | `(tactic| walk_at "ev") => `(tactic| simp only [evB, k_seq, evS, k_if, evT, evAndTs, evOrTs, k_bl, k_op2, evE, evA, evAnds, evOrs, evO, evI, evG, evGs, k_var, k_con, k_tru, k_andT, k_orT, k_notT, k_andV, k_orV, k_notV, k_tup, k_lst, k_drop, k_call, isFn_fn, k_co, lb_nil, lb_val, lb_fr, lb_sl, owL_fz, owL_ow, pm_nil, pm_cons, ps_val, ps_fr, ps_sl, pasS_fz, pasS_ow, wb_nil, wb_vl, wb_fr, wb_sl, owB_fz, owB_ow, isOw_s, isOwS_ow, outS_L, ol_nil, ol_ow, ol_fz, hasS_at, hasO_fz, hasO_ow, List.getElem?_cons_zero, List.getElem?_cons_succ, true_and, and_true, look_val, look_fr, look_sl, slD_fz, slD_ow, oo_some, KC.g, K2.g, KF.g, KM.g, KN.g, KM.ty, KN.ty, oo_cmp, oo_lt, isBl_bl, outV_sc, outV_nl, outV_nt, Option.bind_some, oo_mul, oo_add, oo_sub, oo_neg, oo_int, ix0, ix1, ix2, ixT0, ixT1, ixT2, decide_eq_true_eq, k_asg, k_consA, k_nilA, k_opN, k_op1, st_val, st_fr, st_sl, stS_fz, stS_ow, k_gtup, seqO_tup, seqO_lst, gs_nl, gs_cn, k_par, pp_nil, pp_cons, pr_fr, pr_val, pr_sl, k_app, k_ext, k_pop, k_popAt, owO_ow, lstO_lst, intO_int, k_mth, k_mth0, ps_none, ps_some, k_sl, outB_bl, k_chain, k_items, wk_fr, wk_lst, wk_tup, wk_scr, wk_sl, wkS_lst, wkS_tup, wkS_scr, wkS_ow, k_signs, isStr_str, k_rng, oo_rng1, oo_rng2, k_frzI, fa_nil, fa_cons, frz_sl, frS1_fz, frS1_ow, k_for, goL_nx, goL_ct, goL_bk, goL_rt, k_lc, oo_lenL, oo_lenT, oo_lenS, k_seti, goS_nx, goS_rt, k_nx, k_ret, end_val, end_fr, end_nx, mm_nil, mm_cons, sd0, sd1, sd2, frz_val, frz_fr, rt_val, rt_fr, rt_sl, rtS_fz, rtS_ow, set_z, set_s, List.length_cons, List.length_nil, Nat.reduceAdd, Nat.reduceLeDiff, Bool.false_eq_true, or_self, or_false, false_or, not_false_eq_true, List.getElem?_nil, Int.reduceLT, List.cons_append, List.nil_append, List.append_nil, List.nodup_nil, List.nodup_cons, List.not_mem_nil, ite_true, ite_false, if_true, if_false, if_pos, lent, bindOk, beq_self_eq_true, Bool.and_self, wp_L, wp_nil, wp_cons, mg_L, mg_nil, mg_cons, k_yes, k_srtSet, List.contains_cons, List.contains_nil, Nat.reduceBEq, Bool.or_false, Bool.false_or, Bool.or_true, only, Bool.not_false, Bool.not_true, eq_self, Nat.reduceEqDiff, sl1, oo_addL, oo_tupL, oo_ne, oo_eq, tr_bl, oo_neB, oo_eqB, zip_tt, zip_ll, enum_l, AGs.len, sz0, sz1, sz2, sz3, sz4, sz5, sz6, sz7, sz8, sz9, sz10, sz11, sz12, sz13, oo_abs, oo_intB, pw18, pw12, mod61, oo_listL, oo_listT, oo_tupT, oo_min2, ssl_nil, ssl_cons, oi_nil, oi_cons, Nat.reduceLT, decide_true, Bool.and_true, Bool.true_and, k_rse, k_try, in_S, nin_S, add_S, len_S, signs_S, all_map, any_map, slL_1, slT_1, oo_addT, outV_cat, ix_m1, ixT_m1, sd_m1, gl0, gl1, gl2, gl3, gl4, gl5, gl6, gl7, gl8, gl9, gl10, gl11, gl12, gl13, gl14, gl15, gl16, gl17, gl18, gl19, gl20, gl21, gl22, gl23, gl24, gl25, gl26, gl27, gl28, gl29, gl30, tb0, tb1, tb2, tb3, tb4, tb5, tb6, tb7, tb8, tb9, tb10, tb11, tb12, tb13, tb14, tb15, tb16, tb17, tb18, tb19, tb20, tb21, tb22, tb23, tb24, tb25, tb26, tb27, sx0, sx1, sx2, sx3, tinS, div2, zip_ll, k_lc2, lc2_nil, oo_sumI, zip_lt, isi_int_lt, isi_int_l, isi_int_t, isi_int_bs, isi_int_b, isi_int_s, isi_int_i, isn_int, isi_str_lt, isi_str_l, isi_str_t, isi_str_bs, isi_str_b, isi_str_s, isi_str_i, isn_str, isi_tup_lt, isi_tup_l, isi_tup_t, isi_tup_bs, isi_tup_b, isi_tup_s, isi_tup_i, isn_tup, isi_lst_lt, isi_lst_l, isi_lst_t, isi_lst_bs, isi_lst_b, isi_lst_s, isi_lst_i, isn_lst, isi_bl_lt, isi_bl_l, isi_bl_t, isi_bl_bs, isi_bl_b, isi_bl_s, isi_bl_i, isn_bl, isi_non_lt, isi_non_l, isi_non_t, isi_non_bs, isi_non_b, isi_non_s, isi_non_i, isn_non, isx_int, isx_str, isx_tup, isx_lst, isx_bl, isx_non])
/-! drawn rows -/
theorem row_ok (l : Nat) (a b c : Int) (m w : Nat) (hm : m ≤ 12) (hw : w ≤ 1000000) (hc : 0 ≤ c) (hc2 : c < 900000000) : okE noE (M.fx (l + 2) 24 [tinS a b c, .fz (.int (m : Int)), .fz (.int (w : Int))]) fun v ss => ∃ (r : List Int) (a' c' : Int), v = .val (.tup (r.map .int)) ∧ ss = [tinS a' b c', .un, .un] ∧ r.length = m ∧ (∀ x, x ∈ r → -(w : Int) ≤ x ∧ x ≤ w) ∧ 0 ≤ c' ∧ c' ≤ c + m := by
  refine k_fn (d := d24) (τ := [tinS a b c, .fz (.int (m : Int)), .fz (.int (w : Int)), .un]) rfl rfl ?_
  simp only [d24, b24]
  have hmax : 1000000 ≤ sizeLine := by decide
  walk_at "ev"
  refine ⟨inR_nat (by omega), ?_⟩
  rw [show ((m : Nat) : Int).toNat = m by omega]
  refine lc_inv (fun acc rest τ => ∃ (r : List Int) (a' c' : Int), acc = r.map D.int ∧ (∀ x, x ∈ r → -(w : Int) ≤ x ∧ x ≤ w) ∧ r.length + rest.length = m ∧ τ = [tinS a' b c', .fz (.int (m : Int)), .fz (.int (w : Int)), .un] ∧ 0 ≤ c' ∧ c' + rest.length ≤ c + m) (fun acc τ hI => ?_) (fun acc d r τ hI => ?_) ⟨[], a, c, rfl, (fun x hx => nomatch hx), by rw [rng_len]; simp, rfl, hc, by rw [rng_len]; omega⟩
  · obtain ⟨r, a', c', rfl, h1, h2, rfl, h3, h4⟩ := hI
    rw [List.length_nil] at h2 h4
    walk_at "ev"
    exact ⟨r, a', c', rfl, rfl, by omega, h1, h3, by omega⟩
  · obtain ⟨r', a', c', rfl, h1, h2, rfl, h3, h4⟩ := hI
    rw [List.length_cons] at h2 h4
    walk_at "ev"
    have bw : ∀ k : Int, k.natAbs ≤ 3000000 → big k := fun k hk => by
      have : (3000000 : Nat) < 2 ^ 5000 := Nat.lt_of_lt_of_le (show (3000000 : Nat) < 2 ^ 24 by decide) (Nat.pow_le_pow_right (by decide) (by decide))
      exact Nat.lt_of_le_of_lt hk this
    refine ⟨big_mul (bw _ (by decide)) (bw _ (by omega)), ?_⟩
    refine ok_mono (take_ok l a' b c' (2 * (w : Int) + 1) (by omega) (by
      have h5 : (2 * (w : Int) + 1).natAbs ≤ 3000000 := by omega
      rcases Nat.eq_zero_or_pos (2 * (w : Int) + 1).natAbs with h0 | hp
      · omega
      · exact Nat.lt_of_lt_of_le ((Nat.log2_lt (by omega)).mpr (Nat.lt_of_le_of_lt h5 (show (3000000 : Nat) < 2 ^ 24 by decide))) (by decide)) h3 (by omega)) ?_
    rintro _ _ ⟨q, a2, c2, rfl, rfl, i1, i2⟩
    have k1 := Int.emod_nonneg q (show 2 * (w : Int) + 1 ≠ 0 by omega)
    have k2 := Int.emod_lt_of_pos q (show 0 < 2 * (w : Int) + 1 by omega)
    generalize q % (2 * (w : Int) + 1) = j at k1 k2
    simp only [tinS]
    walk_at "ev"
    refine ⟨by rw [List.length_map]; omega, r' ++ [j - w], a2, c2, by rw [List.map_append]; rfl, fun x hx => ?_, by rw [List.length_append, List.length_singleton]; omega, rfl, i1, by omega⟩
    rcases List.mem_append.mp hx with hx | hx
    · exact h1 x hx
    · rw [List.mem_singleton] at hx
      subst hx
      omega
end Dv.G

set_option Elab.async false
set_option linter.all false
set_option maxRecDepth 100000
set_option maxHeartbeats 4000000
namespace Dv.G
open PySem PySem.Spec PyProof.Rows L2 Dv
local macro_rules | `(tactic| walk_at "ev") => `(tactic| simp only [evB, k_seq, evS, k_if, evT, evAndTs, evOrTs, k_bl, k_op2, evE, evA, evAnds, evOrs, evO, evI, evG, evGs, k_var, k_con, k_tru, k_andT, k_orT, k_notT, k_andV, k_orV, k_notV, k_tup, k_lst, k_drop, k_call, isFn_fn, k_co, lb_nil, lb_val, lb_fr, lb_sl, owL_fz, owL_ow, pm_nil, pm_cons, ps_val, ps_fr, ps_sl, pasS_fz, pasS_ow, wb_nil, wb_vl, wb_fr, wb_sl, owB_fz, owB_ow, isOw_s, isOwS_ow, outS_L, ol_nil, ol_ow, ol_fz, hasS_at, hasO_fz, hasO_ow, List.getElem?_cons_zero, List.getElem?_cons_succ, true_and, and_true, look_val, look_fr, look_sl, slD_fz, slD_ow, oo_some, KC.g, K2.g, KF.g, KM.g, KN.g, KM.ty, KN.ty, oo_cmp, oo_lt, isBl_bl, outV_sc, outV_nl, outV_nt, Option.bind_some, oo_mul, oo_add, oo_sub, oo_neg, oo_int, ix0, ix1, ix2, ixT0, ixT1, ixT2, decide_eq_true_eq, k_asg, k_consA, k_nilA, k_opN, k_op1, st_val, st_fr, st_sl, stS_fz, stS_ow, k_gtup, seqO_tup, seqO_lst, gs_nl, gs_cn, k_par, pp_nil, pp_cons, pr_fr, pr_val, pr_sl, k_app, k_ext, k_pop, k_popAt, owO_ow, lstO_lst, intO_int, k_mth, k_mth0, ps_none, ps_some, k_sl, outB_bl, k_chain, k_items, wk_fr, wk_lst, wk_tup, wk_scr, wk_sl, wkS_lst, wkS_tup, wkS_scr, wkS_ow, k_signs, isStr_str, k_rng, oo_rng1, oo_rng2, k_frzI, fa_nil, fa_cons, frz_sl, frS1_fz, frS1_ow, k_for, goL_nx, goL_ct, goL_bk, goL_rt, k_lc, oo_lenL, oo_lenT, oo_lenS, k_seti, goS_nx, goS_rt, k_nx, k_ret, end_val, end_fr, end_nx, mm_nil, mm_cons, sd0, sd1, sd2, frz_val, frz_fr, rt_val, rt_fr, rt_sl, rtS_fz, rtS_ow, set_z, set_s, List.length_cons, List.length_nil, Nat.reduceAdd, Nat.reduceLeDiff, Bool.false_eq_true, or_self, or_false, false_or, not_false_eq_true, List.getElem?_nil, Int.reduceLT, List.cons_append, List.nil_append, List.append_nil, List.nodup_nil, List.nodup_cons, List.not_mem_nil, ite_true, ite_false, if_true, if_false, if_pos, lent, bindOk, beq_self_eq_true, Bool.and_self, wp_L, wp_nil, wp_cons, mg_L, mg_nil, mg_cons, k_yes, k_srtSet, List.contains_cons, List.contains_nil, Nat.reduceBEq, Bool.or_false, Bool.false_or, Bool.or_true, only, Bool.not_false, Bool.not_true, eq_self, Nat.reduceEqDiff, sl1, oo_addL, oo_tupL, oo_ne, oo_eq, tr_bl, oo_neB, oo_eqB, zip_tt, zip_ll, enum_l, AGs.len, sz0, sz1, sz2, sz3, sz4, sz5, sz6, sz7, sz8, sz9, sz10, sz11, sz12, sz13, oo_abs, oo_intB, pw18, pw12, mod61, oo_listL, oo_listT, oo_tupT, oo_min2, ssl_nil, ssl_cons, oi_nil, oi_cons, Nat.reduceLT, decide_true, Bool.and_true, Bool.true_and, k_rse, k_try, in_S, nin_S, add_S, len_S, signs_S, all_map, any_map, slL_1, slT_1, oo_addT, outV_cat, ix_m1, ixT_m1, sd_m1, gl0, gl1, gl2, gl3, gl4, gl5, gl6, gl7, gl8, gl9, gl10, gl11, gl12, gl13, gl14, gl15, gl16, gl17, gl18, gl19, gl20, gl21, gl22, gl23, gl24, gl25, gl26, gl27, gl28, gl29, gl30, tb0, tb1, tb2, tb3, tb4, tb5, tb6, tb7, tb8, tb9, tb10, tb11, tb12, tb13, tb14, tb15, tb16, tb17, tb18, tb19, tb20, tb21, tb22, tb23, tb24, tb25, tb26, tb27, sx0, sx1, sx2, sx3, tinS, div2, zip_ll, k_lc2, lc2_nil, oo_sumI, zip_lt, isi_int_lt, isi_int_l, isi_int_t, isi_int_bs, isi_int_b, isi_int_s, isi_int_i, isn_int, isi_str_lt, isi_str_l, isi_str_t, isi_str_bs, isi_str_b, isi_str_s, isi_str_i, isn_str, isi_tup_lt, isi_tup_l, isi_tup_t, isi_tup_bs, isi_tup_b, isi_tup_s, isi_tup_i, isn_tup, isi_lst_lt, isi_lst_l, isi_lst_t, isi_lst_bs, isi_lst_b, isi_lst_s, isi_lst_i, isn_lst, isi_bl_lt, isi_bl_l, isi_bl_t, isi_bl_bs, isi_bl_b, isi_bl_s, isi_bl_i, isn_bl, isi_non_lt, isi_non_l, isi_non_t, isi_non_bs, isi_non_b, isi_non_s, isi_non_i, isn_non, isx_int, isx_str, isx_tup, isx_lst, isx_bl, isx_non])
/-! rows that are above 0 with a goal -/
theorem dotZ_neg : ∀ (r xs : List Int), dotZ (r.map fun x => -x) xs = -dotZ r xs
  | [], xs => rfl
  | x :: r, [] => rfl
  | x :: r, y :: xs => by
    show -x * y + dotZ (r.map fun x => -x) xs = -(x * y + dotZ r xs)
    rw [dotZ_neg r xs, Int.neg_mul]
    omega
theorem big_small {k : Int} (hk : k.natAbs ≤ 3000000) : big k := by
  have : (3000000 : Nat) < 2 ^ 5000 := Nat.lt_of_lt_of_le (show (3000000 : Nat) < 2 ^ 24 by decide) (Nat.pow_le_pow_right (by decide) (by decide))
  exact Nat.lt_of_le_of_lt hk this
theorem over1_ok (l : Nat) (a b c : Int) (m w : Nat) (g : List Int) (hm : m ≤ 12) (hw : w ≤ 1000000) (hc : 0 ≤ c) (hc2 : c < 900000000) (hg : g.length = m) (hg2 : ∀ x, x ∈ g → -1000000 ≤ x ∧ x ≤ 1000000) (hgg : 0 < dotZ g g) : okE noE (M.fx (l + 3) 25 [tinS a b c, .fz (.int (m : Int)), .fz (.int (w : Int)), .fz (.tup (g.map .int))]) fun v ss => ∃ (r : List Int) (a' c' : Int), v = .val (.tup (r.map .int)) ∧ ss = [tinS a' b c', .un, .un, .un] ∧ r.length = m ∧ (∀ x, x ∈ r → -1000000 ≤ x ∧ x ≤ 1000000) ∧ 0 < dotZ r g ∧ 0 ≤ c' ∧ c' ≤ c + m := by
  refine k_fn (d := d25) (τ := [tinS a b c, .fz (.int (m : Int)), .fz (.int (w : Int)), .fz (.tup (g.map .int)), .un, .un, .un]) rfl rfl ?_
  simp only [d25, b25]
  have hmax : 1000000 ≤ sizeLine := by decide
  walk_at "ev"
  refine ok_mono (row_ok l a b c m w hm hw hc hc2) ?_
  rintro _ _ ⟨r, a', c', rfl, rfl, h1, h2, h3, h4⟩
  simp only [tinS]
  walk_at "ev"
  refine ok_mono (sum_ok (l + 1) r g (by omega) (fun x hx => big_small (by have := h2 x hx; omega)) (fun x hx => big_small (by have := hg2 x hx; omega))) ?_
  rintro _ _ ⟨rfl, rfl⟩
  walk_at "ev"
  by_cases hn : dotZ r g < 0
  · rw [if_pos hn]
    refine lc_map (fun d => match d with
      | .int x => some (.int (-x))
      | _ => none) (by rw [List.length_map]; omega) (fun d hd => ?_) ?_
    · obtain ⟨x, hx, rfl⟩ := List.mem_map.mp hd
      walk_at "ev"
    rw [fm_map (g := D.int) (h := fun x => .int (-x)) fun x => rfl]
    walk_at "ev"
    refine ⟨r.map fun x => -x, a', c', by rw [List.map_map]; rfl, rfl, by rw [List.length_map, h1], fun x hx => ?_, by rw [dotZ_neg]; omega, h3, h4⟩
    obtain ⟨y, hy, rfl⟩ := List.mem_map.mp hx
    have := h2 y hy
    omega
  · rw [if_neg hn]
    by_cases hp : dotZ r g > 0
    · rw [if_pos hp]
      exact ⟨r, a', c', rfl, rfl, h1, fun x hx => by have := h2 x hx; omega, hp, h3, h4⟩
    · rw [if_neg hp]
      exact ⟨g, a', c', rfl, rfl, hg, hg2, hgg, h3, h4⟩
end Dv.G

set_option Elab.async false
set_option linter.all false
set_option maxRecDepth 100000
set_option maxHeartbeats 4000000
namespace Dv.G
open PySem PySem.Spec PyProof.Rows L2 Dv
local macro_rules | `(tactic| walk_at "ev") => `(tactic| simp only [evB, k_seq, evS, k_if, evT, evAndTs, evOrTs, k_bl, k_op2, evE, evA, evAnds, evOrs, evO, evI, evG, evGs, k_var, k_con, k_tru, k_andT, k_orT, k_notT, k_andV, k_orV, k_notV, k_tup, k_lst, k_drop, k_call, isFn_fn, k_co, lb_nil, lb_val, lb_fr, lb_sl, owL_fz, owL_ow, pm_nil, pm_cons, ps_val, ps_fr, ps_sl, pasS_fz, pasS_ow, wb_nil, wb_vl, wb_fr, wb_sl, owB_fz, owB_ow, isOw_s, isOwS_ow, outS_L, ol_nil, ol_ow, ol_fz, hasS_at, hasO_fz, hasO_ow, List.getElem?_cons_zero, List.getElem?_cons_succ, true_and, and_true, look_val, look_fr, look_sl, slD_fz, slD_ow, oo_some, KC.g, K2.g, KF.g, KM.g, KN.g, KM.ty, KN.ty, oo_cmp, oo_lt, isBl_bl, outV_sc, outV_nl, outV_nt, Option.bind_some, oo_mul, oo_add, oo_sub, oo_neg, oo_int, ix0, ix1, ix2, ixT0, ixT1, ixT2, decide_eq_true_eq, k_asg, k_consA, k_nilA, k_opN, k_op1, st_val, st_fr, st_sl, stS_fz, stS_ow, k_gtup, seqO_tup, seqO_lst, gs_nl, gs_cn, k_par, pp_nil, pp_cons, pr_fr, pr_val, pr_sl, k_app, k_ext, k_pop, k_popAt, owO_ow, lstO_lst, intO_int, k_mth, k_mth0, ps_none, ps_some, k_sl, outB_bl, k_chain, k_items, wk_fr, wk_lst, wk_tup, wk_scr, wk_sl, wkS_lst, wkS_tup, wkS_scr, wkS_ow, k_signs, isStr_str, k_rng, oo_rng1, oo_rng2, k_frzI, fa_nil, fa_cons, frz_sl, frS1_fz, frS1_ow, k_for, goL_nx, goL_ct, goL_bk, goL_rt, k_lc, oo_lenL, oo_lenT, oo_lenS, k_seti, goS_nx, goS_rt, k_nx, k_ret, end_val, end_fr, end_nx, mm_nil, mm_cons, sd0, sd1, sd2, frz_val, frz_fr, rt_val, rt_fr, rt_sl, rtS_fz, rtS_ow, set_z, set_s, List.length_cons, List.length_nil, Nat.reduceAdd, Nat.reduceLeDiff, Bool.false_eq_true, or_self, or_false, false_or, not_false_eq_true, List.getElem?_nil, Int.reduceLT, List.cons_append, List.nil_append, List.append_nil, List.nodup_nil, List.nodup_cons, List.not_mem_nil, ite_true, ite_false, if_true, if_false, if_pos, lent, bindOk, beq_self_eq_true, Bool.and_self, wp_L, wp_nil, wp_cons, mg_L, mg_nil, mg_cons, k_yes, k_srtSet, List.contains_cons, List.contains_nil, Nat.reduceBEq, Bool.or_false, Bool.false_or, Bool.or_true, only, Bool.not_false, Bool.not_true, eq_self, Nat.reduceEqDiff, sl1, oo_addL, oo_tupL, oo_ne, oo_eq, tr_bl, oo_neB, oo_eqB, zip_tt, zip_ll, enum_l, AGs.len, sz0, sz1, sz2, sz3, sz4, sz5, sz6, sz7, sz8, sz9, sz10, sz11, sz12, sz13, oo_abs, oo_intB, pw18, pw12, mod61, oo_listL, oo_listT, oo_tupT, oo_min2, ssl_nil, ssl_cons, oi_nil, oi_cons, Nat.reduceLT, decide_true, Bool.and_true, Bool.true_and, k_rse, k_try, in_S, nin_S, add_S, len_S, signs_S, all_map, any_map, slL_1, slT_1, oo_addT, outV_cat, ix_m1, ixT_m1, sd_m1, gl0, gl1, gl2, gl3, gl4, gl5, gl6, gl7, gl8, gl9, gl10, gl11, gl12, gl13, gl14, gl15, gl16, gl17, gl18, gl19, gl20, gl21, gl22, gl23, gl24, gl25, gl26, gl27, gl28, gl29, gl30, tb0, tb1, tb2, tb3, tb4, tb5, tb6, tb7, tb8, tb9, tb10, tb11, tb12, tb13, tb14, tb15, tb16, tb17, tb18, tb19, tb20, tb21, tb22, tb23, tb24, tb25, tb26, tb27, sx0, sx1, sx2, sx3, tinS, div2, zip_ll, k_lc2, lc2_nil, oo_sumI, zip_lt, isi_int_lt, isi_int_l, isi_int_t, isi_int_bs, isi_int_b, isi_int_s, isi_int_i, isn_int, isi_str_lt, isi_str_l, isi_str_t, isi_str_bs, isi_str_b, isi_str_s, isi_str_i, isn_str, isi_tup_lt, isi_tup_l, isi_tup_t, isi_tup_bs, isi_tup_b, isi_tup_s, isi_tup_i, isn_tup, isi_lst_lt, isi_lst_l, isi_lst_t, isi_lst_bs, isi_lst_b, isi_lst_s, isi_lst_i, isn_lst, isi_bl_lt, isi_bl_l, isi_bl_t, isi_bl_bs, isi_bl_b, isi_bl_s, isi_bl_i, isn_bl, isi_non_lt, isi_non_l, isi_non_t, isi_non_bs, isi_non_b, isi_non_s, isi_non_i, isn_non, isx_int, isx_str, isx_tup, isx_lst, isx_bl, isx_non])
/-! one draw of rows -/
/-- rows of one length, within the limits -/
theorem RowsOk.of {rows : List (List Int)} {n : Nat} (h1 : 1 ≤ rows.length) (h2 : rows.length ≤ 40) (h3 : 1 ≤ n) (h4 : n ≤ 12) (h : ∀ r, r ∈ rows → r.length = n ∧ ∀ x, x ∈ r → -1000000 ≤ x ∧ x ≤ 1000000) : RowsOk rows n := ⟨fun r hr => (h r hr).1, h1, h2, h3, h4, fun r hr => (h r hr).2⟩
/-- with numbers above 0 with all: no weights -/
theorem no_bar {rows : List (List Int)} {n : Nat} {xs g : List Int} (hb : IsBar rows n xs) (hl : ∀ r, r ∈ rows → r.length = n) (hg : ∀ r, r ∈ rows → 0 < dotP r g) : False := by
  obtain ⟨x, hx, hp⟩ := hb.some
  have hgj : ∀ j, j < rows.length → 0 < dotP (rows.getD j []) g := fun j hj => hg _ (mem_getD hj)
  have h0 : Lv.sm rows.length (fun j => xs.getD j 0 * dotP (rows.getD j []) g) = 0 := by
    have e : Lv.sm rows.length (fun j => xs.getD j 0 * dotP (rows.getD j []) g) = Lv.sm rows.length fun j => Lv.sm n fun q => xs.getD j 0 * ((rows.getD j []).getD q 0 * g.getD q 0) := by
      refine Lv.sm_congr fun j hj => ?_
      rw [Lv.sm_mul]
      unfold dotP
      rw [hl _ (mem_getD hj)]
    rw [e, Lv.sm_swap]
    refine Lv.sm_zero fun q hq => ?_
    have e2 : Lv.sm rows.length (fun j => xs.getD j 0 * ((rows.getD j []).getD q 0 * g.getD q 0)) = Lv.sm rows.length fun j => g.getD q 0 * ((rows.getD j []).getD q 0 * xs.getD j 0) := by
      refine Lv.sm_congr fun j _ => ?_
      simp only [Int.mul_comm, Int.mul_left_comm, Int.mul_assoc]
    rw [e2, Lv.sm_mul, hb.zero q hq, Int.mul_zero]
  have h1 := Lv.sm_all0 (fun j hj => Int.mul_nonneg (show 0 ≤ xs.getD j 0 by
    rw [List.getD_eq_getElem?_getD, List.getElem?_eq_getElem (by rw [hb.len]; exact hj)]
    exact hb.nn _ (List.getElem_mem _)) (Int.le_of_lt (hgj j hj))) h0
  obtain ⟨j, hj, e⟩ := List.getElem_of_mem hx
  have h2 := h1 j (by rw [← hb.len]; exact hj)
  have e3 : xs.getD j 0 = x := by
    rw [List.getD_eq_getElem?_getD, List.getElem?_eq_getElem hj]
    exact e
  rw [e3] at h2
  rcases Int.mul_eq_zero.mp h2 with q | q
  · omega
  · have := hgj j (by rw [← hb.len]; exact hj)
    omega
/-- with a row that is minus a sum of others: no numbers -/
def colSum (few : List (List Int)) (q : Nat) : Int := (few.map fun r => r.getD q 0).sum
theorem sm_colSum (n : Nat) (ys : List Int) : ∀ few : List (List Int), Lv.sm n (fun q => colSum few q * ys.getD q 0) = (few.map fun r => Lv.sm n fun q => r.getD q 0 * ys.getD q 0).sum
  | [] => Lv.sm_zero fun q _ => Int.zero_mul _
  | r :: few => by
    rw [List.map_cons, List.sum_cons, ← sm_colSum n ys few, ← Lv.sm_add]
    refine Lv.sm_congr fun q _ => ?_
    show (r.getD q 0 + colSum few q) * _ = _
    rw [Int.add_mul]
theorem sum_pos : ∀ (L : List Int), L ≠ [] → (∀ x, x ∈ L → 0 < x) → 0 < L.sum
  | [], h, _ => absurd rfl h
  | [x], _, h => by
    have := h x (.head _)
    simpa using this
  | x :: y :: r, _, h => by
    have h1 := h x (.head _)
    have h2 := sum_pos (y :: r) (by simp) fun z hz => h z (.tail _ hz)
    rw [List.sum_cons]
    omega
theorem no_over {rows : List (List Int)} {n : Nat} {ys : List Int} {few : List (List Int)} {back : List Int} (o : IsOver rows n ys) (hl : ∀ r, r ∈ rows → r.length = n) (hb : back ∈ rows) (hf : ∀ r, r ∈ few → r ∈ rows) (hne : few ≠ []) (e : ∀ q, q < n → back.getD q 0 = -colSum few q) : False := by
  have h1 := o.pos back hb
  have h2 : dotP back ys = -Lv.sm n fun q => colSum few q * ys.getD q 0 := by
    unfold dotP
    rw [hl back hb, show (-Lv.sm n fun q => colSum few q * ys.getD q 0) = -1 * Lv.sm n fun q => colSum few q * ys.getD q 0 by omega, ← Lv.sm_mul]
    refine Lv.sm_congr fun q hq => ?_
    rw [e q hq, Int.neg_mul, Int.neg_mul, Int.one_mul]
  rw [sm_colSum] at h2
  have h3 := sum_pos (few.map fun r => Lv.sm n fun q => r.getD q 0 * ys.getD q 0) (by simpa using hne) fun x hx => by
    obtain ⟨r, hr, rfl⟩ := List.mem_map.mp hx
    have := o.pos r (hf r hr)
    unfold dotP at this
    rwa [hl r (hf r hr)] at this
  omega
end Dv.G

set_option Elab.async false
set_option linter.all false
set_option maxRecDepth 100000
set_option maxHeartbeats 4000000
namespace Dv.G
open PySem PySem.Spec PyProof.Rows L2 Dv
local macro_rules | `(tactic| walk_at "ev") => `(tactic| simp only [evB, k_seq, evS, k_if, evT, evAndTs, evOrTs, k_bl, k_op2, evE, evA, evAnds, evOrs, evO, evI, evG, evGs, k_var, k_con, k_tru, k_andT, k_orT, k_notT, k_andV, k_orV, k_notV, k_tup, k_lst, k_drop, k_call, isFn_fn, k_co, lb_nil, lb_val, lb_fr, lb_sl, owL_fz, owL_ow, pm_nil, pm_cons, ps_val, ps_fr, ps_sl, pasS_fz, pasS_ow, wb_nil, wb_vl, wb_fr, wb_sl, owB_fz, owB_ow, isOw_s, isOwS_ow, outS_L, ol_nil, ol_ow, ol_fz, hasS_at, hasO_fz, hasO_ow, List.getElem?_cons_zero, List.getElem?_cons_succ, true_and, and_true, look_val, look_fr, look_sl, slD_fz, slD_ow, oo_some, KC.g, K2.g, KF.g, KM.g, KN.g, KM.ty, KN.ty, oo_cmp, oo_lt, isBl_bl, outV_sc, outV_nl, outV_nt, Option.bind_some, oo_mul, oo_add, oo_sub, oo_neg, oo_int, ix0, ix1, ix2, ixT0, ixT1, ixT2, decide_eq_true_eq, k_asg, k_consA, k_nilA, k_opN, k_op1, st_val, st_fr, st_sl, stS_fz, stS_ow, k_gtup, seqO_tup, seqO_lst, gs_nl, gs_cn, k_par, pp_nil, pp_cons, pr_fr, pr_val, pr_sl, k_app, k_ext, k_pop, k_popAt, owO_ow, lstO_lst, intO_int, k_mth, k_mth0, ps_none, ps_some, k_sl, outB_bl, k_chain, k_items, wk_fr, wk_lst, wk_tup, wk_scr, wk_sl, wkS_lst, wkS_tup, wkS_scr, wkS_ow, k_signs, isStr_str, k_rng, oo_rng1, oo_rng2, k_frzI, fa_nil, fa_cons, frz_sl, frS1_fz, frS1_ow, k_for, goL_nx, goL_ct, goL_bk, goL_rt, k_lc, oo_lenL, oo_lenT, oo_lenS, k_seti, goS_nx, goS_rt, k_nx, k_ret, end_val, end_fr, end_nx, mm_nil, mm_cons, sd0, sd1, sd2, frz_val, frz_fr, rt_val, rt_fr, rt_sl, rtS_fz, rtS_ow, set_z, set_s, List.length_cons, List.length_nil, Nat.reduceAdd, Nat.reduceLeDiff, Bool.false_eq_true, or_self, or_false, false_or, not_false_eq_true, List.getElem?_nil, Int.reduceLT, List.cons_append, List.nil_append, List.append_nil, List.nodup_nil, List.nodup_cons, List.not_mem_nil, ite_true, ite_false, if_true, if_false, if_pos, lent, bindOk, beq_self_eq_true, Bool.and_self, wp_L, wp_nil, wp_cons, mg_L, mg_nil, mg_cons, k_yes, k_srtSet, List.contains_cons, List.contains_nil, Nat.reduceBEq, Bool.or_false, Bool.false_or, Bool.or_true, only, Bool.not_false, Bool.not_true, eq_self, Nat.reduceEqDiff, sl1, oo_addL, oo_tupL, oo_ne, oo_eq, tr_bl, oo_neB, oo_eqB, zip_tt, zip_ll, enum_l, AGs.len, sz0, sz1, sz2, sz3, sz4, sz5, sz6, sz7, sz8, sz9, sz10, sz11, sz12, sz13, oo_abs, oo_intB, pw18, pw12, mod61, oo_listL, oo_listT, oo_tupT, oo_min2, ssl_nil, ssl_cons, oi_nil, oi_cons, Nat.reduceLT, decide_true, Bool.and_true, Bool.true_and, k_rse, k_try, in_S, nin_S, add_S, len_S, signs_S, all_map, any_map, slL_1, slT_1, oo_addT, outV_cat, ix_m1, ixT_m1, sd_m1, gl0, gl1, gl2, gl3, gl4, gl5, gl6, gl7, gl8, gl9, gl10, gl11, gl12, gl13, gl14, gl15, gl16, gl17, gl18, gl19, gl20, gl21, gl22, gl23, gl24, gl25, gl26, gl27, gl28, gl29, gl30, tb0, tb1, tb2, tb3, tb4, tb5, tb6, tb7, tb8, tb9, tb10, tb11, tb12, tb13, tb14, tb15, tb16, tb17, tb18, tb19, tb20, tb21, tb22, tb23, tb24, tb25, tb26, tb27, sx0, sx1, sx2, sx3, tinS, div2, zip_ll, k_lc2, lc2_nil, oo_sumI, zip_lt, isi_int_lt, isi_int_l, isi_int_t, isi_int_bs, isi_int_b, isi_int_s, isi_int_i, isn_int, isi_str_lt, isi_str_l, isi_str_t, isi_str_bs, isi_str_b, isi_str_s, isi_str_i, isn_str, isi_tup_lt, isi_tup_l, isi_tup_t, isi_tup_bs, isi_tup_b, isi_tup_s, isi_tup_i, isn_tup, isi_lst_lt, isi_lst_l, isi_lst_t, isi_lst_bs, isi_lst_b, isi_lst_s, isi_lst_i, isn_lst, isi_bl_lt, isi_bl_l, isi_bl_t, isi_bl_bs, isi_bl_b, isi_bl_s, isi_bl_i, isn_bl, isi_non_lt, isi_non_l, isi_non_t, isi_non_bs, isi_non_b, isi_non_s, isi_non_i, isn_non, isx_int, isx_str, isx_tup, isx_lst, isx_bl, isx_non])
/-! one draw of rows: helpers -/
theorem pw6 {Q : Out → Prop} : okO (dPow (.int 10) (.int 6)) Q = Q (.sc (.int 1000000)) := by
  show okO (if (0 : Int) ≤ 6 ∧ (6 : Int) ≤ 1000000 ∧ (10 : Int).natAbs < 2 ^ 64 then oI ((10 : Int) ^ (6 : Int).toNat) else none) Q = _
  rw [if_pos (by decide)]
  rfl
theorem lists_rows (l : Nat) (rows : List (List Int)) (hl : rows.length ≤ sizeLine) (h : ∀ r, r ∈ rows → r.length ≤ sizeLine) : okE noE (M.fx (l + 3) 17 [.fz (.tup (rows.map tupI'))]) fun v ss => v = .fr (rows.map fun r => .lst (r.map .int)) ∧ ss = [.un] := by
  refine k_fn (d := d17) (τ := [.fz (.tup (rows.map tupI')), .un]) rfl rfl ?_
  simp only [d17, b17]
  walk_at "ev"
  refine lc_map (fun d => match d with
    | .tup ds => some (.lst ds)
    | d => none) (by rw [List.length_map]; exact hl) (fun d hd => ?_) ?_
  · obtain ⟨r, hr, rfl⟩ := List.mem_map.mp hd
    simp only [tupI']
    walk_at "ev"
    refine ok_mono (lists_ints l r (h r hr)) ?_
    rintro v ss ⟨rfl, rfl⟩
    walk_at "ev"
  · walk_at "ev"
    rw [fm_map (g := tupI') (h := fun r => .lst (r.map .int)) fun r => rfl]
theorem min9 {w : Nat} {Q : Out → Prop} : okO (cMin [.lst [.int (w : Int), .int 9]]) Q = Q (.sc (.int ((min w 9 : Nat) : Int))) := by
  show Q (.sc (.int (min (w : Int) 9))) = _
  congr 3
  omega
theorem oo_maxL {ns : List Int} (h : ns ≠ []) {Q : Out → Prop} : okO (cMax [.lst (ns.map D.int)]) Q = Q (.sc (.int (maxL ns))) := by
  show okO ((ints? (ns.map D.int)).bind fun ns => if ns.isEmpty then none else oI (maxL ns)) Q = _
  rw [ints_map]
  cases ns with
  | nil => exact absurd rfl h
  | cons x r => rfl
theorem tupI_inj {r s : List Int} (h : tupI' r = tupI' s) : r = s := by
  unfold tupI' at h
  injection h with h
  have e : ∀ xs : List Int, (xs.map D.int).filterMap (fun d => match d with | .int i => some i | _ => none) = xs := fun xs => by
    induction xs with
    | nil => rfl
    | cons x r ih => rw [List.map_cons, List.filterMap_cons, ih]
  have := congrArg (List.filterMap (fun d => match d with | D.int i => some i | _ => none)) h
  rwa [e, e] at this
theorem of_rows : ∀ (fs : List D), (∀ d, d ∈ fs → ∃ x, d = tupI' x) → ∃ us : List (List Int), fs = us.map tupI'
  | [], _ => ⟨[], rfl⟩
  | d :: r, h => by
    obtain ⟨x, rfl⟩ := h d (.head _)
    obtain ⟨us, rfl⟩ := of_rows r fun e he => h e (.tail _ he)
    exact ⟨x :: us, rfl⟩
theorem mem_tupI {us : List (List Int)} {x : List Int} (h : tupI' x ∈ us.map tupI') : x ∈ us := by
  obtain ⟨y, hy, e⟩ := List.mem_map.mp h
  rw [← tupI_inj e]
  exact hy
/-- a goal: its own numbers are not 0 -/
def nz (x : Int) : Int := x + if x == 0 then 1 else 0
theorem nz_ne (x : Int) : nz x ≠ 0 := by
  unfold nz
  split
  · rename_i h
    have := eq_of_beq h
    omega
  · rename_i h
    intro e
    apply h
    rw [beq_iff_eq]
    omega
theorem nz_lim {x : Int} {w : Nat} (h : -(w : Int) ≤ x ∧ x ≤ w) (hw : w ≤ 9) : -1000000 ≤ nz x ∧ nz x ≤ 1000000 := by
  unfold nz
  split <;> omega
theorem dotZ_self : ∀ (g : List Int), g ≠ [] → (∀ x, x ∈ g → x ≠ 0) → 0 < dotZ g g
  | [], h, _ => absurd rfl h
  | [x], _, h => by
    have h1 : 0 < x * x := by
      have := h x (.head _)
      rcases Int.lt_or_gt_of_ne this with q | q
      · exact Int.mul_pos_of_neg_of_neg q q
      · exact Int.mul_pos q q
    show 0 < x * x + 0
    omega
  | x :: y :: r, _, h => by
    have h1 : 0 ≤ x * x := by
      rcases Int.le_total 0 x with q | q
      · exact Int.mul_nonneg q q
      · exact Int.mul_nonneg_of_nonpos_of_nonpos q q
    have h2 := dotZ_self (y :: r) (by simp) fun z hz => h z (.tail _ hz)
    show 0 < x * x + dotZ (y :: r) (y :: r)
    omega
theorem dotP_dotZ {r g : List Int} (h : r.length = g.length) : dotP r g = dotZ r g := (dotZ_sm r g h).symm
end Dv.G

set_option Elab.async false
set_option linter.all false
set_option maxRecDepth 100000
set_option maxHeartbeats 4000000
namespace Dv.G
open PySem PySem.Spec PyProof.Rows L2 Dv
local macro_rules | `(tactic| walk_at "ev") => `(tactic| simp only [evB, k_seq, evS, k_if, evT, evAndTs, evOrTs, k_bl, k_op2, evE, evA, evAnds, evOrs, evO, evI, evG, evGs, k_var, k_con, k_tru, k_andT, k_orT, k_notT, k_andV, k_orV, k_notV, k_tup, k_lst, k_drop, k_call, isFn_fn, k_co, lb_nil, lb_val, lb_fr, lb_sl, owL_fz, owL_ow, pm_nil, pm_cons, ps_val, ps_fr, ps_sl, pasS_fz, pasS_ow, wb_nil, wb_vl, wb_fr, wb_sl, owB_fz, owB_ow, isOw_s, isOwS_ow, outS_L, ol_nil, ol_ow, ol_fz, hasS_at, hasO_fz, hasO_ow, List.getElem?_cons_zero, List.getElem?_cons_succ, true_and, and_true, look_val, look_fr, look_sl, slD_fz, slD_ow, oo_some, KC.g, K2.g, KF.g, KM.g, KN.g, KM.ty, KN.ty, oo_cmp, oo_lt, isBl_bl, outV_sc, outV_nl, outV_nt, Option.bind_some, oo_mul, oo_add, oo_sub, oo_neg, oo_int, ix0, ix1, ix2, ixT0, ixT1, ixT2, decide_eq_true_eq, k_asg, k_consA, k_nilA, k_opN, k_op1, st_val, st_fr, st_sl, stS_fz, stS_ow, k_gtup, seqO_tup, seqO_lst, gs_nl, gs_cn, k_par, pp_nil, pp_cons, pr_fr, pr_val, pr_sl, k_app, k_ext, k_pop, k_popAt, owO_ow, lstO_lst, intO_int, k_mth, k_mth0, ps_none, ps_some, k_sl, outB_bl, k_chain, k_items, wk_fr, wk_lst, wk_tup, wk_scr, wk_sl, wkS_lst, wkS_tup, wkS_scr, wkS_ow, k_signs, isStr_str, k_rng, oo_rng1, oo_rng2, k_frzI, fa_nil, fa_cons, frz_sl, frS1_fz, frS1_ow, k_for, goL_nx, goL_ct, goL_bk, goL_rt, k_lc, oo_lenL, oo_lenT, oo_lenS, k_seti, goS_nx, goS_rt, k_nx, k_ret, end_val, end_fr, end_nx, mm_nil, mm_cons, sd0, sd1, sd2, frz_val, frz_fr, rt_val, rt_fr, rt_sl, rtS_fz, rtS_ow, set_z, set_s, List.length_cons, List.length_nil, Nat.reduceAdd, Nat.reduceLeDiff, Bool.false_eq_true, or_self, or_false, false_or, not_false_eq_true, List.getElem?_nil, Int.reduceLT, List.cons_append, List.nil_append, List.append_nil, List.nodup_nil, List.nodup_cons, List.not_mem_nil, ite_true, ite_false, if_true, if_false, if_pos, lent, bindOk, beq_self_eq_true, Bool.and_self, wp_L, wp_nil, wp_cons, mg_L, mg_nil, mg_cons, k_yes, k_srtSet, List.contains_cons, List.contains_nil, Nat.reduceBEq, Bool.or_false, Bool.false_or, Bool.or_true, only, Bool.not_false, Bool.not_true, eq_self, Nat.reduceEqDiff, sl1, oo_addL, oo_tupL, oo_ne, oo_eq, tr_bl, oo_neB, oo_eqB, zip_tt, zip_ll, enum_l, AGs.len, sz0, sz1, sz2, sz3, sz4, sz5, sz6, sz7, sz8, sz9, sz10, sz11, sz12, sz13, oo_abs, oo_intB, pw18, pw12, mod61, oo_listL, oo_listT, oo_tupT, oo_min2, ssl_nil, ssl_cons, oi_nil, oi_cons, Nat.reduceLT, decide_true, Bool.and_true, Bool.true_and, k_rse, k_try, in_S, nin_S, add_S, len_S, signs_S, all_map, any_map, slL_1, slT_1, oo_addT, outV_cat, ix_m1, ixT_m1, sd_m1, gl0, gl1, gl2, gl3, gl4, gl5, gl6, gl7, gl8, gl9, gl10, gl11, gl12, gl13, gl14, gl15, gl16, gl17, gl18, gl19, gl20, gl21, gl22, gl23, gl24, gl25, gl26, gl27, gl28, gl29, gl30, tb0, tb1, tb2, tb3, tb4, tb5, tb6, tb7, tb8, tb9, tb10, tb11, tb12, tb13, tb14, tb15, tb16, tb17, tb18, tb19, tb20, tb21, tb22, tb23, tb24, tb25, tb26, tb27, sx0, sx1, sx2, sx3, tinS, div2, zip_ll, k_lc2, lc2_nil, oo_sumI, zip_lt, isi_int_lt, isi_int_l, isi_int_t, isi_int_bs, isi_int_b, isi_int_s, isi_int_i, isn_int, isi_str_lt, isi_str_l, isi_str_t, isi_str_bs, isi_str_b, isi_str_s, isi_str_i, isn_str, isi_tup_lt, isi_tup_l, isi_tup_t, isi_tup_bs, isi_tup_b, isi_tup_s, isi_tup_i, isn_tup, isi_lst_lt, isi_lst_l, isi_lst_t, isi_lst_bs, isi_lst_b, isi_lst_s, isi_lst_i, isn_lst, isi_bl_lt, isi_bl_l, isi_bl_t, isi_bl_bs, isi_bl_b, isi_bl_s, isi_bl_i, isn_bl, isi_non_lt, isi_non_l, isi_non_t, isi_non_bs, isi_non_b, isi_non_s, isi_non_i, isn_non, isx_int, isx_str, isx_tup, isx_lst, isx_bl, isx_non])
/-! one draw of rows, walked -/
theorem right_ok (l : Nat) (a b c : Int) (hc : 0 ≤ c) (hc2 : c < 600000000) : okE noE (M.fx (l + 8) 26 [tinS a b c]) fun v ss => ∃ a' c' : Int, v = .val (.bl true) ∧ ss = [tinS a' b c'] ∧ 0 ≤ c' ∧ c' ≤ c + 1000 := by
  refine k_fn (d := d26) (τ := [tinS a b c, .un, .un, .un, .un, .un, .un, .un, .un, .un, .un, .un]) rfl rfl ?_
  simp only [d26, b26]
  have hmax : 1000000 ≤ sizeLine := by decide
  walk_at "ev"
  refine ok_mono (take_ok (l + 6) a b c 6 (by decide) (by decide) hc (by omega)) ?_
  rintro _ _ ⟨q1, a1, c1, rfl, rfl, i1, i2⟩
  have k1 := Int.emod_nonneg q1 (show (6 : Int) ≠ 0 by decide)
  have k2 := Int.emod_lt_of_pos q1 (show (0 : Int) < 6 by decide)
  simp only [tinS]
  walk_at "ev"
  refine ok_mono (take_ok (l + 6) a1 b c1 8 (by decide) (by decide) i1 (by omega)) ?_
  rintro _ _ ⟨q2, a2, c2, rfl, rfl, i3, i4⟩
  have k3 := Int.emod_nonneg q2 (show (8 : Int) ≠ 0 by decide)
  have k4 := Int.emod_lt_of_pos q2 (show (0 : Int) < 8 by decide)
  simp only [tinS]
  walk_at "ev"
  rw [pw6]
  walk_at "ev"
  refine ok_mono (of_ok (l + 5) a2 b c2 [.int 1, .int 2, .int 3, .int 9, .int 1000000] (by simp) (by decide) i3 (by omega)) ?_
  rintro _ _ ⟨g, a3, c3, hg, rfl, rfl, i5, i6⟩
  obtain ⟨w, rfl, hw, hw1⟩ : ∃ w : Nat, g = .int (w : Int) ∧ w ≤ 1000000 ∧ 1 ≤ w := by
    simp only [List.mem_cons, List.not_mem_nil, or_false] at hg
    rcases hg with rfl | rfl | rfl | rfl | rfl
    · exact ⟨1, rfl, by decide, by decide⟩
    · exact ⟨2, rfl, by decide, by decide⟩
    · exact ⟨3, rfl, by decide, by decide⟩
    · exact ⟨9, rfl, by decide, by decide⟩
    · exact ⟨1000000, rfl, by decide, by decide⟩
  obtain ⟨n, hn⟩ : ∃ n : Nat, (n : Int) = 1 + q1 % 6 := ⟨(1 + q1 % 6).toNat, by omega⟩
  obtain ⟨m, hm⟩ : ∃ m : Nat, (m : Int) = 1 + q2 % 8 := ⟨(1 + q2 % 8).toNat, by omega⟩
  rw [← hn, ← hm]
  have hn1 : 1 ≤ n ∧ n ≤ 6 := by omega
  have hm1 : 1 ≤ m ∧ m ≤ 8 := by omega
  clear hg hn hm k1 k2 k3 k4
  simp only [tinS]
  walk_at "ev"
  refine ok_mono (take_ok (l + 6) a3 b c3 3 (by decide) (by decide) i5 (by omega)) ?_
  rintro _ _ ⟨q4, a4, c4, rfl, rfl, i7, i8⟩
  have k5 := Int.emod_nonneg q4 (show (3 : Int) ≠ 0 by decide)
  have k6 := Int.emod_lt_of_pos q4 (show (0 : Int) < 3 by decide)
  simp only [tinS]
  generalize q4 % 3 = kd at k5 k6
  have i9 : c4 ≤ c + 10 := by omega
  clear i2 i4 i6 i8 i1 i3 i5
  walk_at "ev"
  by_cases hk0 : kd = 0
  · subst hk0
    rw [if_pos (by rfl)]
    refine ⟨inR_nat (by omega), ?_⟩
    rw [show ((m : Nat) : Int).toNat = m by omega]
    refine lc_inv (fun acc rest τ => ∃ (rows : List (List Int)) (a' c' : Int), acc = rows.map tupI' ∧ (∀ r, r ∈ rows → r.length = n ∧ ∀ x, x ∈ r → -1000000 ≤ x ∧ x ≤ 1000000) ∧ rows.length + rest.length = m ∧ τ = [tinS a' b c', .fz (.int (n : Int)), .fz (.int (m : Int)), .fz (.int (w : Int)), .fz (.int 0), .un, .un, .un, .un, .un, .un, .un] ∧ 0 ≤ c' ∧ c' + 12 * rest.length ≤ c + 200) (fun acc τ hI => ?_) (fun acc d r τ hI => ?_) ⟨[], a4, c4, rfl, (fun x hx => nomatch hx), by rw [rng_len]; simp, rfl, i7, by rw [rng_len]; omega⟩
    · obtain ⟨rows, a', c', rfl, h1, h2, rfl, h3, h4⟩ := hI
      rw [List.length_nil] at h2 h4
      have hR : RowsOk rows n := RowsOk.of (by omega) (by omega) (by omega) (by omega) h1
      simp only [tinS]
      walk_at "ev"
      refine ⟨by decide, ok_mono (over_or_bar_ok (l + 3) n rows hR) ?_⟩
      rintro _ _ ⟨⟨d, rfl, hd⟩, rfl⟩
      walk_at "ev"
      refine ok_mono (holds_ok (l + 5) n rows d hR hd) ?_
      rintro _ _ ⟨rfl, rfl⟩
      walk_at "ev"
      refine ok_mono (lists_rows (l + 4) rows (by omega) (fun r hr => by rw [(h1 r hr).1]; omega)) ?_
      rintro _ _ ⟨rfl, rfl⟩
      walk_at "ev"
      refine ⟨by decide, ok_mono (over_or_bar_ok_l (l + 3) n rows hR) ?_⟩
      rintro _ _ ⟨⟨d2, rfl, hd2⟩, s, rfl⟩
      walk_at "ev"
      refine ok_mono (holds_ok (l + 5) n rows d2 hR hd2) ?_
      rintro _ _ ⟨rfl, rfl⟩
      walk_at "ev"
      first
        | exact ⟨a', c', rfl, h3, by omega⟩
        | exact ⟨a', c', rfl, rfl, h3, by omega⟩
    · obtain ⟨rows, a', c', rfl, h1, h2, rfl, h3, h4⟩ := hI
      rw [List.length_cons] at h2 h4
      simp only [tinS]
      walk_at "ev"
      refine ok_mono (row_ok (l + 5) a' b c' n w (by omega) (by omega) h3 (by omega)) ?_
      rintro _ _ ⟨r2, a2, c2, rfl, rfl, g1, g2, g3, g4⟩
      simp only [tinS]
      walk_at "ev"
      refine ⟨by rw [List.length_map]; omega, rows ++ [r2], a2, c2, by rw [List.map_append]; rfl, fun r hr => ?_, by rw [List.length_append, List.length_singleton]; omega, rfl, g3, by omega⟩
      rcases List.mem_append.mp hr with hr | hr
      · exact h1 r hr
      · rw [List.mem_singleton.mp hr]
        exact ⟨g1, fun x hx => by have := g2 x hx; omega⟩
  rw [if_neg (by rw [beq_iff_eq]; exact hk0), min9]
  walk_at "ev"
  refine ok_mono (row_ok (l + 5) a4 b c4 n (min w 9) (by omega) (by omega) i7 (by omega)) ?_
  rintro _ _ ⟨r0, a5, c5, rfl, rfl, g1, g2, g3, g4⟩
  simp only [tinS]
  walk_at "ev"
  refine lc_map (fun d => match d with
    | .int x => some (.int (nz x))
    | _ => none) (by rw [List.length_map]; omega) (fun d hd => ?_) ?_
  · obtain ⟨x, hx, rfl⟩ := List.mem_map.mp hd
    walk_at "ev"
    rfl
  rw [fm_map (g := D.int) (h := fun x => .int (nz x)) fun x => rfl, show (r0.map fun x => D.int (nz x)) = (r0.map nz).map D.int by rw [List.map_map]; rfl]
  have hg1 : (r0.map nz).length = n := by rw [List.length_map, g1]
  have hg2 : ∀ x, x ∈ r0.map nz → -1000000 ≤ x ∧ x ≤ 1000000 := fun x hx => by
    obtain ⟨y, hy, rfl⟩ := List.mem_map.mp hx
    exact nz_lim (g2 y hy) (by omega)
  have hg3 : 0 < dotZ (r0.map nz) (r0.map nz) := dotZ_self _ (by
    intro e
    rw [e] at hg1
    simp at hg1
    omega) fun x hx => by
    obtain ⟨y, hy, rfl⟩ := List.mem_map.mp hx
    exact nz_ne y
  generalize r0.map nz = g at hg1 hg2 hg3
  clear g1 g2 r0
  walk_at "ev"
  refine ⟨inR_nat (by omega), ?_⟩
  rw [show ((m : Nat) : Int).toNat = m by omega]
  refine lc_inv (fun acc rest τ => ∃ (rows : List (List Int)) (a' c' : Int), acc = rows.map tupI' ∧ (∀ r, r ∈ rows → r.length = n ∧ (∀ x, x ∈ r → -1000000 ≤ x ∧ x ≤ 1000000) ∧ 0 < dotZ r g) ∧ rows.length + rest.length = m ∧ τ = [tinS a' b c', .fz (.int (n : Int)), .fz (.int (m : Int)), .fz (.int (w : Int)), .fz (.int kd), .un, .un, .fz (.tup (g.map .int)), .un, .un, .un, .un] ∧ 0 ≤ c' ∧ c' + 12 * rest.length ≤ c + 200) (fun acc τ hI => ?_) (fun acc d r τ hI => ?_) ⟨[], a5, c5, rfl, (fun x hx => nomatch hx), by rw [rng_len]; simp, rfl, g3, by rw [rng_len]; omega⟩
  · obtain ⟨rows, a', c', rfl, h1, h2, rfl, h3, h4⟩ := hI
    rw [List.length_nil] at h2 h4
    simp only [tinS]
    walk_at "ev"
    have hR : RowsOk rows n := RowsOk.of (by omega) (by omega) (by omega) (by omega) fun r hr => ⟨(h1 r hr).1, (h1 r hr).2.1⟩
    have hov : ∀ r, r ∈ rows → 0 < dotP r g := fun r hr => by
      rw [dotP_dotZ (by rw [(h1 r hr).1, hg1])]
      exact (h1 r hr).2.2
    by_cases hk1 : kd = 1
    · subst hk1
      rw [if_pos (by rfl)]
      refine ⟨by decide, ok_mono (over_or_bar_ok (l + 3) n rows hR) ?_⟩
      rintro _ _ ⟨⟨d, rfl, hd⟩, rfl⟩
      obtain ⟨bb, xs, rfl, hbig, ho, hb⟩ := hd
      walk_at "ev"
      refine ok_mono (holds_ok (l + 5) n rows _ hR ⟨bb, xs, rfl, hbig, ho, hb⟩) ?_
      rintro _ _ ⟨rfl, rfl⟩
      walk_at "ev"
      have hbb : bb = true := by
        cases bb with
        | true => rfl
        | false => exact (no_bar (hb rfl) (fun r hr => (h1 r hr).1) hov).elim
      subst hbb
      first
        | exact ⟨a', c', rfl, h3, by omega⟩
        | exact ⟨a', c', rfl, rfl, h3, by omega⟩
    rw [if_neg (by rw [beq_iff_eq]; exact hk1)]
    refine ok_mono (pick_ok (l + 5) a' b c' 3 (rows.map tupI') h3 (by omega) (by decide) (by decide) (by rw [List.length_map]; omega)) ?_
    rintro _ _ ⟨a2, c2, fs, rest, s, rfl, hp, hl, rfl, i1, i2⟩
    obtain ⟨few, rfl⟩ := of_rows fs (fun d hd => by
      obtain ⟨x, _, rfl⟩ := List.mem_map.mp (hp.mem_iff.mp (List.mem_append_left _ hd))
      exact ⟨x, rfl⟩)
    have hf : ∀ r, r ∈ few → r ∈ rows := fun r hr => mem_tupI (hp.mem_iff.mp (List.mem_append_left _ (List.mem_map_of_mem hr)))
    rw [List.length_map, List.length_map] at hl
    have hl3 : 1 ≤ few.length ∧ few.length ≤ 3 := by
      have : (3 : Int).toNat = 3 := rfl
      omega
    clear hp
    simp only [tinS]
    walk_at "ev"
    refine ⟨inR_nat (by omega), ?_⟩
    rw [show ((n : Nat) : Int).toNat = n by omega]
    refine lc_inv (fun acc rest τ => ∃ (q : Nat) (s9 : Sl), q ≤ n ∧ acc = ((List.range q).map fun k => -colSum few k).map D.int ∧ rest = rngD (q : Int) (n - q) ∧ (s9 = .ow (few.map tupI') ∨ s9 = .fz (.lst (few.map tupI'))) ∧ τ = [.ow [.int a2, .int b, .int c2], .fz (.int (n : Int)), .fz (.int (m : Int)), .fz (.int (w : Int)), .fz (.int kd), .fz (.tup (rows.map tupI')), .un, .fz (.tup (g.map .int)), .un, s9, .un, .un]) (fun acc τ hI => ?_) (fun acc d r τ hI => ?_) ⟨0, _, Nat.zero_le _, rfl, rfl, .inl rfl, rfl⟩
    · obtain ⟨q, s9, hq, rfl, hr, hs9, rfl⟩ := hI
      have hqn : q = n := by
        have := congrArg List.length hr
        rw [rng_len] at this
        simp at this
        omega
      subst hqn
      have hbl : ((List.range q).map fun k => -colSum few k).length = q := by rw [List.length_map, List.length_range]
      have hbe : ∀ j, j < q → ((List.range q).map fun k => -colSum few k).getD j 0 = -colSum few j := fun j hj => by
        rw [List.getD_eq_getElem?_getD, List.getElem?_map, List.getElem?_range hj]
        rfl
      generalize ((List.range q).map fun k => -colSum few k) = back at hbl hbe
      walk_at "ev"
      refine lc_map (fun d => match d with
        | .int x => some (.int (if x < 0 then -x else x))
        | _ => none) (by rw [List.length_map]; omega) (fun d hd => ?_) ?_
      · obtain ⟨x, hx, rfl⟩ := List.mem_map.mp hd
        walk_at "ev"
      rw [fm_map (g := D.int) (h := fun x => .int (if x < 0 then -x else x)) fun x => rfl, show (back.map fun x => D.int (if x < 0 then -x else x)) = (back.map fun x => if x < 0 then -x else x).map D.int by rw [List.map_map]; rfl]
      walk_at "ev"
      rw [oo_maxL (by
        intro e
        have := congrArg List.length e
        rw [List.length_map, hbl] at this
        simp at this
        omega)]
      walk_at "ev"
      rw [pw6]
      walk_at "ev"
      obtain ⟨f0, fr, rfl⟩ : ∃ f0 fr, few = f0 :: fr := by
        cases few with
        | nil => simp at hl3
        | cons x y => exact ⟨x, y, rfl⟩
      have hf0 := h1 f0 (hf f0 (.head _))
      by_cases hmx : 1000000 < maxL (back.map fun x => if x < 0 then -x else x)
      · rw [if_pos hmx]
        have hBK : (f0.map fun x => -x).length = q ∧ ∀ x, x ∈ (f0.map fun x => -x) → -1000000 ≤ x ∧ x ≤ 1000000 := ⟨by rw [List.length_map, hf0.1], fun x hx => by
          obtain ⟨y, hy, rfl⟩ := List.mem_map.mp hx
          have := hf0.2.1 y hy
          omega⟩
        have he1 : ∀ p, p < q → (f0.map fun x => -x).getD p 0 = -colSum [f0] p := fun p hp => by
          rw [List.getD_eq_getElem?_getD, List.getElem?_map, List.getElem?_eq_getElem (by rw [hf0.1]; exact hp)]
          show -f0[p] = -(f0.getD p 0 + 0)
          rw [List.getD_eq_getElem?_getD, List.getElem?_eq_getElem (by rw [hf0.1]; exact hp), Int.add_zero]
          rfl
        have hneg : (f0.map fun x => D.int (-x)) = (f0.map fun x => -x).map D.int := by rw [List.map_map]; rfl
        generalize hbk : (f0.map fun x => -x) = bk at hBK he1 hneg
        rcases hs9 with rfl | rfl
        · rw [List.map_cons]
          walk_at "ev"
          simp only [tupI']
          walk_at "ev"
          refine lc_map (fun d => match d with
            | .int x => some (.int (-x))
            | _ => none) (by rw [List.length_map]; omega) (fun d hd => ?_) ?_
          · obtain ⟨x, hx, rfl⟩ := List.mem_map.mp hd
            walk_at "ev"
          rw [fm_map (g := D.int) (h := fun x => .int (-x)) fun x => rfl, hneg]
          walk_at "ev"
          refine ⟨by rw [List.length_map]; omega, ?_⟩
          refine ok_mono (pick_ok (l + 5) a2 b c2 ((m : Int) + 1) (rows.map tupI' ++ [tupI' bk]) i1 (by omega) (by omega) (by omega) (by simp; omega)) ?_
          rintro _ _ ⟨a3, c3, fs2, rest2, s2, rfl, hp2, hl2, rfl, j1, j2⟩
          obtain ⟨rows2, rfl⟩ := of_rows fs2 (fun d hd => by
            have := hp2.mem_iff.mp (List.mem_append_left _ hd)
            rcases List.mem_append.mp this with q | q
            · obtain ⟨x, _, rfl⟩ := List.mem_map.mp q
              exact ⟨x, rfl⟩
            · exact ⟨_, List.mem_singleton.mp q⟩)
          have hr2 : rest2 = [] := by
            have := hp2.length_eq
            simp only [List.length_append, List.length_map, List.length_singleton] at this hl2
            exact List.eq_nil_of_length_eq_zero (by omega)
          subst hr2
          rw [List.append_nil] at hp2
          have hm2 : ∀ r, r ∈ rows2 → r ∈ rows ∨ r = bk := fun r hr => by
            rcases List.mem_append.mp (hp2.mem_iff.mp (List.mem_map_of_mem hr)) with q | q
            · exact .inl (mem_tupI q)
            · exact .inr (tupI_inj (List.mem_singleton.mp q))
          have hBK2 : bk ∈ rows2 := mem_tupI (hp2.mem_iff.mpr (List.mem_append_right _ (List.mem_singleton.mpr rfl)))
          have hrw2 : ∀ r, r ∈ rows → r ∈ rows2 := fun r hr => mem_tupI (hp2.mem_iff.mpr (List.mem_append_left _ (List.mem_map_of_mem hr)))
          have hlen2 : rows2.length = m + 1 := by
            simp only [List.length_append, List.length_map, List.length_singleton] at hl2
            omega
          have hR2 : RowsOk rows2 q := RowsOk.of (by omega) (by omega) (by omega) (by omega) fun r hr => by
            rcases hm2 r hr with q | rfl
            · exact ⟨(h1 r q).1, (h1 r q).2.1⟩
            · exact hBK
          simp only [tinS]
          walk_at "ev"
          refine ⟨by decide, ok_mono (over_or_bar_ok (l + 3) q rows2 hR2) ?_⟩
          rintro _ _ ⟨⟨d, rfl, hd⟩, rfl⟩
          obtain ⟨bb, xs, rfl, hbig, ho, hb⟩ := hd
          walk_at "ev"
          refine ok_mono (holds_ok (l + 5) q rows2 _ hR2 ⟨bb, xs, rfl, hbig, ho, hb⟩) ?_
          rintro _ _ ⟨rfl, rfl⟩
          walk_at "ev"
          have hbb : bb = false := by
            cases bb with
            | false => rfl
            | true => exact (no_over (ho rfl) hR2.len hBK2 (few := [f0]) (fun r hr => hrw2 r (hf r (by rw [List.mem_singleton.mp hr]; exact .head _))) (by simp) he1).elim
          subst hbb
          first
            | exact ⟨a3, c3, rfl, j1, by omega⟩
            | exact ⟨a3, c3, rfl, rfl, j1, by omega⟩

        · rw [List.map_cons]
          walk_at "ev"
          simp only [tupI']
          walk_at "ev"
          refine lc_map (fun d => match d with
            | .int x => some (.int (-x))
            | _ => none) (by rw [List.length_map]; omega) (fun d hd => ?_) ?_
          · obtain ⟨x, hx, rfl⟩ := List.mem_map.mp hd
            walk_at "ev"
          rw [fm_map (g := D.int) (h := fun x => .int (-x)) fun x => rfl, hneg]
          walk_at "ev"
          refine ⟨by rw [List.length_map]; omega, ?_⟩
          refine ok_mono (pick_ok (l + 5) a2 b c2 ((m : Int) + 1) (rows.map tupI' ++ [tupI' bk]) i1 (by omega) (by omega) (by omega) (by simp; omega)) ?_
          rintro _ _ ⟨a3, c3, fs2, rest2, s2, rfl, hp2, hl2, rfl, j1, j2⟩
          obtain ⟨rows2, rfl⟩ := of_rows fs2 (fun d hd => by
            have := hp2.mem_iff.mp (List.mem_append_left _ hd)
            rcases List.mem_append.mp this with q | q
            · obtain ⟨x, _, rfl⟩ := List.mem_map.mp q
              exact ⟨x, rfl⟩
            · exact ⟨_, List.mem_singleton.mp q⟩)
          have hr2 : rest2 = [] := by
            have := hp2.length_eq
            simp only [List.length_append, List.length_map, List.length_singleton] at this hl2
            exact List.eq_nil_of_length_eq_zero (by omega)
          subst hr2
          rw [List.append_nil] at hp2
          have hm2 : ∀ r, r ∈ rows2 → r ∈ rows ∨ r = bk := fun r hr => by
            rcases List.mem_append.mp (hp2.mem_iff.mp (List.mem_map_of_mem hr)) with q | q
            · exact .inl (mem_tupI q)
            · exact .inr (tupI_inj (List.mem_singleton.mp q))
          have hBK2 : bk ∈ rows2 := mem_tupI (hp2.mem_iff.mpr (List.mem_append_right _ (List.mem_singleton.mpr rfl)))
          have hrw2 : ∀ r, r ∈ rows → r ∈ rows2 := fun r hr => mem_tupI (hp2.mem_iff.mpr (List.mem_append_left _ (List.mem_map_of_mem hr)))
          have hlen2 : rows2.length = m + 1 := by
            simp only [List.length_append, List.length_map, List.length_singleton] at hl2
            omega
          have hR2 : RowsOk rows2 q := RowsOk.of (by omega) (by omega) (by omega) (by omega) fun r hr => by
            rcases hm2 r hr with q | rfl
            · exact ⟨(h1 r q).1, (h1 r q).2.1⟩
            · exact hBK
          simp only [tinS]
          walk_at "ev"
          refine ⟨by decide, ok_mono (over_or_bar_ok (l + 3) q rows2 hR2) ?_⟩
          rintro _ _ ⟨⟨d, rfl, hd⟩, rfl⟩
          obtain ⟨bb, xs, rfl, hbig, ho, hb⟩ := hd
          walk_at "ev"
          refine ok_mono (holds_ok (l + 5) q rows2 _ hR2 ⟨bb, xs, rfl, hbig, ho, hb⟩) ?_
          rintro _ _ ⟨rfl, rfl⟩
          walk_at "ev"
          have hbb : bb = false := by
            cases bb with
            | false => rfl
            | true => exact (no_over (ho rfl) hR2.len hBK2 (few := [f0]) (fun r hr => hrw2 r (hf r (by rw [List.mem_singleton.mp hr]; exact .head _))) (by simp) he1).elim
          subst hbb
          first
            | exact ⟨a3, c3, rfl, j1, by omega⟩
            | exact ⟨a3, c3, rfl, rfl, j1, by omega⟩

      · rw [if_neg hmx]
        have hBK : back.length = q ∧ ∀ x, x ∈ back → -1000000 ≤ x ∧ x ≤ 1000000 := ⟨hbl, fun x hx => by
          have := maxL_ge (List.mem_map_of_mem (f := fun x : Int => if x < 0 then -x else x) hx)
          split at this <;> omega⟩
        rcases hs9 with rfl | rfl
        · refine ⟨by rw [List.length_map]; omega, ?_⟩
          refine ok_mono (pick_ok (l + 5) a2 b c2 ((m : Int) + 1) (rows.map tupI' ++ [tupI' back]) i1 (by omega) (by omega) (by omega) (by simp; omega)) ?_
          rintro _ _ ⟨a3, c3, fs2, rest2, s2, rfl, hp2, hl2, rfl, j1, j2⟩
          obtain ⟨rows2, rfl⟩ := of_rows fs2 (fun d hd => by
            have := hp2.mem_iff.mp (List.mem_append_left _ hd)
            rcases List.mem_append.mp this with q | q
            · obtain ⟨x, _, rfl⟩ := List.mem_map.mp q
              exact ⟨x, rfl⟩
            · exact ⟨_, List.mem_singleton.mp q⟩)
          have hr2 : rest2 = [] := by
            have := hp2.length_eq
            simp only [List.length_append, List.length_map, List.length_singleton] at this hl2
            exact List.eq_nil_of_length_eq_zero (by omega)
          subst hr2
          rw [List.append_nil] at hp2
          have hm2 : ∀ r, r ∈ rows2 → r ∈ rows ∨ r = back := fun r hr => by
            rcases List.mem_append.mp (hp2.mem_iff.mp (List.mem_map_of_mem hr)) with q | q
            · exact .inl (mem_tupI q)
            · exact .inr (tupI_inj (List.mem_singleton.mp q))
          have hbk2 : back ∈ rows2 := mem_tupI (hp2.mem_iff.mpr (List.mem_append_right _ (List.mem_singleton.mpr rfl)))
          have hrw2 : ∀ r, r ∈ rows → r ∈ rows2 := fun r hr => mem_tupI (hp2.mem_iff.mpr (List.mem_append_left _ (List.mem_map_of_mem hr)))
          have hlen2 : rows2.length = m + 1 := by
            simp only [List.length_append, List.length_map, List.length_singleton] at hl2
            omega
          have hR2 : RowsOk rows2 q := RowsOk.of (by omega) (by omega) (by omega) (by omega) fun r hr => by
            rcases hm2 r hr with q | rfl
            · exact ⟨(h1 r q).1, (h1 r q).2.1⟩
            · exact hBK
          simp only [tinS]
          walk_at "ev"
          refine ⟨by decide, ok_mono (over_or_bar_ok (l + 3) q rows2 hR2) ?_⟩
          rintro _ _ ⟨⟨d, rfl, hd⟩, rfl⟩
          obtain ⟨bb, xs, rfl, hbig, ho, hb⟩ := hd
          walk_at "ev"
          refine ok_mono (holds_ok (l + 5) q rows2 _ hR2 ⟨bb, xs, rfl, hbig, ho, hb⟩) ?_
          rintro _ _ ⟨rfl, rfl⟩
          walk_at "ev"
          have hbb : bb = false := by
            cases bb with
            | false => rfl
            | true => exact (no_over (ho rfl) hR2.len hbk2 (few := (f0 :: fr)) (fun r hr => hrw2 r (hf r hr)) (by simp) hbe).elim
          subst hbb
          first
            | exact ⟨a3, c3, rfl, j1, by omega⟩
            | exact ⟨a3, c3, rfl, rfl, j1, by omega⟩

        · refine ⟨by rw [List.length_map]; omega, ?_⟩
          refine ok_mono (pick_ok (l + 5) a2 b c2 ((m : Int) + 1) (rows.map tupI' ++ [tupI' back]) i1 (by omega) (by omega) (by omega) (by simp; omega)) ?_
          rintro _ _ ⟨a3, c3, fs2, rest2, s2, rfl, hp2, hl2, rfl, j1, j2⟩
          obtain ⟨rows2, rfl⟩ := of_rows fs2 (fun d hd => by
            have := hp2.mem_iff.mp (List.mem_append_left _ hd)
            rcases List.mem_append.mp this with q | q
            · obtain ⟨x, _, rfl⟩ := List.mem_map.mp q
              exact ⟨x, rfl⟩
            · exact ⟨_, List.mem_singleton.mp q⟩)
          have hr2 : rest2 = [] := by
            have := hp2.length_eq
            simp only [List.length_append, List.length_map, List.length_singleton] at this hl2
            exact List.eq_nil_of_length_eq_zero (by omega)
          subst hr2
          rw [List.append_nil] at hp2
          have hm2 : ∀ r, r ∈ rows2 → r ∈ rows ∨ r = back := fun r hr => by
            rcases List.mem_append.mp (hp2.mem_iff.mp (List.mem_map_of_mem hr)) with q | q
            · exact .inl (mem_tupI q)
            · exact .inr (tupI_inj (List.mem_singleton.mp q))
          have hbk2 : back ∈ rows2 := mem_tupI (hp2.mem_iff.mpr (List.mem_append_right _ (List.mem_singleton.mpr rfl)))
          have hrw2 : ∀ r, r ∈ rows → r ∈ rows2 := fun r hr => mem_tupI (hp2.mem_iff.mpr (List.mem_append_left _ (List.mem_map_of_mem hr)))
          have hlen2 : rows2.length = m + 1 := by
            simp only [List.length_append, List.length_map, List.length_singleton] at hl2
            omega
          have hR2 : RowsOk rows2 q := RowsOk.of (by omega) (by omega) (by omega) (by omega) fun r hr => by
            rcases hm2 r hr with q | rfl
            · exact ⟨(h1 r q).1, (h1 r q).2.1⟩
            · exact hBK
          simp only [tinS]
          walk_at "ev"
          refine ⟨by decide, ok_mono (over_or_bar_ok (l + 3) q rows2 hR2) ?_⟩
          rintro _ _ ⟨⟨d, rfl, hd⟩, rfl⟩
          obtain ⟨bb, xs, rfl, hbig, ho, hb⟩ := hd
          walk_at "ev"
          refine ok_mono (holds_ok (l + 5) q rows2 _ hR2 ⟨bb, xs, rfl, hbig, ho, hb⟩) ?_
          rintro _ _ ⟨rfl, rfl⟩
          walk_at "ev"
          have hbb : bb = false := by
            cases bb with
            | false => rfl
            | true => exact (no_over (ho rfl) hR2.len hbk2 (few := (f0 :: fr)) (fun r hr => hrw2 r (hf r hr)) (by simp) hbe).elim
          subst hbb
          first
            | exact ⟨a3, c3, rfl, j1, by omega⟩
            | exact ⟨a3, c3, rfl, rfl, j1, by omega⟩

    · obtain ⟨q, s9, hq, rfl, hr, hs9, rfl⟩ := hI
      have hqn : q < n := by
        have := congrArg List.length hr
        rw [rng_len, List.length_cons] at this
        omega
      rw [show n - q = (n - (q + 1)) + 1 by omega, rng_cons] at hr
      injection hr with e1 e2
      subst e1
      subst e2
      rcases hs9 with rfl | rfl
      · walk_at "ev"
        refine lc_map (atF q) (by rw [List.length_map]; omega) (fun d hd => ?_) ?_
        · obtain ⟨row, hr, rfl⟩ := List.mem_map.mp hd
          have hl := (h1 row (hf row hr)).1
          simp only [tupI']
          walk_at "ev"
          rw [ix_ints (by omega)]
          walk_at "ev"
          show (row.map D.int)[q]? = _
          rw [List.getElem?_map, List.getElem?_eq_getElem (by omega), List.getD_eq_getElem?_getD, List.getElem?_eq_getElem (by omega)]
          rfl
        rw [atF_map hqn few fun r hr => (h1 r (hf r hr)).1]
        walk_at "ev"
        refine ⟨by rw [List.length_map, List.length_map, List.length_range]; omega, q + 1, _, hqn, ?_, rfl, .inr rfl, rfl⟩
        rw [List.range_succ, List.map_append, List.map_append]
        rfl
      · walk_at "ev"
        refine lc_map (atF q) (by rw [List.length_map]; omega) (fun d hd => ?_) ?_
        · obtain ⟨row, hr, rfl⟩ := List.mem_map.mp hd
          have hl := (h1 row (hf row hr)).1
          simp only [tupI']
          walk_at "ev"
          rw [ix_ints (by omega)]
          walk_at "ev"
          show (row.map D.int)[q]? = _
          rw [List.getElem?_map, List.getElem?_eq_getElem (by omega), List.getD_eq_getElem?_getD, List.getElem?_eq_getElem (by omega)]
          rfl
        rw [atF_map hqn few fun r hr => (h1 r (hf r hr)).1]
        walk_at "ev"
        refine ⟨by rw [List.length_map, List.length_map, List.length_range]; omega, q + 1, _, hqn, ?_, rfl, .inr rfl, rfl⟩
        rw [List.range_succ, List.map_append, List.map_append]
        rfl
  · obtain ⟨rows, a', c', rfl, h1, h2, rfl, h3, h4⟩ := hI
    rw [List.length_cons] at h2 h4
    simp only [tinS]
    walk_at "ev"
    refine ok_mono (over1_ok (l + 4) a' b c' n w g (by omega) (by omega) h3 (by omega) hg1 hg2 hg3) ?_
    rintro _ _ ⟨r2, a2, c2, rfl, rfl, g1, g2, g5, g6, g7⟩
    simp only [tinS]
    walk_at "ev"
    refine ⟨by rw [List.length_map]; omega, rows ++ [r2], a2, c2, by rw [List.map_append]; rfl, fun r hr => ?_, by rw [List.length_append, List.length_singleton]; omega, rfl, g6, by omega⟩
    rcases List.mem_append.mp hr with hr | hr
    · exact h1 r hr
    · rw [List.mem_singleton.mp hr]
      exact ⟨g1, g2, g5⟩
end Dv.G

set_option Elab.async false
set_option linter.all false
set_option maxRecDepth 100000
set_option maxHeartbeats 4000000
namespace Dv.G
open PySem PySem.Spec PyProof.Rows L2 Dv
local macro_rules | `(tactic| walk_at "ev") => `(tactic| simp only [evB, k_seq, evS, k_if, evT, evAndTs, evOrTs, k_bl, k_op2, evE, evA, evAnds, evOrs, evO, evI, evG, evGs, k_var, k_con, k_tru, k_andT, k_orT, k_notT, k_andV, k_orV, k_notV, k_tup, k_lst, k_drop, k_call, isFn_fn, k_co, lb_nil, lb_val, lb_fr, lb_sl, owL_fz, owL_ow, pm_nil, pm_cons, ps_val, ps_fr, ps_sl, pasS_fz, pasS_ow, wb_nil, wb_vl, wb_fr, wb_sl, owB_fz, owB_ow, isOw_s, isOwS_ow, outS_L, ol_nil, ol_ow, ol_fz, hasS_at, hasO_fz, hasO_ow, List.getElem?_cons_zero, List.getElem?_cons_succ, true_and, and_true, look_val, look_fr, look_sl, slD_fz, slD_ow, oo_some, KC.g, K2.g, KF.g, KM.g, KN.g, KM.ty, KN.ty, oo_cmp, oo_lt, isBl_bl, outV_sc, outV_nl, outV_nt, Option.bind_some, oo_mul, oo_add, oo_sub, oo_neg, oo_int, ix0, ix1, ix2, ixT0, ixT1, ixT2, decide_eq_true_eq, k_asg, k_consA, k_nilA, k_opN, k_op1, st_val, st_fr, st_sl, stS_fz, stS_ow, k_gtup, seqO_tup, seqO_lst, gs_nl, gs_cn, k_par, pp_nil, pp_cons, pr_fr, pr_val, pr_sl, k_app, k_ext, k_pop, k_popAt, owO_ow, lstO_lst, intO_int, k_mth, k_mth0, ps_none, ps_some, k_sl, outB_bl, k_chain, k_items, wk_fr, wk_lst, wk_tup, wk_scr, wk_sl, wkS_lst, wkS_tup, wkS_scr, wkS_ow, k_signs, isStr_str, k_rng, oo_rng1, oo_rng2, k_frzI, fa_nil, fa_cons, frz_sl, frS1_fz, frS1_ow, k_for, goL_nx, goL_ct, goL_bk, goL_rt, k_lc, oo_lenL, oo_lenT, oo_lenS, k_seti, goS_nx, goS_rt, k_nx, k_ret, end_val, end_fr, end_nx, mm_nil, mm_cons, sd0, sd1, sd2, frz_val, frz_fr, rt_val, rt_fr, rt_sl, rtS_fz, rtS_ow, set_z, set_s, List.length_cons, List.length_nil, Nat.reduceAdd, Nat.reduceLeDiff, Bool.false_eq_true, or_self, or_false, false_or, not_false_eq_true, List.getElem?_nil, Int.reduceLT, List.cons_append, List.nil_append, List.append_nil, List.nodup_nil, List.nodup_cons, List.not_mem_nil, ite_true, ite_false, if_true, if_false, if_pos, lent, bindOk, beq_self_eq_true, Bool.and_self, wp_L, wp_nil, wp_cons, mg_L, mg_nil, mg_cons, k_yes, k_srtSet, List.contains_cons, List.contains_nil, Nat.reduceBEq, Bool.or_false, Bool.false_or, Bool.or_true, only, Bool.not_false, Bool.not_true, eq_self, Nat.reduceEqDiff, sl1, oo_addL, oo_tupL, oo_ne, oo_eq, tr_bl, oo_neB, oo_eqB, zip_tt, zip_ll, enum_l, AGs.len, sz0, sz1, sz2, sz3, sz4, sz5, sz6, sz7, sz8, sz9, sz10, sz11, sz12, sz13, oo_abs, oo_intB, pw18, pw12, mod61, oo_listL, oo_listT, oo_tupT, oo_min2, ssl_nil, ssl_cons, oi_nil, oi_cons, Nat.reduceLT, decide_true, Bool.and_true, Bool.true_and, k_rse, k_try, in_S, nin_S, add_S, len_S, signs_S, all_map, any_map, slL_1, slT_1, oo_addT, outV_cat, ix_m1, ixT_m1, sd_m1, gl0, gl1, gl2, gl3, gl4, gl5, gl6, gl7, gl8, gl9, gl10, gl11, gl12, gl13, gl14, gl15, gl16, gl17, gl18, gl19, gl20, gl21, gl22, gl23, gl24, gl25, gl26, gl27, gl28, gl29, gl30, tb0, tb1, tb2, tb3, tb4, tb5, tb6, tb7, tb8, tb9, tb10, tb11, tb12, tb13, tb14, tb15, tb16, tb17, tb18, tb19, tb20, tb21, tb22, tb23, tb24, tb25, tb26, tb27, sx0, sx1, sx2, sx3, tinS, div2, zip_ll, k_lc2, lc2_nil, oo_sumI, zip_lt, isi_int_lt, isi_int_l, isi_int_t, isi_int_bs, isi_int_b, isi_int_s, isi_int_i, isn_int, isi_str_lt, isi_str_l, isi_str_t, isi_str_bs, isi_str_b, isi_str_s, isi_str_i, isn_str, isi_tup_lt, isi_tup_l, isi_tup_t, isi_tup_bs, isi_tup_b, isi_tup_s, isi_tup_i, isn_tup, isi_lst_lt, isi_lst_l, isi_lst_t, isi_lst_bs, isi_lst_b, isi_lst_s, isi_lst_i, isn_lst, isi_bl_lt, isi_bl_l, isi_bl_t, isi_bl_bs, isi_bl_b, isi_bl_s, isi_bl_i, isn_bl, isi_non_lt, isi_non_l, isi_non_t, isi_non_bs, isi_non_b, isi_non_s, isi_non_i, isn_non, isx_int, isx_str, isx_tup, isx_lst, isx_bl, isx_non])
/-! the law -/
theorem same_bl (l : Nat) (b : Bool) : SameD (l + 1) (.bl b) := by
  refine k_fn (d := d18) (τ := [.fz (.bl b), .fz (.bl b), .un, .un]) rfl rfl ?_
  simp only [d18, b18]
  walk_at "ev"
def hands : List (List (List Int)) := [[[5]], [[0]], [[1], [-1000000]], [[0, 0, 0], [0, 0, 7]]]
def tD (rows : List (List Int)) : D := .tup (rows.map tupI')
theorem hand_rows : ∀ rows, rows ∈ hands → RowsOk rows (rows.getD 0 []).length := by
  intro rows h
  simp only [hands, List.mem_cons, List.not_mem_nil, or_false] at h
  rcases h with rfl | rfl | rfl | rfl
  all_goals exact RowsOk.of (by decide) (by decide) (by decide) (by decide) (by decide)
/-- above 0 or not -/
def hs (d : D) : Bool := match d with
  | .tup [.tup [.int 5]] => true
  | _ => false
theorem hand_sign {rows : List (List Int)} (h : rows ∈ hands) {n : Nat} (hn : n = (rows.getD 0 []).length) {b : Bool} {xs : List Int} (ho : b = true → IsOver rows n xs) (hb : b = false → IsBar rows n xs) : b = hs (tD rows) := by
  subst hn
  simp only [hands, List.mem_cons, List.not_mem_nil, or_false] at h
  have zero : ∀ (k : Nat) (ys : List Int), ¬ 0 < dotP (List.replicate k 0) ys := fun k ys => by
    unfold dotP
    rw [Lv.sm_zero fun q hq => by
      rw [List.getD_eq_getElem?_getD, List.getElem?_replicate]
      split <;> simp]
    decide
  rcases h with rfl | rfl | rfl | rfl
  · cases b with
    | true => rfl
    | false => exact (no_bar (g := [1]) (hb rfl) (by decide) (by decide)).elim
  · cases b with
    | false => rfl
    | true => exact (zero 1 xs ((ho rfl).pos [0] (.head _))).elim
  · cases b with
    | false => rfl
    | true =>
      have h1 := (ho rfl).pos [1] (.head _)
      have h2 := (ho rfl).pos [-1000000] (.tail _ (.head _))
      have e1 : dotP [1] xs = 0 + 1 * xs.getD 0 0 := rfl
      have e2 : dotP [-1000000] xs = 0 + -1000000 * xs.getD 0 0 := rfl
      omega
  · cases b with
    | false => rfl
    | true => exact (zero 3 xs ((ho rfl).pos [0, 0, 0] (.head _))).elim
def bads : List D := [.non, .tup [], .tup [.tup []], .tup [.tup [.int 1], .tup [.int 1, .int 2]], .tup [.tup [.int 1000001]], .tup [.tup [.bl true]], .tup [.int 1, .int 2], .str "12", .tup [.tup [.str "1"]]]
theorem bad_ok : ∀ d, d ∈ bads → okE noE (M.fx 59 21 [.fz (.fn 11), .fz (.tup [d])]) fun v ss => v = .val (.str "unfit") ∧ ss = [.un, .un] := by
  intro d h
  simp only [bads, List.mem_cons, List.not_mem_nil, or_false] at h
  rw [fx_eq]
  rcases h with rfl | rfl | rfl | rfl | rfl | rfl | rfl | rfl | rfl
  all_goals exact ok_of (by kernel_rfl) ⟨rfl, rfl⟩
def many41 : List (List Int) := List.replicate 41 [1]
theorem bad41 : okE noE (M.fx 59 21 [.fz (.fn 11), .fz (.tup [tD many41])]) fun v ss => v = .val (.str "unfit") ∧ ss = [.un, .un] := by
  refine k_fn (l := 58) (d := d21) (τ := [.fz (.fn 11), .fz (.tup [tD many41]), .un, .un, .un]) rfl rfl ?_
  simp only [d21, b21]
  walk_at "ev"
  refine k_fn (l := 57) (d := d20) (τ := [.fz (.fn 11), .fz (.tup [tD many41])]) rfl rfl ?_
  simp only [d20, b20]
  walk_at "ev"
  refine k_fn (l := 56) (d := d11) (τ := [.fz (tD many41), .un]) rfl rfl ?_
  simp only [d11, b11]
  walk_at "ev"
  have ht : TupS 56 (tD many41) (tD many41) := by
    have := tupled_t 55 (many41.map tupI') id (fun d hd => by
      obtain ⟨r, hr, rfl⟩ := List.mem_map.mp hd
      rw [List.eq_of_mem_replicate hr]
      exact tupI_tup (l := 53) (by decide)) (by rw [List.length_map]; decide)
    rwa [List.map_id] at this
  refine ok_mono ht ?_
  rintro _ _ ⟨rfl, rfl⟩
  walk_at "ev"
  refine k_fn (l := 55) (d := d10) (τ := [.fz (tD many41), .un, .un]) rfl rfl ?_
  simp only [d10, b10, tD]
  walk_at "ev"
  rw [show (many41.map tupI').length = 41 by rw [List.length_map]; rfl, if_pos (by decide), if_pos (by decide)]
  exact ⟨by decide, by decide, by decide, rfl, rfl⟩
def many13 : List (List Int) := [List.replicate 13 0]
theorem are_rows_13 (l : Nat) (rows : List (List Int)) (h1 : rows.length = 1) (hl : ∀ r, r ∈ rows → r.length = 13) (hix : (rows.map tupI')[0]? = some (.tup ((List.replicate 13 (0 : Int)).map .int))) : okE noE (M.fx (l + 3) 10 [.fz (tD rows)]) fun v ss => v = .val (.bl false) ∧ ss = [.un] := by
  refine k_fn (d := d10) (τ := [.fz (tD rows), .un, .un]) rfl rfl ?_
  simp only [d10, b10, tD]
  walk_at "ev"
  rw [List.length_map, h1, if_pos (by decide), if_neg (by decide)]
  refine lc_map (fun d => some (.bl true)) (by rw [List.length_map, h1]; decide) (fun d hd => ?_) ?_
  · obtain ⟨r, hr, rfl⟩ := List.mem_map.mp hd
    simp only [tupI']
    walk_at "ev"
    refine ok_mono (are_ints l r (by rw [hl r hr]; decide)) ?_
    rintro _ _ ⟨rfl, rfl⟩
    walk_at "ev"
  walk_at "ev"
  rw [all_t]
  walk_at "ev"
  rw [show okO (dIx (.tup (rows.map tupI')) (.int 0)) _ = _ from oo_ixT (k := 0) hix]
  generalize hz : (List.replicate 13 (0 : Int)) = z
  have hzl : z.length = 13 := by rw [← hz]; rfl
  walk_at "ev"
  rw [List.length_map, hzl, if_pos (by decide), if_pos (by decide)]
  exact trivial
theorem bad13 : okE noE (M.fx 59 21 [.fz (.fn 11), .fz (.tup [tD many13])]) fun v ss => v = .val (.str "unfit") ∧ ss = [.un, .un] := by
  have ht : TupS 56 (tD many13) (tD many13) := by
    have := tupled_t 55 (many13.map tupI') id (fun d hd => by
      obtain ⟨r, hr, rfl⟩ := List.mem_map.mp hd
      rw [List.mem_singleton.mp hr]
      exact tupI_tup (l := 53) (by decide)) (by rw [List.length_map]; decide)
    rwa [List.map_id] at this
  have ha := are_rows_13 53 many13 rfl (fun r hr => by rw [List.mem_singleton.mp hr]; rfl) rfl
  generalize tD many13 = d at ht ha
  refine k_fn (l := 58) (d := d21) (τ := [.fz (.fn 11), .fz (.tup [d]), .un, .un, .un]) rfl rfl ?_
  simp only [d21, b21]
  walk_at "ev"
  refine k_fn (l := 57) (d := d20) (τ := [.fz (.fn 11), .fz (.tup [d])]) rfl rfl ?_
  simp only [d20, b20]
  walk_at "ev"
  refine k_fn (l := 56) (d := d11) (τ := [.fz d, .un]) rfl rfl ?_
  simp only [d11, b11]
  walk_at "ev"
  refine ok_mono ht ?_
  rintro _ _ ⟨rfl, rfl⟩
  walk_at "ev"
  refine ok_mono ha ?_
  rintro _ _ ⟨rfl, rfl⟩
  walk_at "ev"
  exact ⟨by decide, by decide, (by simp), rfl, rfl⟩
end Dv.G

set_option Elab.async false
set_option linter.all false
set_option maxRecDepth 100000
set_option maxHeartbeats 4000000
namespace Dv.G
open PySem PySem.Spec PyProof.Rows L2 Dv
local macro_rules | `(tactic| walk_at "ev") => `(tactic| simp only [evB, k_seq, evS, k_if, evT, evAndTs, evOrTs, k_bl, k_op2, evE, evA, evAnds, evOrs, evO, evI, evG, evGs, k_var, k_con, k_tru, k_andT, k_orT, k_notT, k_andV, k_orV, k_notV, k_tup, k_lst, k_drop, k_call, isFn_fn, k_co, lb_nil, lb_val, lb_fr, lb_sl, owL_fz, owL_ow, pm_nil, pm_cons, ps_val, ps_fr, ps_sl, pasS_fz, pasS_ow, wb_nil, wb_vl, wb_fr, wb_sl, owB_fz, owB_ow, isOw_s, isOwS_ow, outS_L, ol_nil, ol_ow, ol_fz, hasS_at, hasO_fz, hasO_ow, List.getElem?_cons_zero, List.getElem?_cons_succ, true_and, and_true, look_val, look_fr, look_sl, slD_fz, slD_ow, oo_some, KC.g, K2.g, KF.g, KM.g, KN.g, KM.ty, KN.ty, oo_cmp, oo_lt, isBl_bl, outV_sc, outV_nl, outV_nt, Option.bind_some, oo_mul, oo_add, oo_sub, oo_neg, oo_int, ix0, ix1, ix2, ixT0, ixT1, ixT2, decide_eq_true_eq, k_asg, k_consA, k_nilA, k_opN, k_op1, st_val, st_fr, st_sl, stS_fz, stS_ow, k_gtup, seqO_tup, seqO_lst, gs_nl, gs_cn, k_par, pp_nil, pp_cons, pr_fr, pr_val, pr_sl, k_app, k_ext, k_pop, k_popAt, owO_ow, lstO_lst, intO_int, k_mth, k_mth0, ps_none, ps_some, k_sl, outB_bl, k_chain, k_items, wk_fr, wk_lst, wk_tup, wk_scr, wk_sl, wkS_lst, wkS_tup, wkS_scr, wkS_ow, k_signs, isStr_str, k_rng, oo_rng1, oo_rng2, k_frzI, fa_nil, fa_cons, frz_sl, frS1_fz, frS1_ow, k_for, goL_nx, goL_ct, goL_bk, goL_rt, k_lc, oo_lenL, oo_lenT, oo_lenS, k_seti, goS_nx, goS_rt, k_nx, k_ret, end_val, end_fr, end_nx, mm_nil, mm_cons, sd0, sd1, sd2, frz_val, frz_fr, rt_val, rt_fr, rt_sl, rtS_fz, rtS_ow, set_z, set_s, List.length_cons, List.length_nil, Nat.reduceAdd, Nat.reduceLeDiff, Bool.false_eq_true, or_self, or_false, false_or, not_false_eq_true, List.getElem?_nil, Int.reduceLT, List.cons_append, List.nil_append, List.append_nil, List.nodup_nil, List.nodup_cons, List.not_mem_nil, ite_true, ite_false, if_true, if_false, if_pos, lent, bindOk, beq_self_eq_true, Bool.and_self, wp_L, wp_nil, wp_cons, mg_L, mg_nil, mg_cons, k_yes, k_srtSet, List.contains_cons, List.contains_nil, Nat.reduceBEq, Bool.or_false, Bool.false_or, Bool.or_true, only, Bool.not_false, Bool.not_true, eq_self, Nat.reduceEqDiff, sl1, oo_addL, oo_tupL, oo_ne, oo_eq, tr_bl, oo_neB, oo_eqB, zip_tt, zip_ll, enum_l, AGs.len, sz0, sz1, sz2, sz3, sz4, sz5, sz6, sz7, sz8, sz9, sz10, sz11, sz12, sz13, oo_abs, oo_intB, pw18, pw12, mod61, oo_listL, oo_listT, oo_tupT, oo_min2, ssl_nil, ssl_cons, oi_nil, oi_cons, Nat.reduceLT, decide_true, Bool.and_true, Bool.true_and, k_rse, k_try, in_S, nin_S, add_S, len_S, signs_S, all_map, any_map, slL_1, slT_1, oo_addT, outV_cat, ix_m1, ixT_m1, sd_m1, gl0, gl1, gl2, gl3, gl4, gl5, gl6, gl7, gl8, gl9, gl10, gl11, gl12, gl13, gl14, gl15, gl16, gl17, gl18, gl19, gl20, gl21, gl22, gl23, gl24, gl25, gl26, gl27, gl28, gl29, gl30, tb0, tb1, tb2, tb3, tb4, tb5, tb6, tb7, tb8, tb9, tb10, tb11, tb12, tb13, tb14, tb15, tb16, tb17, tb18, tb19, tb20, tb21, tb22, tb23, tb24, tb25, tb26, tb27, sx0, sx1, sx2, sx3, tinS, div2, zip_ll, k_lc2, lc2_nil, oo_sumI, zip_lt, isi_int_lt, isi_int_l, isi_int_t, isi_int_bs, isi_int_b, isi_int_s, isi_int_i, isn_int, isi_str_lt, isi_str_l, isi_str_t, isi_str_bs, isi_str_b, isi_str_s, isi_str_i, isn_str, isi_tup_lt, isi_tup_l, isi_tup_t, isi_tup_bs, isi_tup_b, isi_tup_s, isi_tup_i, isn_tup, isi_lst_lt, isi_lst_l, isi_lst_t, isi_lst_bs, isi_lst_b, isi_lst_s, isi_lst_i, isn_lst, isi_bl_lt, isi_bl_l, isi_bl_t, isi_bl_bs, isi_bl_b, isi_bl_s, isi_bl_i, isn_bl, isi_non_lt, isi_non_l, isi_non_t, isi_non_bs, isi_non_b, isi_non_s, isi_non_i, isn_non, isx_int, isx_str, isx_tup, isx_lst, isx_bl, isx_non])
theorem unfit_low : lowC [117, 110, 102, 105, 116] := by
  unfold lowC
  decide
theorem hs1 : hs (.tup [.tup [.int 5]]) = true := rfl
theorem hs2 : hs (.tup [.tup [.int 0]]) = false := rfl
theorem hs3 {d : D} : hs (.tup [.tup [.int 1], d]) = false := by
  unfold hs
  split
  · rename_i h
    injection h with h
    cases h
  · rfl
theorem hs4 {a b c d : D} : hs (.tup [.tup [a, b, c], d]) = false := by
  unfold hs
  split
  · rename_i h
    injection h with h
    cases h
  · rfl
theorem law_ok (ns : List Int) (hn : ns.length ≤ 63) : okE noE (M.fx 60 27 [.fz (.scr ns)]) fun v ss => v = .val (.bl true) := by
  refine k_fn (l := 59) (d := d27) (τ := [.fz (.scr ns), .un, .un, .un, .un, .un, .un, .un]) rfl rfl ?_
  simp only [d27, b27]
  have hmax : 1000000 ≤ sizeLine := by decide
  walk_at "ev"
  refine ok_mono (cells_ok 58 ns hn) ?_
  rintro v ss ⟨i, rfl, rfl⟩
  walk_at "ev"
  refine ok_mono (box_ok 58 i []) ?_
  rintro v ss ⟨a, b, rfl, rfl⟩
  walk_at "ev"
  refine ⟨by decide, ?_⟩
  refine lc_inv (fun acc rr τ => ∃ (k : Nat) (a' c' : Int), acc = (List.replicate k true).map D.bl ∧ k + rr.length = 5 ∧ τ = [Sl.fz (.scr ns), tinS a' b c', .un, .un, .un, .un, .un, .un] ∧ 0 ≤ c' ∧ c' + 1000 * (rr.length : Int) ≤ 5000) (fun acc τ h => ?_) (fun acc d rr τ h => ?_) ⟨0, a, 0, rfl, rfl, rfl, by decide, by decide⟩
  · obtain ⟨k, a', c', rfl, h2, rfl, h4, h5⟩ := h
    rw [List.length_nil] at h5
    simp only [tinS]
    walk_at "ev"
    rw [all_bls, show (List.replicate k true).all id = true by simp]
    walk_at "ev"
    refine ok_mono (take_ok 58 a' b c' 8 (by decide) (by decide) h4 (by omega)) ?_
    rintro _ _ ⟨q1, a1, c1, rfl, rfl, i1, i2⟩
    simp only [tinS]
    walk_at "ev"
    by_cases hq : q1 % 8 = 0
    · rw [if_pos (by rw [beq_iff_eq]; exact hq)]
      refine ⟨by decide, ?_⟩
      rw [show Int.toNat 40 = 40 from rfl]
      refine lc_inv (fun acc rest τ => ∃ (rows : List (List Int)) (a' c' : Int), acc = rows.map tupI' ∧ (∀ r, r ∈ rows → r.length = 12 ∧ ∀ x, x ∈ r → -1000000 ≤ x ∧ x ≤ 1000000) ∧ rows.length + rest.length = 40 ∧ τ = [Sl.fz (D.scr ns), tinS a' b c', .un, .un, .un, .un, .un, .un] ∧ 0 ≤ c' ∧ c' + 12 * rest.length ≤ 8000) (fun acc τ hI => ?_) (fun acc d r τ hI => ?_) ⟨[], a1, c1, rfl, (fun x hx => nomatch hx), by rw [rng_len]; simp, rfl, i1, by rw [rng_len]; omega⟩
      · obtain ⟨rows, a', c', rfl, h1, h2, rfl, h3, h4⟩ := hI
        rw [List.length_nil] at h2 h4
        have hR : RowsOk rows 12 := RowsOk.of (by omega) (by omega) (by omega) (by omega) h1
        simp only [tinS]
        walk_at "ev"
        refine ok_mono (over_or_bar_ok 55 12 rows hR) ?_
        rintro _ _ ⟨⟨d, rfl, hd⟩, rfl⟩
        walk_at "ev"
        refine ok_mono (holds_ok 57 12 rows d hR hd) ?_
        rintro _ _ ⟨rfl, rfl⟩
        walk_at "ev"
        rw [pw6]
        walk_at "ev"
        refine lc_map (fun _ => some (.bl true)) (by decide) (fun d hd => ?_) ?_
        · have hd : d ∈ hands.map tD := hd
          obtain ⟨rows, hr, rfl⟩ := List.mem_map.mp hd
          walk_at "ev"
          refine ok_mono (over_or_bar_ok 55 _ rows (hand_rows rows hr)) ?_
          rintro _ _ ⟨⟨d, rfl, hd⟩, rfl⟩
          walk_at "ev"
          refine ok_mono (holds_ok 57 _ rows d (hand_rows rows hr) hd) ?_
          rintro _ _ ⟨rfl, rfl⟩
          walk_at "ev"
        walk_at "ev"
        rw [all_t]
        walk_at "ev"
        refine lc_map (fun d => some (.bl (hs d))) (by decide) (fun d hd => ?_) ?_
        · have hd : d ∈ hands.map tD := hd
          obtain ⟨rows, hr, rfl⟩ := List.mem_map.mp hd
          walk_at "ev"
          refine ok_mono (over_or_bar_ok 55 _ rows (hand_rows rows hr)) ?_
          rintro _ _ ⟨⟨d, rfl, hd⟩, rfl⟩
          obtain ⟨bb, xs, rfl, hbig, ho, hb⟩ := hd
          walk_at "ev"
          rw [hand_sign hr rfl ho hb]
        simp only [List.filterMap_cons, List.filterMap_nil, hs1, hs2, hs3, hs4]
        walk_at "ev"
        refine ok_mono (same_oo 58 [.bl true, .bl false, .bl false, .bl false] (fun d hd => by
          simp only [List.mem_cons, List.not_mem_nil, or_false] at hd
          rcases hd with rfl | rfl | rfl | rfl
          all_goals exact same_bl 57 _) (by decide)) ?_
        rintro _ _ ⟨rfl, rfl⟩
        walk_at "ev"
        rw [show okO (dMul (.tup [.tup [.int 1]]) (.int 41)) _ = _ from oo_repT (n := 41) (by decide) (by decide)]
        walk_at "ev"
        rw [show okO (dMul (.tup [.int 0]) (.int 13)) _ = _ from oo_repT (n := 13) (by decide) (by decide)]
        walk_at "ev"
        rw [pw6]
        walk_at "ev"
        refine lc_map (fun _ => none) (by decide) (fun d hd => ?_) ?_
        · have hs : okE noE (M.fx 59 21 [.fz (.fn 11), .fz (.tup [d])]) fun v ss => v = .val (.str "unfit") ∧ ss = [.un, .un] := by
            have hd : d ∈ bads.take 4 ++ [tD many41, tD many13] ++ bads.drop 4 := hd
            rcases List.mem_append.mp hd with hd | hd
            · rcases List.mem_append.mp hd with hd | hd
              · exact bad_ok d (List.mem_of_mem_take hd)
              · rcases List.mem_cons.mp hd with rfl | hd
                · exact bad41
                · rw [List.mem_singleton.mp hd]
                  exact bad13
            · exact bad_ok d (List.mem_of_mem_drop hd)
          walk_at "ev"
          refine ok_mono hs ?_
          rintro _ _ ⟨rfl, rfl⟩
          walk_at "ev"
          rw [neS unfit_low unfit_low, decide_eq_true rfl]
          walk_at "ev"
        rw [fm_none]
        walk_at "ev"
        rw [eq_nil]
        walk_at "ev"
      · obtain ⟨rows, a', c', rfl, h1, h2, rfl, h3, h4⟩ := hI
        rw [List.length_cons] at h2 h4
        simp only [tinS]
        walk_at "ev"
        refine ok_mono (row_ok 57 a' b c' 12 3 (by omega) (by omega) h3 (by omega)) ?_
        rintro _ _ ⟨r2, a2, c2, rfl, rfl, g1, g2, g3, g4⟩
        simp only [tinS]
        walk_at "ev"
        refine ⟨by rw [List.length_map]; omega, rows ++ [r2], a2, c2, by rw [List.map_append]; rfl, fun r hr => ?_, by rw [List.length_append, List.length_singleton]; omega, rfl, g3, by omega⟩
        rcases List.mem_append.mp hr with hr | hr
        · exact h1 r hr
        · rw [List.mem_singleton.mp hr]
          exact ⟨g1, fun x hx => by have := g2 x hx; omega⟩
    · rw [if_neg (by rw [beq_iff_eq]; exact hq)]
      rw [pw6]
      walk_at "ev"
      refine lc_map (fun _ => some (.bl true)) (by decide) (fun d hd => ?_) ?_
      · have hd : d ∈ hands.map tD := hd
        obtain ⟨rows, hr, rfl⟩ := List.mem_map.mp hd
        walk_at "ev"
        refine ok_mono (over_or_bar_ok 55 _ rows (hand_rows rows hr)) ?_
        rintro _ _ ⟨⟨d, rfl, hd⟩, rfl⟩
        walk_at "ev"
        refine ok_mono (holds_ok 57 _ rows d (hand_rows rows hr) hd) ?_
        rintro _ _ ⟨rfl, rfl⟩
        walk_at "ev"
      walk_at "ev"
      rw [all_t]
      walk_at "ev"
      refine lc_map (fun d => some (.bl (hs d))) (by decide) (fun d hd => ?_) ?_
      · have hd : d ∈ hands.map tD := hd
        obtain ⟨rows, hr, rfl⟩ := List.mem_map.mp hd
        walk_at "ev"
        refine ok_mono (over_or_bar_ok 55 _ rows (hand_rows rows hr)) ?_
        rintro _ _ ⟨⟨d, rfl, hd⟩, rfl⟩
        obtain ⟨bb, xs, rfl, hbig, ho, hb⟩ := hd
        walk_at "ev"
        rw [hand_sign hr rfl ho hb]
      simp only [List.filterMap_cons, List.filterMap_nil, hs1, hs2, hs3, hs4]
      walk_at "ev"
      refine ok_mono (same_oo 58 [.bl true, .bl false, .bl false, .bl false] (fun d hd => by
        simp only [List.mem_cons, List.not_mem_nil, or_false] at hd
        rcases hd with rfl | rfl | rfl | rfl
        all_goals exact same_bl 57 _) (by decide)) ?_
      rintro _ _ ⟨rfl, rfl⟩
      walk_at "ev"
      rw [show okO (dMul (.tup [.tup [.int 1]]) (.int 41)) _ = _ from oo_repT (n := 41) (by decide) (by decide)]
      walk_at "ev"
      rw [show okO (dMul (.tup [.int 0]) (.int 13)) _ = _ from oo_repT (n := 13) (by decide) (by decide)]
      walk_at "ev"
      rw [pw6]
      walk_at "ev"
      refine lc_map (fun _ => none) (by decide) (fun d hd => ?_) ?_
      · have hs : okE noE (M.fx 59 21 [.fz (.fn 11), .fz (.tup [d])]) fun v ss => v = .val (.str "unfit") ∧ ss = [.un, .un] := by
          have hd : d ∈ bads.take 4 ++ [tD many41, tD many13] ++ bads.drop 4 := hd
          rcases List.mem_append.mp hd with hd | hd
          · rcases List.mem_append.mp hd with hd | hd
            · exact bad_ok d (List.mem_of_mem_take hd)
            · rcases List.mem_cons.mp hd with rfl | hd
              · exact bad41
              · rw [List.mem_singleton.mp hd]
                exact bad13
          · exact bad_ok d (List.mem_of_mem_drop hd)
        walk_at "ev"
        refine ok_mono hs ?_
        rintro _ _ ⟨rfl, rfl⟩
        walk_at "ev"
        rw [neS unfit_low unfit_low, decide_eq_true rfl]
        walk_at "ev"
      rw [fm_none]
      walk_at "ev"
      rw [eq_nil]
      walk_at "ev"
  · obtain ⟨k, a', c', rfl, h2, rfl, h4, h5⟩ := h
    rw [List.length_cons] at h2 h5
    simp only [tinS]
    walk_at "ev"
    refine ok_mono (right_ok 51 a' b c' h4 (by omega)) ?_
    rintro v ss ⟨a2, c2, rfl, rfl, i1, i2⟩
    simp only [tinS]
    walk_at "ev"
    refine ⟨?_, k + 1, a2, c2, ?_, by omega, rfl, i1, by omega⟩
    · rw [List.length_map, List.length_replicate]
      exact Nat.lt_of_lt_of_le (show k < 6 by omega) (by decide)
    · rw [List.replicate_succ', List.map_append]
      rfl
theorem says : ∀ ns : List Int, ns.length ≤ 63 → M.says 60 27 ns := fun ns hn => says_of (law_ok ns hn)
end Dv.G

open PySem PySem.W PySem.Calls PyProof.Rows
theorem PySem.Challenge.cw_heightsfortiles_k09_main_rows_over_or_ba_holds : PySem.Challenge.rw_heightsfortiles_k09_main_rows_over_or_ba.Holds := by
  w_on; o_law
  refine HandSHeadRun.head_any (r := OpenLaw.row PySem.Challenge.rw_heightsfortiles_k09_main_rows_over_or_ba) (q := view (OpenLaw.row PySem.Challenge.rw_heightsfortiles_k09_main_rows_over_or_ba).prog [37]) (H := Dv.G.hk) (ob := Dv.G.ob) (M := 20000) (loose := Dv.G.nms) (d := HandSHeadRun.topDef (OpenLaw.row PySem.Challenge.rw_heightsfortiles_k09_main_rows_over_or_ba).prog 37) (kwd := []) Dv.G.ob_eq
    (by kernel_rfl) (fun s => by kernel_rfl) Dv.G.run (by kernel_rfl) (by kernel_rfl) (by kernel_rfl) (by rfl) (by first | assumption | decide +kernel) (by decide +kernel) ⟨rfl, rfl, rfl, rfl, rfl, by decide +kernel⟩ ?hw ?hc
  case hw => w_witness2
  case hc =>
    refine L2.walk_ofE (l := PySem.Challenge.rw_heightsfortiles_k09_main_rows_over_or_ba) (n := 63) (k := 60) (x := "script") (CX := L2.CX0) rfl (by decide) (by kernel_rfl) ⟨rfl, by decide, by decide⟩ ?F (fun _ _ _ _ z => z)
    intro w mg fa h Y G hmg0
    obtain ⟨K, KX, c, ex⟩ := Y
    have hmg : mg ("law" : PySem.Str) = some (.ref fa) := by
      have e : (HandSHeadRun.topDef (OpenLaw.row PySem.Challenge.rw_heightsfortiles_k09_main_rows_over_or_ba).prog 37).name = ("law" : PySem.Str) := by kernel_rfl
      rw [← e]
      exact hmg0
    have e := hmg.symm.trans (He.glo_ok KX G (Dv.M_fact (M := Dv.G.M) c (f := .glo "law") (List.mem_append_left _ (List.mem_filterMap.mpr ⟨("law", .fn 27), List.mem_of_getElem? (i := 30) rfl, rfl⟩))))
    cases e
    obtain ⟨fd, sp, b1, b2, b3⟩ := Dv.M_law (M := Dv.G.M) (P := (PySem.Challenge.rw_heightsfortiles_k09_main_rows_over_or_ba).prog) (w := w) Dv.G.good KX G c ex (lev := 60) (k := 27) (n := 63) (d := Dv.G.d27) (x := "script") rfl rfl Dv.G.says
    exact ⟨K, fd, sp, KX, b1, b2, fun base _ _ => b3 base⟩
