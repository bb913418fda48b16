import PyProof.Rows.All
import Wide.All
import OpenK.AllK
import Wide.FinOn
import HandS.ForMost
import HandS.Exc
import HandS.TryOnly
import HandS.ExcOwn
import HandS.WordsExc
import HandS.Wide
import HandS.SortInts
import HandS.IsInst
import HandS.RaiseMore
import HandS.Lambda
import HandS.EndTab
import HandS.ExcValue
import HandS.ExcIs
import HandS.TupAny
import HandS.TupLe
import HandS.Deep
import HandS.Small
import HandS.Style
import HandS.Conv
import HandS.EndBits
import HandS.More
import HandS.SetFor
import HandS.Strs
import PyProof.TupleIter
import HandS.Iter
import HandS.Zip
import KE.SortKeyHeap
import KE.RegKIsAll
import HandS.Dict
import HandS.TryMany
import KE.RegKTryMore
import HandS.TupMul
import HandS.TupSets
import HandS.DictComp
import PyProof.LongRange
import PyProof.ListRange
import PyProof.ReprRoads
import PyProof.Rows.RegStrFacts
import HandS.FStrTup
import PySem.Challenge.RW_oldestbills_k32_pairs_of_great_sums
set_option Elab.async false
set_option linter.all false
section
set_option maxRecDepth 100000
set_option maxHeartbeats 4000000
/-! Vm, part A: data, results, how data lie in the abstract heap, slots, the relation. -/
namespace Vm
open PySem PySem.Spec PyProof.Rows L2

inductive D where
  | non
  | bl (b : Bool)
  | int (i : Int)
  | str (x : Str)
  | tup (xs : List D)
  | lst (xs : List D)
  | dic (kvs : List (Key × D))
  | dct (kvs : List (List Key × D))
  | own (i : Nat)
  | scr (ns : List Int)
  | exc (c : Str)

inductive Res (α : Type) where
  | ok (a : α)
  | err (c : Str)
  | bad

def Res.bind {α β : Type} (r : Res α) (f : α → Res β) : Res β :=
  match r with
  | .ok a => f a
  | .err c => .err c
  | .bad => .bad
instance : Monad Res where
  pure := Res.ok
  bind := Res.bind
theorem ok_bind {α β : Type} (a : α) (f : α → Res β) : (Res.ok a >>= f) = f a := rfl
theorem err_bind {α β : Type} (c : Str) (f : α → Res β) : ((Res.err c : Res α) >>= f) = Res.err c := rfl
theorem bad_bind {α β : Type} (f : α → Res β) : ((Res.bad : Res α) >>= f) = Res.bad := rfl
theorem pure_ok {α : Type} (a : α) : (pure a : Res α) = Res.ok a := rfl

def Res.Wp {α : Type} (r : Res α) (P : α → Prop) (E : Str → Prop) : Prop :=
  match r with
  | .ok a => P a
  | .err c => E c
  | .bad => False
theorem wp_ok {α : Type} {a : α} {P : α → Prop} {E : Str → Prop} : (Res.ok a).Wp P E = P a := rfl
theorem wp_err {α : Type} {c : Str} {P : α → Prop} {E : Str → Prop} : (Res.err c : Res α).Wp P E = E c := rfl
theorem wp_bad {α : Type} {P : α → Prop} {E : Str → Prop} : (Res.bad : Res α).Wp P E = False := rfl
theorem wp_bind {α β : Type} {r : Res α} {f : α → Res β} {P : β → Prop} {E : Str → Prop} : (r >>= f).Wp P E = r.Wp (fun a => (f a).Wp P E) E := by
  cases r <;> rfl
theorem Res.Wp.imp {α : Type} {r : Res α} {P P' : α → Prop} {E E' : Str → Prop} (h : r.Wp P E) (hp : ∀ a, P a → P' a) (he : ∀ c, E c → E' c) : r.Wp P' E' := by
  cases r with
  | ok a => exact hp a h
  | err c => exact he c h
  | bad => exact h

/-! ### how data lie -/
/-- the script: locked, or of the written part -/
def ScrAt (K : PySem.W.Frag) (H : Hp) (a : Addr) (xs : List V) : Prop := (∃ o, H a = some (.frz o (.lst xs))) ∨
  ∃ (o : Obj) (its : Array Value) (n : Nat), K.lookup a = some o ∧ o.cls = .type "list" ∧ o.dict = none ∧ o.data = .seq its n ∧ its.size ≤ sizeLine ∧ Vals xs its.toList
theorem ScrAt.sq {K : PySem.W.Frag} {H : Hp} {a : Addr} {xs : List V} (h : ScrAt K H a xs) : SqL K H a xs := h.imp (fun h => .inr h) id
def ty6 : List String := ["int", "bool", "str", "tuple", "list", "dict"]
/-- the class D of the name c, an own exception -/
structure ExD (K : PySem.W.Frag) (c : Str) (D : Addr) : Prop where
  ns : PySem.W.nsIn K mainGlobals c = some (some (.ref D))
  ex : ExcC K D
  no : ∀ n ∈ ty6, PySem.W.kitOne K (.ref D) (.type n) = some false
inductive Rp (K : PySem.W.Frag) (H : Hp) (M : Addr → Prop) : D → V → Prop
  | non : Rp K H M .non .non
  | bl (b : Bool) : Rp K H M (.bl b) (.bl b)
  | int (i : Int) : Rp K H M (.int i) (.int i)
  | str (x : Str) : Rp K H M (.str x) (.str x)
  | tup {a : Addr} {vs : List V} {ds : List D} (h : SqT K H a vs) (hl : vs.length = ds.length) (hz : ds.length ≤ sizeLine)
      (hi : ∀ (i : Nat) (d : D) (v : V), ds[i]? = some d → vs[i]? = some v → Rp K H M d v) : Rp K H M (.tup ds) (.ref a)
  | lst {a : Addr} {vs : List V} {ds : List D} (h : H a = some (.lst vs)) (hm : ¬ M a) (hl : vs.length = ds.length) (hz : ds.length ≤ sizeLine)
      (hi : ∀ (i : Nat) (d : D) (v : V), ds[i]? = some d → vs[i]? = some v → Rp K H M d v) : Rp K H M (.lst ds) (.ref a)
  | scr {a : Addr} {ns : List Int} (h : ScrAt K H a (ns.map V.int)) (hz : ns.length ≤ sizeLine) : Rp K H M (.scr ns) (.ref a)
  | exc {a : Addr} {c : Str} {D : Addr} (h : H a = some (ExO (.ref D) a)) (hm : ¬ M a) (hd : ExD K c D) : Rp K H M (.exc c) (.ref a)
  | dic {a : Addr} {vs : List (Key × V)} {ds : List (Key × D)} (h : Rd H a (.dK vs)) (hm : ¬ M a) (hl : vs.length = ds.length) (hz : ds.length ≤ sizeLine)
      (hk : ∀ (i : Nat) (p : Key × D) (q : Key × V), ds[i]? = some p → vs[i]? = some q → q.1 = p.1)
      (hi : ∀ (i : Nat) (p : Key × D) (q : Key × V), ds[i]? = some p → vs[i]? = some q → Rp K H M p.2 q.2) : Rp K H M (.dic ds) (.ref a)
  | dct {a : Addr} {vs : List (List Key × V)} {ds : List (List Key × D)} (h : Rd H a (.dT vs)) (hm : ¬ M a) (hl : vs.length = ds.length) (hz : ds.length ≤ sizeLine)
      (hk : ∀ (i : Nat) (p : List Key × D) (q : List Key × V), ds[i]? = some p → vs[i]? = some q → q.1 = p.1)
      (hi : ∀ (i : Nat) (p : List Key × D) (q : List Key × V), ds[i]? = some p → vs[i]? = some q → Rp K H M p.2 q.2) : Rp K H M (.dct ds) (.ref a)

/-- a list of data -/
structure RpL (K : PySem.W.Frag) (H : Hp) (M : Addr → Prop) (ds : List D) (vs : List V) : Prop where
  len : vs.length = ds.length
  item : ∀ (i : Nat) (d : D) (v : V), ds[i]? = some d → vs[i]? = some v → Rp K H M d v
structure RpK {κ : Type} (K : PySem.W.Frag) (H : Hp) (M : Addr → Prop) (ds : List (κ × D)) (vs : List (κ × V)) : Prop where
  len : vs.length = ds.length
  key : ∀ (i : Nat) (p : κ × D) (q : κ × V), ds[i]? = some p → vs[i]? = some q → q.1 = p.1
  item : ∀ (i : Nat) (p : κ × D) (q : κ × V), ds[i]? = some p → vs[i]? = some q → Rp K H M p.2 q.2

section
variable {K : PySem.W.Frag} {H H' H2 : Hp} {M M' : Addr → Prop} {d : D} {v : V} {ds es : List D} {vs ws : List V} {a p : Addr}

/-- the heap goes on: what M does not hold stays, tuples and locked things stay, nothing gets lost -/
structure Ext (M : Addr → Prop) (H H' : Hp) : Prop where
  stay : ∀ b o, H b = some o → ¬ M b → (∀ ps, o ≠ .tbl ps) → H' b = some o
  tups : ∀ b xs, H b = some (.tup xs) → H' b = some (.tup xs)
  frzs : ∀ b o u, H b = some (.frz o u) → H' b = some (.frz o u)
  trk : ∀ b, H b ≠ none → H' b ≠ none
theorem Ext.refl : Ext M H H := ⟨fun _ _ h _ _ => h, fun _ _ h => h, fun _ _ _ h => h, fun _ h => h⟩
theorem Ext.trans (x : Ext M H H') (y : Ext M H' H2) : Ext M H H2 :=
  ⟨fun b o h n t => y.stay b o (x.stay b o h n t) n t, fun b xs h => y.tups b xs (x.tups b xs h), fun b o u h => y.frzs b o u (x.frzs b o u h), fun b h => y.trk b (x.trk b h)⟩
theorem Ext.mono (x : Ext M H H') (h : ∀ a, M a → M' a) : Ext M' H H' := ⟨fun b o e n t => x.stay b o e (fun z => n (h b z)) t, x.tups, x.frzs, x.trk⟩
/-- what a call leaves: all but the tables stays -/
structure Sme (T : List (Addr × Str)) (H H' : Hp) : Prop where
  stay : ∀ b o, H b = some o → (∀ ps, o ≠ .tbl ps) → H' b = some o
  trk : ∀ b, H b ≠ none → H' b ≠ none
  tabs : LamX.Tabs T H → LamX.Tabs T H'
theorem Sme.of {T : List (Addr × Str)} (e : Same H H') : Sme T H H' := ⟨fun b o h _ => e b o h, fun b h => by
  cases q : H b with
  | none => exact absurd q h
  | some o => rw [e b o q]; exact (fun z => nomatch z), fun t => t.ext fun b o h => e b o h⟩
theorem Ext.of_sme {T : List (Addr × Str)} (e : Sme T H H') : Ext M H H' := ⟨fun b o h _ t => e.stay b o h t, fun b xs h => e.stay b _ h fun _ z => (nomatch z), fun b o u h => e.stay b _ h fun _ z => (nomatch z), e.trk⟩
theorem Ext.of_same (e : Same H H') : Ext M H H' := ⟨fun b o h _ _ => e b o h, fun b xs h => e b _ h, fun b o u h => e b _ h, fun b h => by
  cases q : H b with
  | none => exact absurd q h
  | some o => rw [e b o q]; exact fun z => nomatch z⟩
theorem same_new {o : HO} (h : H p = none) : Same H (upd H p o) := fun b x e => by
  rw [upd_ne (ne_of_none e h)]
  exact e
theorem Ext.sq {xs : List V} (x : Ext M H H') (h : SqT K H a xs) : SqT K H' a xs := by
  rcases h with (h | ⟨o, h⟩) | h
  · exact .inl (.inl (x.tups _ _ h))
  · exact .inl (.inr ⟨o, x.frzs _ _ _ h⟩)
  · exact .inr h
theorem Ext.scr {xs : List V} (x : Ext M H H') (h : ScrAt K H a xs) : ScrAt K H' a xs := by
  rcases h with ⟨o, h⟩ | h
  · exact .inl ⟨o, x.frzs _ _ _ h⟩
  · exact .inr h
theorem Ext.rd {kvs : List (Key × V)} (x : Ext M H H') (h : Rd H a (.dK kvs)) (hm : ¬ M a) : Rd H' a (.dK kvs) := h.imp (fun h => x.stay _ _ h hm fun _ z => nomatch z) fun ⟨o, h⟩ => ⟨o, x.frzs _ _ _ h⟩
theorem Ext.rdT {kvs : List (List Key × V)} (x : Ext M H H') (h : Rd H a (.dT kvs)) (hm : ¬ M a) : Rd H' a (.dT kvs) := h.imp (fun h => x.stay _ _ h hm fun _ z => nomatch z) fun ⟨o, h⟩ => ⟨o, x.frzs _ _ _ h⟩
theorem rd_ne {u : HO} (h : Rd H a u) (e : H a = none) : False := by
  rcases h with h | ⟨o, h⟩
  · rw [h] at e; cases e
  · rw [h] at e; cases e
/-- data stay, where the set of what may change grows by new addresses alone -/
theorem Rp.ext (x : Ext M H H') (hM : ∀ b, M' b → M b ∨ H b = none) (h : Rp K H M d v) : Rp K H' M' d v := by
  induction h with
  | non => exact .non
  | bl b => exact .bl b
  | int i => exact .int i
  | str y => exact .str y
  | tup h hl hz _ ih => exact .tup (x.sq h) hl hz ih
  | lst h hm hl hz _ ih => exact .lst (x.stay _ _ h hm fun _ z => nomatch z) (fun z => (hM _ z).elim hm fun e => by rw [h] at e; cases e) hl hz ih
  | scr h hz => exact .scr (x.scr h) hz
  | exc h hm hd => exact .exc (x.stay _ _ h hm fun _ z => by unfold ExO at z; cases z) (fun z => (hM _ z).elim hm fun e => by rw [h] at e; cases e) hd
  | dic h hm hl hz hk _ ih => exact .dic (x.rd h hm) (fun z => (hM _ z).elim hm fun e => rd_ne h e) hl hz hk ih
  | dct h hm hl hz hk _ ih => exact .dct (x.rdT h hm) (fun z => (hM _ z).elim hm fun e => rd_ne h e) hl hz hk ih
theorem Rp.same (e : Same H H') (h : Rp K H M d v) : Rp K H' M d v := h.ext (.of_same e) fun _ z => .inl z
theorem Rp.less (hM : ∀ b, M' b → M b) (h : Rp K H M d v) : Rp K H M' d v := h.ext .refl fun b z => .inl (hM b z)
theorem RpL.ext (x : Ext M H H') (hM : ∀ b, M' b → M b ∨ H b = none) (h : RpL K H M ds vs) : RpL K H' M' ds vs := ⟨h.len, fun i d v e f => (h.item i d v e f).ext x hM⟩
theorem RpL.same (e : Same H H') (h : RpL K H M ds vs) : RpL K H' M ds vs := h.ext (.of_same e) fun _ z => .inl z
theorem RpL.less (hM : ∀ b, M' b → M b) (h : RpL K H M ds vs) : RpL K H M' ds vs := h.ext .refl fun b z => .inl (hM b z)
theorem RpK.ext {κ : Type} {ds : List (κ × D)} {vs : List (κ × V)} (x : Ext M H H') (hM : ∀ b, M' b → M b ∨ H b = none) (h : RpK K H M ds vs) : RpK K H' M' ds vs := ⟨h.len, h.key, fun i d v e f => (h.item i d v e f).ext x hM⟩
theorem RpL.nil : RpL K H M [] [] := ⟨rfl, fun i d v e _ => by simp at e⟩
theorem RpL.cons (h : Rp K H M d v) (r : RpL K H M ds vs) : RpL K H M (d :: ds) (v :: vs) := by
  refine ⟨by simp [r.len], fun i e f h1 h2 => ?_⟩
  cases i with
  | zero => simp at h1 h2; subst h1 h2; exact h
  | succ i => exact r.item i e f (by simpa using h1) (by simpa using h2)
theorem RpL.nil_inv (r : RpL K H M [] vs) : vs = [] := List.length_eq_zero_iff.mp r.len
theorem RpL.cons_inv (r : RpL K H M (d :: ds) vs) : ∃ v ws, vs = v :: ws ∧ Rp K H M d v ∧ RpL K H M ds ws := by
  cases vs with
  | nil => have := r.len; simp at this
  | cons v ws => exact ⟨v, ws, rfl, r.item 0 d v rfl rfl, by have := r.len; simpa using this, fun i e f h1 h2 => r.item (i + 1) e f (by simpa using h1) (by simpa using h2)⟩
theorem RpL.append (r : RpL K H M ds vs) (q : RpL K H M es ws) : RpL K H M (ds ++ es) (vs ++ ws) := by
  refine ⟨by simp [r.len, q.len], fun i e f h1 h2 => ?_⟩
  by_cases h : i < ds.length
  · rw [List.getElem?_append_left h] at h1
    rw [List.getElem?_append_left (by rw [r.len]; exact h)] at h2
    exact r.item i e f h1 h2
  · rw [List.getElem?_append_right (by omega)] at h1
    rw [List.getElem?_append_right (by rw [r.len]; omega), r.len] at h2
    exact q.item _ e f h1 h2
theorem RpL.one (h : Rp K H M d v) : RpL K H M [d] [v] := .cons h .nil
theorem RpL.take (r : RpL K H M ds vs) (n : Nat) : RpL K H M (ds.take n) (vs.take n) := by
  refine ⟨by simp [r.len], fun i e f h1 h2 => ?_⟩
  rw [List.getElem?_take] at h1 h2
  split at h1
  · rename_i h; rw [if_pos h] at h2; exact r.item i e f h1 h2
  · cases h1
theorem RpL.drop (r : RpL K H M ds vs) (n : Nat) : RpL K H M (ds.drop n) (vs.drop n) := by
  refine ⟨by simp [r.len], fun i e f h1 h2 => ?_⟩
  rw [List.getElem?_drop] at h1 h2
  exact r.item _ e f h1 h2
theorem RpL.set (r : RpL K H M ds vs) (n : Nat) (h : Rp K H M d v) : RpL K H M (ds.set n d) (vs.set n v) := by
  refine ⟨by simp [r.len], fun i e f h1 h2 => ?_⟩
  rw [List.getElem?_set] at h1 h2
  rw [r.len] at h2
  split at h1
  · rename_i hi
    subst hi
    rw [if_pos rfl] at h2
    split at h1
    · rename_i hn
      rw [if_pos hn] at h2
      cases h1
      cases h2
      exact h
    · cases h1
  · rename_i hi
    rw [if_neg hi] at h2
    exact r.item i e f h1 h2
theorem RpL.at1 (r : RpL K H M ds vs) {i : Nat} (h : ds[i]? = some d) : ∃ v, vs[i]? = some v ∧ Rp K H M d v := by
  have hi : i < vs.length := by
    rw [r.len]
    exact (List.getElem?_eq_some_iff.mp h).1
  exact ⟨vs[i], List.getElem?_eq_getElem hi, r.item i d _ h (List.getElem?_eq_getElem hi)⟩
theorem RpL.at2 (r : RpL K H M ds vs) {i : Nat} (h : vs[i]? = some v) : ∃ d, ds[i]? = some d ∧ Rp K H M d v := by
  have hi : i < ds.length := by
    rw [← r.len]
    exact (List.getElem?_eq_some_iff.mp h).1
  exact ⟨ds[i], List.getElem?_eq_getElem hi, r.item i _ v (List.getElem?_eq_getElem hi) h⟩
theorem RpL.ints {ns : List Int} : ∀ {vs : List V}, RpL K H M (ns.map D.int) vs → vs = ns.map V.int := by
  induction ns with
  | nil => intro vs r; exact r.nil_inv
  | cons n ns ih =>
    intro vs r
    obtain ⟨v, ws, rfl, h, q⟩ := RpL.cons_inv r
    cases h
    rw [ih q]
    rfl
theorem RpL.of_ints {ns : List Int} : RpL K H M (ns.map D.int) (ns.map V.int) := by
  refine ⟨by simp, fun i d v h1 h2 => ?_⟩
  rw [List.getElem?_map] at h1 h2
  cases q : ns[i]? with
  | none => rw [q] at h1; cases h1
  | some n => rw [q] at h1 h2; cases h1; cases h2; exact .int n
theorem RpL.bls {bs : List Bool} : ∀ {vs : List V}, RpL K H M (bs.map D.bl) vs → vs = bs.map V.bl := by
  induction bs with
  | nil => intro vs r; exact r.nil_inv
  | cons n ns ih =>
    intro vs r
    obtain ⟨v, ws, rfl, h, q⟩ := RpL.cons_inv r
    cases h
    rw [ih q]
    rfl

/-- what may be read: the root may be in M, its items are not -/
inductive Ro (K : PySem.W.Frag) (H : Hp) (M : Addr → Prop) : D → V → Prop
  | non : Ro K H M .non .non
  | bl (b : Bool) : Ro K H M (.bl b) (.bl b)
  | int (i : Int) : Ro K H M (.int i) (.int i)
  | str (x : Str) : Ro K H M (.str x) (.str x)
  | tup {a : Addr} {vs : List V} {ds : List D} (h : SqT K H a vs) (hz : ds.length ≤ sizeLine) (r : RpL K H M ds vs) : Ro K H M (.tup ds) (.ref a)
  | lst {a : Addr} {vs : List V} {ds : List D} (h : H a = Option.some (.lst vs)) (hz : ds.length ≤ sizeLine) (r : RpL K H M ds vs) : Ro K H M (.lst ds) (.ref a)
  | scr {a : Addr} {ns : List Int} (h : ScrAt K H a (ns.map V.int)) (hz : ns.length ≤ sizeLine) : Ro K H M (.scr ns) (.ref a)
  | exc {a : Addr} {c : Str} {D : Addr} (h : H a = Option.some (ExO (.ref D) a)) (hd : ExD K c D) : Ro K H M (.exc c) (.ref a)
  | dic {a : Addr} {vs : List (Key × V)} {ds : List (Key × D)} (h : Rd H a (.dK vs)) (hz : ds.length ≤ sizeLine) (r : RpK K H M ds vs) : Ro K H M (.dic ds) (.ref a)
  | dct {a : Addr} {vs : List (List Key × V)} {ds : List (List Key × D)} (h : Rd H a (.dT vs)) (hz : ds.length ≤ sizeLine) (r : RpK K H M ds vs) : Ro K H M (.dct ds) (.ref a)
theorem Rp.ro (h : Rp K H M d v) : Ro K H M d v := by
  cases h with
  | non => exact .non
  | bl b => exact .bl b
  | int i => exact .int i
  | str y => exact .str y
  | tup h hl hz hi => exact .tup h hz ⟨hl, hi⟩
  | lst h hm hl hz hi => exact .lst h hz ⟨hl, hi⟩
  | scr h hz => exact .scr h hz
  | exc h hm hd => exact .exc h hd
  | dic h hm hl hz hk hi => exact .dic h hz ⟨hl, hk, hi⟩
  | dct h hm hl hz hk hi => exact .dct h hz ⟨hl, hk, hi⟩
theorem Rp.tup' {vs : List V} {ds : List D} (h : SqT K H a vs) (hz : ds.length ≤ sizeLine) (r : RpL K H M ds vs) : Rp K H M (.tup ds) (.ref a) := .tup h r.len hz r.item
theorem Rp.lst' {vs : List V} {ds : List D} (h : H a = Option.some (.lst vs)) (hm : ¬ M a) (hz : ds.length ≤ sizeLine) (r : RpL K H M ds vs) : Rp K H M (.lst ds) (.ref a) := .lst h hm r.len hz r.item
theorem Ro.same (e : Same H H') (h : Ro K H M d v) : Ro K H' M d v := by
  cases h with
  | non => exact .non
  | bl b => exact .bl b
  | int i => exact .int i
  | str y => exact .str y
  | tup h hz r => exact .tup ((Ext.of_same (M := M) e).sq h) hz (r.same e)
  | lst h hz r => exact .lst (e _ _ h) hz (r.same e)
  | scr h hz => exact .scr ((Ext.of_same (M := M) e).scr h) hz
  | exc h hd => exact .exc (e _ _ h) hd
  | dic h hz r => exact .dic (h.imp (e _ _) fun ⟨o, q⟩ => ⟨o, e _ _ q⟩) hz (r.ext (.of_same e) fun _ z => .inl z)
  | dct h hz r => exact .dct (h.imp (e _ _) fun ⟨o, q⟩ => ⟨o, e _ _ q⟩) hz (r.ext (.of_same e) fun _ z => .inl z)
theorem Ro.ext (x : Ext M H H') (h : Ro K H M d v) (hr : ∀ a o, v = .ref a → H a = Option.some o → H' a = Option.some o) : Ro K H' M d v := by
  cases h with
  | non => exact .non
  | bl b => exact .bl b
  | int i => exact .int i
  | str y => exact .str y
  | tup h hz r => exact .tup (x.sq h) hz (r.ext x fun _ z => .inl z)
  | lst h hz r => exact .lst (hr _ _ rfl h) hz (r.ext x fun _ z => .inl z)
  | scr h hz => exact .scr (x.scr h) hz
  | exc h hd => exact .exc (hr _ _ rfl h) hd
  | dic h hz r => exact .dic (h.imp (hr _ _ rfl) fun ⟨o, q⟩ => ⟨o, hr _ _ rfl q⟩) hz (r.ext x fun _ z => .inl z)
  | dct h hz r => exact .dct (h.imp (hr _ _ rfl) fun ⟨o, q⟩ => ⟨o, hr _ _ rfl q⟩) hz (r.ext x fun _ z => .inl z)
end

/-! ### slots -/
inductive Sl where
  | u
  | t (d : D)
  | l (d : D)
  | p (d : D)
  | r (d : D)
abbrev Sls := List Sl
def Sl.isOwn : Sl → Bool
  | .l _ => true
  | .p _ => true
  | .r _ => true
  | _ => false
def Sl.isMut : Sl → Bool
  | .l _ => true
  | .p _ => true
  | _ => false
theorem Sl.isMut.own {s : Sl} (h : s.isMut = true) : s.isOwn = true := by cases s <;> first | rfl | cases h
abbrev Ev := Sls → Res (D × Sls)
abbrev Ev1 := Sls → Res (Bool × Sls)
abbrev Evs := Sls → Res (List D × Sls)

structure Cfg where
  K : PySem.W.Frag
  mg : Str → Option Value
  H0 : Hp
  /-- what callers hold and may change later -/
  M0 : Addr → Prop
  /-- what this def may change of what stood -/
  fr : Addr → Prop
  pa : Nat → Addr
  fresh : Bool
  /-- the tables of code objects that lambdas are put into -/
  T : List (Addr × Str)

/-- with other addresses that others hold -/
abbrev Cfg.w (C : Cfg) (M0 : Addr → Prop) : Cfg := { C with M0 := M0 }
def Ow (env : Sls) (ad : Nat → Addr) (a : Addr) : Prop := ∃ (i : Nat) (s : Sl), env[i]? = some s ∧ s.isOwn = true ∧ ad i = a
def Mo (C : Cfg) (env : Sls) (ad : Nat → Addr) (a : Addr) : Prop := C.M0 a ∨ Ow env ad a

def CellOk (K : PySem.W.Frag) (H : Hp) (M : Addr → Prop) (d : D) (a : Addr) : Prop :=
  match d with
  | .lst ds => ds.length ≤ sizeLine ∧ ∃ vs, H a = some (.lst vs) ∧ RpL K H M ds vs
  | .dic ds => ds.length ≤ sizeLine ∧ ∃ vs, H a = some (.dK vs) ∧ RpK K H M ds vs
  | .dct ds => ds.length ≤ sizeLine ∧ ∃ vs, H a = some (.dT vs) ∧ RpK K H M ds vs
  | _ => False
theorem CellOk.ro {K : PySem.W.Frag} {H : Hp} {M : Addr → Prop} {d : D} {a : Addr} (h : CellOk K H M d a) : Ro K H M d (.ref a) := by
  cases d with
  | lst ds => obtain ⟨z, vs, h, r⟩ := h; exact .lst h z r
  | dic ds => obtain ⟨z, vs, h, r⟩ := h; exact .dic (.inl h) z r
  | dct ds => obtain ⟨z, vs, h, r⟩ := h; exact .dct (.inl h) z r
  | _ => exact h.elim
theorem CellOk.ext {K : PySem.W.Frag} {H H' : Hp} {M M' : Addr → Prop} {d : D} {a : Addr} (h : CellOk K H M d a) (e : H' a = H a) (x : Ext M H H') (hM : ∀ b, M' b → M b ∨ H b = none) : CellOk K H' M' d a := by
  cases d with
  | lst ds => obtain ⟨z, vs, h, r⟩ := h; exact ⟨z, vs, e.trans h, r.ext x hM⟩
  | dic ds => obtain ⟨z, vs, h, r⟩ := h; exact ⟨z, vs, e.trans h, r.ext x hM⟩
  | dct ds => obtain ⟨z, vs, h, r⟩ := h; exact ⟨z, vs, e.trans h, r.ext x hM⟩
  | _ => exact h.elim
theorem CellOk.trk {K : PySem.W.Frag} {H : Hp} {M : Addr → Prop} {d : D} {a : Addr} (h : CellOk K H M d a) : H a ≠ none := by
  cases d with
  | lst ds => obtain ⟨z, vs, h, r⟩ := h; rw [h]; exact fun z => nomatch z
  | dic ds => obtain ⟨z, vs, h, r⟩ := h; rw [h]; exact fun z => nomatch z
  | dct ds => obtain ⟨z, vs, h, r⟩ := h; rw [h]; exact fun z => nomatch z
  | _ => exact h.elim
/-- an owned cell is no tuple and nothing locked -/
theorem CellOk.kind {K : PySem.W.Frag} {H : Hp} {M : Addr → Prop} {d : D} {a : Addr} (h : CellOk K H M d a) : (∀ xs, H a ≠ some (.tup xs)) ∧ ∀ o u, H a ≠ some (.frz o u) := by
  cases d with
  | lst ds => obtain ⟨z, vs, h, r⟩ := h; rw [h]; exact ⟨(fun _ z => by cases z), (fun _ _ z => by cases z)⟩
  | dic ds => obtain ⟨z, vs, h, r⟩ := h; rw [h]; exact ⟨(fun _ z => by cases z), (fun _ _ z => by cases z)⟩
  | dct ds => obtain ⟨z, vs, h, r⟩ := h; rw [h]; exact ⟨(fun _ z => by cases z), (fun _ _ z => by cases z)⟩
  | _ => exact h.elim
theorem CellOk.notbl {K : PySem.W.Frag} {H : Hp} {M : Addr → Prop} {d : D} {a : Addr} (h : CellOk K H M d a) {o : HO} (e : H a = some o) : ∀ ps, o ≠ .tbl ps := by
  cases d with
  | lst ds => obtain ⟨z, vs, h, r⟩ := h; rw [h] at e; cases e; exact fun _ z => nomatch z
  | dic ds => obtain ⟨z, vs, h, r⟩ := h; rw [h] at e; cases e; exact fun _ z => nomatch z
  | dct ds => obtain ⟨z, vs, h, r⟩ := h; rw [h] at e; cases e; exact fun _ z => nomatch z
  | _ => exact h.elim
theorem CellOk.mut {K : PySem.W.Frag} {H : Hp} {M : Addr → Prop} {d : D} {a : Addr} (h : CellOk K H M d a) : True := True.intro

def SlOk (C : Cfg) (H : Hp) (M : Addr → Prop) (v : Option V) (s : Sl) (a : Addr) : Prop :=
  match s with
  | .u => True
  | .t d => ∃ x, v = some x ∧ Rp C.K H M d x
  | .l d => v = some (.ref a) ∧ CellOk C.K H M d a
  | .p d => v = some (.ref a) ∧ CellOk C.K H M d a
  | .r d => v = some (.ref a) ∧ CellOk C.K H M d a

structure RE (C : Cfg) (ad : Nat → Addr) (H : Hp) (σ : L2.St) (env : Sls) : Prop where
  len : σ.length = env.length
  sl : ∀ (i : Nat) (s : Sl), env[i]? = some s → SlOk C H (Mo C env ad) (σ[i]?.join) s (ad i)
  inj : ∀ (i j : Nat) (s t : Sl), env[i]? = some s → env[j]? = some t → s.isOwn = true → t.isOwn = true → ad i = ad j → i = j
  loc : ∀ (i : Nat) (d : D), (env[i]? = some (.l d) ∨ env[i]? = some (.r d)) → C.H0 (ad i) = none ∧ ¬ C.M0 (ad i)
  par : ∀ (i : Nat) (d : D), env[i]? = some (.p d) → ad i = C.pa i ∧ C.fr (C.pa i)
  same : ∀ b o, C.H0 b = some o → ¬ C.fr b → (∀ ps, o ≠ .tbl ps) → H b = some o
  frk : ∀ b, C.fr b → ∃ o, C.H0 b = some o ∧ (∀ xs, o ≠ .tup xs) ∧ ∀ q u, o ≠ .frz q u
  trk : ∀ b, C.H0 b ≠ none → H b ≠ none
  m0 : ∀ a, C.M0 a → H a ≠ none
  tabs : LamX.Tabs C.T H

section
variable {C : Cfg} {ad : Nat → Addr} {H H' : Hp} {σ : L2.St} {env env' : Sls}
theorem RE.cell (R : RE C ad H σ env) {i : Nat} {s : Sl} (h : env[i]? = some s) (o : s.isOwn = true) : ∃ d, (s = .l d ∨ s = .p d ∨ s = .r d) ∧ σ[i]? = some (some (V.ref (ad i))) ∧ CellOk C.K H (Mo C env ad) d (ad i) := by
  have q := R.sl i s h
  have hi : i < σ.length := by
    rw [R.len]
    exact (List.getElem?_eq_some_iff.mp h).1
  have e : σ[i]? = some σ[i] := List.getElem?_eq_getElem hi
  cases s with
  | u => cases o
  | t d => cases o
  | l d =>
    obtain ⟨q1, q2⟩ := q
    rw [e] at q1 ⊢
    exact ⟨d, .inl rfl, congrArg some q1, q2⟩
  | p d =>
    obtain ⟨q1, q2⟩ := q
    rw [e] at q1 ⊢
    exact ⟨d, .inr (.inl rfl), congrArg some q1, q2⟩
  | r d =>
    obtain ⟨q1, q2⟩ := q
    rw [e] at q1 ⊢
    exact ⟨d, .inr (.inr rfl), congrArg some q1, q2⟩
theorem RE.mtrk (R : RE C ad H σ env) {a : Addr} (h : Mo C env ad a) : H a ≠ none := by
  rcases h with h | ⟨i, s, e, o, rfl⟩
  · exact R.m0 a h
  · obtain ⟨d, _, _, c⟩ := R.cell e o
    exact c.trk
theorem RE.mfree (R : RE C ad H σ env) {a : Addr} (h : H a = none) : ¬ Mo C env ad a := fun z => R.mtrk z h
/-- the heap has grown -/
theorem RE.grow (R : RE C ad H σ env) (e : Same H H') : RE C ad H' σ env := by
  refine ⟨R.len, fun i s h => ?_, R.inj, R.loc, R.par, fun b o h n t => e b o (R.same b o h n t), R.frk, fun b h => (Ext.of_same (M := fun _ => True) e).trk b (R.trk b h), fun b h => (Ext.of_same (M := fun _ => True) e).trk b (R.m0 b h), R.tabs.ext fun b o h => e b o h⟩
  have q := R.sl i s h
  cases s with
  | u => trivial
  | t d =>
    obtain ⟨x, h1, h2⟩ := q
    exact ⟨x, h1, h2.same e⟩
  | l d =>
    obtain ⟨h1, h2⟩ := q
    refine ⟨h1, h2.ext ?_ (.of_same e) fun _ z => .inl z⟩
    cases q : H (ad i) with
    | none => exact absurd q h2.trk
    | some o => exact e _ _ q
  | p d =>
    obtain ⟨h1, h2⟩ := q
    refine ⟨h1, h2.ext ?_ (.of_same e) fun _ z => .inl z⟩
    cases q : H (ad i) with
    | none => exact absurd q h2.trk
    | some o => exact e _ _ q
  | r d =>
    obtain ⟨h1, h2⟩ := q
    refine ⟨h1, h2.ext ?_ (.of_same e) fun _ z => .inl z⟩
    cases q : H (ad i) with
    | none => exact absurd q h2.trk
    | some o => exact e _ _ q
/-- with one more address that others hold -/
def Cfg.add (C : Cfg) (a : Addr) : Cfg := { C with M0 := fun b => C.M0 b ∨ b = a }
theorem mo_add {a b : Addr} : Mo (C.add a) env ad b ↔ Mo C env ad b ∨ b = a := by
  constructor
  · rintro ((z | z) | z)
    · exact .inl (.inl z)
    · exact .inr z
    · exact .inl (.inr z)
  · rintro ((z | z) | z)
    · exact .inl (.inl z)
    · exact .inr z
    · exact .inl (.inr z)
theorem SlOk.ext {M M' : Addr → Prop} {v : Option V} {s : Sl} {a : Addr} (h : SlOk C H M v s a) (e : s.isOwn = true → H' a = H a) (x : Ext M H H') (hM : ∀ b, M' b → M b ∨ H b = none) : SlOk C H' M' v s a := by
  cases s with
  | u => trivial
  | t d =>
    obtain ⟨y, h1, h2⟩ := h
    exact ⟨y, h1, h2.ext x hM⟩
  | l d => exact ⟨h.1, h.2.ext (e rfl) x hM⟩
  | p d => exact ⟨h.1, h.2.ext (e rfl) x hM⟩
  | r d => exact ⟨h.1, h.2.ext (e rfl) x hM⟩
theorem same_at (e : Same H H') {a : Addr} (h : H a ≠ none) : H' a = H a := by
  cases q : H a with
  | none => exact absurd q h
  | some o => exact e _ _ q
theorem RE.growAdd (R : RE C ad H σ env) (e : Same H H') {a : Addr} (hn : H a = none) (hs : H' a ≠ none) : RE (C.add a) ad H' σ env := by
  have G := R.grow e
  refine ⟨R.len, fun i s h => ?_, R.inj, fun i d h => ⟨(R.loc i d h).1, fun z => z.elim (R.loc i d h).2 fun z => ?_⟩, R.par, G.same, R.frk, G.trk, fun b z => z.elim (G.m0 b) fun z => z ▸ hs, G.tabs⟩
  rotate_left
  · rcases h with h | h
    · exact R.mtrk (.inr ⟨i, _, h, rfl, rfl⟩) (z ▸ hn)
    · exact R.mtrk (.inr ⟨i, _, h, rfl, rfl⟩) (z ▸ hn)
  refine SlOk.ext (R.sl i s h) (fun o => same_at e (R.mtrk (.inr ⟨i, s, h, o, rfl⟩))) (.of_same e) fun b z => ?_
  rcases mo_add.mp z with z | z
  · exact .inl z
  · exact .inr (z ▸ hn)
theorem RE.own_sme (R : RE C ad H σ env) (e : Sme C.T H H') {i : Nat} {s : Sl} (h : env[i]? = some s) (o : s.isOwn = true) : H' (ad i) = H (ad i) := by
  obtain ⟨d, _, _, c⟩ := R.cell h o
  cases q : H (ad i) with
  | none => exact absurd q c.trk
  | some u => exact e.stay _ _ q (c.notbl q)
theorem RE.growS (R : RE C ad H σ env) (e : Sme C.T H H') : RE C ad H' σ env :=
  ⟨R.len, fun i s h => SlOk.ext (R.sl i s h) (R.own_sme e h) (.of_sme e) fun _ z => .inl z, R.inj, R.loc, R.par, fun b o h n t => e.stay b o (R.same b o h n t) t, R.frk, fun b h => e.trk b (R.trk b h), fun b h => e.trk b (R.m0 b h), e.tabs R.tabs⟩
theorem RE.growAddS (R : RE C ad H σ env) (e : Sme C.T H H') {a : Addr} (hn : H a = none) (hs : H' a ≠ none) : RE (C.add a) ad H' σ env := by
  have G := R.growS e
  refine ⟨R.len, fun i s h => ?_, R.inj, fun i d h => ⟨(R.loc i d h).1, fun z => z.elim (R.loc i d h).2 fun z => ?_⟩, R.par, G.same, R.frk, G.trk, fun b z => z.elim (G.m0 b) fun z => z ▸ hs, G.tabs⟩
  rotate_left
  · rcases h with h | h
    · exact R.mtrk (.inr ⟨i, _, h, rfl, rfl⟩) (z ▸ hn)
    · exact R.mtrk (.inr ⟨i, _, h, rfl, rfl⟩) (z ▸ hn)
  refine SlOk.ext (R.sl i s h) (R.own_sme e h) (.of_sme e) fun b z => ?_
  rcases mo_add.mp z with z | z
  · exact .inl z
  · exact .inr (z ▸ hn)
theorem RE.unadd {a : Addr} (R : RE (C.add a) ad H σ env) : RE C ad H σ env :=
  ⟨R.len, fun i s h => SlOk.ext (C := C) (R.sl i s h) (fun _ => rfl) .refl fun b z => .inl (mo_add.mpr (.inl z)), R.inj, fun i d h => ⟨(R.loc i d h).1, fun z => (R.loc i d h).2 (.inl z)⟩, R.par, R.same, R.frk, R.trk, fun b z => R.m0 b (.inl z), R.tabs⟩
end
end Vm
end
section
set_option maxRecDepth 100000
set_option maxHeartbeats 4000000
/-! Vm, part B: steps of the relation; expressions. -/
namespace Vm
open PySem PySem.Spec PyProof.Rows L2

/-! ### steps -/
section
variable {C : Cfg} {ad : Nat → Addr} {H H' H2 : Hp} {σ : L2.St} {env env' env2 : Sls}
structure Stp (C : Cfg) (ad : Nat → Addr) (H : Hp) (env : Sls) (H' : Hp) (env' : Sls) : Prop where
  ext : Ext (Ow env ad) H H'
  ow : ∀ a, Ow env' ad a → Ow env ad a
theorem Stp.mo (x : Stp C ad H env H' env') : ∀ a, Mo C env' ad a → Mo C env ad a := fun a h => h.imp id (x.ow a)
theorem Stp.extM (x : Stp C ad H env H' env') : Ext (Mo C env ad) H H' := x.ext.mono fun _ h => .inr h
theorem Stp.refl : Stp C ad H env H env := ⟨.refl, fun _ h => h⟩
theorem Stp.trans (x : Stp C ad H env H' env') (y : Stp C ad H' env' H2 env2) : Stp C ad H env H2 env2 := ⟨x.ext.trans (y.ext.mono x.ow), fun a h => x.ow a (y.ow a h)⟩
theorem Stp.grow (e : Same H H') : Stp C ad H env H' env := ⟨.of_same e, fun _ h => h⟩
theorem Stp.growS {T : List (Addr × Str)} (e : Sme T H H') : Stp C ad H env H' env := ⟨.of_sme e, fun _ h => h⟩
theorem Stp.rp (x : Stp C ad H env H' env') {d : D} {v : V} (h : Rp C.K H (Mo C env ad) d v) : Rp C.K H' (Mo C env' ad) d v := h.ext x.extM fun b z => .inl (x.mo b z)

/-- a value at hand -/
def VR (C : Cfg) (ad : Nat → Addr) (H : Hp) (σ : L2.St) (env : Sls) (d : D) (v : V) : Prop :=
  match d with
  | .own i => σ[i]? = some (some v)
  | d => Rp C.K H (Mo C env ad) d v
theorem VR.of {d : D} {v : V} (h : Rp C.K H (Mo C env ad) d v) : VR C ad H σ env d v := by
  cases h with
  | non => exact .non
  | bl b => exact .bl b
  | int i => exact .int i
  | str y => exact .str y
  | tup h hl hz hi => exact .tup h hl hz hi
  | lst h hm hl hz hi => exact .lst h hm hl hz hi
  | scr h hz => exact .scr h hz
  | exc h hm hd => exact .exc h hm hd
  | dic h hm hl hz hk hi => exact .dic h hm hl hz hk hi
  | dct h hm hl hz hk hi => exact .dct h hm hl hz hk hi
theorem VR.stp (x : Stp C ad H env H' env') {d : D} {v : V} (h : VR C ad H σ env d v) : VR C ad H' σ env' d v := by
  cases d with
  | own i => exact h
  | _ => exact x.rp h

/-- what a value at hand is, for reading -/
def rs (env : Sls) (d : D) : Res D :=
  match d with
  | .own i => (match env[i]? with
    | some (.t d) => .ok d
    | some (.l d) => .ok d
    | some (.p d) => .ok d
    | some (.r d) => .ok d
    | _ => .bad)
  | d => .ok d
/-- for keeping: not an owned cell's name -/
def kp (d : D) : Res D :=
  match d with
  | .own _ => .bad
  | d => .ok d
theorem RE.rs (R : RE C ad H σ env) {d : D} {v : V} (h : VR C ad H σ env d v) {P : D → Prop} {E : Str → Prop} (w : (rs env d).Wp P E) : ∃ d', rs env d = .ok d' ∧ P d' ∧ Ro C.K H (Mo C env ad) d' v := by
  cases d with
  | own i =>
    have h1 : σ[i]? = some (some v) := h
    cases q : env[i]? with
    | none => simp only [Vm.rs, q] at w; exact w.elim
    | some s =>
      have z := R.sl i s q
      rw [h1] at z
      cases s with
      | u => simp only [Vm.rs, q] at w; exact w.elim
      | t d =>
        simp only [Vm.rs, q] at w ⊢
        obtain ⟨x, e, r⟩ := z
        cases e
        exact ⟨d, rfl, w, r.ro⟩
      | l d =>
        simp only [Vm.rs, q] at w ⊢
        obtain ⟨e, r⟩ := z
        cases e
        exact ⟨d, rfl, w, r.ro⟩
      | p d =>
        simp only [Vm.rs, q] at w ⊢
        obtain ⟨e, r⟩ := z
        cases e
        exact ⟨d, rfl, w, r.ro⟩
      | r d =>
        simp only [Vm.rs, q] at w ⊢
        obtain ⟨e, r⟩ := z
        cases e
        exact ⟨d, rfl, w, r.ro⟩
  | _ => exact ⟨_, rfl, w, Rp.ro h⟩
theorem kp_rp {d : D} {v : V} (h : VR C ad H σ env d v) {P : D → Prop} {E : Str → Prop} (w : (kp d).Wp P E) : kp d = .ok d ∧ P d ∧ Rp C.K H (Mo C env ad) d v := by
  cases d with
  | own i => exact w.elim
  | _ => exact ⟨rfl, w, h⟩

/-- a cell's content anew, perhaps with a grown heap -/
def Sl.put (s : Sl) (d : D) : Sl :=
  match s with
  | .l _ => .l d
  | .p _ => .p d
  | s => s
theorem put_own {s : Sl} {d : D} : (s.put d).isOwn = s.isOwn := by cases s <;> rfl
theorem ow_put {i : Nat} {s : Sl} {d : D} (h : env[i]? = some s) : ∀ a, Ow (env.set i (s.put d)) ad a ↔ Ow env ad a := by
  intro a
  have hi : i < env.length := (List.getElem?_eq_some_iff.mp h).1
  constructor
  · rintro ⟨j, t, e, o, rfl⟩
    by_cases hj : i = j
    · subst hj
      rw [List.getElem?_set_self hi] at e
      cases e
      rw [put_own] at o
      exact ⟨i, s, h, o, rfl⟩
    · rw [List.getElem?_set_ne hj] at e
      exact ⟨j, t, e, o, rfl⟩
  · rintro ⟨j, t, e, o, rfl⟩
    by_cases hj : i = j
    · subst hj
      rw [h] at e
      cases e
      exact ⟨i, s.put d, List.getElem?_set_self hi, by rw [put_own]; exact o, rfl⟩
    · exact ⟨j, t, by rw [List.getElem?_set_ne hj]; exact e, o, rfl⟩
theorem mo_put {i : Nat} {s : Sl} {d : D} (h : env[i]? = some s) : ∀ a, Mo C (env.set i (s.put d)) ad a ↔ Mo C env ad a := fun a =>
  ⟨fun z => z.imp id (ow_put h a).mp, fun z => z.imp id (ow_put h a).mpr⟩
theorem RE.put' (R : RE C ad H σ env) {i : Nat} {s : Sl} {d : D} (h : env[i]? = some s) (hmu : s.isMut = true) (k : ∀ b o, H b = some o → b ≠ ad i → (∀ ps, o ≠ .tbl ps) → H' b = some o) (tk : ∀ b, H b ≠ none → H' b ≠ none) (tb : LamX.Tabs C.T H')
    (c : CellOk C.K H' (Mo C env ad) d (ad i)) : RE C ad H' σ (env.set i (s.put d)) ∧ Stp C ad H env H' (env.set i (s.put d)) := by
  have hi : i < env.length := (List.getElem?_eq_some_iff.mp h).1
  have ho : s.isOwn = true := Sl.isMut.own hmu
  obtain ⟨d0, hd0, hσ, c0⟩ := R.cell h ho
  have hM : Ow env ad (ad i) := ⟨i, s, h, ho, rfl⟩
  have xo : Ext (Ow env ad) H H' := by
    refine ⟨fun b o hb hn t => k b o hb (fun e => hn (e ▸ hM)) t, fun b xs hb => k b _ hb (fun e => ?_) fun _ z => (nomatch z), fun b o u hb => k b _ hb (fun e => ?_) fun _ z => (nomatch z), tk⟩
    · rw [e] at hb; exact c0.kind.1 _ hb
    · rw [e] at hb; exact c0.kind.2 _ _ hb
  have x : Ext (Mo C env ad) H H' := xo.mono fun _ z => .inr z
  have mo := mo_put (C := C) (ad := ad) (d := d) h
  refine ⟨⟨by rw [List.length_set]; exact R.len, fun j t e => ?_, fun j j' t t' e e' o o' q => ?_, fun j t e => ?_, fun j t e => ?_, fun b o e n nt => ?_, R.frk, fun b e => tk b (R.trk b e), fun b e => tk b (R.m0 b e), tb⟩, ⟨xo, fun a z => (ow_put h a).mp z⟩⟩
  · by_cases hj : i = j
    · subst hj
      rw [List.getElem?_set_self hi] at e
      have c' : CellOk C.K H' (Mo C (env.set i (s.put d)) ad) d (ad i) := c.ext rfl .refl fun b z => .inl ((mo b).mp z)
      cases s with
      | u => cases ho
      | t _ => cases ho
      | l _ => cases e; exact ⟨by rw [hσ]; rfl, c'⟩
      | p _ => cases e; exact ⟨by rw [hσ]; rfl, c'⟩
      | r _ => cases hmu
    · rw [List.getElem?_set_ne hj] at e
      have q := R.sl j t e
      have mo' : ∀ b, Mo C (env.set i (s.put d)) ad b → Mo C env ad b ∨ H b = none := fun b z => .inl ((mo b).mp z)
      cases t with
      | u => trivial
      | t f =>
        obtain ⟨y, q1, q2⟩ := q
        exact ⟨y, q1, q2.ext x mo'⟩
      | l f =>
        obtain ⟨q1, q2⟩ := q
        refine ⟨q1, q2.ext ?_ x mo'⟩
        cases z : H (ad j) with
        | none => exact absurd z q2.trk
        | some o => exact k _ o z (fun w => hj (R.inj _ _ _ _ h e ho rfl w.symm)) (q2.notbl z)
      | p f =>
        obtain ⟨q1, q2⟩ := q
        refine ⟨q1, q2.ext ?_ x mo'⟩
        cases z : H (ad j) with
        | none => exact absurd z q2.trk
        | some o => exact k _ o z (fun w => hj (R.inj _ _ _ _ h e ho rfl w.symm)) (q2.notbl z)
      | r f =>
        obtain ⟨q1, q2⟩ := q
        refine ⟨q1, q2.ext ?_ x mo'⟩
        cases z : H (ad j) with
        | none => exact absurd z q2.trk
        | some o => exact k _ o z (fun w => hj (R.inj _ _ _ _ h e ho rfl w.symm)) (q2.notbl z)
  · have st : ∀ (m : Nat) (r : Sl), (env.set i (s.put d))[m]? = some r → r.isOwn = true → ∃ r' : Sl, env[m]? = some r' ∧ r'.isOwn = true := fun m r a b => by
      by_cases hm : i = m
      · subst hm
        rw [List.getElem?_set_self hi] at a
        cases a
        exact ⟨s, h, ho⟩
      · rw [List.getElem?_set_ne hm] at a
        exact ⟨r, a, b⟩
    obtain ⟨r, a1, a2⟩ := st _ _ e o
    obtain ⟨r', b1, b2⟩ := st _ _ e' o'
    exact R.inj _ _ _ _ a1 b1 a2 b2 q
  · by_cases hj : i = j
    · subst hj
      rw [List.getElem?_set_self hi] at e
      cases s with
      | u => cases ho
      | t _ => cases ho
      | l f => exact R.loc i f (.inl h)
      | p f => rcases e with e | e <;> cases e
      | r f => cases hmu
    · rw [List.getElem?_set_ne hj] at e
      exact R.loc j t e
  · by_cases hj : i = j
    · subst hj
      rw [List.getElem?_set_self hi] at e
      cases s with
      | u => cases ho
      | t _ => cases ho
      | l f => cases e
      | p f => exact R.par i f h
      | r f => cases hmu
    · rw [List.getElem?_set_ne hj] at e
      exact R.par j t e
  · refine k b o (R.same b o e n nt) (fun z => ?_) nt
    cases s with
    | u => cases ho
    | t _ => cases ho
    | l f => rw [z, (R.loc i f (.inl h)).1] at e; cases e
    | p f =>
      obtain ⟨p1, p2⟩ := R.par i f h
      exact n (by rw [z, p1]; exact p2)
    | r f => cases hmu

theorem RE.put (R : RE C ad H σ env) {i : Nat} {s : Sl} {d : D} (h : env[i]? = some s) (hmu : s.isMut = true) (k : ∀ b o, H b = some o → b ≠ ad i → H' b = some o)
    (c : CellOk C.K H' (Mo C env ad) d (ad i)) : RE C ad H' σ (env.set i (s.put d)) ∧ Stp C ad H env H' (env.set i (s.put d)) := by
  have ho : s.isOwn = true := Sl.isMut.own hmu
  obtain ⟨d0, hd0, hσ, c0⟩ := R.cell h ho
  refine R.put' h hmu (fun b o e n _ => k b o e n) (fun b hb => ?_) (fun p hp => ?_) c
  · by_cases e : b = ad i
    · rw [e]; exact c.trk
    · cases q : H b with
      | none => exact absurd q hb
      | some o => rw [k b o q e]; exact fun z => nomatch z
  · obtain ⟨ps, e1, e2, e3⟩ := R.tabs p hp
    have n : ∀ b o, H b = some o → (∀ vs, o ≠ .lst vs) → (∀ vs, o ≠ .dK vs) → (∀ vs, o ≠ .dT vs) → b ≠ ad i := fun b o e n1 n2 n3 z => by
      rw [z] at e
      cases d0 with
      | lst ds => obtain ⟨_, vs, q, _⟩ := c0; rw [q] at e; cases e; exact n1 _ rfl
      | dic ds => obtain ⟨_, vs, q, _⟩ := c0; rw [q] at e; cases e; exact n2 _ rfl
      | dct ds => obtain ⟨_, vs, q, _⟩ := c0; rw [q] at e; cases e; exact n3 _ rfl
      | _ => exact c0.elim
    refine ⟨ps, k _ _ e1 (n _ _ e1 (fun _ z => nomatch z) (fun _ z => nomatch z) fun _ z => nomatch z), e2, fun pos cv hc => ?_⟩
    obtain ⟨c', q1, q2⟩ := e3 pos cv hc
    exact ⟨c', q1, k _ _ q2 (n _ _ q2 (fun _ z => by unfold LamX.CodeO at z; cases z) (fun _ z => by unfold LamX.CodeO at z; cases z) fun _ z => by unfold LamX.CodeO at z; cases z)⟩

/-- a slot is set to data -/
def notPar (env : Sls) (i : Nat) : Bool :=
  match env[i]? with
  | some (.p _) => false
  | some _ => true
  | none => false
theorem ow_set {i : Nat} {s : Sl} (hs : s.isOwn = false) : ∀ a, Ow (env.set i s) ad a → Ow env ad a := by
  rintro a ⟨j, t, e, o, rfl⟩
  by_cases hj : i = j
  · subst hj
    rw [List.getElem?_set] at e
    rw [if_pos rfl] at e
    split at e
    · cases e; rw [hs] at o; cases o
    · cases e
  · rw [List.getElem?_set_ne hj] at e
    exact ⟨j, t, e, o, rfl⟩
theorem mo_set {i : Nat} {s : Sl} (hs : s.isOwn = false) : ∀ a, Mo C (env.set i s) ad a → Mo C env ad a := fun a z => z.imp id (ow_set hs a)
/-- .. a slot is set, the heap stays -/
theorem RE.setS (R : RE C ad H σ env) {i : Nat} {s : Sl} {v : Option V} (hs : s.isOwn = false) (hv : SlOk C H (Mo C env ad) v s (ad i)) : RE C ad H (σ.set i v) (env.set i s) := by
  have mo := mo_set (C := C) (ad := ad) (env := env) (i := i) hs
  have mo' : ∀ b, Mo C (env.set i s) ad b → Mo C env ad b ∨ H b = none := fun b z => .inl (mo b z)
  have low : ∀ v s a, SlOk C H (Mo C env ad) v s a → SlOk C H (Mo C (env.set i s) ad) v s a → True := fun _ _ _ _ _ => True.intro
  have down : ∀ v t a, SlOk C H (Mo C env ad) v t a → SlOk C H (Mo C (env.set i s) ad) v t a := fun v t a z => by
    cases t with
    | u => trivial
    | t f => obtain ⟨y, q1, q2⟩ := z; exact ⟨y, q1, q2.ext .refl mo'⟩
    | l f => obtain ⟨q1, q2⟩ := z; exact ⟨q1, q2.ext rfl .refl mo'⟩
    | p f => obtain ⟨q1, q2⟩ := z; exact ⟨q1, q2.ext rfl .refl mo'⟩
    | r f => obtain ⟨q1, q2⟩ := z; exact ⟨q1, q2.ext rfl .refl mo'⟩
  have old : ∀ (m : Nat) (r : Sl), (env.set i s)[m]? = some r → r.isOwn = true → m ≠ i ∧ env[m]? = some r := fun m r a b => by
    by_cases hm : i = m
    · subst hm
      rw [List.getElem?_set, if_pos rfl] at a
      split at a
      · cases a; rw [hs] at b; cases b
      · cases a
    · rw [List.getElem?_set_ne hm] at a
      exact ⟨fun z => hm z.symm, a⟩
  refine ⟨by rw [List.length_set, List.length_set]; exact R.len, fun j t e => ?_, fun j j' t t' e e' o o' q => ?_, fun j t e => R.loc j t (e.imp (fun e => (old j _ e rfl).2) fun e => (old j _ e rfl).2), fun j t e => R.par j t (old j _ e rfl).2, R.same, R.frk, R.trk, R.m0, R.tabs⟩
  · by_cases hj : i = j
    · subst hj
      rw [List.getElem?_set, if_pos rfl] at e
      split at e
      · rename_i hi
        cases e
        rw [List.getElem?_set_self (by rw [R.len]; exact hi)]
        exact down _ _ _ hv
      · cases e
    · rw [List.getElem?_set_ne hj] at e ⊢
      exact down _ _ _ (R.sl j t e)
  · exact R.inj _ _ _ _ (old _ _ e o).2 (old _ _ e' o').2 o o' q
/-- a slot gets a new cell -/
def adSet (ad : Nat → Addr) (i : Nat) (a : Addr) : Nat → Addr := fun j => if j = i then a else ad j
theorem RE.setL {a : Addr} (R : RE (C.add a) ad H σ env) {i : Nat} {d : D} (h0 : C.H0 a = none) (hn : ¬ Mo C env ad a) (hi : i < env.length)
    (c : CellOk C.K H (Mo (C.add a) env ad) d a) : RE C (adSet ad i a) H (σ.set i (some (.ref a))) (env.set i (.l d)) := by
  have mo : ∀ b, Mo C (env.set i (.l d)) (adSet ad i a) b → Mo (C.add a) env ad b := by
    rintro b (z | ⟨j, t, e, o, rfl⟩)
    · exact .inl (.inl z)
    · by_cases hj : j = i
      · exact .inl (.inr (by unfold adSet; rw [if_pos hj]))
      · rw [List.getElem?_set_ne (Ne.symm hj)] at e
        exact .inr ⟨j, t, e, o, by unfold adSet; rw [if_neg hj]⟩
  refine ⟨by rw [List.length_set, List.length_set]; exact R.len, fun j t e => ?_, fun j j' t t' e e' o o' q => ?_, fun j t e => ?_, fun j t e => ?_, R.same, R.frk, R.trk, fun b z => R.m0 b (.inl z), R.tabs⟩
  · by_cases hj : j = i
    · subst hj
      rw [List.getElem?_set_self hi] at e
      cases e
      rw [List.getElem?_set_self (by rw [R.len]; exact hi)]
      have ea : adSet ad j a j = a := by unfold adSet; rw [if_pos rfl]
      rw [ea]
      exact ⟨rfl, c.ext rfl .refl fun b z => .inl (mo b z)⟩
    · rw [List.getElem?_set_ne (Ne.symm hj)] at e ⊢
      have ea : adSet ad i a j = ad j := by unfold adSet; rw [if_neg hj]
      rw [ea]
      exact SlOk.ext (C := C) (R.sl j t e) (fun _ => rfl) .refl fun b z => .inl (mo b z)
  · by_cases hj : j = i
    · by_cases hj' : j' = i
      · rw [hj, hj']
      · rw [List.getElem?_set_ne (Ne.symm hj')] at e'
        unfold adSet at q
        rw [if_pos hj, if_neg hj'] at q
        exact absurd (.inr ⟨j', t', e', o', q.symm⟩) hn
    · rw [List.getElem?_set_ne (Ne.symm hj)] at e
      by_cases hj' : j' = i
      · unfold adSet at q
        rw [if_neg hj, if_pos hj'] at q
        exact absurd (.inr ⟨j, t, e, o, q⟩) hn
      · rw [List.getElem?_set_ne (Ne.symm hj')] at e'
        unfold adSet at q
        rw [if_neg hj, if_neg hj'] at q
        exact R.inj _ _ _ _ e e' o o' q
  · by_cases hj : j = i
    · unfold adSet; rw [if_pos hj]; exact ⟨h0, fun z => hn (.inl z)⟩
    · rw [List.getElem?_set_ne (Ne.symm hj)] at e
      unfold adSet; rw [if_neg hj]
      exact ⟨(R.loc j t e).1, fun z => (R.loc j t e).2 (.inl z)⟩
  · by_cases hj : j = i
    · subst hj
      rw [List.getElem?_set_self hi] at e
      cases e
    · rw [List.getElem?_set_ne (Ne.symm hj)] at e
      have ea : adSet ad i a j = ad j := by unfold adSet; rw [if_neg hj]
      rw [ea]
      exact R.par j t e
end
end Vm
end
section
set_option maxRecDepth 100000
set_option maxHeartbeats 4000000
/-! Vm, part C: the judgements, names, constants, operators, tests, calls of built-ins, displays. -/
namespace Vm
open PySem PySem.Spec PyProof.Rows L2
/-! the guards of repr: none is under way in any def's surroundings; so room, promise and call are had anew with that said -/
structure Room (k : Nat) (A : Around) : Prop extends L2.Room k A where
  gu : A.guards = some []
instance {k : Nat} {A : Around} : CoeOut (Room k A) (L2.Room k A) := ⟨fun r => r.toRoom⟩
theorem Room.mono {j k : Nat} {A : Around} (r : Room k A) (h : j ≤ k) : Room j A := ⟨r.toRoom.mono h, r.gu⟩
theorem Room.deeper {k : Nat} {A : Around} (r : Room (k + 1) A) (env : Env) : Room k (A.deeper env) := ⟨r.toRoom.deeper env, r.gu⟩
theorem hu_of {A : Around} {k : Nat} (r : Room k A) : A.units + 1 < cLine := L2.hu_of r.toRoom
structure FnOk (P : Program) (w : World) (K : PySem.W.Frag) (mg : Str → Option Value) (base : Heap) (CX : CXT) (k : Nat) (f : Addr) (fd : FuncData) (ps : List Str) (sp : Sp) : Prop where
  len : ∀ vs H Q E, sp vs H Q E → vs.length = ps.length
  run : ∀ {A : Around} {outer : List Env} {s : Shared} {H : Hp} {args : Args} {us : List Value} {vs : List V} {Q : VK} {E : XK}, Room k A → Env0 P w K mg base A outer s H → BindsTo s fd args (ps.zip us) → Vals vs us → sp vs H Q E →
    codeAny (model P w) A (.call (.ref f) args) (CR CX outer P w H s Q E) s
section
variable {P : Program} {w : World} {K : PySem.W.Frag} {mg : Str → Option Value} {base : Heap} {CX : CXT} {f : Addr} {fd : FuncData} {ps : List Str} {sp : Sp}
theorem FnOk.mono {j k : Nat} (F : FnOk P w K mg base CX j f fd ps sp) (h : j ≤ k) : FnOk P w K mg base CX k f fd ps sp := ⟨F.len, fun r => F.run (r.mono h)⟩
theorem FnOk.imp {k : Nat} {sp' : Sp} (F : FnOk P w K mg base CX k f fd ps sp) (h : ∀ vs H Q E, sp' vs H Q E → sp vs H Q E) : FnOk P w K mg base CX k f fd ps sp' := ⟨fun _ _ _ _ q => F.len _ _ _ _ (h _ _ _ _ q), fun r e b v q => F.run r e b v (h _ _ _ _ q)⟩
/-- a def keeps its promise: its body's reading, at the parameters' values, meets it -/
theorem fn_of {name qual : Str} {params : Arguments} {body : List Stmt} {scope : Scope} {dV kV doc pm cdv ct oc : Value} {an od : Option Addr} {osl : Array (Option Value)} {N : List Str} {k : Nat}
    (lk : K.lookup f = some ⟨oc, od, .func (PySem.W.fnOf name qual params body scope dV kV doc pm an cdv ct), osl⟩) (hcd : PySem.W.codeIn K cdv qual = true) (S : FnScope N ps scope) (len : ∀ vs H Q E, sp vs H Q E → vs.length = ps.length)
    (hbody : ∀ (A : Around) (outer : List Env) (s : Shared) (H : Hp) (vs : List V) (Q : VK) (E : XK), Room k (A.deeper (envOfC qual scope s.heap.objs.size f cdv)) → sp vs H Q E →
      ∃ t, PSs (cxOf CX P w K mg base N qual scope f cdv A outer s H E) body t ∧ t { nx := fun _ H' => Q .non H', rt := Q } (L2.start N vs) H) :
    FnOk P w K mg base CX (k + 1) f (PySem.W.fnOf name qual params body scope dV kV doc pm an cdv ct) ps sp where
  len := len
  run {A outer s H args us vs Q E} hr e0 hb rv h := by
    have kin : ∀ b o, base.get? b = some o → s.heap.get? b = some o := fun b o e => (e0.bs b o e).1
    have KX : K.In s.heap := e0.mod.kin.keeps kin
    have kd : ∀ y ∈ ps.zip us, scope.names.lookup y.1 = some .local ∨ (scope.names.lookup y.1 = some .cell ∧ ((cellsFrom (s.heap.objs.size + 1) scope.names []).lookup y.1).isSome = true) := fun y hy =>
      (S.par y.1 (List.of_mem_zip hy).1).imp id fun q => ⟨q, PySem.W.cellsFrom_some _ _ _ (.inl q)⟩
    refine codeAny_call_function hr.depth (KX _ _ lk) rfl S.co S.gen rfl (PySem.W.codeRec_of KX hcd) (hb _ _ _ _ (wpAny_newFunctionEnv_cells S.kind kd fun env ee s1 y => ?_))
    subst ee
    obtain ⟨t, pt, ht⟩ := hbody A outer s H vs Q E (hr.deeper _) h
    refine ⟨(e0.mod.nolimit.keeps kin).keeps y.toInCall.keep, codeAny_func (wpAny_mono (pt.run [] s1 _ H _ (inv_start S hr.hd e0 (len _ _ _ _ h) rv y) ht) (fun fl s' q => ?_) fun _ _ q => q)⟩
    cases fl with
    | next => obtain ⟨_, H', J, q⟩ := q; exact ⟨.non, H', J.os, J.bare, J.base, J.hok, rfl, q⟩
    | ret u => obtain ⟨v, _, H', J, r, q⟩ := q; exact ⟨v, H', J.os, J.bare, J.base, J.hok, r, q⟩
    | brk => obtain ⟨_, _, _, q⟩ := q; exact q.elim
    | cont => obtain ⟨_, _, _, q⟩ := q; exact q.elim
theorem okX {x qual : Str} {st : Stmt} {N : List Str} {k : Nat} (F : Fun K x qual st f fd) (S : FnScope N ps (defScope st)) (len : ∀ vs H Q E, sp vs H Q E → vs.length = ps.length)
    (hbody : ∀ (cdv : Value) (A : Around) (outer : List Env) (s : Shared) (H : Hp) (vs : List V) (Q : VK) (E : XK), Room k (A.deeper (envOfC qual (defScope st) s.heap.objs.size f cdv)) → sp vs H Q E →
      ∃ t, PSs (cxOf CX P w K mg base N qual (defScope st) f cdv A outer s H E) (defBody st) t ∧ t { nx := fun _ H' => Q .non H', rt := Q } (L2.start N vs) H) : FnOk P w K mg base CX (k + 1) f fd ps sp := by
  obtain ⟨_, _, _, _, _, _, _, _, _, rfl, lk, hcd⟩ := F.ex
  exact fn_of lk hcd S len fun A outer s H vs Q E hr h => hbody _ A outer s H vs Q E hr h
end
section
variable {X : Cx} {CX : CXT} {k : Nat} {f : Addr} {fd : FuncData} {ps : List Str} {sp : Sp} {x : Str} {p pos : Pos} {e : Expr} {es : List Expr} {t : TA}
theorem run_vals {pins : List (Addr × Obj)} {σ : L2.St} {H : Hp} {s : Shared} {Q : VK} {E : XK} {us ds : List Value} {vs : List V} (F : FnOk X.prog X.w X.K X.mg X.base CX k f fd ps sp) (hr : Room k X.A) (hb : Binds X.K fd ps ds) (hx : PassesAt CX X σ E)
    (I : Inv X pins σ H s) (r : Vals vs (us ++ ds)) (h : sp vs H Q E) : wpAny (model X.prog X.w) X.A (call (.ref f) us) (EP X pins σ Q) X.xe s := by
  refine wpAny_call (codeAny_mono (F.run hr I.env0 (hb s us I.kIn (by rw [← r.length]; exact F.len _ _ _ _ h)) r h) fun y s' q => ?_)
  rcases y with e | fl
  · exact hx pins H s e s' I q
  · cases fl with
    | ret u => exact I.after q
    | next => exact q.elim
    | brk => exact q.elim
    | cont => exact q.elim
theorem pe_callS {E : L2.St → XK} (F : FnOk X.prog X.w X.K X.mg X.base CX k f fd ps sp) (hr : Room k X.A) (hg : Gl X x) (hm : X.mg x = some (.ref f)) (hk : PySem.W.keepIn X.K (.ref f) = true) (hb : Binds X.K fd ps []) (hx : ∀ σ, PassesAt CX X σ (E σ))
    (ha : PA X (e :: es) t) (hdb : (x == ("__debug__" : Str)) = false := by decide) (he : starEach (e :: es) X.env = (false, eval e X.env) :: starEach es X.env := by rfl) (hpl : (backTo pos (starEach es X.env)).any (·.1) = false := by rfl) :
    PE X (.Call (.Name x p) (e :: es) [] pos) (tCallS sp E t) :=
  ⟨fun pins s σ H Q I h => wpAny_Call_Name_kw (ld_glob I hg hm (PySem.W.callWith_K (h₀ := X.base) I.ok.mod.kin hk (thn (ha.run pos pins s σ H _ I h) fun us s1 ⟨vs, H1, I1, r, q⟩ => ⟨I1.kIn, run_vals (ds := []) F hr hb (hx σ) I1 (by rw [List.append_nil]; exact r) q⟩) he hpl) hdb)⟩
theorem pe_call0 {E : XK} {dvs : List V} {ds : List Value} (F : FnOk X.prog X.w X.K X.mg X.base CX k f fd ps sp) (hr : Room k X.A) (hg : Gl X x) (hm : X.mg x = some (.ref f)) (hk : PySem.W.keepIn X.K (.ref f) = true) (hb : Binds X.K fd ps ds) (hd : Vals dvs ds) (hx : Passes CX X E)
    (hdb : (x == ("__debug__" : Str)) = false := by decide) : PE X (.Call (.Name x p) [] [] pos) (tCall sp dvs E tNil) :=
  ⟨fun pins s σ H Q I h => wpAny_Call_Name_kw (ld_glob I hg hm (PySem.W.callWith_K0 I.kIn hk (run_vals (us := []) F hr hb (fun pins H s e s' I q => hx pins σ H s e s' I q) I hd h)) hdb)⟩
end

/-- the def's surroundings -/
structure Gd (X : Cx) (C : Cfg) (W : WX) (k : Nat) : Prop where
  kE : X.K = C.K
  mE : X.mg = C.mg
  calm : X.calm = true
  tk : Takes X W
  room : Room k X.A
  nd : X.N.Nodup

def Er (C : Cfg) (ad : Nat → Addr) (σ : L2.St) (W : WX) (c : Str) : Prop := ∀ cls dd H' env', C.mg c = some cls → RE C ad H' σ env' → W cls dd σ H'

structure EM (X : Cx) (C : Cfg) (W : WX) (e : Expr) (t : TE) (m : Ev) : Prop where
  pe : PE X e t
  sn : ∀ (M0 : Addr → Prop) (ad : Nat → Addr) (σ : L2.St) (H : Hp) (env : Sls) (Q : VK), RE (C.w M0) ad H σ env →
    (m env).Wp (fun r => ∀ v H', RE (C.w M0) ad H' σ r.2 → Stp (C.w M0) ad H env H' r.2 → VR (C.w M0) ad H' σ r.2 r.1 v → Q v H') (Er (C.w M0) ad σ W) → t σ H Q
/-- a new list or dict -/
structure EF (X : Cx) (C : Cfg) (W : WX) (e : Expr) (t : TE) (m : Ev) : Prop where
  pe : PE X e t
  sn : ∀ (M0 : Addr → Prop) (ad : Nat → Addr) (σ : L2.St) (H : Hp) (env : Sls) (Q : VK), RE (C.w M0) ad H σ env →
    (m env).Wp (fun r => ∀ a H', H a = none → RE ((C.w M0).add a) ad H' σ r.2 → Stp (C.w M0) ad H env H' r.2 → CellOk C.K H' (Mo ((C.w M0).add a) r.2 ad) r.1 a → Q (.ref a) H') (Er (C.w M0) ad σ W) → t σ H Q
structure TM (X : Cx) (C : Cfg) (W : WX) (e : Expr) (t : TT) (m : Ev1) : Prop where
  pe : PT X e t
  sn : ∀ (M0 : Addr → Prop) (ad : Nat → Addr) (σ : L2.St) (H : Hp) (env : Sls) (Q : Bool → Hp → Prop), RE (C.w M0) ad H σ env →
    (m env).Wp (fun r => ∀ H', RE (C.w M0) ad H' σ r.2 → Stp (C.w M0) ad H env H' r.2 → Q r.1 H') (Er (C.w M0) ad σ W) → t σ H Q
/-- a test of and, or -/
structure WM (X : Cx) (C : Cfg) (W : WX) (e : Expr) (t : TT) (m : Ev1) : Prop where
  pe : PW X e t
  sn : ∀ (M0 : Addr → Prop) (ad : Nat → Addr) (σ : L2.St) (H : Hp) (env : Sls) (Q : Bool → Hp → Prop), RE (C.w M0) ad H σ env →
    (m env).Wp (fun r => ∀ H', RE (C.w M0) ad H' σ r.2 → Stp (C.w M0) ad H env H' r.2 → Q r.1 H') (Er (C.w M0) ad σ W) → t σ H Q
/-- the arguments' values at hand -/
structure VRL (C : Cfg) (ad : Nat → Addr) (H : Hp) (σ : L2.St) (env : Sls) (ds : List D) (vs : List V) : Prop where
  len : vs.length = ds.length
  item : ∀ (i : Nat) (d : D) (v : V), ds[i]? = some d → vs[i]? = some v → VR C ad H σ env d v
structure AM (X : Cx) (C : Cfg) (W : WX) (es : List Expr) (t : TA) (m : Evs) : Prop where
  pe : PA X es t
  sn : ∀ (M0 : Addr → Prop) (ad : Nat → Addr) (σ : L2.St) (H : Hp) (env : Sls) (Q : List V → Hp → Prop), RE (C.w M0) ad H σ env →
    (m env).Wp (fun r => ∀ vs H', RE (C.w M0) ad H' σ r.2 → Stp (C.w M0) ad H env H' r.2 → VRL (C.w M0) ad H' σ r.2 r.1 vs → Q vs H') (Er (C.w M0) ad σ W) → t σ H Q

section
variable {C : Cfg} {ad : Nat → Addr} {H H' H2 : Hp} {σ : L2.St} {env env' env2 : Sls} {ds : List D} {vs : List V}
theorem VRL.nil : VRL C ad H σ env [] [] := ⟨rfl, fun i d v e _ => by simp at e⟩
theorem VRL.cons {d : D} {v : V} (h : VR C ad H σ env d v) (r : VRL C ad H σ env ds vs) : VRL C ad H σ env (d :: ds) (v :: vs) := by
  refine ⟨by simp [r.len], fun i e f h1 h2 => ?_⟩
  cases i with
  | zero => simp at h1 h2; subst h1 h2; exact h
  | succ i => exact r.item i e f (by simpa using h1) (by simpa using h2)
theorem VRL.nil_inv (r : VRL C ad H σ env [] vs) : vs = [] := List.length_eq_zero_iff.mp r.len
theorem VRL.cons_inv {d : D} (r : VRL C ad H σ env (d :: ds) vs) : ∃ v ws, vs = v :: ws ∧ VR C ad H σ env d v ∧ VRL C ad H σ env ds ws := by
  cases vs with
  | nil => have := r.len; simp at this
  | cons v ws => exact ⟨v, ws, rfl, r.item 0 d v rfl rfl, by have := r.len; simpa using this, fun i e f h1 h2 => r.item (i + 1) e f (by simpa using h1) (by simpa using h2)⟩
/-- values for reading -/
structure RoL (K : PySem.W.Frag) (H : Hp) (M : Addr → Prop) (ds : List D) (vs : List V) : Prop where
  len : vs.length = ds.length
  item : ∀ (i : Nat) (d : D) (v : V), ds[i]? = some d → vs[i]? = some v → Ro K H M d v
theorem RoL.nil {K : PySem.W.Frag} {M : Addr → Prop} : RoL K H M [] [] := ⟨rfl, fun i d v e _ => by simp at e⟩
theorem RoL.cons {K : PySem.W.Frag} {M : Addr → Prop} {d : D} {v : V} (h : Ro K H M d v) (r : RoL K H M ds vs) : RoL K H M (d :: ds) (v :: vs) := by
  refine ⟨by simp [r.len], fun i e f h1 h2 => ?_⟩
  cases i with
  | zero => simp at h1 h2; subst h1 h2; exact h
  | succ i => exact r.item i e f (by simpa using h1) (by simpa using h2)
theorem RoL.nil_inv {K : PySem.W.Frag} {M : Addr → Prop} (r : RoL K H M [] vs) : vs = [] := List.length_eq_zero_iff.mp r.len
theorem RoL.cons_inv {K : PySem.W.Frag} {M : Addr → Prop} {d : D} (r : RoL K H M (d :: ds) vs) : ∃ v ws, vs = v :: ws ∧ Ro K H M d v ∧ RoL K H M ds ws := by
  cases vs with
  | nil => have := r.len; simp at this
  | cons v ws => exact ⟨v, ws, rfl, r.item 0 d v rfl rfl, by have := r.len; simpa using this, fun i e f h1 h2 => r.item (i + 1) e f (by simpa using h1) (by simpa using h2)⟩
theorem RoL.one {K : PySem.W.Frag} {M : Addr → Prop} {d : D} (r : RoL K H M [d] vs) : ∃ v, vs = [v] ∧ Ro K H M d v := by
  obtain ⟨v, ws, rfl, h, q⟩ := r.cons_inv
  rw [q.nil_inv]
  exact ⟨v, rfl, h⟩
theorem RoL.two {K : PySem.W.Frag} {M : Addr → Prop} {d e : D} (r : RoL K H M [d, e] vs) : ∃ v u, vs = [v, u] ∧ Ro K H M d v ∧ Ro K H M e u := by
  obtain ⟨v, ws, rfl, h, q⟩ := r.cons_inv
  obtain ⟨u, rfl, h2⟩ := q.one
  exact ⟨v, u, rfl, h, h2⟩
def rsL (env : Sls) : List D → Res (List D)
  | [] => .ok []
  | d :: ds => do
    let x ← rs env d
    let xs ← rsL env ds
    pure (x :: xs)
def kpL : List D → Res (List D)
  | [] => .ok []
  | d :: ds => do
    let x ← kp d
    let xs ← kpL ds
    pure (x :: xs)
theorem RE.rsL (R : RE C ad H σ env) : ∀ {ds : List D} {vs : List V}, VRL C ad H σ env ds vs → ∀ {P : List D → Prop} {E : Str → Prop}, (rsL env ds).Wp P E → ∃ d', P d' ∧ RoL C.K H (Mo C env ad) d' vs
  | [], vs, r, P, E, w => by rw [r.nil_inv]; exact ⟨[], w, .nil⟩
  | d :: ds, vs, r, P, E, w => by
    obtain ⟨v, ws, rfl, h, q⟩ := r.cons_inv
    unfold Vm.rsL at w
    rw [wp_bind] at w
    obtain ⟨d', _, w1, h1⟩ := R.rs h w
    rw [wp_bind] at w1
    obtain ⟨ds', w2, h2⟩ := RE.rsL R q w1
    exact ⟨d' :: ds', w2, .cons h1 h2⟩
theorem kpL_rp : ∀ {ds : List D} {vs : List V}, VRL C ad H σ env ds vs → ∀ {P : List D → Prop} {E : Str → Prop}, (kpL ds).Wp P E → P ds ∧ RpL C.K H (Mo C env ad) ds vs
  | [], vs, r, P, E, w => by rw [r.nil_inv]; exact ⟨w, .nil⟩
  | d :: ds, vs, r, P, E, w => by
    obtain ⟨v, ws, rfl, h, q⟩ := r.cons_inv
    unfold kpL at w
    rw [wp_bind] at w
    obtain ⟨_, w1, h1⟩ := kp_rp h w
    rw [wp_bind] at w1
    obtain ⟨w2, h2⟩ := kpL_rp q w1
    exact ⟨w2, .cons h1 h2⟩
end

section
variable {X : Cx} {C : Cfg} {W : WX} {k : Nat} {a b e : Expr} {es rest : List Expr} {ta tb tc : TE} {ma mb mc m : Ev} {pos : Pos}
/-- what follows goes on with the error's wish -/
theorem EM.sn' (h : EM X C W e ta m) {M0 : Addr → Prop} {ad : Nat → Addr} {σ : L2.St} {H : Hp} {env : Sls} {Q : VK} {α : Type} {f : D × Sls → Res α} {P : α → Prop} (R : RE (C.w M0) ad H σ env)
    (w : (m env >>= f).Wp P (Er (C.w M0) ad σ W)) (hq : ∀ (r : D × Sls) v H', RE (C.w M0) ad H' σ r.2 → Stp (C.w M0) ad H env H' r.2 → VR (C.w M0) ad H' σ r.2 r.1 v → (f r).Wp P (Er (C.w M0) ad σ W) → Q v H') : ta σ H Q := by
  rw [wp_bind] at w
  exact h.sn M0 ad σ H env Q R (w.imp (fun r z v H' R' S' V' => hq r v H' R' S' V' z) fun _ z => z)
theorem TM.sn' {t : TT} {m : Ev1} (h : TM X C W e t m) {M0 : Addr → Prop} {ad : Nat → Addr} {σ : L2.St} {H : Hp} {env : Sls} {Q : Bool → Hp → Prop} {α : Type} {f : Bool × Sls → Res α} {P : α → Prop} (R : RE (C.w M0) ad H σ env)
    (w : (m env >>= f).Wp P (Er (C.w M0) ad σ W)) (hq : ∀ (r : Bool × Sls) H', RE (C.w M0) ad H' σ r.2 → Stp (C.w M0) ad H env H' r.2 → (f r).Wp P (Er (C.w M0) ad σ W) → Q r.1 H') : t σ H Q := by
  rw [wp_bind] at w
  exact h.sn M0 ad σ H env Q R (w.imp (fun r z H' R' S' => hq r H' R' S' z) fun _ z => z)
theorem WM.sn' {t : TT} {m : Ev1} (h : WM X C W e t m) {M0 : Addr → Prop} {ad : Nat → Addr} {σ : L2.St} {H : Hp} {env : Sls} {Q : Bool → Hp → Prop} {α : Type} {f : Bool × Sls → Res α} {P : α → Prop} (R : RE (C.w M0) ad H σ env)
    (w : (m env >>= f).Wp P (Er (C.w M0) ad σ W)) (hq : ∀ (r : Bool × Sls) H', RE (C.w M0) ad H' σ r.2 → Stp (C.w M0) ad H env H' r.2 → (f r).Wp P (Er (C.w M0) ad σ W) → Q r.1 H') : t σ H Q := by
  rw [wp_bind] at w
  exact h.sn M0 ad σ H env Q R (w.imp (fun r z H' R' S' => hq r H' R' S' z) fun _ z => z)
theorem AM.sn' {t : TA} {m : Evs} (h : AM X C W es t m) {M0 : Addr → Prop} {ad : Nat → Addr} {σ : L2.St} {H : Hp} {env : Sls} {Q : List V → Hp → Prop} {α : Type} {f : List D × Sls → Res α} {P : α → Prop} (R : RE (C.w M0) ad H σ env)
    (w : (m env >>= f).Wp P (Er (C.w M0) ad σ W)) (hq : ∀ (r : List D × Sls) vs H', RE (C.w M0) ad H' σ r.2 → Stp (C.w M0) ad H env H' r.2 → VRL (C.w M0) ad H' σ r.2 r.1 vs → (f r).Wp P (Er (C.w M0) ad σ W) → Q vs H') : t σ H Q := by
  rw [wp_bind] at w
  exact h.sn M0 ad σ H env Q R (w.imp (fun r z v H' R' S' V' => hq r v H' R' S' V' z) fun _ z => z)
theorem em_of_ef (h : EF X C W e ta m) : EM X C W e ta m := by
  refine ⟨h.pe, fun M0 ad σ H env Q R w => h.sn M0 ad σ H env Q R (w.imp (fun r z a H' hn R' S' c => ?_) fun _ z => z)⟩
  refine z (.ref a) H' R'.unadd S' (VR.of ?_)
  have hm : ¬ Mo (C.w M0) r.2 ad a := fun q => R.mfree hn (S'.mo a q)
  have lo : ∀ b, Mo (C.w M0) r.2 ad b → Mo ((C.w M0).add a) r.2 ad b := fun b q => mo_add.mpr (.inl q)
  cases hd : r.1 with
  | lst ds =>
    rw [hd] at c
    obtain ⟨q1, vs, q2, q3⟩ := c
    exact .lst' q2 hm q1 (q3.less lo)
  | dic ds =>
    rw [hd] at c
    obtain ⟨q1, vs, q2, q3⟩ := c
    exact .dic (.inl q2) hm q3.len q1 q3.key fun i p q e f => (q3.item i p q e f).less lo
  | dct ds =>
    rw [hd] at c
    obtain ⟨q1, vs, q2, q3⟩ := c
    exact .dct (.inl q2) hm q3.len q1 q3.key fun i p q e f => (q3.item i p q e f).less lo
  | _ => rw [hd] at c; exact c.elim

/-! ### names, constants -/
def mVar (i : Nat) : Ev := fun env =>
  match env[i]? with
  | some (.t d) => .ok (d, env)
  | some (.l _) => .ok (.own i, env)
  | some (.p _) => .ok (.own i, env)
  | some (.r _) => .ok (.own i, env)
  | _ => .bad
theorem em_var (i : Nat) {x : Str} (hN : X.N[i]? = some x := by rfl) (hv : Vis X.env.scope x := by first | exact Or.inl rfl | exact Or.inr (Or.inl rfl) | exact Or.inr (Or.inr rfl)) (hd : (x == ("__debug__" : Str)) = false := by decide)
    (hcd : (x == ("__classdict__" : Str)) = false := by decide) : EM X C W (.Name x pos) (tVar i) (mVar i) := by
  refine ⟨pe_var hN hv hd hcd, fun M0 ad σ H env Q R w => ?_⟩
  unfold mVar at w
  cases q : env[i]? with
  | none => rw [q] at w; exact w.elim
  | some s =>
    rw [q] at w
    have z := R.sl i s q
    have hi : i < σ.length := by rw [R.len]; exact (List.getElem?_eq_some_iff.mp q).1
    have e : σ[i]? = some σ[i] := List.getElem?_eq_getElem hi
    cases s with
    | u => exact w.elim
    | t d =>
      obtain ⟨x, e1, r⟩ := z
      rw [e] at e1
      have e2 : σ[i] = some x := e1
      exact ⟨x, by rw [e, e2], w x H R .refl (.of r)⟩
    | l d =>
      obtain ⟨e1, r⟩ := z
      rw [e] at e1
      have e2 : σ[i] = some (.ref (ad i)) := e1
      exact ⟨.ref (ad i), by rw [e, e2], w _ H R .refl (by show σ[i]? = _; rw [e, e2])⟩
    | p d =>
      obtain ⟨e1, r⟩ := z
      rw [e] at e1
      have e2 : σ[i] = some (.ref (ad i)) := e1
      exact ⟨.ref (ad i), by rw [e, e2], w _ H R .refl (by show σ[i]? = _; rw [e, e2])⟩
    | r d =>
      obtain ⟨e1, r⟩ := z
      rw [e] at e1
      have e2 : σ[i] = some (.ref (ad i)) := e1
      exact ⟨.ref (ad i), by rw [e, e2], w _ H R .refl (by show σ[i]? = _; rw [e, e2])⟩
/-- an own cell of the def, given away for good: from then on it is data -/
def mGive (i : Nat) : Ev := fun env =>
  match env[i]? with
  | some (.l d) => .ok (d, env.set i (.t d))
  | _ => .bad
theorem RE.give {ad : Nat → Addr} {σ : L2.St} {H : Hp} {env : Sls} (R : RE C ad H σ env) {i : Nat} {d : D} (h : env[i]? = some (.l d)) :
    RE C ad H σ (env.set i (.t d)) ∧ Stp C ad H env H (env.set i (.t d)) ∧ Rp C.K H (Mo C (env.set i (.t d)) ad) d (.ref (ad i)) ∧ σ[i]? = some (some (.ref (ad i))) := by
  have hi : i < env.length := (List.getElem?_eq_some_iff.mp h).1
  obtain ⟨d0, hd0, hσ, c0⟩ := R.cell h rfl
  have e0 : d0 = d := by
    rcases hd0 with z | z | z
    · cases z; rfl
    · cases z
    · cases z
  subst e0
  have mo := mo_set (C := C) (ad := ad) (env := env) (i := i) (s := .t d0) rfl
  have hnot : ¬ Mo C (env.set i (.t d0)) ad (ad i) := by
    rintro (q | ⟨j, t, e, o, q⟩)
    · exact (R.loc i d0 (.inl h)).2 q
    · by_cases hj : i = j
      · subst hj
        rw [List.getElem?_set_self hi] at e
        cases e
        cases o
      · rw [List.getElem?_set_ne hj] at e
        exact hj (R.inj _ _ _ _ h e rfl o q.symm)
  have low : ∀ b, Mo C (env.set i (.t d0)) ad b → Mo C env ad b := mo
  have rp : Rp C.K H (Mo C (env.set i (.t d0)) ad) d0 (.ref (ad i)) := by
    cases d0 with
    | lst ds => obtain ⟨q1, vs, q2, q3⟩ := c0; exact .lst' q2 hnot q1 (q3.less low)
    | dic ds => obtain ⟨q1, vs, q2, q3⟩ := c0; exact .dic (.inl q2) hnot q3.len q1 q3.key fun j p q e f => (q3.item j p q e f).less low
    | dct ds => obtain ⟨q1, vs, q2, q3⟩ := c0; exact .dct (.inl q2) hnot q3.len q1 q3.key fun j p q e f => (q3.item j p q e f).less low
    | _ => exact c0.elim
  have down : ∀ v t a, SlOk C H (Mo C env ad) v t a → SlOk C H (Mo C (env.set i (.t d0)) ad) v t a := fun v t a z => SlOk.ext (C := C) z (fun _ => rfl) .refl fun b q => .inl (low b q)
  have old : ∀ (m : Nat) (r : Sl), (env.set i (.t d0))[m]? = some r → r.isOwn = true → m ≠ i ∧ env[m]? = some r := fun m r x y => by
    by_cases hm : i = m
    · subst hm
      rw [List.getElem?_set_self hi] at x
      cases x
      cases y
    · rw [List.getElem?_set_ne hm] at x
      exact ⟨fun z => hm z.symm, x⟩
  refine ⟨⟨by rw [List.length_set]; exact R.len, fun j t e => ?_, fun j j' t t' e e' o o' q => ?_, fun j t e => R.loc j t (e.imp (fun e => (old j _ e rfl).2) fun e => (old j _ e rfl).2), fun j t e => R.par j t (old j _ e rfl).2, R.same, R.frk, R.trk, R.m0, R.tabs⟩, ⟨.refl, ow_set rfl⟩, rp, hσ⟩
  · by_cases hj : i = j
    · subst hj
      rw [List.getElem?_set_self hi] at e
      cases e
      exact ⟨_, by rw [hσ]; rfl, rp⟩
    · rw [List.getElem?_set_ne hj] at e
      exact down _ _ _ (R.sl j t e)
  · exact R.inj _ _ _ _ (old _ _ e o).2 (old _ _ e' o').2 o o' q
theorem em_give (i : Nat) {x : Str} (hN : X.N[i]? = some x := by rfl) (hv : Vis X.env.scope x := by first | exact Or.inl rfl | exact Or.inr (Or.inl rfl) | exact Or.inr (Or.inr rfl)) (hd : (x == ("__debug__" : Str)) = false := by decide)
    (hcd : (x == ("__classdict__" : Str)) = false := by decide) : EM X C W (.Name x pos) (tVar i) (mGive i) := by
  refine ⟨pe_var hN hv hd hcd, fun M0 ad σ H env Q R w => ?_⟩
  unfold mGive at w
  cases q : env[i]? with
  | none => rw [q] at w; exact w.elim
  | some s =>
    rw [q] at w
    cases s with
    | l d =>
      obtain ⟨R', S', r, e⟩ := R.give q
      exact ⟨_, e, w _ H R' S' (.of r)⟩
    | _ => exact w.elim
def mK (d : D) : Ev := fun env => .ok (d, env)
theorem em_int {i : Int} {j : Nat} : EM X C W (.Constant (.int i) j pos) (tC (.int i)) (mK (.int i)) := ⟨pe_int, fun M0 ad σ H env Q R w => w _ H R .refl (.of (.int i))⟩
theorem em_bl {i : Bool} {j : Nat} : EM X C W (.Constant (.bool i) j pos) (tC (.bl i)) (mK (.bl i)) := ⟨pe_bl, fun M0 ad σ H env Q R w => w _ H R .refl (.of (.bl i))⟩
theorem em_non {j : Nat} : EM X C W (.Constant .none j pos) (tC .non) (mK .non) := ⟨pe_non, fun M0 ad σ H env Q R w => w _ H R .refl (.of .non)⟩
theorem em_str {i : Str} {j : Nat} : EM X C W (.Constant (.str i) j pos) (tC (.str i)) (mK (.str i)) := ⟨pe_str, fun M0 ad σ H env Q R w => w _ H R .refl (.of (.str i))⟩
/-- a constant of the module -/
theorem em_glob {x : Str} {v : V} {u : Value} {d : D} (hg : Gl X x) (hm : X.mg x = some u) (r : RelV v u) (hr : ∀ H M, Rp C.K H M d v) (hd : (x == ("__debug__" : Str)) = false := by decide) : EM X C W (.Name x pos) (tC v) (mK d) :=
  ⟨pe_glob hg hm r hd, fun M0 ad σ H env Q R w => w _ H R .refl (.of (hr _ _))⟩

/-! ### operators -/
/-- an operation by values: what it asks of data -/
def OpS (K : PySem.W.Frag) (r : R2) (g : D → D → Res D) : Prop := ∀ (H : Hp) (M : Addr → Prop) (x y : V) (dx dy : D) (Q : VK), (∀ a, M a → H a ≠ none) → Ro K H M dx x → Ro K H M dy y →
  (g dx dy).Wp (fun d => ∀ v H', Same H H' → Rp K H' M d v → Q v H') (fun _ => False) → r x y H Q
def mBin (g : D → D → Res D) (ma mb : Ev) : Ev := fun env => do
  let r1 ← ma env
  let r2 ← mb r1.2
  let x ← rs r2.2 r1.1
  let y ← rs r2.2 r2.1
  let d ← match g x y with
    | .err _ => .bad
    | z => z
  pure (d, r2.2)
theorem bin_sn {r : R2} {g : D → D → Res D} (ho : OpS C.K r g) (ha : EM X C W a ta ma) (hb : EM X C W b tb mb) {M0 : Addr → Prop} {ad : Nat → Addr} {σ : L2.St} {H : Hp} {env : Sls} {Q : VK} (R : RE (C.w M0) ad H σ env)
    (w : (mBin g ma mb env).Wp (fun r => ∀ v H', RE (C.w M0) ad H' σ r.2 → Stp (C.w M0) ad H env H' r.2 → VR (C.w M0) ad H' σ r.2 r.1 v → Q v H') (Er (C.w M0) ad σ W)) : tOp r ta tb σ H Q := by
  unfold mBin at w
  refine ha.sn' R w fun r1 v1 H1 R1 S1 V1 w1 => ?_
  refine hb.sn' R1 w1 fun r2 v2 H2 R2 S2 V2 w2 => ?_
  rw [wp_bind] at w2
  obtain ⟨x, _, w3, rx⟩ := R2.rs (V1.stp S2) w2
  rw [wp_bind] at w3
  obtain ⟨y, _, w4, ry⟩ := R2.rs V2 w3
  refine ho H2 (Mo (C.w M0) r2.2 ad) v1 v2 x y Q (fun a z => R2.mtrk z) rx ry ?_
  cases q : g x y with
  | ok d =>
    rw [q] at w4
    exact fun v H' e r => w4 v H' (R2.grow e) ((S1.trans S2).trans (.grow e)) (.of r)
  | err c => rw [q] at w4; exact w4.elim
  | bad => rw [q] at w4; exact w4.elim
theorem em_bin {op : Operator} {r : R2} {g : D → D → Res D} (hr : OpR X (binaryOp op) r) (ho : OpS C.K r g) (ha : EM X C W a ta ma) (hb : EM X C W b tb mb) : EM X C W (.BinOp a op b pos) (tOp r ta tb) (mBin g ma mb) :=
  ⟨pe_op hr ha.pe hb.pe, fun M0 ad σ H env Q R w => bin_sn ho ha hb R w⟩
theorem em_cmp {op : CmpOp} {r : R2} {g : D → D → Res D} (hr : OpR X (compareOp op) r) (ho : OpS C.K r g) (ha : EM X C W a ta ma) (hb : EM X C W b tb mb) (hm : behindInMarks op b = false := by rfl) : EM X C W (.Compare a [op] [b] pos) (tOp r ta tb) (mBin g ma mb) :=
  ⟨pe_cmpR hr ha.pe hb.pe hm, fun M0 ad σ H env Q R w => bin_sn ho ha hb R w⟩
/-- its truth, where it is a bool -/
def mTru (m : Ev) : Ev1 := fun env => do
  let r ← m env
  match r.1 with
  | .bl b => pure (b, r.2)
  | _ => .bad
theorem tm_cmp {op : CmpOp} {r : R2} {g : D → D → Res D} (hr : OpR X (compareOp op) r) (ho : OpS C.K r g) (ha : EM X C W a ta ma) (hb : EM X C W b tb mb) (hm : behindInMarks op b = false := by rfl) : TM X C W (.Compare a [op] [b] pos) (tTest (tOp r ta tb)) (mTru (mBin g ma mb)) := by
  refine ⟨pt_cmpR hr ha.pe hb.pe hm, fun M0 ad σ H env Q R w => ?_⟩
  refine bin_sn ho ha hb R ?_
  unfold mTru at w
  rw [wp_bind] at w
  refine w.imp (fun r z v H' R' S' V' => ?_) fun _ z => z
  cases hd : r.1 with
  | bl k =>
    rw [hd] at z V'
    cases V'
    exact ⟨k, rfl, z H' R' S'⟩
  | _ => rw [hd] at z; exact z.elim
theorem tm_val {t : TE} {m : Ev} (h : EM X C W e t m) (he : ∀ whole, isTrue e X.env whole = (do let v ← whole; standAt e.pos; holding [v] (truthy v)) := by intro _; rfl) : TM X C W e (tB t) (mTru m) := by
  refine ⟨pt_val h.pe he, fun M0 ad σ H env Q R w => ?_⟩
  refine h.sn' (f := fun r => match r.1 with | .bl b => pure (b, r.2) | _ => .bad) R w fun r v H' R' S' V' z => ?_
  cases hd : r.1 with
  | bl k =>
    rw [hd] at z V'
    cases V'
    exact ⟨k, rfl, z H' R' S'⟩
  | _ => rw [hd] at z; exact z.elim
def mNotT (m : Ev1) : Ev1 := fun env => do
  let r ← m env
  pure (!r.1, r.2)
theorem tm_not {t : TT} {m : Ev1} (h : TM X C W a t m) : TM X C W (.UnaryOp .Not a pos) (tNot t) (mNotT m) :=
  ⟨pt_not h.pe, fun M0 ad σ H env Q R w => h.sn' (f := fun r => pure (!r.1, r.2)) R w fun r H' R' S' z => z H' R' S'⟩
theorem wm_and1 {t : TT} {m : Ev1} (h : TM X C W a t m) : WM X C W (.BoolOp .And [a] pos) t m := ⟨pw_and1 h.pe, h.sn⟩
theorem wm_or1 {t : TT} {m : Ev1} (h : TM X C W a t m) : WM X C W (.BoolOp .Or [a] pos) t m := ⟨pw_or1 h.pe, h.sn⟩
def mAndT (m n : Ev1) : Ev1 := fun env => do
  let r ← m env
  if r.1 = true then n r.2 else pure (false, r.2)
def mOrT (m n : Ev1) : Ev1 := fun env => do
  let r ← m env
  if r.1 = true then pure (true, r.2) else n r.2
theorem wm_and {t u : TT} {m n : Ev1} (h : TM X C W a t m) (h2 : WM X C W (.BoolOp .And (b :: rest) pos) u n) : WM X C W (.BoolOp .And (a :: b :: rest) pos) (tAnd t u) (mAndT m n) := by
  refine ⟨pw_and h.pe h2.pe, fun M0 ad σ H env Q R w => ?_⟩
  refine h.sn' (f := fun r => if r.1 = true then n r.2 else pure (false, r.2)) R w fun r H' R' S' z => ?_
  split
  · rename_i e
    rw [if_pos e] at z
    exact h2.sn M0 ad σ H' r.2 Q R' (z.imp (fun q y H2 R2 S2 => y H2 R2 (S'.trans S2)) fun _ y => y)
  · rename_i e
    rw [if_neg e] at z
    exact z H' R' S'
theorem wm_or {t u : TT} {m n : Ev1} (h : TM X C W a t m) (h2 : WM X C W (.BoolOp .Or (b :: rest) pos) u n) : WM X C W (.BoolOp .Or (a :: b :: rest) pos) (tOr t u) (mOrT m n) := by
  refine ⟨pw_or h.pe h2.pe, fun M0 ad σ H env Q R w => ?_⟩
  refine h.sn' (f := fun r => if r.1 = true then pure (true, r.2) else n r.2) R w fun r H' R' S' z => ?_
  split
  · rename_i e
    rw [if_pos e] at z
    exact z H' R' S'
  · rename_i e
    rw [if_neg e] at z
    exact h2.sn M0 ad σ H' r.2 Q R' (z.imp (fun q y H2 R2 S2 => y H2 R2 (S'.trans S2)) fun _ y => y)
theorem tm_wm {t : TT} {m : Ev1} (h : WM X C W e t m) : TM X C W e t m := ⟨h.pe.pt, h.sn⟩
/-- and, or, not as values (bools) -/
theorem em_one {op : BoolOp} {t : TE} {m : Ev} (h : EM X C W a t m) : EM X C W (.BoolOp op [a] pos) t m := ⟨pe_one h.pe, h.sn⟩
def mAndV (m n : Ev) : Ev := fun env => do
  let r ← m env
  match r.1 with
  | .bl true => n r.2
  | .bl false => pure (.bl false, r.2)
  | _ => .bad
def mOrV (m n : Ev) : Ev := fun env => do
  let r ← m env
  match r.1 with
  | .bl true => pure (.bl true, r.2)
  | .bl false => n r.2
  | _ => .bad
def mNotV (m : Ev) : Ev := fun env => do
  let r ← m env
  match r.1 with
  | .bl b => pure (.bl (!b), r.2)
  | _ => .bad
theorem em_and {t u : TE} {m n : Ev} (h : EM X C W a t m) (h2 : EM X C W (.BoolOp .And (b :: rest) pos) u n) : EM X C W (.BoolOp .And (a :: b :: rest) pos) (tAndV t u) (mAndV m n) := by
  refine ⟨pe_and h.pe h2.pe, fun M0 ad σ H env Q R w => ?_⟩
  refine h.sn' (f := fun r => match r.1 with | .bl true => n r.2 | .bl false => pure (.bl false, r.2) | _ => .bad) R w fun r v H' R' S' V' z => ?_
  cases hd : r.1 with
  | bl k =>
    rw [hd] at z V'
    cases V'
    cases k with
    | true => exact ⟨true, rfl, h2.sn M0 ad σ H' r.2 Q R' (z.imp (fun q y v2 H2 R2 S2 => y v2 H2 R2 (S'.trans S2)) fun _ y => y)⟩
    | false => exact ⟨false, rfl, z _ H' R' S' (.of (.bl false))⟩
  | _ => rw [hd] at z; exact z.elim
theorem em_or {t u : TE} {m n : Ev} (h : EM X C W a t m) (h2 : EM X C W (.BoolOp .Or (b :: rest) pos) u n) : EM X C W (.BoolOp .Or (a :: b :: rest) pos) (tOrV t u) (mOrV m n) := by
  refine ⟨pe_or h.pe h2.pe, fun M0 ad σ H env Q R w => ?_⟩
  refine h.sn' (f := fun r => match r.1 with | .bl true => pure (.bl true, r.2) | .bl false => n r.2 | _ => .bad) R w fun r v H' R' S' V' z => ?_
  cases hd : r.1 with
  | bl k =>
    rw [hd] at z V'
    cases V'
    cases k with
    | false => exact ⟨false, rfl, h2.sn M0 ad σ H' r.2 Q R' (z.imp (fun q y v2 H2 R2 S2 => y v2 H2 R2 (S'.trans S2)) fun _ y => y)⟩
    | true => exact ⟨true, rfl, z _ H' R' S' (.of (.bl true))⟩
  | _ => rw [hd] at z; exact z.elim
theorem em_not {t : TE} {m : Ev} (h : EM X C W a t m) : EM X C W (.UnaryOp .Not a pos) (tNotV t) (mNotV m) := by
  refine ⟨pe_not h.pe, fun M0 ad σ H env Q R w => ?_⟩
  unfold mNotV at w
  refine h.sn' R w fun r v H' R' S' V' z => ?_
  cases hd : r.1 with
  | bl k =>
    rw [hd] at z V'
    cases V'
    exact ⟨k, rfl, z _ H' R' S' (.of (.bl _))⟩
  | _ => rw [hd] at z; exact z.elim
def mIf (mt : Ev1) (ma mb : Ev) : Ev := fun env => do
  let r ← mt env
  if r.1 = true then ma r.2 else mb r.2
theorem em_if {c : Expr} {t : TT} {mt : Ev1} (h : TM X C W c t mt) (ha : EM X C W a ta ma) (hb : EM X C W b tb mb) : EM X C W (.IfExp c a b pos) (tIf t ta tb) (mIf mt ma mb) := by
  refine ⟨pe_ifExp h.pe ha.pe hb.pe, fun M0 ad σ H env Q R w => ?_⟩
  refine h.sn' (f := fun r => if r.1 = true then ma r.2 else mb r.2) R w fun r H' R' S' z => ?_
  split
  · rename_i e
    rw [if_pos e] at z
    exact ha.sn M0 ad σ H' r.2 Q R' (z.imp (fun q y v2 H2 R2 S2 => y v2 H2 R2 (S'.trans S2)) fun _ y => y)
  · rename_i e
    rw [if_neg e] at z
    exact hb.sn M0 ad σ H' r.2 Q R' (z.imp (fun q y v2 H2 R2 S2 => y v2 H2 R2 (S'.trans S2)) fun _ y => y)
/-- a op b op c -/
def mChain (g g' : D → D → Res D) (ma mb mc : Ev) : Ev := fun env => do
  let r1 ← ma env
  let r2 ← mb r1.2
  let x ← rs r2.2 r1.1
  let y ← rs r2.2 r2.1
  match g x y with
  | .ok (.bl true) =>
    let r3 ← mc r2.2
    let y ← rs r3.2 r2.1
    let z ← rs r3.2 r3.1
    match g' y z with
    | .ok d => pure (d, r3.2)
    | _ => .bad
  | .ok (.bl false) => pure (.bl false, r2.2)
  | _ => .bad

/-! ### arguments, calls of built-ins -/
def mNil : Evs := fun env => .ok ([], env)
def mCons (m : Ev) (ms : Evs) : Evs := fun env => do
  let r1 ← m env
  let r2 ← ms r1.2
  pure (r1.1 :: r2.1, r2.2)
theorem am_nil : AM X C W [] tNil mNil := ⟨pa_nil, fun M0 ad σ H env Q R w => w [] H R .refl .nil⟩
theorem am_cons {te : TE} {t : TA} {m : Ev} {ms : Evs} (h : EM X C W e te m) (hr : AM X C W es t ms) (hs : starEach (e :: es) X.env = (false, eval e X.env) :: starEach es X.env := by rfl) : AM X C W (e :: es) (tCons te t) (mCons m ms) := by
  refine ⟨pa_cons h.pe hr.pe hs, fun M0 ad σ H env Q R w => ?_⟩
  unfold mCons at w
  refine h.sn' R w fun r1 v1 H1 R1 S1 V1 w1 => ?_
  refine hr.sn' R1 w1 fun r2 vs H2 R2 S2 V2 w2 => ?_
  exact w2 (v1 :: vs) H2 R2 (S1.trans S2) (.cons (V1.stp S2) V2)
def CallS (K : PySem.W.Frag) (r : List V → Hp → VK → Prop) (g : List D → Res D) : Prop := ∀ (H : Hp) (M : Addr → Prop) (vs : List V) (ds : List D) (Q : VK), (∀ a, M a → H a ≠ none) → RoL K H M ds vs →
  (g ds).Wp (fun d => ∀ v H', Same H H' → Rp K H' M d v → Q v H') (fun _ => False) → r vs H Q
def mCallB (g : List D → Res D) (ms : Evs) : Ev := fun env => do
  let r ← ms env
  let xs ← rsL r.2 r.1
  match g xs with
  | .ok d => pure (d, r.2)
  | _ => .bad
theorem callB_sn {r : List V → Hp → VK → Prop} {g : List D → Res D} {t : TA} {ms : Evs} (ho : CallS C.K r g) (ha : AM X C W es t ms) {M0 : Addr → Prop} {ad : Nat → Addr} {σ : L2.St} {H : Hp} {env : Sls} {Q : VK} (R : RE (C.w M0) ad H σ env)
    (w : (mCallB g ms env).Wp (fun r => ∀ v H', RE (C.w M0) ad H' σ r.2 → Stp (C.w M0) ad H env H' r.2 → VR (C.w M0) ad H' σ r.2 r.1 v → Q v H') (Er (C.w M0) ad σ W)) : tCB r t σ H Q := by
  unfold mCallB at w
  refine ha.sn' R w fun r1 vs H1 R1 S1 V1 w1 => ?_
  rw [wp_bind] at w1
  obtain ⟨xs, w2, rx⟩ := R1.rsL V1 w1
  refine ho H1 (Mo (C.w M0) r1.2 ad) vs xs Q (fun a z => R1.mtrk z) rx ?_
  cases q : g xs with
  | ok d =>
    rw [q] at w2
    exact fun v H' e r => w2 v H' (R1.grow e) (S1.trans (.grow e)) (.of r)
  | err c => rw [q] at w2; exact w2.elim
  | bad => rw [q] at w2; exact w2.elim
theorem em_callB {id : String} {x : Str} {p : Pos} {r : List V → Hp → VK → Prop} {g : List D → Res D} {t : TA} {ms : Evs} (hc : CallR X (.builtin id) r) (ho : CallS C.K r g) (hg : Gl X x) (hm : X.mg x = none) (hv : bootBuiltins x = some (.builtin id)) (ha : AM X C W (e :: es) t ms)
    (hn : x ≠ "__name__" := by decide) (hdb : (x == ("__debug__" : Str)) = false := by decide) (he : starEach (e :: es) X.env = (false, eval e X.env) :: starEach es X.env := by rfl) (hpl : (backTo pos (starEach es X.env)).any (·.1) = false := by rfl) :
    EM X C W (.Call (.Name x p) (e :: es) [] pos) (tCB r t) (mCallB g ms) :=
  ⟨pe_callB hc hg hm hv ha.pe hn hdb he hpl, fun M0 ad σ H env Q R w => callB_sn ho ha R w⟩
theorem em_callTy {T : String} {x : Str} {p : Pos} {r : List V → Hp → VK → Prop} {g : List D → Res D} {t : TA} {ms : Evs} (hc : CallR X (.type T) r) (ho : CallS C.K r g) (hg : Gl X x) (hm : X.mg x = none) (hv : bootBuiltins x = some (.type T)) (ha : AM X C W (e :: es) t ms)
    (hn : x ≠ "__name__" := by decide) (hdb : (x == ("__debug__" : Str)) = false := by decide) (he : starEach (e :: es) X.env = (false, eval e X.env) :: starEach es X.env := by rfl) (hpl : (backTo pos (starEach es X.env)).any (·.1) = false := by rfl) :
    EM X C W (.Call (.Name x p) (e :: es) [] pos) (tCB r t) (mCallB g ms) :=
  ⟨pe_callTy hc hg hm hv ha.pe hn hdb he hpl, fun M0 ad σ H env Q R w => callB_sn ho ha R w⟩
end
end Vm
end
section
set_option maxRecDepth 100000
set_option maxHeartbeats 4000000
/-! Vm, part D: operators and built-ins over data; displays, subscripts, slices. -/
namespace Vm
open PySem PySem.Spec PyProof.Rows L2

/-! ### a new list from an operation -/
def OpF (K : PySem.W.Frag) (r : R2) (g : D → D → Res D) : Prop := ∀ (H : Hp) (M : Addr → Prop) (x y : V) (dx dy : D) (Q : VK), (∀ a, M a → H a ≠ none) → Ro K H M dx x → Ro K H M dy y →
  (g dx dy).Wp (fun d => ∀ a H', H a = none → Same H H' → CellOk K H' (fun b => M b ∨ b = a) d a → Q (.ref a) H') (fun _ => False) → r x y H Q
def CallF (K : PySem.W.Frag) (r : List V → Hp → VK → Prop) (g : List D → Res D) : Prop := ∀ (H : Hp) (M : Addr → Prop) (vs : List V) (ds : List D) (Q : VK), (∀ a, M a → H a ≠ none) → RoL K H M ds vs →
  (g ds).Wp (fun d => ∀ a H', H a = none → Same H H' → CellOk K H' (fun b => M b ∨ b = a) d a → Q (.ref a) H') (fun _ => False) → r vs H Q
theorem cell_rp {K : PySem.W.Frag} {H : Hp} {M M' : Addr → Prop} {d : D} {a : Addr} (c : CellOk K H M d a) (hn : ¬ M' a) (lo : ∀ b, M' b → M b) : Rp K H M' d (.ref a) := by
  cases d with
  | lst ds =>
    obtain ⟨q1, vs, q2, q3⟩ := c
    exact .lst' q2 hn q1 (q3.less lo)
  | dic ds =>
    obtain ⟨q1, vs, q2, q3⟩ := c
    exact .dic (.inl q2) hn q3.len q1 q3.key fun i p q e f => (q3.item i p q e f).less lo
  | dct ds =>
    obtain ⟨q1, vs, q2, q3⟩ := c
    exact .dct (.inl q2) hn q3.len q1 q3.key fun i p q e f => (q3.item i p q e f).less lo
  | _ => exact c.elim
theorem OpF.toS {K : PySem.W.Frag} {r : R2} {g : D → D → Res D} (h : OpF K r g) : OpS K r g := fun H M x y dx dy Q tk rx ry w =>
  h H M x y dx dy Q tk rx ry (w.imp (fun d z a H' hn e c => z _ H' e (cell_rp c (fun q => tk a q hn) fun b q => .inl q)) fun _ z => z)
theorem CallF.toS {K : PySem.W.Frag} {r : List V → Hp → VK → Prop} {g : List D → Res D} (h : CallF K r g) : CallS K r g := fun H M vs ds Q tk rx w =>
  h H M vs ds Q tk rx (w.imp (fun d z a H' hn e c => z _ H' e (cell_rp c (fun q => tk a q hn) fun b q => .inl q)) fun _ z => z)
/-- a list just laid -/
theorem cell_new {K : PySem.W.Frag} {H : Hp} {M : Addr → Prop} {ds : List D} {vs : List V} {a : Addr} (r : RpL K H M ds vs) (hn : H a = none) (hz : ds.length ≤ sizeLine) : CellOk K (upd H a (.lst vs)) (fun b => M b ∨ b = a) (.lst ds) a := by
  refine ⟨hz, vs, upd_same, r.ext (.of_same (same_new hn)) fun b z => ?_⟩
  rcases z with z | z
  · exact .inl z
  · exact .inr (z ▸ hn)
section
variable {X : Cx} {C : Cfg} {W : WX} {k : Nat} {a b e : Expr} {es rest : List Expr} {ta tb tc : TE} {ma mb mc m : Ev} {pos : Pos}
theorem binF_sn {r : R2} {g : D → D → Res D} (ho : OpF C.K r g) (ha : EM X C W a ta ma) (hb : EM X C W b tb mb) {M0 : Addr → Prop} {ad : Nat → Addr} {σ : L2.St} {H : Hp} {env : Sls} {Q : VK} (R : RE (C.w M0) ad H σ env)
    (w : (mBin g ma mb env).Wp (fun r => ∀ a H', H a = none → RE ((C.w M0).add a) ad H' σ r.2 → Stp (C.w M0) ad H env H' r.2 → CellOk C.K H' (Mo ((C.w M0).add a) r.2 ad) r.1 a → Q (.ref a) H') (Er (C.w M0) ad σ W)) : tOp r ta tb σ H Q := by
  unfold mBin at w
  refine ha.sn' R w fun r1 v1 H1 R1 S1 V1 w1 => ?_
  refine hb.sn' R1 w1 fun r2 v2 H2 R2 S2 V2 w2 => ?_
  rw [wp_bind] at w2
  obtain ⟨x, _, w3, rx⟩ := R2.rs (V1.stp S2) w2
  rw [wp_bind] at w3
  obtain ⟨y, _, w4, ry⟩ := R2.rs V2 w3
  refine ho H2 (Mo (C.w M0) r2.2 ad) v1 v2 x y Q (fun a z => R2.mtrk z) rx ry ?_
  cases q : g x y with
  | ok d =>
    rw [q] at w4
    refine fun p H' hn e c => w4 p H' ?_ (R2.growAdd e hn c.trk) ((S1.trans S2).trans (.grow e)) (c.ext rfl .refl fun b z => .inl (mo_add.mp z))
    cases z : H p with
    | none => rfl
    | some o => exact absurd hn ((S1.trans S2).ext.trk p (by rw [z]; exact fun z => nomatch z))
  | err c => rw [q] at w4; exact w4.elim
  | bad => rw [q] at w4; exact w4.elim
theorem ef_bin {op : Operator} {r : R2} {g : D → D → Res D} (hr : OpR X (binaryOp op) r) (ho : OpF C.K r g) (ha : EM X C W a ta ma) (hb : EM X C W b tb mb) : EF X C W (.BinOp a op b pos) (tOp r ta tb) (mBin g ma mb) :=
  ⟨pe_op hr ha.pe hb.pe, fun M0 ad σ H env Q R w => binF_sn ho ha hb R w⟩
theorem callF_sn {r : List V → Hp → VK → Prop} {g : List D → Res D} {t : TA} {ms : Evs} (ho : CallF C.K r g) (ha : AM X C W es t ms) {M0 : Addr → Prop} {ad : Nat → Addr} {σ : L2.St} {H : Hp} {env : Sls} {Q : VK} (R : RE (C.w M0) ad H σ env)
    (w : (mCallB g ms env).Wp (fun r => ∀ a H', H a = none → RE ((C.w M0).add a) ad H' σ r.2 → Stp (C.w M0) ad H env H' r.2 → CellOk C.K H' (Mo ((C.w M0).add a) r.2 ad) r.1 a → Q (.ref a) H') (Er (C.w M0) ad σ W)) : tCB r t σ H Q := by
  unfold mCallB at w
  refine ha.sn' R w fun r1 vs H1 R1 S1 V1 w1 => ?_
  rw [wp_bind] at w1
  obtain ⟨xs, w2, rx⟩ := R1.rsL V1 w1
  refine ho H1 (Mo (C.w M0) r1.2 ad) vs xs Q (fun a z => R1.mtrk z) rx ?_
  cases q : g xs with
  | ok d =>
    rw [q] at w2
    refine fun p H' hn e c => w2 p H' ?_ (R1.growAdd e hn c.trk) (S1.trans (.grow e)) (c.ext rfl .refl fun b z => .inl (mo_add.mp z))
    cases z : H p with
    | none => rfl
    | some o => exact absurd hn (S1.ext.trk p (by rw [z]; exact fun z => nomatch z))
  | err c => rw [q] at w2; exact w2.elim
  | bad => rw [q] at w2; exact w2.elim
theorem ef_callB {id : String} {x : Str} {p : Pos} {r : List V → Hp → VK → Prop} {g : List D → Res D} {t : TA} {ms : Evs} (hc : CallR X (.builtin id) r) (ho : CallF C.K r g) (hg : Gl X x) (hm : X.mg x = none) (hv : bootBuiltins x = some (.builtin id)) (ha : AM X C W (e :: es) t ms)
    (hn : x ≠ "__name__" := by decide) (hdb : (x == ("__debug__" : Str)) = false := by decide) (he : starEach (e :: es) X.env = (false, eval e X.env) :: starEach es X.env := by rfl) (hpl : (backTo pos (starEach es X.env)).any (·.1) = false := by rfl) :
    EF X C W (.Call (.Name x p) (e :: es) [] pos) (tCB r t) (mCallB g ms) :=
  ⟨pe_callB hc hg hm hv ha.pe hn hdb he hpl, fun M0 ad σ H env Q R w => callF_sn ho ha R w⟩
theorem ef_callTy {T : String} {x : Str} {p : Pos} {r : List V → Hp → VK → Prop} {g : List D → Res D} {t : TA} {ms : Evs} (hc : CallR X (.type T) r) (ho : CallF C.K r g) (hg : Gl X x) (hm : X.mg x = none) (hv : bootBuiltins x = some (.type T)) (ha : AM X C W (e :: es) t ms)
    (hn : x ≠ "__name__" := by decide) (hdb : (x == ("__debug__" : Str)) = false := by decide) (he : starEach (e :: es) X.env = (false, eval e X.env) :: starEach es X.env := by rfl) (hpl : (backTo pos (starEach es X.env)).any (·.1) = false := by rfl) :
    EF X C W (.Call (.Name x p) (e :: es) [] pos) (tCB r t) (mCallB g ms) :=
  ⟨pe_callTy hc hg hm hv ha.pe hn hdb he hpl, fun M0 ad σ H env Q R w => callF_sn ho ha R w⟩

/-! ### displays -/
def mTup (ms : Evs) : Ev := fun env => do
  let r ← ms env
  let xs ← kpL r.1
  if xs.length ≤ sizeLine then pure (.tup xs, r.2) else .bad
def mLst (ms : Evs) : Ev := fun env => do
  let r ← ms env
  let xs ← kpL r.1
  if xs.length ≤ sizeLine then pure (.lst xs, r.2) else .bad
theorem em_tup {t : TA} {ms : Evs} {x1} (h : AM X C W es t ms) : EM X C W (.Tuple es x1 pos) (tTup t) (mTup ms) := by
  refine ⟨pe_tup h.pe, fun M0 ad σ H env Q R w => ?_⟩
  unfold mTup at w
  refine h.sn' R w fun r1 vs H1 R1 S1 V1 w1 => ?_
  rw [wp_bind] at w1
  obtain ⟨w2, rx⟩ := kpL_rp V1 w1
  split at w2
  · rename_i hz
    refine ⟨by rw [rx.len]; exact hz, fun p hn => w2 _ _ (R1.grow (same_new hn)) (S1.trans (.grow (same_new hn))) (.of (.tup' (.of upd_same) hz (rx.same (same_new hn))))⟩
  · exact w2.elim
theorem ef_lst {t : TA} {ms : Evs} (h : AM X C W es t ms) : EF X C W (.List es pos) (tLst t) (mLst ms) := by
  refine ⟨pe_lst h.pe, fun M0 ad σ H env Q R w => ?_⟩
  unfold mLst at w
  refine h.sn' R w fun r1 vs H1 R1 S1 V1 w1 => ?_
  rw [wp_bind] at w1
  obtain ⟨w2, rx⟩ := kpL_rp V1 w1
  split at w2
  · rename_i hz
    refine ⟨by rw [rx.len]; exact hz, fun p hn => w2 p _ ?_ (R1.growAdd (same_new hn) hn (by rw [upd_same]; exact fun z => nomatch z)) (S1.trans (.grow (same_new hn))) ((cell_new rx hn hz).ext rfl .refl fun b z => .inl (mo_add.mp z))⟩
    cases z : H p with
    | none => rfl
    | some o => exact absurd hn (S1.ext.trk p (by rw [z]; exact fun z => nomatch z))
  · exact w2.elim
/-- {} -/
def mDic0 : Ev := fun env => .ok (.dic [], env)
theorem ef_dic0 : EF X C W (.Dict [] [] pos) tDNewK mDic0 := by
  refine ⟨pe_dnewK, fun M0 ad σ H env Q R w => ?_⟩
  refine fun p hn => w p _ hn (R.growAdd (same_new hn) hn (by rw [upd_same]; exact fun z => nomatch z)) (.grow (same_new hn)) ⟨Nat.zero_le _, [], upd_same, rfl, fun i p q e _ => by simp at e, fun i p q e _ => by simp at e⟩

/-! ### subscripts -/
theorem em_ix {r : R2} {g : D → D → Res D} (hr : IxR X r) (ho : OpS C.K r g) (ha : EM X C W a ta ma) (hb : EM X C W b tb mb) (hs : PlainIx b := by intro _ _; rfl) : EM X C W (.Subscript a b pos) (tOp r ta tb) (mBin g ma mb) :=
  ⟨pe_ix hr ha.pe hb.pe hs, fun M0 ad σ H env Q R w => bin_sn ho ha hb R w⟩
end

/-! ### arithmetic -/
section
variable {K : PySem.W.Frag}
theorem Ro.int_inv {H : Hp} {M : Addr → Prop} {i : Int} {v : V} (h : Ro K H M (.int i) v) : v = .int i := by cases h; rfl
theorem Ro.bl_inv {H : Hp} {M : Addr → Prop} {i : Bool} {v : V} (h : Ro K H M (.bl i) v) : v = .bl i := by cases h; rfl
theorem Ro.str_inv {H : Hp} {M : Addr → Prop} {i : Str} {v : V} (h : Ro K H M (.str i) v) : v = .str i := by cases h; rfl
theorem Ro.non_inv {H : Hp} {M : Addr → Prop} {v : V} (h : Ro K H M .non v) : v = .non := by cases h; rfl
theorem Ro.lst_inv {H : Hp} {M : Addr → Prop} {ds : List D} {v : V} (h : Ro K H M (.lst ds) v) : ∃ a vs, v = .ref a ∧ H a = some (.lst vs) ∧ ds.length ≤ sizeLine ∧ RpL K H M ds vs := by cases h; exact ⟨_, _, rfl, by assumption, by assumption, by assumption⟩
theorem Ro.tup_inv {H : Hp} {M : Addr → Prop} {ds : List D} {v : V} (h : Ro K H M (.tup ds) v) : ∃ a vs, v = .ref a ∧ SqT K H a vs ∧ ds.length ≤ sizeLine ∧ RpL K H M ds vs := by cases h; exact ⟨_, _, rfl, by assumption, by assumption, by assumption⟩
theorem Ro.dic_inv {H : Hp} {M : Addr → Prop} {ds : List (Key × D)} {v : V} (h : Ro K H M (.dic ds) v) : ∃ a vs, v = .ref a ∧ Rd H a (.dK vs) ∧ ds.length ≤ sizeLine ∧ RpK K H M ds vs := by cases h; exact ⟨_, _, rfl, by assumption, by assumption, by assumption⟩
theorem Ro.dct_inv {H : Hp} {M : Addr → Prop} {ds : List (List Key × D)} {v : V} (h : Ro K H M (.dct ds) v) : ∃ a vs, v = .ref a ∧ Rd H a (.dT vs) ∧ ds.length ≤ sizeLine ∧ RpK K H M ds vs := by cases h; exact ⟨_, _, rfl, by assumption, by assumption, by assumption⟩

def addI (x y : D) : Res D := match x, y with
  | .int i, .int j => .ok (.int (i + j))
  | _, _ => .bad
def catL (x y : D) : Res D := match x, y with
  | .lst a, .lst b => if a.length + b.length ≤ sizeLine then .ok (.lst (a ++ b)) else .bad
  | _, _ => .bad
def addD (x y : D) : Res D := match x, y with
  | .int i, .int j => .ok (.int (i + j))
  | .str a, .str b => if a.length + b.length ≤ sizeLine then .ok (.str (a ++ b)) else .bad
  | .lst a, .lst b => if a.length + b.length ≤ sizeLine then .ok (.lst (a ++ b)) else .bad
  | .tup a, .tup b => if a.length + b.length ≤ sizeLine then .ok (.tup (a ++ b)) else .bad
  | _, _ => .bad
theorem os_catL : OpF K rCat catL := by
  intro H M x y dx dy Q tk rx ry w
  cases dx with
  | lst a =>
    cases dy with
    | lst b =>
      obtain ⟨p, vs, rfl, h1, z1, q1⟩ := rx.lst_inv
      obtain ⟨q, ws, rfl, h2, z2, q2⟩ := ry.lst_inv
      simp only [catL] at w
      split at w
      · rename_i hz
        refine ⟨p, q, vs, ws, rfl, rfl, h1, h2, by rw [q1.len, q2.len]; exact hz, fun o hn => w o _ hn (same_new hn) (cell_new (q1.append q2) hn (by rw [List.length_append]; exact hz))⟩
      · exact w.elim
    | _ => exact w.elim
  | _ => exact w.elim
def rAddA (K : PySem.W.Frag) : R2 := fun x y H Q => (rI0 fun i j => .int (i + j)) x y H Q ∨ (fun x y H Q => ∃ i j, x = .str i ∧ y = .str j ∧ i.length + j.length ≤ sizeLine ∧ Q (.str (i ++ j)) H : R2) x y H Q ∨ rCat x y H Q ∨ rCatA K x y H Q
theorem or_addA {X : Cx} : OpR X (binaryOp .Add) (rAddA X.K) := op_add.or (op_add_str.or (op_cat.or op_catA))
theorem os_addA : OpS K (rAddA K) addD := by
  intro H M x y dx dy Q tk rx ry w
  cases dx with
  | int i =>
    cases dy with
    | int j => rw [rx.int_inv, ry.int_inv]; exact .inl ⟨i, j, rfl, rfl, w _ _ (.refl _) (.int _)⟩
    | _ => exact w.elim
  | str i =>
    cases dy with
    | str j =>
      rw [rx.str_inv, ry.str_inv]
      simp only [addD] at w
      split at w
      · rename_i hz
        exact .inr (.inl ⟨i, j, rfl, rfl, hz, w _ _ (.refl _) (.str _)⟩)
      · exact w.elim
    | _ => exact w.elim
  | lst i =>
    cases dy with
    | lst j =>
      refine .inr (.inr (.inl (os_catL.toS H M x y _ _ Q tk rx ry ?_)))
      exact w
    | _ => exact w.elim
  | tup i =>
    cases dy with
    | tup j =>
      obtain ⟨p, vs, rfl, h1, z1, q1⟩ := rx.tup_inv
      obtain ⟨q, ws, rfl, h2, z2, q2⟩ := ry.tup_inv
      simp only [addD] at w
      split at w
      · rename_i hz
        refine .inr (.inr (.inr ⟨p, q, vs, ws, rfl, rfl, h1, h2, by rw [q1.len, q2.len]; exact hz, fun e => ?_, fun _ e => ?_, fun _ _ o hn => w _ _ (same_new hn) (.tup' (.of upd_same) (by rw [List.length_append]; exact hz) ((q1.append q2).same (same_new hn)))⟩))
        · subst e
          have e2 : i = [] := List.length_eq_zero_iff.mp q1.len.symm
          subst e2
          exact w _ _ (.refl _) (.tup' h2 z2 q2)
        · subst e
          have e2 : j = [] := List.length_eq_zero_iff.mp q2.len.symm
          subst e2
          rw [List.append_nil] at w
          exact w _ _ (.refl _) (.tup' h1 z1 q1)
      · exact w.elim
    | _ => exact w.elim
  | _ => exact w.elim
def subD (x y : D) : Res D := match x, y with
  | .int i, .int j => .ok (.int (i - j))
  | _, _ => .bad
def mulD (x y : D) : Res D := match x, y with
  | .int i, .int j => if i.natAbs.log2 + j.natAbs.log2 < 1000000 then .ok (.int (i * j)) else .bad
  | _, _ => .bad
def divD (x y : D) : Res D := match x, y with
  | .int i, .int j => if 0 < j ∧ j.natAbs.log2 < 9000 then .ok (.int (i / j)) else .bad
  | _, _ => .bad
def modD (x y : D) : Res D := match x, y with
  | .int i, .int j => if 0 < j then .ok (.int (i % j)) else .bad
  | _, _ => .bad
def powD (x y : D) : Res D := match x, y with
  | .int i, .int j => if 0 ≤ j ∧ j ≤ 1000000 ∧ i.natAbs < 2 ^ 64 then .ok (.int (i ^ j.toNat)) else .bad
  | _, _ => .bad
theorem os_I {C : Int → Int → Prop} [∀ i j, Decidable (C i j)] {g : Int → Int → Int} : OpS K (rI C fun i j => .int (g i j)) (fun x y => match x, y with | .int i, .int j => if C i j then .ok (.int (g i j)) else .bad | _, _ => .bad) := by
  intro H M x y dx dy Q tk rx ry w
  cases dx with
  | int i =>
    cases dy with
    | int j =>
      rw [rx.int_inv, ry.int_inv]
      by_cases c : C i j
      · simp only [if_pos c] at w
        exact ⟨i, j, rfl, rfl, c, w _ _ (.refl _) (.int _)⟩
      · simp only [if_neg c] at w
        exact w.elim
    | _ => exact w.elim
  | _ => exact w.elim
theorem os_sub : OpS K (rI0 fun i j => .int (i - j)) subD := by
  intro H M x y dx dy Q tk rx ry w
  cases dx with
  | int i =>
    cases dy with
    | int j => rw [rx.int_inv, ry.int_inv]; exact ⟨i, j, rfl, rfl, w _ _ (.refl _) (.int _)⟩
    | _ => exact w.elim
  | _ => exact w.elim
theorem os_mul : OpS K (rI CMulW fun i j => .int (i * j)) mulD := by
  have := os_I (K := K) (C := fun i j => i.natAbs.log2 + j.natAbs.log2 < 1000000) (g := fun i j => i * j)
  intro H M x y dx dy Q tk rx ry w
  obtain ⟨i, j, e1, e2, c, q⟩ := this H M x y dx dy Q tk rx ry (by cases dx <;> cases dy <;> exact w)
  exact ⟨i, j, e1, e2, c, q⟩
theorem os_div : OpS K (rI CDivW fun i j => .int (i / j)) divD := by
  have := os_I (K := K) (C := fun i j => 0 < j ∧ j.natAbs.log2 < 9000) (g := fun i j => i / j)
  intro H M x y dx dy Q tk rx ry w
  obtain ⟨i, j, e1, e2, c, q⟩ := this H M x y dx dy Q tk rx ry (by cases dx <;> cases dy <;> exact w)
  exact ⟨i, j, e1, e2, c, q⟩
theorem os_mod : OpS K (rI (fun _ j => 0 < j) fun i j => .int (i % j)) modD := by
  have := os_I (K := K) (C := fun i j => 0 < j) (g := fun i j => i % j)
  intro H M x y dx dy Q tk rx ry w
  obtain ⟨i, j, e1, e2, c, q⟩ := this H M x y dx dy Q tk rx ry (by cases dx <;> cases dy <;> exact w)
  exact ⟨i, j, e1, e2, c, q⟩
theorem os_pow : OpS K (rI CPow fun i j => .int (i ^ j.toNat)) powD := by
  have := os_I (K := K) (C := fun i j => 0 ≤ j ∧ j ≤ 1000000 ∧ i.natAbs < 2 ^ 64) (g := fun i j => i ^ j.toNat)
  intro H M x y dx dy Q tk rx ry w
  obtain ⟨i, j, e1, e2, c, q⟩ := this H M x y dx dy Q tk rx ry (by cases dx <;> cases dy <;> exact w)
  exact ⟨i, j, e1, e2, c, q⟩

/-! ### comparisons -/
def cmpD (p : Int → Int → Bool) (x y : D) : Res D := match x, y with
  | .int i, .int j => .ok (.bl (p i j))
  | _, _ => .bad
abbrev ltD := cmpD fun i j => decide (i < j)
abbrev leD := cmpD fun i j => decide (i ≤ j)
abbrev gtD := cmpD fun i j => decide (j < i)
abbrev geD := cmpD fun i j => decide (j ≤ i)
theorem os_cmp {p : Int → Int → Bool} : OpS K (rI0 fun i j => .bl (p i j)) (cmpD p) := by
  intro H M x y dx dy Q tk rx ry w
  cases dx with
  | int i =>
    cases dy with
    | int j => rw [rx.int_inv, ry.int_inv]; exact ⟨i, j, rfl, rfl, w _ _ (.refl _) (.bl _)⟩
    | _ => exact w.elim
  | _ => exact w.elim
/-- is None, is not None, is True .. (the right side a written one) -/
def isD (x y : D) : Res D := match x, y with
  | x, .non => (match x with
    | .non => .ok (.bl true)
    | .own _ => .bad
    | _ => .ok (.bl false))
  | .bl a, .bl b => .ok (.bl (decide (a = b)))
  | _, _ => .bad
def isntD (x y : D) : Res D := match x, y with
  | x, .non => (match x with
    | .non => .ok (.bl false)
    | .own _ => .bad
    | _ => .ok (.bl true))
  | .bl a, .bl b => .ok (.bl (!decide (a = b)))
  | _, _ => .bad
def rIsA : R2 := fun x y H Q => (fun x y H Q => y = .non ∧ Q (.bl (decide (x = .non))) H : R2) x y H Q ∨ rIsB x y H Q
def rIsntA : R2 := fun x y H Q => (fun x y H Q => y = .non ∧ Q (.bl (!decide (x = .non))) H : R2) x y H Q ∨ rNotB x y H Q
theorem or_isA {X : Cx} : OpR X (compareOp .Is) rIsA := op_isN.or op_isBl
theorem or_isntA {X : Cx} : OpR X (compareOp .IsNot) rIsntA := op_notN.or op_notBl
theorem os_isA : OpS K rIsA isD := by
  intro H M x y dx dy Q tk rx ry w
  cases dy with
  | non =>
    rw [ry.non_inv]
    refine .inl ⟨rfl, ?_⟩
    cases rx <;> exact w _ _ (.refl _) (.bl _)
  | bl b =>
    cases dx with
    | bl a => rw [rx.bl_inv, ry.bl_inv]; exact .inr ⟨a, b, rfl, rfl, w _ _ (.refl _) (.bl _)⟩
    | _ => exact w.elim
  | _ => cases dx <;> exact w.elim
theorem os_isntA : OpS K rIsntA isntD := by
  intro H M x y dx dy Q tk rx ry w
  cases dy with
  | non =>
    rw [ry.non_inv]
    refine .inl ⟨rfl, ?_⟩
    cases rx <;> exact w _ _ (.refl _) (.bl _)
  | bl b =>
    cases dx with
    | bl a => rw [rx.bl_inv, ry.bl_inv]; exact .inr ⟨a, b, rfl, rfl, w _ _ (.refl _) (.bl _)⟩
    | _ => exact w.elim
  | _ => cases dx <;> exact w.elim

/-! ### == -/
mutual
def D.py : D → PyData
  | .non => .none
  | .bl b => .bool b
  | .int i => .int i
  | .str x => .str x
  | .tup xs => .tuple (D.pyL xs)
  | .lst xs => .list (D.pyL xs)
  | .dic _ => .dict []
  | .dct _ => .dict []
  | .own _ => .dict []
  | .scr ns => .list (ns.map PyData.int)
  | .exc _ => .dict []
def D.pyL : List D → List PyData
  | [] => []
  | x :: xs => x.py :: D.pyL xs
end
theorem canLay_cons {x : PyData} {xs : List PyData} : PyData.canLayAll0 (x :: xs) = (x.canLay0 && PyData.canLayAll0 xs) := by simp only [PyData.canLayAll0]
theorem dpAll_of {H : Hp} : ∀ {ds : List D} {vs : List V}, vs.length = ds.length → (∀ (i : Nat) (d : D) (v : V), ds[i]? = some d → vs[i]? = some v → d.py.canLay0 = true → Dp K H v d.py) → PyData.canLayAll0 (D.pyL ds) = true → DpAll K H vs (D.pyL ds)
  | [], vs, hl, h, c => by rw [List.length_eq_zero_iff.mp hl]; exact .nil
  | d :: ds, [], hl, h, c => by simp at hl
  | d :: ds, v :: vs, hl, h, c => by
    have c' : (d.py.canLay0 && PyData.canLayAll0 (D.pyL ds)) = true := by rw [← canLay_cons]; exact c
    rw [Bool.and_eq_true] at c'
    exact .cons (h 0 d v rfl rfl c'.1) (dpAll_of (by simpa using hl) (fun i e u h1 h2 => h (i + 1) e u (by simpa using h1) (by simpa using h2)) c'.2)
theorem scr_dp {H : Hp} {a : Addr} {ns : List Int} (h : ScrAt K H a (ns.map V.int)) : Dp K H (.ref a) (.list (ns.map PyData.int)) := by
  refine .lst h.sq ?_
  clear h
  induction ns with
  | nil => exact .nil
  | cons n ns ih => exact .cons (.int n) ih
theorem Rp.dp {H : Hp} {M : Addr → Prop} {d : D} {v : V} (h : Rp K H M d v) : d.py.canLay0 = true → Dp K H v d.py := by
  induction h with
  | non => exact fun _ => .non
  | bl b => exact fun _ => .bl b
  | int i => exact fun _ => .int i
  | str y => exact fun _ => .str y
  | tup h hl hz _ ih => exact fun c => .tup h (dpAll_of hl ih (by simpa only [D.py, PyData.canLay0] using c))
  | lst h hm hl hz _ ih => exact fun c => .lst (.of h) (dpAll_of hl ih (by simpa only [D.py, PyData.canLay0] using c))
  | scr h hz => exact fun _ => scr_dp h
  | exc h hm hd => exact fun c => by simp only [D.py, PyData.canLay0] at c; cases c
  | dic h hm hl hz hk _ ih => exact fun c => by simp only [D.py, PyData.canLay0] at c; cases c
  | dct h hm hl hz hk _ ih => exact fun c => by simp only [D.py, PyData.canLay0] at c; cases c
theorem Ro.dp {H : Hp} {M : Addr → Prop} {d : D} {v : V} (h : Ro K H M d v) (c : d.py.canLay0 = true) : Dp K H v d.py := by
  cases h with
  | non => exact .non
  | bl b => exact .bl b
  | int i => exact .int i
  | str y => exact .str y
  | tup h hz r => exact .tup h (dpAll_of r.len (fun i d v e f => (r.item i d v e f).dp) (by simpa only [D.py, PyData.canLay0] using c))
  | lst h hz r => exact .lst (.of h) (dpAll_of r.len (fun i d v e f => (r.item i d v e f).dp) (by simpa only [D.py, PyData.canLay0] using c))
  | scr h hz => exact scr_dp h
  | exc h hd => simp only [D.py, PyData.canLay0] at c; cases c
  | dic h hz r => simp only [D.py, PyData.canLay0] at c; cases c
  | dct h hz r => simp only [D.py, PyData.canLay0] at c; cases c
def eqD (x y : D) : Res D := match x, y with
  | .int i, .int j => .ok (.bl (decide (i = j)))
  | .str i, .str j => .ok (.bl (decide (i = j)))
  | x, y => if SeqAt.shaped x.py = true ∧ SeqAt.shaped y.py = true then .ok (.bl (PyData.eqv x.py y.py)) else .bad
def neD (x y : D) : Res D := match x, y with
  | .int i, .int j => .ok (.bl (!decide (i = j)))
  | .str i, .str j => .ok (.bl (!decide (i = j)))
  | x, y => if SeqAt.shaped x.py = true ∧ SeqAt.shaped y.py = true then .ok (.bl (!PyData.eqv x.py y.py)) else .bad
def rEqA (K : PySem.W.Frag) : R2 := fun x y H Q => rEq x y H Q ∨ rEqD K x y H Q
def rNeA (K : PySem.W.Frag) : R2 := fun x y H Q => rNe x y H Q ∨ rNeD K x y H Q
theorem or_eqA {X : Cx} {k : Nat} (hr : Room k X.A) : OpR X (compareOp .Eq) (rEqA X.K) := op_eq.or (op_eqD hr.units)
theorem or_neA {X : Cx} {k : Nat} (hr : Room k X.A) : OpR X (compareOp .NotEq) (rNeA X.K) := op_ne.or (op_neD hr.units)
theorem os_eqA : OpS K (rEqA K) eqD := by
  intro H M x y dx dy Q tk rx ry w
  have gen : (if SeqAt.shaped dx.py = true ∧ SeqAt.shaped dy.py = true then Res.ok (D.bl (PyData.eqv dx.py dy.py)) else .bad).Wp (fun d => ∀ v H', Same H H' → Rp K H' M d v → Q v H') (fun _ => False) → rEqA K x y H Q := by
    intro w
    split at w
    · rename_i hc
      exact .inr ⟨_, _, rx.dp (SeqAt.canLay_of_shaped hc.1), ry.dp (SeqAt.canLay_of_shaped hc.2), hc.1, hc.2, w _ _ (.refl _) (.bl _)⟩
    · exact w.elim
  cases dx with
  | int i =>
    cases dy with
    | int j =>
      rw [rx.int_inv, ry.int_inv]
      refine .inl ⟨rfl, ?_⟩
      rw [dec_int, Bool.beq_eq_decide_eq]
      exact w _ _ (.refl _) (.bl _)
    | _ => exact gen w
  | str i =>
    cases dy with
    | str j =>
      rw [rx.str_inv, ry.str_inv]
      refine .inl ⟨rfl, ?_⟩
      rw [dec_str, Bool.beq_eq_decide_eq]
      exact w _ _ (.refl _) (.bl _)
    | _ => exact gen w
  | _ => exact gen (by cases dy <;> exact w)
theorem os_neA : OpS K (rNeA K) neD := by
  intro H M x y dx dy Q tk rx ry w
  have gen : (if SeqAt.shaped dx.py = true ∧ SeqAt.shaped dy.py = true then Res.ok (D.bl (!PyData.eqv dx.py dy.py)) else .bad).Wp (fun d => ∀ v H', Same H H' → Rp K H' M d v → Q v H') (fun _ => False) → rNeA K x y H Q := by
    intro w
    split at w
    · rename_i hc
      exact .inr ⟨_, _, rx.dp (SeqAt.canLay_of_shaped hc.1), ry.dp (SeqAt.canLay_of_shaped hc.2), hc.1, hc.2, w _ _ (.refl _) (.bl _)⟩
    · exact w.elim
  cases dx with
  | int i =>
    cases dy with
    | int j =>
      rw [rx.int_inv, ry.int_inv]
      refine .inl ⟨rfl, ?_⟩
      rw [dec_int, Bool.beq_eq_decide_eq]
      exact w _ _ (.refl _) (.bl _)
    | _ => exact gen w
  | str i =>
    cases dy with
    | str j =>
      rw [rx.str_inv, ry.str_inv]
      refine .inl ⟨rfl, ?_⟩
      rw [dec_str, Bool.beq_eq_decide_eq]
      exact w _ _ (.refl _) (.bl _)
    | _ => exact gen w
  | _ => exact gen (by cases dy <;> exact w)

/-! ### a[i] -/
theorem RpL.atI {H : Hp} {M : Addr → Prop} {ds : List D} {vs : List V} (r : RpL K H M ds vs) {i : Int} {d : D} (h : L2.atI ds i = some d) : ∃ v, L2.atI vs i = some v ∧ Rp K H M d v := by
  unfold L2.atI at h ⊢
  rw [r.len]
  cases e : ixN ds.length i with
  | none => rw [e] at h; cases h
  | some j =>
    rw [e] at h
    exact r.at1 h
def ixD (x y : D) : Res D := match x, y with
  | .lst xs, .int i => (match L2.atI xs i with | some d => .ok d | none => .bad)
  | .tup xs, .int i => (match L2.atI xs i with | some d => .ok d | none => .bad)
  | .str x, .int i => if x.length ≤ sizeLine then (match L2.atI x.cps.toList i with | some c => .ok (.str ⟨#[c]⟩) | none => .bad) else .bad
  | _, _ => .bad
theorem os_ix : OpS K (rIx K) ixD := by
  intro H M x y dx dy Q tk rx ry w
  cases dy with
  | int i =>
    rw [ry.int_inv]
    cases dx with
    | lst xs =>
      obtain ⟨p, vs, rfl, h1, z1, q1⟩ := rx.lst_inv
      simp only [ixD] at w
      cases e : L2.atI xs i with
      | none => rw [e] at w; exact w.elim
      | some d =>
        rw [e] at w
        obtain ⟨v, e2, r⟩ := q1.atI e
        exact .inl ⟨p, vs, i, v, rfl, rfl, .of h1, e2, w _ _ (.refl _) r⟩
    | tup xs =>
      obtain ⟨p, vs, rfl, h1, z1, q1⟩ := rx.tup_inv
      simp only [ixD] at w
      cases e : L2.atI xs i with
      | none => rw [e] at w; exact w.elim
      | some d =>
        rw [e] at w
        obtain ⟨v, e2, r⟩ := q1.atI e
        exact .inr (.inl ⟨p, vs, i, v, rfl, rfl, h1, e2, w _ _ (.refl _) r⟩)
    | str x =>
      rw [rx.str_inv]
      simp only [ixD] at w
      split at w
      · rename_i hz
        cases e : L2.atI x.cps.toList i with
        | none => rw [e] at w; exact w.elim
        | some c =>
          rw [e] at w
          exact .inr (.inr ⟨x, i, c, rfl, rfl, hz, e, w _ _ (.refl _) (.str _)⟩)
      · exact w.elim
    | _ => exact w.elim
  | _ => cases dx <;> exact w.elim
end
end Vm
end
section
set_option maxRecDepth 100000
set_option maxHeartbeats 4000000
/-! Vm, part E: built-ins by name, slices. -/
namespace Vm
open PySem PySem.Spec PyProof.Rows L2

section
variable {K : PySem.W.Frag}
def one (g : D → Res D) (ds : List D) : Res D := match ds with
  | [x] => g x
  | _ => .bad
def two (g : D → D → Res D) (ds : List D) : Res D := match ds with
  | [x, y] => g x y
  | _ => .bad
/-! ### len -/
def lenD (x : D) : Res D := match x with
  | .lst xs => .ok (.int xs.length)
  | .tup xs => .ok (.int xs.length)
  | .str x => if x.length ≤ sizeLine then .ok (.int x.length) else .bad
  | .dic xs => .ok (.int xs.length)
  | .scr ns => .ok (.int ns.length)
  | _ => .bad
def rLenA (K : PySem.W.Frag) : List V → Hp → VK → Prop := fun xs H Q => (fun xs H Q => ∃ x n, xs = [x] ∧ LenV K x H n ∧ Q (.int n) H : List V → Hp → VK → Prop) xs H Q ∨ (fun xs H Q => ∃ a kvs, xs = [V.ref a] ∧ Rd H a (.dK kvs) ∧ Q (.int kvs.length) H : List V → Hp → VK → Prop) xs H Q
theorem call_lenRd {X : Cx} : CallR X (.builtin "len") (fun xs H Q => ∃ a kvs, xs = [V.ref a] ∧ Rd H a (.dK kvs) ∧ Q (.int kvs.length) H) := by
  intro pins s σ H xs us Q I r h
  obtain ⟨a, kvs, rfl, ha, q⟩ := h
  obtain ⟨u, rfl, ru⟩ := vals1 r
  cases ru
  exact d_len I (ha.imp id id) fun t s' I' => ⟨.int kvs.length, H, I', ⟨t, rfl⟩, q⟩
theorem cr_lenA {X : Cx} : CallR X (.builtin "len") (rLenA X.K) := call_len.or call_lenRd
theorem cs_len : CallS K (rLenA K) (one lenD) := by
  intro H M vs ds Q tk r w
  match ds, r, w with
  | [d], r, w =>
    obtain ⟨v, rfl, rv⟩ := r.one
    cases d with
    | lst xs =>
      obtain ⟨a, us, rfl, h, z, q⟩ := rv.lst_inv
      exact .inl ⟨_, us.length, rfl, .inl ⟨us, .of h, rfl⟩, by rw [q.len]; exact w _ _ (.refl _) (.int _)⟩
    | tup xs =>
      obtain ⟨a, us, rfl, h, z, q⟩ := rv.tup_inv
      exact .inl ⟨_, us.length, rfl, .inr ⟨us, h, rfl⟩, by rw [q.len]; exact w _ _ (.refl _) (.int _)⟩
    | str x =>
      rw [rv.str_inv]
      simp only [one, lenD] at w
      split at w
      · rename_i hz
        exact .inl ⟨_, x.length, rfl, ⟨hz, rfl⟩, w _ _ (.refl _) (.int _)⟩
      · exact w.elim
    | dic xs =>
      obtain ⟨a, us, rfl, h, z, q⟩ := rv.dic_inv
      exact .inr ⟨a, us, rfl, h, by rw [q.len]; exact w _ _ (.refl _) (.int _)⟩
    | scr ns =>
      cases rv with
      | scr h hz => exact .inl ⟨_, (ns.map V.int).length, rfl, .inl ⟨_, h.sq, rfl⟩, by rw [List.length_map]; exact w _ _ (.refl _) (.int _)⟩
    | _ => exact w.elim
  | [], _, w => exact w.elim
  | _ :: _ :: _, _, w => exact w.elim

/-! ### max, min, abs, int, repr, str -/
def maxD (x y : D) : Res D := match x, y with
  | .int i, .int j => .ok (.int (if j > i then j else i))
  | _, _ => .bad
def minD (x y : D) : Res D := match x, y with
  | .int i, .int j => .ok (.int (if j < i then j else i))
  | _, _ => .bad
theorem cs_max2 : CallS K (fun xs H Q => ∃ i j, xs = [.int i, .int j] ∧ Q (.int (if j > i then j else i)) H) (two maxD) := by
  intro H M vs ds Q tk r w
  match ds, r, w with
  | [d, e], r, w =>
    obtain ⟨v, u, rfl, rv, ru⟩ := r.two
    cases d with
    | int i =>
      cases e with
      | int j => rw [rv.int_inv, ru.int_inv]; exact ⟨i, j, rfl, w _ _ (.refl _) (.int _)⟩
      | _ => exact w.elim
    | _ => exact w.elim
  | [], _, w => exact w.elim
  | [_], _, w => exact w.elim
  | _ :: _ :: _ :: _, _, w => exact w.elim
theorem cs_min2 : CallS K (fun xs H Q => ∃ i j, xs = [.int i, .int j] ∧ Q (.int (if j < i then j else i)) H) (two minD) := by
  intro H M vs ds Q tk r w
  match ds, r, w with
  | [d, e], r, w =>
    obtain ⟨v, u, rfl, rv, ru⟩ := r.two
    cases d with
    | int i =>
      cases e with
      | int j => rw [rv.int_inv, ru.int_inv]; exact ⟨i, j, rfl, w _ _ (.refl _) (.int _)⟩
      | _ => exact w.elim
    | _ => exact w.elim
  | [], _, w => exact w.elim
  | [_], _, w => exact w.elim
  | _ :: _ :: _ :: _, _, w => exact w.elim
def intD (x : D) : Res D := match x with
  | .int i => .ok (.int i)
  | .bl k => .ok (.int (if k then 1 else 0))
  | _ => .bad
theorem cs_int : CallS K (fun xs H Q => (∃ i, xs = [.int i] ∧ Q (.int i) H) ∨ ∃ k, xs = [.bl k] ∧ Q (.int (if k then 1 else 0)) H) (one intD) := by
  intro H M vs ds Q tk r w
  match ds, r, w with
  | [d], r, w =>
    obtain ⟨v, rfl, rv⟩ := r.one
    cases d with
    | int i => rw [rv.int_inv]; exact .inl ⟨i, rfl, w _ _ (.refl _) (.int _)⟩
    | bl k => rw [rv.bl_inv]; exact .inr ⟨k, rfl, w _ _ (.refl _) (.int _)⟩
    | _ => exact w.elim
  | [], _, w => exact w.elim
  | _ :: _ :: _, _, w => exact w.elim
def absD (x : D) : Res D := match x with
  | .int i => .ok (.int (if i < 0 then -i else i))
  | _ => .bad
theorem cs_abs : CallS K (fun xs H Q => ∃ i, xs = [.int i] ∧ Q (.int (if i < 0 then -i else i)) H) (one absD) := by
  intro H M vs ds Q tk r w
  match ds, r, w with
  | [d], r, w =>
    obtain ⟨v, rfl, rv⟩ := r.one
    cases d with
    | int i => rw [rv.int_inv]; exact ⟨i, rfl, w _ _ (.refl _) (.int _)⟩
    | _ => exact w.elim
  | [], _, w => exact w.elim
  | _ :: _ :: _, _, w => exact w.elim
/-- str, repr of intsD -/
def strI (x : D) : Res D := match x with
  | .int i => if i.natAbs.log2 < 1920 then .ok (.str (toString i)) else .bad
  | _ => .bad
theorem cs_strI : CallS K (fun xs H Q => ∃ i, xs = [.int i] ∧ i.natAbs.log2 < 1920 ∧ Q (.str (toString i)) H) (one strI) := by
  intro H M vs ds Q tk r w
  match ds, r, w with
  | [d], r, w =>
    obtain ⟨v, rfl, rv⟩ := r.one
    cases d with
    | int i =>
      rw [rv.int_inv]
      simp only [one, strI] at w
      split at w
      · rename_i hz
        exact ⟨i, rfl, hz, w _ _ (.refl _) (.str _)⟩
      · exact w.elim
    | _ => exact w.elim
  | [], _, w => exact w.elim
  | _ :: _ :: _, _, w => exact w.elim

/-! ### sum, all, any, max, min, sorted of lists -/
def intsD : List D → Option (List Int)
  | [] => some []
  | .int i :: ds => (intsD ds).map (i :: ·)
  | _ => none
def blsD : List D → Option (List Bool)
  | [] => some []
  | .bl i :: ds => (blsD ds).map (i :: ·)
  | _ => none
theorem ints_eq : ∀ {ds : List D} {ns : List Int}, intsD ds = some ns → ds = ns.map D.int
  | [], ns, h => by cases h; rfl
  | .int i :: ds, ns, h => by
    simp only [intsD] at h
    cases q : intsD ds with
    | none => rw [q] at h; cases h
    | some ms => rw [q] at h; cases h; rw [ints_eq q]; rfl
theorem bls_eq : ∀ {ds : List D} {ns : List Bool}, blsD ds = some ns → ds = ns.map D.bl
  | [], ns, h => by cases h; rfl
  | .bl i :: ds, ns, h => by
    simp only [blsD] at h
    cases q : blsD ds with
    | none => rw [q] at h; cases h
    | some ms => rw [q] at h; cases h; rw [bls_eq q]; rfl
theorem ints_map : ∀ ns : List Int, intsD (ns.map D.int) = some ns
  | [] => rfl
  | n :: ns => by simp only [List.map_cons, intsD, ints_map ns]; rfl
theorem bls_map : ∀ ns : List Bool, blsD (ns.map D.bl) = some ns
  | [] => rfl
  | n :: ns => by simp only [List.map_cons, blsD, bls_map ns]; rfl
def onI (g : List Int → Res D) (x : D) : Res D := match x with
  | .lst ds => (match intsD ds with | some ns => g ns | none => .bad)
  | _ => .bad
def onB (g : List Bool → Res D) (x : D) : Res D := match x with
  | .lst ds => (match blsD ds with | some ns => g ns | none => .bad)
  | _ => .bad
theorem onI_inv {g : List Int → Res D} {x : D} {P : D → Prop} {E : Str → Prop} (w : (onI g x).Wp P E) : ∃ ns : List Int, x = .lst (ns.map D.int) ∧ (g ns).Wp P E := by
  cases x with
  | lst ds =>
    simp only [onI] at w
    cases q : intsD ds with
    | none => rw [q] at w; exact w.elim
    | some ns => rw [q] at w; exact ⟨ns, by rw [ints_eq q], w⟩
  | _ => exact w.elim
theorem onB_inv {g : List Bool → Res D} {x : D} {P : D → Prop} {E : Str → Prop} (w : (onB g x).Wp P E) : ∃ ns : List Bool, x = .lst (ns.map D.bl) ∧ (g ns).Wp P E := by
  cases x with
  | lst ds =>
    simp only [onB] at w
    cases q : blsD ds with
    | none => rw [q] at w; exact w.elim
    | some ns => rw [q] at w; exact ⟨ns, by rw [bls_eq q], w⟩
  | _ => exact w.elim
theorem one_inv {g : D → Res D} {ds : List D} {P : D → Prop} {E : Str → Prop} (w : (one g ds).Wp P E) : ∃ d, ds = [d] ∧ (g d).Wp P E := by
  match ds, w with
  | [d], w => exact ⟨d, rfl, w⟩
  | [], w => exact w.elim
  | _ :: _ :: _, w => exact w.elim
theorem cs_sum : CallS K (rSum K) (one (onI fun ns => .ok (.int ns.sum))) := by
  intro H M vs ds Q tk r w
  obtain ⟨d, rfl, w1⟩ := one_inv w
  obtain ⟨v, rfl, rv⟩ := r.one
  obtain ⟨ns, rfl, w2⟩ := onI_inv w1
  obtain ⟨a, us, rfl, h, z, q⟩ := rv.lst_inv
  rw [q.ints] at h
  exact ⟨a, ns, rfl, .of h, w2 _ _ (.refl _) (.int _)⟩
theorem cs_all : CallS K (rAll K) (one (onB fun ns => .ok (.bl (ns.all id)))) := by
  intro H M vs ds Q tk r w
  obtain ⟨d, rfl, w1⟩ := one_inv w
  obtain ⟨v, rfl, rv⟩ := r.one
  obtain ⟨ns, rfl, w2⟩ := onB_inv w1
  obtain ⟨a, us, rfl, h, z, q⟩ := rv.lst_inv
  rw [q.bls] at h
  exact ⟨a, ns, rfl, .of h, w2 _ _ (.refl _) (.bl _)⟩
theorem cs_any : CallS K (rAny K) (one (onB fun ns => .ok (.bl (ns.any id)))) := by
  intro H M vs ds Q tk r w
  obtain ⟨d, rfl, w1⟩ := one_inv w
  obtain ⟨v, rfl, rv⟩ := r.one
  obtain ⟨ns, rfl, w2⟩ := onB_inv w1
  obtain ⟨a, us, rfl, h, z, q⟩ := rv.lst_inv
  rw [q.bls] at h
  exact ⟨a, ns, rfl, .of h, w2 _ _ (.refl _) (.bl _)⟩
def maxL : List Int → Res D
  | [] => .bad
  | n :: ns => .ok (.int (ns.foldl max n))
def minL : List Int → Res D
  | [] => .bad
  | n :: ns => .ok (.int (ns.foldl min n))
theorem foldl_max : ∀ (ns : List Int) (n : Int), (ns.foldl max n = n ∨ ns.foldl max n ∈ ns) ∧ n ≤ ns.foldl max n ∧ ∀ y ∈ ns, y ≤ ns.foldl max n
  | [], n => ⟨.inl rfl, Int.le_refl _, fun _ h => by cases h⟩
  | m :: ns, n => by
    obtain ⟨h1, h2, h3⟩ := foldl_max ns (max n m)
    refine ⟨?_, Int.le_trans (Int.le_max_left _ _) h2, fun y hy => ?_⟩
    · show ns.foldl max (max n m) = n ∨ _
      rcases h1 with h1 | h1
      · by_cases c : n ≤ m
        · exact .inr (by rw [List.foldl_cons, h1, Int.max_eq_right c]; exact List.mem_cons_self)
        · exact .inl (by rw [h1]; exact Int.max_eq_left (by omega))
      · exact .inr (List.mem_cons_of_mem _ h1)
    · rcases List.mem_cons.mp hy with e | e
      · rw [e]; exact Int.le_trans (Int.le_max_right _ _) h2
      · exact h3 y e
theorem foldl_min : ∀ (ns : List Int) (n : Int), (ns.foldl min n = n ∨ ns.foldl min n ∈ ns) ∧ ns.foldl min n ≤ n ∧ ∀ y ∈ ns, ns.foldl min n ≤ y
  | [], n => ⟨.inl rfl, Int.le_refl _, fun _ h => by cases h⟩
  | m :: ns, n => by
    obtain ⟨h1, h2, h3⟩ := foldl_min ns (min n m)
    refine ⟨?_, Int.le_trans h2 (Int.min_le_left _ _), fun y hy => ?_⟩
    · show ns.foldl min (min n m) = n ∨ _
      rcases h1 with h1 | h1
      · by_cases c : m ≤ n
        · exact .inr (by rw [List.foldl_cons, h1, Int.min_eq_right c]; exact List.mem_cons_self)
        · exact .inl (by rw [h1]; exact Int.min_eq_left (by omega))
      · exact .inr (List.mem_cons_of_mem _ h1)
    · rcases List.mem_cons.mp hy with e | e
      · rw [e]; exact Int.le_trans h2 (Int.min_le_right _ _)
      · exact h3 y e
theorem cs_maxL : CallS K (rMax K) (one (onI maxL)) := by
  intro H M vs ds Q tk r w
  obtain ⟨d, rfl, w1⟩ := one_inv w
  obtain ⟨v, rfl, rv⟩ := r.one
  obtain ⟨ns, rfl, w2⟩ := onI_inv w1
  obtain ⟨a, us, rfl, h, z, q⟩ := rv.lst_inv
  rw [q.ints] at h
  cases ns with
  | nil => exact w2.elim
  | cons n ns =>
    refine ⟨a, n :: ns, rfl, .of h, by simp, fun m hm hy => ?_⟩
    obtain ⟨h1, h2, h3⟩ := foldl_max ns n
    have e : m = ns.foldl max n := by
      refine Int.le_antisymm ?_ ?_
      · rcases List.mem_cons.mp hm with e | e
        · rw [e]; exact h2
        · exact h3 m e
      · rcases h1 with h1 | h1
        · rw [h1]; exact hy n List.mem_cons_self
        · exact hy _ (List.mem_cons_of_mem _ h1)
    rw [e]
    exact w2 _ _ (.refl _) (.int _)
theorem cs_minL : CallS K (rMin K) (one (onI minL)) := by
  intro H M vs ds Q tk r w
  obtain ⟨d, rfl, w1⟩ := one_inv w
  obtain ⟨v, rfl, rv⟩ := r.one
  obtain ⟨ns, rfl, w2⟩ := onI_inv w1
  obtain ⟨a, us, rfl, h, z, q⟩ := rv.lst_inv
  rw [q.ints] at h
  cases ns with
  | nil => exact w2.elim
  | cons n ns =>
    refine ⟨a, n :: ns, rfl, .of h, by simp, fun m hm hy => ?_⟩
    obtain ⟨h1, h2, h3⟩ := foldl_min ns n
    have e : m = ns.foldl min n := by
      refine Int.le_antisymm ?_ ?_
      · rcases h1 with h1 | h1
        · rw [h1]; exact hy n List.mem_cons_self
        · exact hy _ (List.mem_cons_of_mem _ h1)
      · rcases List.mem_cons.mp hm with e | e
        · rw [e]; exact h2
        · exact h3 m e
    rw [e]
    exact w2 _ _ (.refl _) (.int _)
theorem ksame {a b : List Int} (hp : a.Perm b) (ha : a.Pairwise (· ≤ ·)) (hb : b.Pairwise (· ≤ ·)) : a = b := hp.eq_of_pairwise (fun x y _ _ h1 h2 => Int.le_antisymm h1 h2) ha hb
def sortI (ns : List Int) : List Int := ns.mergeSort fun a b => decide (a ≤ b)
theorem sortI_perm (ns : List Int) : (sortI ns).Perm ns := List.mergeSort_perm _ _
theorem sortI_sorted (ns : List Int) : (sortI ns).Pairwise (· ≤ ·) := by
  have h := List.pairwise_mergeSort (le := fun a b : Int => decide (a ≤ b)) (fun a b c h1 h2 => by simp at *; omega) (fun a b => by simp; omega) ns
  exact h.imp fun h => by simpa using h
theorem cf_sortI : CallF K (rSortedI K) (one (onI fun ns => .ok (.lst ((sortI ns).map D.int)))) := by
  intro H M vs ds Q tk r w
  obtain ⟨d, rfl, w1⟩ := one_inv w
  obtain ⟨v, rfl, rv⟩ := r.one
  obtain ⟨ns, rfl, w2⟩ := onI_inv w1
  obtain ⟨a, us, rfl, h, z, q⟩ := rv.lst_inv
  rw [q.ints] at h
  refine ⟨a, ns, rfl, .of h, fun ns' p hp hs hn => ?_⟩
  have e : ns' = sortI ns := ksame (hp.trans (sortI_perm ns).symm) hs (sortI_sorted ns)
  rw [e]
  refine w2 p _ hn (same_new hn) (cell_new .of_ints hn ?_)
  rw [List.length_map, (sortI_perm ns).length_eq]
  simpa using z
/-- tuple(x), list(x) -/
def tupD (x : D) : Res D := match x with
  | .lst xs => .ok (.tup xs)
  | .tup xs => .ok (.tup xs)
  | _ => .bad
def lstD (x : D) : Res D := match x with
  | .lst xs => .ok (.lst xs)
  | .tup xs => .ok (.lst xs)
  | _ => .bad
theorem cs_tuple : CallS K (fun xs H Q => ∃ p ys, xs = [.ref p] ∧ ((SqL K H p ys ∧ ∀ l, H l = none → Q (.ref l) (upd H l (.tup ys))) ∨ (SqT K H p ys ∧ Q (.ref p) H))) (one tupD) := by
  intro H M vs ds Q tk r w
  obtain ⟨d, rfl, w1⟩ := one_inv w
  obtain ⟨v, rfl, rv⟩ := r.one
  cases d with
  | lst xs =>
    obtain ⟨a, us, rfl, h, z, q⟩ := rv.lst_inv
    exact ⟨a, us, rfl, .inl ⟨.of h, fun l hn => w1 _ _ (same_new hn) (.tup' (.of upd_same) z (q.same (same_new hn)))⟩⟩
  | tup xs =>
    obtain ⟨a, us, rfl, h, z, q⟩ := rv.tup_inv
    exact ⟨a, us, rfl, .inr ⟨h, w1 _ _ (.refl _) (.tup' h z q)⟩⟩
  | _ => exact w1.elim
theorem cf_list : CallF K (fun xs H Q => ∃ p ys, xs = [.ref p] ∧ (SqL K H p ys ∨ SqT K H p ys) ∧ ∀ l, H l = none → Q (.ref l) (upd H l (.lst ys))) (one lstD) := by
  intro H M vs ds Q tk r w
  obtain ⟨d, rfl, w1⟩ := one_inv w
  obtain ⟨v, rfl, rv⟩ := r.one
  cases d with
  | lst xs =>
    obtain ⟨a, us, rfl, h, z, q⟩ := rv.lst_inv
    exact ⟨a, us, rfl, .inl (.of h), fun l hn => w1 _ _ hn (same_new hn) (cell_new q hn z)⟩
  | tup xs =>
    obtain ⟨a, us, rfl, h, z, q⟩ := rv.tup_inv
    exact ⟨a, us, rfl, .inr h, fun l hn => w1 _ _ hn (same_new hn) (cell_new q hn z)⟩
  | _ => exact w1.elim
/-- sorted(d), a dict with int keys -/
def keysI : List (Key × D) → Option (List Int)
  | [] => some []
  | (.inl i, _) :: ds => (keysI ds).map (i :: ·)
  | _ => none
theorem keysI_eq : ∀ {ds : List (Key × D)} {ns : List Int}, keysI ds = some ns → ds.map (·.1) = ns.map Sum.inl
  | [], ns, h => by cases h; rfl
  | (.inl i, _) :: ds, ns, h => by
    simp only [keysI] at h
    cases q : keysI ds with
    | none => rw [q] at h; cases h
    | some ms => rw [q] at h; cases h; rw [List.map_cons, keysI_eq q]; rfl
def sortDI (x : D) : Res D := match x with
  | .dic ds => (match keysI ds with | some ns => if ns.length < 64 then .ok (.lst ((sortI ns).map D.int)) else .bad | none => .bad)
  | _ => .bad
theorem RpK.keys {H : Hp} {M : Addr → Prop} {ds : List (Key × D)} {vs : List (Key × V)} (r : RpK K H M ds vs) : vs.map (·.1) = ds.map (·.1) := by
  refine List.ext_getElem? fun i => ?_
  rw [List.getElem?_map, List.getElem?_map]
  cases e : ds[i]? with
  | none =>
    have : vs[i]? = none := List.getElem?_eq_none_iff.mpr (by rw [r.len]; exact List.getElem?_eq_none_iff.mp e)
    rw [this]; rfl
  | some p =>
    have hi : i < vs.length := by rw [r.len]; exact (List.getElem?_eq_some_iff.mp e).1
    have e2 : vs[i]? = some vs[i] := List.getElem?_eq_getElem hi
    rw [e2]
    exact congrArg some (r.key i p _ e e2)
theorem cf_sortDI : CallF K (fun xs H Q => ∃ (a : Addr) (kvs : List (Key × V)) (ks : List Int), xs = [.ref a] ∧ Rd H a (.dK kvs) ∧ kvs.map (·.1) = ks.map Sum.inl ∧ ks.length < 64 ∧ ∀ (ys : List Int) (p : Addr), ys.Perm ks → ys.Pairwise (· ≤ ·) → H p = none → Q (.ref p) (upd H p (.lst (ys.map V.int)))) (one sortDI) := by
  intro H M vs ds Q tk r w
  obtain ⟨d, rfl, w1⟩ := one_inv w
  obtain ⟨v, rfl, rv⟩ := r.one
  cases d with
  | dic xs =>
    obtain ⟨a, us, rfl, h, z, q⟩ := rv.dic_inv
    simp only [sortDI] at w1
    cases e : keysI xs with
    | none => rw [e] at w1; exact w1.elim
    | some ns =>
      rw [e] at w1
      simp only at w1
      split at w1
      · rename_i hz
        refine ⟨a, us, ns, rfl, h, by rw [q.keys, keysI_eq e], hz, fun ys p hp hs hn => ?_⟩
        have e : ys = sortI ns := ksame (hp.trans (sortI_perm ns).symm) hs (sortI_sorted ns)
        rw [e]
        refine w1 p _ hn (same_new hn) (cell_new .of_ints hn ?_)
        rw [List.length_map, (sortI_perm ns).length_eq]
        exact small64 hz
      · exact w1.elim
  | _ => exact w1.elim
/-- d[k], k in d -/
def dkey (y : D) : Option Key := match y with
  | .int i => some (.inl i)
  | .str x => some (.inr x)
  | _ => none
def valD {κ : Type} [DecidableEq κ] (ds : List (κ × D)) (k : κ) : Option D := (ds.find? fun kv => decide (kv.1 = k)).map (·.2)
def putD {κ : Type} [DecidableEq κ] (ds : List (κ × D)) (k : κ) (v : D) : List (κ × D) :=
  if (ds.any fun kv => decide (kv.1 = k)) = true then ds.map (fun kv => if kv.1 = k then (kv.1, v) else kv) else ds ++ [(k, v)]
theorem RpK.nil {κ : Type} {H : Hp} {M : Addr → Prop} : RpK (κ := κ) K H M [] [] := ⟨rfl, fun i p q e _ => by simp at e, fun i p q e _ => by simp at e⟩
theorem RpK.cons_inv {κ : Type} [DecidableEq κ] {H : Hp} {M : Addr → Prop} {p : κ × D} {ds : List (κ × D)} {vs : List (κ × V)} (r : RpK K H M (p :: ds) vs) : ∃ v ws, vs = (p.1, v) :: ws ∧ Rp K H M p.2 v ∧ RpK K H M ds ws := by
  cases vs with
  | nil => have := r.len; simp at this
  | cons v ws =>
    have e := r.key 0 p v rfl rfl
    exact ⟨v.2, ws, by rw [← e], r.item 0 p v rfl rfl, by have := r.len; simpa using this, fun i e f h1 h2 => r.key (i + 1) e f (by simpa using h1) (by simpa using h2), fun i e f h1 h2 => r.item (i + 1) e f (by simpa using h1) (by simpa using h2)⟩
theorem RpK.cons {κ : Type} [DecidableEq κ] {H : Hp} {M : Addr → Prop} {k : κ} {d : D} {v : V} {ds : List (κ × D)} {vs : List (κ × V)} (h : Rp K H M d v) (r : RpK K H M ds vs) : RpK K H M ((k, d) :: ds) ((k, v) :: vs) := by
  refine ⟨by simp [r.len], fun i e f h1 h2 => ?_, fun i e f h1 h2 => ?_⟩
  · cases i with
    | zero => simp at h1 h2; subst h1 h2; rfl
    | succ i => exact r.key i e f (by simpa using h1) (by simpa using h2)
  · cases i with
    | zero => simp at h1 h2; subst h1 h2; exact h
    | succ i => exact r.item i e f (by simpa using h1) (by simpa using h2)
theorem RpK.val {κ : Type} [DecidableEq κ] {H : Hp} {M : Addr → Prop} {k : κ} : ∀ {ds : List (κ × D)} {vs : List (κ × V)}, RpK K H M ds vs → (∀ d, valD ds k = some d → ∃ v, valV vs k = some v ∧ Rp K H M d v) ∧ (valD ds k = none → valV vs k = none)
  | [], vs, r => by
    have e : vs = [] := List.length_eq_zero_iff.mp r.len
    subst e
    exact ⟨fun d h => (by cases h), fun _ => rfl⟩
  | p :: ds, vs, r => by
    obtain ⟨v, ws, rfl, h, q⟩ := r.cons_inv
    obtain ⟨i1, i2⟩ := RpK.val q (k := k)
    by_cases c : p.1 = k
    · have e1 : valD (p :: ds) k = some p.2 := by simp [valD, List.find?_cons, c]
      have e2 : valV ((p.1, v) :: ws) k = some v := valV_pos c
      rw [e1, e2]
      exact ⟨fun d z => by cases z; exact ⟨v, rfl, h⟩, fun z => by cases z⟩
    · have e1 : valD (p :: ds) k = valD ds k := by simp [valD, List.find?_cons, c]
      have e2 : valV ((p.1, v) :: ws) k = valV ws k := valV_neg c
      rw [e1, e2]
      exact ⟨i1, i2⟩
theorem RpK.any {κ : Type} [DecidableEq κ] {H : Hp} {M : Addr → Prop} {k : κ} : ∀ {ds : List (κ × D)} {vs : List (κ × V)}, RpK K H M ds vs → (vs.any fun kv => decide (kv.1 = k)) = (ds.any fun kv => decide (kv.1 = k))
  | [], vs, r => by
    have e : vs = [] := List.length_eq_zero_iff.mp r.len
    subst e
    rfl
  | p :: ds, vs, r => by
    obtain ⟨v, ws, rfl, h, q⟩ := r.cons_inv
    rw [List.any_cons, List.any_cons, RpK.any q]
theorem RpK.repl {κ : Type} [DecidableEq κ] {H : Hp} {M : Addr → Prop} {k : κ} {d : D} {u : V} (hd : Rp K H M d u) : ∀ {ds : List (κ × D)} {vs : List (κ × V)}, RpK K H M ds vs → RpK K H M (ds.map fun kv => if kv.1 = k then (kv.1, d) else kv) (vs.map fun kv => if kv.1 = k then (kv.1, u) else kv)
  | [], vs, r => by
    have e : vs = [] := List.length_eq_zero_iff.mp r.len
    subst e
    exact .nil
  | p :: ds, vs, r => by
    obtain ⟨v, ws, rfl, h, q⟩ := r.cons_inv
    rw [List.map_cons, List.map_cons]
    by_cases c : p.1 = k
    · rw [if_pos c, if_pos c]
      exact .cons hd (RpK.repl hd q)
    · rw [if_neg c, if_neg c]
      exact .cons h (RpK.repl hd q)
theorem RpK.snoc {κ : Type} [DecidableEq κ] {H : Hp} {M : Addr → Prop} {k : κ} {d : D} {u : V} (hd : Rp K H M d u) : ∀ {ds : List (κ × D)} {vs : List (κ × V)}, RpK K H M ds vs → RpK K H M (ds ++ [(k, d)]) (vs ++ [(k, u)])
  | [], vs, r => by
    have e : vs = [] := List.length_eq_zero_iff.mp r.len
    subst e
    exact .cons hd .nil
  | p :: ds, vs, r => by
    obtain ⟨v, ws, rfl, h, q⟩ := r.cons_inv
    exact .cons h (RpK.snoc hd q)
theorem RpK.put {κ : Type} [DecidableEq κ] {H : Hp} {M : Addr → Prop} {k : κ} {d : D} {u : V} {ds : List (κ × D)} {vs : List (κ × V)} (hd : Rp K H M d u) (r : RpK K H M ds vs) : RpK K H M (putD ds k d) (putK vs k u) := by
  unfold putD putK
  rw [r.any]
  split
  · exact r.repl hd
  · exact r.snoc hd
theorem dkey_v {H : Hp} {M : Addr → Prop} {y : D} {k : Key} {v : V} (h : dkey y = some k) (r : Ro K H M y v) : v = kV k := by
  cases y with
  | int i => cases h; rw [r.int_inv]; rfl
  | str i => cases h; rw [r.str_inv]; rfl
  | _ => cases h
def rIxK : R2 := fun x y H Q => ∃ a v, x = .ref a ∧ DGet H a y (some v) ∧ Q v H
theorem ix_dic {X : Cx} (hu : X.A.units + 1 < cLine) : IxR X rIxK := by
  intro value slice pins s σ H x y v u Q I rx ry h hs
  obtain ⟨a, r, rfl, g, q⟩ := h
  obtain rfl : v = Value.ref a := rx
  refine tail_any (dict_typeIs I g) slot_dict_getitem.lookup ?_ hs
  exact d_getItem hu I g ry fun w' s' I' rw' => ⟨r, H, I', rw', q⟩
def ixA (x y : D) : Res D := match x with
  | .dic ds => (match dkey y with
    | some k => (match valD ds k with | some d => .ok d | none => .bad)
    | none => .bad)
  | x => ixD x y
def rIxA (K : PySem.W.Frag) : R2 := fun x y H Q => rIxK x y H Q ∨ rIx K x y H Q
theorem ir_ixA {X : Cx} {k : Nat} (hr : Room k X.A) : IxR X (rIxA X.K) := (ix_dic (hu_of hr)).or ix_seq
theorem os_ixA : OpS K (rIxA K) ixA := by
  intro H M x y dx dy Q tk rx ry w
  cases dx with
  | dic ds =>
    obtain ⟨a, us, rfl, h, z, q⟩ := rx.dic_inv
    simp only [ixA] at w
    cases e : dkey dy with
    | none => rw [e] at w; exact w.elim
    | some k =>
      rw [e] at w
      simp only at w
      cases e2 : valD ds k with
      | none => rw [e2] at w; exact w.elim
      | some d =>
        rw [e2] at w
        obtain ⟨v, e3, r⟩ := (q.val (k := k)).1 d e2
        refine .inl ⟨a, v, rfl, ?_, w _ _ (.refl _) r⟩
        rw [dkey_v e ry, ← e3]
        exact .inl ⟨us, k, h, rfl, rfl⟩
  | _ => exact .inr (os_ix H M x y _ dy Q tk rx ry w)
end
/-! ### isinstance with built-in types -/
def isiD (n : String) (x : D) : Res D := match x with
  | .own _ => .bad
  | .exc _ => .bad
  | .dct _ => .bad
  | x => if n = "int" then .ok (.bl (match x with | .int _ => true | .bl _ => true | _ => false))
    else if n = "bool" then .ok (.bl (match x with | .bl _ => true | _ => false))
    else if n = "str" then .ok (.bl (match x with | .str _ => true | _ => false))
    else if n = "tuple" then .ok (.bl (match x with | .tup _ => true | _ => false))
    else if n = "list" then .ok (.bl (match x with | .lst _ => true | .scr _ => true | _ => false))
    else if n = "dict" then .ok (.bl (match x with | .dic _ => true | _ => false))
    else .bad
def tyN (x : D) : String := match x with
  | .non => "NoneType"
  | .bl _ => "bool"
  | .int _ => "int"
  | .str _ => "str"
  | .tup _ => "tuple"
  | .lst _ => "list"
  | .dic _ => "dict"
  | .dct _ => ""
  | .own _ => ""
  | .scr _ => "list"
  | .exc _ => ""
theorem SqT.tyx {K : PySem.W.Frag} {H : Hp} {a : Addr} {xs : List V} (h : SqT K H a xs) : TyX K H (.ref a) (.type "tuple") := by
  rcases h with (h | ⟨o, h⟩) | ⟨o, its, n, h, c, _⟩
  · exact .base (.tup h)
  · exact .fTuple h
  · exact .kTuple h c
theorem Ro.tyx {K : PySem.W.Frag} {H : Hp} {M : Addr → Prop} {d : D} {v : V} (h : Ro K H M d v) (ne : (∀ c, d ≠ .exc c) ∧ ∀ c, d ≠ .dct c) : TyX K H v (.type (tyN d)) := by
  cases h with
  | non => exact .base .non
  | bl b => exact .base (.bl b)
  | int i => exact .base (.int i)
  | str y => exact .base (.str y)
  | tup h hz r => exact SqT.tyx h
  | lst h hz r => exact .base (.lst h)
  | scr h hz =>
    rcases h with ⟨o, h⟩ | ⟨o, its, n, h, c, _⟩
    · exact .base (.frz h)
    · exact .kList h c
  | dic h hz r =>
    rcases h with h | ⟨o, h⟩
    · exact .base (.dK h)
    · exact .fDict h
  | dct h hz r => exact absurd rfl (ne.2 _)
  | exc h hd => exact absurd rfl (ne.1 _)
theorem kit_b {n m : String} (hn : n ∈ ["NoneType", "bool", "int", "str", "tuple", "list", "dict"]) (h : ["NoneType", "bool", "int", "str", "tuple", "list", "dict"].all (fun n => decide (kitB n m = some (decide (n = m) || (decide (m = "int") && decide (n = "bool"))))) = true) : kitB n m = some (decide (n = m) || (decide (m = "int") && decide (n = "bool"))) :=
  of_decide_eq_true (List.all_eq_true.mp h n hn)
theorem isi_ne {m : String} {d : D} {r : D} (h : isiD m d = .ok r) : (∀ c, d ≠ .exc c) ∧ ∀ c, d ≠ .dct c := ⟨fun c e => (by rw [e] at h; cases h), fun c e => (by rw [e] at h; cases h)⟩
theorem isi_kit {m : String} {d : D} {r : D} (h : isiD m d = .ok r) : ∃ b, r = .bl b ∧ kitB (tyN d) m = some b := by
  have hm : m = "int" ∨ m = "bool" ∨ m = "str" ∨ m = "tuple" ∨ m = "list" ∨ m = "dict" := by
    cases d with
    | own _ => cases h
    | exc _ => cases h
    | dct _ => cases h
    | _ =>
      simp only [isiD] at h
      by_cases h1 : m = "int"
      · exact .inl h1
      by_cases h2 : m = "bool"
      · exact .inr (.inl h2)
      by_cases h3 : m = "str"
      · exact .inr (.inr (.inl h3))
      by_cases h4 : m = "tuple"
      · exact .inr (.inr (.inr (.inl h4)))
      by_cases h5 : m = "list"
      · exact .inr (.inr (.inr (.inr (.inl h5))))
      by_cases h6 : m = "dict"
      · exact .inr (.inr (.inr (.inr (.inr h6))))
      rw [if_neg h1, if_neg h2, if_neg h3, if_neg h4, if_neg h5, if_neg h6] at h
      cases h
  have he : ∀ c, d ≠ .exc c := (isi_ne h).1
  have he2 : ∀ c, d ≠ .dct c := (isi_ne h).2
  have tn : (∀ i, d ≠ .own i) → tyN d ∈ ["NoneType", "bool", "int", "str", "tuple", "list", "dict"] := fun hd => by cases d <;> first | exact absurd rfl (hd _) | exact absurd rfl (he _) | exact absurd rfl (he2 _) | simp [tyN]
  have hd : ∀ i, d ≠ .own i := fun i e => by rw [e] at h; cases h
  rcases hm with rfl | rfl | rfl | rfl | rfl | rfl
  · refine ⟨_, ?_, kit_b (tn hd) (by decide +kernel)⟩
    cases d <;> first | (cases h; rfl) | exact absurd rfl (hd _) | exact absurd rfl (he _) | exact absurd rfl (he2 _)
  · refine ⟨_, ?_, kit_b (tn hd) (by decide +kernel)⟩
    cases d <;> first | (cases h; rfl) | exact absurd rfl (hd _) | exact absurd rfl (he _) | exact absurd rfl (he2 _)
  · refine ⟨_, ?_, kit_b (tn hd) (by decide +kernel)⟩
    cases d <;> first | (cases h; rfl) | exact absurd rfl (hd _) | exact absurd rfl (he _) | exact absurd rfl (he2 _)
  · refine ⟨_, ?_, kit_b (tn hd) (by decide +kernel)⟩
    cases d <;> first | (cases h; rfl) | exact absurd rfl (hd _) | exact absurd rfl (he _) | exact absurd rfl (he2 _)
  · refine ⟨_, ?_, kit_b (tn hd) (by decide +kernel)⟩
    cases d <;> first | (cases h; rfl) | exact absurd rfl (hd _) | exact absurd rfl (he _) | exact absurd rfl (he2 _)
  · refine ⟨_, ?_, kit_b (tn hd) (by decide +kernel)⟩
    cases d <;> first | (cases h; rfl) | exact absurd rfl (hd _) | exact absurd rfl (he _) | exact absurd rfl (he2 _)
section
variable {X : Cx} {C : Cfg} {W : WX} {k : Nat} {a b e : Expr} {es rest : List Expr} {ta tb tc : TE} {ma mb mc m : Ev} {pos : Pos}
def isiX (n : String) (x : D) : Res D := match x with
  | .exc _ => if n ∈ ty6 then .ok (.bl false) else .bad
  | x => isiD n x
/-- isinstance of an exception object -/
def rIsiE (K : PySem.W.Frag) : List V → Hp → VK → Prop := fun xs H Q => ∃ (a D : Addr) (c : V) (u : Value) (b : Bool), xs = [.ref a, c] ∧ H a = some (ExO (.ref D) a) ∧ ExcC K D ∧ ClsV c u ∧ PySem.W.kitOne K (.ref D) u = some b ∧ Q (.bl b) H
theorem call_isiE {X : Cx} : CallR X (.builtin "isinstance") (rIsiE X.K) := by
  intro pins s σ H xs us Q I r h
  obtain ⟨a, D, c, u, b, rfl, ha, C, k, e, q⟩ := h
  obtain ⟨u1, u2, rfl, r1, r2⟩ := vals2 r
  have e2 := k.eq r2
  subst e2
  cases (show u1 = Value.ref a from r1)
  obtain ⟨⟨oe, vs, h1, h2, h3, _⟩, _⟩ := (show ObjOk X.prog X.w H s.heap a (ExO (.ref D) a) from I.hok a _ ha)
  have J : PySem.W.InstAt s.heap a oe D none := by
    obtain ⟨oc, od, oda, osl⟩ := oe
    obtain ⟨z1, z2⟩ := h2
    dsimp only at z1 z2 h3
    subst z1 z2 h3
    exact ⟨h1, rfl, rfl, trivial⟩
  exact PySem.W.kia_one (PySem.W.handS_kitx_exc C.hg C.hk C.hs C.hd C.ha C.hn C.ht C.hm) I.kIn J e (fun z => nomatch z) fun tk => ⟨.bl b, H, I.tok tk, rfl, q⟩
def rIsiA (K : PySem.W.Frag) : List V → Hp → VK → Prop := fun xs H Q => rIsi K xs H Q ∨ rIsiE K xs H Q
theorem call_isiA {X : Cx} : CallR X (.builtin "isinstance") (rIsiA X.K) := fun pins s σ H xs us Q I r h => h.elim (call_isi pins s σ H xs us Q I r) (call_isiE pins s σ H xs us Q I r)
def mIsi (n : String) (m : Ev) : Ev := fun env => do
  let r ← m env
  let x ← rs r.2 r.1
  match isiX n x with
  | .ok d => pure (d, r.2)
  | _ => .bad
theorem em_isi {n : String} {T : Str} {p pT : Pos} (g : Gd X C W k) (hg : Gl X "isinstance") (hm : X.mg "isinstance" = none) (hgT : Gl X T) (hmT : X.mg T = none) (hvT : bootBuiltins T = some (.type n)) (he : EM X C W e ta m) (hnT : T ≠ "__name__" := by decide) (hdT : (T == ("__debug__" : Str)) = false := by decide)
    (hs : starEach [e, .Name T pT] X.env = (false, eval e X.env) :: starEach [.Name T pT] X.env := by rfl) (hs2 : starEach [.Name T pT] X.env = (false, eval (.Name T pT) X.env) :: starEach [] X.env := by rfl) (hpl : (backTo pos (starEach [.Name T pT] X.env)).any (·.1) = false := by rfl) :
    EM X C W (.Call (.Name "isinstance" p) [e, .Name T pT] [] pos) (tCB (rIsiA C.K) (tCons ta (tCons (tC (.ty n)) tNil))) (mIsi n m) := by
  refine ⟨g.kE ▸ pe_callB call_isiA hg hm (by decide +kernel) (pa_cons he.pe (pa_cons (pe_bltn hgT hmT hvT rfl hnT hdT) pa_nil hs2) hs) (by decide) (by decide) hs hpl, fun M0 ad σ H env Q R w => ?_⟩
  unfold mIsi at w
  refine he.sn' R w fun r v H1 R1 S1 V1 w1 => ?_
  rw [wp_bind] at w1
  obtain ⟨x, _, w2, rx⟩ := R1.rs V1 w1
  by_cases hx : ∃ c, x = .exc c
  · obtain ⟨c, rfl⟩ := hx
    cases rx with
    | exc h hd =>
      simp only [isiX] at w2
      by_cases hn : n ∈ ty6
      · rw [if_pos hn] at w2
        exact .inr ⟨_, _, .ty n, _, false, rfl, h, hd.ex, .ty n, hd.no n hn, w2 _ H1 R1 S1 (.of (.bl false))⟩
      · rw [if_neg hn] at w2
        exact w2.elim
  · have eX : isiX n x = isiD n x := by
      cases x with
      | exc c => exact absurd ⟨c, rfl⟩ hx
      | _ => rfl
    rw [eX] at w2
    cases q : isiD n x with
    | ok d =>
      rw [q] at w2
      obtain ⟨b, rfl, hk⟩ := isi_kit q
      exact .inl ⟨v, .ty n, _, _, b, rfl, .ty n, rx.tyx (isi_ne q), kit_ty hk, w2 _ H1 R1 S1 (.of (.bl b))⟩
    | err c => rw [q] at w2; exact w2.elim
    | bad => rw [q] at w2; exact w2.elim

/-! ### slices -/
abbrev Eo := Sls → Res (Option Int × Sls)
structure OM (X : Cx) (C : Cfg) (W : WX) (e : Option Expr) (t : TO) (m : Eo) : Prop where
  pe : PO X e t
  sn : ∀ (M0 : Addr → Prop) (ad : Nat → Addr) (σ : L2.St) (H : Hp) (env : Sls) (Q : Option Int → Hp → Prop), RE (C.w M0) ad H σ env →
    (m env).Wp (fun r => ∀ H', RE (C.w M0) ad H' σ r.2 → Stp (C.w M0) ad H env H' r.2 → Q r.1 H') (Er (C.w M0) ad σ W) → t σ H Q
def mNo : Eo := fun env => .ok (none, env)
def mPart (m : Ev) : Eo := fun env => do
  let r ← m env
  match r.1 with
  | .int i => pure (some i, r.2)
  | _ => .bad
theorem om_none : OM X C W none tNoPart mNo := ⟨po_none, fun M0 ad σ H env Q R w => w H R .refl⟩
theorem om_some (h : EM X C W e ta m) : OM X C W (some e) (tPart ta) (mPart m) := by
  refine ⟨po_some h.pe, fun M0 ad σ H env Q R w => ?_⟩
  unfold mPart at w
  refine h.sn' R w fun r v H1 R1 S1 V1 w1 => ?_
  cases hd : r.1 with
  | int i =>
    rw [hd] at w1 V1
    cases V1
    exact ⟨i, rfl, w1 H1 R1 S1⟩
  | _ => rw [hd] at w1; exact w1.elim
def cutD (xs : List D) (lo hi : Option Int) : List D := (xs.drop (HT.sIx xs.length 0 lo)).take (HT.sIx xs.length xs.length hi - HT.sIx xs.length 0 lo)
def sliceL (x : D) (lo hi : Option Int) : Res D := match x with
  | .lst xs => .ok (.lst (cutD xs lo hi))
  | .scr ns => .ok (.lst (cutD (ns.map D.int) lo hi))
  | _ => .bad
def sliceT (x : D) (lo hi : Option Int) : Res D := match x with
  | .tup xs => .ok (.tup (cutD xs lo hi))
  | _ => .bad
def mSl (g : D → Option Int → Option Int → Res D) (m : Ev) (ml mh : Eo) : Ev := fun env => do
  let r ← m env
  let l ← ml r.2
  let h ← mh l.2
  let x ← rs h.2 r.1
  match g x l.1 h.1 with
  | .ok d => pure (d, h.2)
  | _ => .bad
theorem RpL.cut {K : PySem.W.Frag} {H : Hp} {M : Addr → Prop} {ds : List D} {vs : List V} (r : RpL K H M ds vs) (lo hi : Option Int) : RpL K H M (cutD ds lo hi) (cutV vs lo hi) := by
  unfold cutD cutV
  rw [r.len]
  exact (r.drop _).take _
theorem cutD_length (xs : List D) (lo hi : Option Int) : (cutD xs lo hi).length ≤ xs.length := by
  unfold cutD
  rw [List.length_take, List.length_drop]
  omega
theorem ef_sliceL {lo hi : Option Expr} {tl th : TO} {ml mh : Eo} {p2 : Pos} (g : Gd X C W k) (h : EM X C W e ta m) (hl : OM X C W lo tl ml) (hh : OM X C W hi th mh) :
    EF X C W (.Subscript e (.Slice lo hi none p2) pos) (tSl (rSlL C.K) ta tl th) (mSl sliceL m ml mh) := by
  refine ⟨g.kE ▸ pe_slice sl_list h.pe hl.pe hh.pe, fun M0 ad σ H env Q R w => ?_⟩
  unfold mSl at w
  refine h.sn' R w fun r v H1 R1 S1 V1 w1 => ?_
  rw [wp_bind] at w1
  refine hl.sn M0 ad σ H1 r.2 _ R1 (w1.imp (fun l w2 H2 R2 S2 => ?_) fun _ z => z)
  rw [wp_bind] at w2
  refine hh.sn M0 ad σ H2 l.2 _ R2 (w2.imp (fun q w3 H3 R3 S3 => ?_) fun _ z => z)
  rw [wp_bind] at w3
  obtain ⟨x, _, w4, rx⟩ := R3.rs ((V1.stp S2).stp S3) w3
  cases x with
  | lst xs =>
    obtain ⟨a, us, rfl, hs, z, qr⟩ := rx.lst_inv
    refine ⟨a, us, rfl, .of hs, fun p hn => w4 p _ ?_ (R3.growAdd (same_new hn) hn (by rw [upd_same]; exact fun z => nomatch z)) (((S1.trans S2).trans S3).trans (.grow (same_new hn))) ((cell_new (qr.cut _ _) hn (Nat.le_trans (cutD_length _ _ _) z)).ext rfl .refl fun b z => .inl (mo_add.mp z))⟩
    cases z : H p with
    | none => rfl
    | some o => exact absurd hn (((S1.trans S2).trans S3).ext.trk p (by rw [z]; exact fun z => nomatch z))
  | scr ns =>
    cases rx with
    | scr hs z =>
      have qr : RpL C.K H3 (Mo (C.w M0) q.2 ad) (ns.map D.int) (ns.map V.int) := .of_ints
      refine ⟨_, _, rfl, hs.sq, fun p hn => w4 p _ ?_ (R3.growAdd (same_new hn) hn (by rw [upd_same]; exact fun z => nomatch z)) (((S1.trans S2).trans S3).trans (.grow (same_new hn))) ((cell_new (qr.cut _ _) hn (Nat.le_trans (cutD_length _ _ _) (by rw [List.length_map]; exact z))).ext rfl .refl fun b z => .inl (mo_add.mp z))⟩
      cases z : H p with
      | none => rfl
      | some o => exact absurd hn (((S1.trans S2).trans S3).ext.trk p (by rw [z]; exact fun z => nomatch z))
  | _ => exact w4.elim
theorem em_sliceT {lo hi : Option Expr} {tl th : TO} {ml mh : Eo} {p2 : Pos} (g : Gd X C W k) (h : EM X C W e ta m) (hl : OM X C W lo tl ml) (hh : OM X C W hi th mh) :
    EM X C W (.Subscript e (.Slice lo hi none p2) pos) (tSl (rSlA C.K) ta tl th) (mSl sliceT m ml mh) := by
  refine ⟨g.kE ▸ pe_slice sl_tupA h.pe hl.pe hh.pe, fun M0 ad σ H env Q R w => ?_⟩
  unfold mSl at w
  refine h.sn' R w fun r v H1 R1 S1 V1 w1 => ?_
  rw [wp_bind] at w1
  refine hl.sn M0 ad σ H1 r.2 _ R1 (w1.imp (fun l w2 H2 R2 S2 => ?_) fun _ z => z)
  rw [wp_bind] at w2
  refine hh.sn M0 ad σ H2 l.2 _ R2 (w2.imp (fun q w3 H3 R3 S3 => ?_) fun _ z => z)
  rw [wp_bind] at w3
  obtain ⟨x, _, w4, rx⟩ := R3.rs ((V1.stp S2).stp S3) w3
  cases x with
  | tup xs =>
    obtain ⟨a, us, rfl, hs, z, qr⟩ := rx.tup_inv
    refine ⟨a, us, rfl, hs, fun c => ?_, fun c p hn => w4 _ _ (R3.grow (same_new hn)) (((S1.trans S2).trans S3).trans (.grow (same_new hn))) (.of (.tup' (.of upd_same) (Nat.le_trans (cutD_length _ _ _) z) ((qr.cut _ _).same (same_new hn))))⟩
    have e : cutD xs l.1 q.1 = xs := by
      unfold cutD
      rw [← qr.len, c.1, c.2, qr.len]
      simp
    refine w4 _ H3 R3 ((S1.trans S2).trans S3) (.of ?_)
    show Rp C.K H3 _ (.tup (cutD xs l.1 q.1)) _
    rw [e]
    exact .tup' hs z qr
  | _ => exact w4.elim
end
end Vm
end
section
set_option maxRecDepth 100000
set_option maxHeartbeats 4000000
/-! Vm, part F: promises, calls of the text's own defs, cells changed, what is walked, targets, comprehensions. -/
namespace Vm
open PySem PySem.Spec PyProof.Rows L2

/-! ### promises -/
def spP (K : PySem.W.Frag) (T : List (Addr × Str)) (mg : Str → Option Value) (n : Nat) (fm : List D → Res D) : Sp := fun vs H Q E => vs.length = n ∧ LamX.Tabs T H ∧ ∃ (M : Addr → Prop) (ds : List D), (∀ a, M a → H a ≠ none) ∧ RpL K H M ds vs ∧
  (fm ds).Wp (fun d => ∀ v H', Sme T H H' → Rp K H' M d v → Q v H') (fun c => ∀ cls dd H', mg c = some cls → Sme T H H' → E cls dd H')
/-- a new list or dict is handed back -/
def spF (K : PySem.W.Frag) (T : List (Addr × Str)) (mg : Str → Option Value) (n : Nat) (fm : List D → Res D) : Sp := fun vs H Q E => vs.length = n ∧ LamX.Tabs T H ∧ ∃ (M : Addr → Prop) (ds : List D), (∀ a, M a → H a ≠ none) ∧ RpL K H M ds vs ∧
  (fm ds).Wp (fun d => ∀ a H', H a = none → Sme T H H' → CellOk K H' (fun b => M b ∨ b = a) d a → Q (.ref a) H') (fun c => ∀ cls dd H', mg c = some cls → Sme T H H' → E cls dd H')
/-- the first argument is a cell that is changed -/
def spJ (K : PySem.W.Frag) (T : List (Addr × Str)) (n : Nat) (fm : D → List D → Res (D × D)) : Sp := fun vs H Q E => vs.length = n ∧ LamX.Tabs T H ∧ ∃ (M : Addr → Prop) (a : Addr) (ws : List V) (j : D) (ds : List D), vs = .ref a :: ws ∧ M a ∧ (∀ a, M a → H a ≠ none) ∧ CellOk K H M j a ∧ RpL K H M ds ws ∧
  (fm j ds).Wp (fun r => ∀ v H', (∀ b o, H b = some o → b ≠ a → (∀ ps, o ≠ .tbl ps) → H' b = some o) → (∀ b, H b ≠ none → H' b ≠ none) → LamX.Tabs T H' → CellOk K H' M r.2 a → Rp K H' M r.1 v → Q v H') (fun _ => False)
structure Fn (P : Program) (w : World) (K : PySem.W.Frag) (mg : Str → Option Value) (base : Heap) (j : Nat) (x : Str) (sp : Sp) : Prop where
  ex : ∃ f fd ps, FnOk P w K mg base (L2.CX P w) j f fd ps sp ∧ mg x = some (.ref f) ∧ PySem.W.keepIn K (.ref f) = true ∧ Binds K fd ps []
theorem Fn.toP {T : List (Addr × Str)} {P : Program} {w : World} {K : PySem.W.Frag} {mg : Str → Option Value} {base : Heap} {j n : Nat} {x : Str} {fm : List D → Res D} (F : Fn P w K mg base j x (spF K T mg n fm)) : Fn P w K mg base j x (spP K T mg n fm) := by
  obtain ⟨f, fd, ps, F, h⟩ := F.ex
  refine ⟨f, fd, ps, F.imp fun vs H Q E ⟨hl, ht, M, ds, tk, r, q⟩ => ⟨hl, ht, M, ds, tk, r, q.imp (fun d z a H' hn e c => z _ H' e (cell_rp c (fun q => tk a q hn) fun b q => .inl q)) fun c z => z⟩, h⟩
theorem Fn.mono {P : Program} {w : World} {K : PySem.W.Frag} {mg : Str → Option Value} {base : Heap} {i j : Nat} {x : Str} {sp : Sp} (F : Fn P w K mg base i x sp) (h : i ≤ j) : Fn P w K mg base j x sp := by
  obtain ⟨f, fd, ps, F, h2⟩ := F.ex
  exact ⟨f, fd, ps, F.mono h, h2⟩

/-! ### a def is called -/
def D.sc : D → Bool
  | .non => true
  | .bl _ => true
  | .int _ => true
  | .str _ => true
  | _ => false
def D.flat : D → Bool
  | .tup xs => xs.all D.sc
  | d => d.sc
theorem Rp.sc {K : PySem.W.Frag} {H : Hp} {M M' : Addr → Prop} {d : D} {v : V} (h : Rp K H M d v) (f : d.sc = true) : Rp K H M' d v := by
  cases h with
  | non => exact .non
  | bl b => exact .bl b
  | int i => exact .int i
  | str y => exact .str y
  | _ => cases f
theorem Rp.flat {K : PySem.W.Frag} {H : Hp} {M M' : Addr → Prop} {d : D} {v : V} (h : Rp K H M d v) (f : d.flat = true) : Rp K H M' d v := by
  cases h with
  | tup h hl hz hi => exact .tup h hl hz fun i d v e1 e2 => (hi i d v e1 e2).sc (List.all_eq_true.mp f d (List.mem_of_getElem? e1))
  | non => exact .non
  | bl b => exact .bl b
  | int i => exact .int i
  | str y => exact .str y
  | _ => cases f
def allKp : List D → Bool
  | [] => true
  | .own _ :: _ => false
  | _ :: ds => allKp ds
theorem allKp_rp {C : Cfg} {ad : Nat → Addr} {H : Hp} {σ : L2.St} {env : Sls} : ∀ {ds : List D} {vs : List V}, VRL C ad H σ env ds vs → allKp ds = true → RpL C.K H (Mo C env ad) ds vs
  | [], vs, r, _ => by rw [r.nil_inv]; exact .nil
  | d :: ds, vs, r, w => by
    obtain ⟨v, ws, rfl, h, q⟩ := r.cons_inv
    cases d with
    | own i => cases w
    | _ => exact .cons h (allKp_rp q w)
/-- read-only arguments: the roots are not in the smaller set -/
theorem RoL.rp {K : PySem.W.Frag} {H : Hp} {M : Addr → Prop} {ds : List D} {vs : List V} (r : RoL K H M ds vs) : RpL K H (fun b => M b ∧ ∀ v ∈ vs, v ≠ .ref b) ds vs := by
  refine ⟨r.len, fun i d v h1 h2 => ?_⟩
  have lo : ∀ b, (M b ∧ ∀ v ∈ vs, v ≠ .ref b) → M b := fun b z => z.1
  cases r.item i d v h1 h2 with
  | non => exact .non
  | bl b => exact .bl b
  | int i => exact .int i
  | str y => exact .str y
  | tup h hz q => exact .tup' h hz (q.less lo)
  | lst h hz q => exact .lst' h (fun z => z.2 _ (List.mem_of_getElem? h2) rfl) hz (q.less lo)
  | scr h hz => exact .scr h hz
  | exc h hd => exact .exc h (fun z => z.2 _ (List.mem_of_getElem? h2) rfl) hd
  | dic h hz q => exact .dic h (fun z => z.2 _ (List.mem_of_getElem? h2) rfl) q.len hz q.key fun i p q' e f => (q.item i p q' e f).less lo
  | dct h hz q => exact .dct h (fun z => z.2 _ (List.mem_of_getElem? h2) rfl) q.len hz q.key fun i p q' e f => (q.item i p q' e f).less lo
def mCall (n : Nat) (fm : List D → Res D) (ms : Evs) : Ev := fun env => do
  let r ← ms env
  if r.1.length = n then
    if allKp r.1 = true then do
      let d ← fm r.1
      pure (d, r.2)
    else do
      let xs ← rsL r.2 r.1
      let d ← fm xs
      if d.flat = true then pure (d, r.2) else .bad
  else .bad
section
variable {X : Cx} {C : Cfg} {W : WX} {k j n : Nat} {a b e : Expr} {es rest : List Expr} {ta tb tc : TE} {t : TA} {ma mb mc m : Ev} {ms : Evs} {pos p : Pos} {x : Str}
theorem mCall_sn {fm : List D → Res D} (h : AM X C W es t ms) {M0 : Addr → Prop} {ad : Nat → Addr} {σ : L2.St} {H : Hp} {env : Sls} {Q : VK} (R : RE (C.w M0) ad H σ env)
    (w : (mCall n fm ms env).Wp (fun r => ∀ v H', RE (C.w M0) ad H' σ r.2 → Stp (C.w M0) ad H env H' r.2 → VR (C.w M0) ad H' σ r.2 r.1 v → Q v H') (Er (C.w M0) ad σ W)) : tCallS (spP C.K C.T C.mg n fm) (WE W) t σ H Q := by
  unfold mCall at w
  refine h.sn' R w fun r vs H1 R1 S1 V1 w1 => ?_
  split at w1
  · rename_i hl
    refine ⟨by rw [V1.len]; exact hl, R1.tabs, ?_⟩
    split at w1
    · rename_i hk
      refine ⟨Mo (C.w M0) r.2 ad, r.1, fun a z => R1.mtrk z, allKp_rp V1 hk, ?_⟩
      rw [wp_bind] at w1
      exact w1.imp (fun d z v H' e rp => z v H' (R1.growS e) (S1.trans (.growS e)) (.of rp)) fun c z cls dd H' hm e => z cls dd H' r.2 hm (R1.growS e)
    · rw [wp_bind] at w1
      obtain ⟨xs, w2, rx⟩ := R1.rsL V1 w1
      refine ⟨_, xs, fun a z => R1.mtrk z.1, rx.rp, ?_⟩
      rw [wp_bind] at w2
      refine w2.imp (fun d z v H' e rp => ?_) fun c z cls dd H' hm e => z cls dd H' r.2 hm (R1.growS e)
      split at z
      · rename_i hf
        exact z v H' (R1.growS e) (S1.trans (.growS e)) (.of (rp.flat hf))
      · exact z.elim
  · exact w1.elim
theorem em_call {fm : List D → Res D} (g : Gd X C W k) (F : Fn X.prog X.w X.K X.mg X.base j x (spP C.K C.T C.mg n fm)) (h : AM X C W (e :: es) t ms) (hj : j ≤ k := by decide) (hg : Gl X x := by rfl)
    (hdb : (x == ("__debug__" : Str)) = false := by decide) (he : starEach (e :: es) X.env = (false, eval e X.env) :: starEach es X.env := by rfl) (hpl : (backTo pos (starEach es X.env)).any (·.1) = false := by rfl) :
    EM X C W (.Call (.Name x p) (e :: es) [] pos) (tCallS (spP C.K C.T C.mg n fm) (WE W) t) (mCall n fm ms) := by
  obtain ⟨f, fd, ps, F, hm, hk, hb⟩ := (F.mono hj).ex
  exact ⟨pe_callS F g.room hg hm hk hb (fun σ => passAt g.tk σ) h.pe hdb he hpl, fun M0 ad σ H env Q R w => mCall_sn h R w⟩
/-- f() -/
def mCall0 (fm : List D → Res D) : Ev := fun env =>
  match fm [] with
  | .ok d => .ok (d, env)
  | _ => .bad
theorem em_call0 {fm : List D → Res D} (g : Gd X C W k) (F : Fn X.prog X.w X.K X.mg X.base j x (spP C.K C.T C.mg 0 fm)) (hj : j ≤ k := by decide) (hg : Gl X x := by rfl) (hdb : (x == ("__debug__" : Str)) = false := by decide) :
    EM X C W (.Call (.Name x p) [] [] pos) (tCall (spP C.K C.T C.mg 0 fm) [] E0 tNil) (mCall0 fm) := by
  obtain ⟨f, fd, ps, F, hm, hk, hb⟩ := (F.mono hj).ex
  refine ⟨pe_call0 F g.room hg hm hk hb .nil passL hdb, fun M0 ad σ H env Q R w => ?_⟩
  unfold mCall0 at w
  refine ⟨rfl, R.tabs, Mo (C.w M0) env ad, [], fun a z => R.mtrk z, .nil, ?_⟩
  cases q : fm [] with
  | ok d =>
    rw [q] at w
    exact fun v H' e rp => w v H' (R.growS e) (.growS e) (.of rp)
  | err c => rw [q] at w; exact w.elim
  | bad => rw [q] at w; exact w.elim
/-- .. a def that hands back a new list -/
def mCallF (n : Nat) (fm : List D → Res D) (ms : Evs) : Ev := fun env => do
  let r ← ms env
  if r.1.length = n then
    if allKp r.1 = true then do
      let d ← fm r.1
      pure (d, r.2)
    else .bad
  else .bad
theorem ef_call {fm : List D → Res D} (g : Gd X C W k) (F : Fn X.prog X.w X.K X.mg X.base j x (spF C.K C.T C.mg n fm)) (h : AM X C W (e :: es) t ms) (hj : j ≤ k := by decide) (hg : Gl X x := by rfl)
    (hdb : (x == ("__debug__" : Str)) = false := by decide) (he : starEach (e :: es) X.env = (false, eval e X.env) :: starEach es X.env := by rfl) (hpl : (backTo pos (starEach es X.env)).any (·.1) = false := by rfl) :
    EF X C W (.Call (.Name x p) (e :: es) [] pos) (tCallS (spF C.K C.T C.mg n fm) (WE W) t) (mCallF n fm ms) := by
  obtain ⟨f, fd, ps, F, hm, hk, hb⟩ := (F.mono hj).ex
  refine ⟨pe_callS F g.room hg hm hk hb (fun σ => passAt g.tk σ) h.pe hdb he hpl, fun M0 ad σ H env Q R w => ?_⟩
  unfold mCallF at w
  refine h.sn' R w fun r vs H1 R1 S1 V1 w1 => ?_
  split at w1
  · rename_i hl
    refine ⟨by rw [V1.len]; exact hl, R1.tabs, ?_⟩
    split at w1
    · rename_i hk
      refine ⟨Mo (C.w M0) r.2 ad, r.1, fun a z => R1.mtrk z, allKp_rp V1 hk, ?_⟩
      rw [wp_bind] at w1
      refine w1.imp (fun d z a H' hn e c => z a H' ?_ (R1.growAddS e hn c.trk) (S1.trans (.growS e)) (c.ext rfl .refl fun b z => .inl (mo_add.mp z))) fun c z cls dd H' hm e => z cls dd H' r.2 hm (R1.growS e)
      cases z : H a with
      | none => rfl
      | some o => exact absurd hn (S1.ext.trk a (by rw [z]; exact fun z => nomatch z))
    · exact w1.elim
  · exact w1.elim
/-- .. a def that changes the cell that is its first argument -/
def mCallJ (n : Nat) (fm : D → List D → Res (D × D)) (ms : Evs) : Ev := fun env => do
  let r ← ms env
  if r.1.length = n then
    match r.1 with
    | .own i :: ds =>
      if allKp ds = true then
        match r.2[i]? with
        | some (.l c) => (match fm c ds with
          | .ok q => pure (q.1, r.2.set i (.l q.2))
          | _ => .bad)
        | some (.p c) => (match fm c ds with
          | .ok q => pure (q.1, r.2.set i (.p q.2))
          | _ => .bad)
        | _ => .bad
      else .bad
    | _ => .bad
  else .bad
theorem em_callJ {fm : D → List D → Res (D × D)} (g : Gd X C W k) (F : Fn X.prog X.w X.K X.mg X.base j x (spJ C.K C.T n fm)) (h : AM X C W (e :: es) t ms) (hj : j ≤ k := by decide) (hg : Gl X x := by rfl)
    (hdb : (x == ("__debug__" : Str)) = false := by decide) (he : starEach (e :: es) X.env = (false, eval e X.env) :: starEach es X.env := by rfl) (hpl : (backTo pos (starEach es X.env)).any (·.1) = false := by rfl) :
    EM X C W (.Call (.Name x p) (e :: es) [] pos) (tCallS (spJ C.K C.T n fm) (WE W) t) (mCallJ n fm ms) := by
  obtain ⟨f, fd, ps, F, hm, hk, hb⟩ := (F.mono hj).ex
  refine ⟨pe_callS F g.room hg hm hk hb (fun σ => passAt g.tk σ) h.pe hdb he hpl, fun M0 ad σ H env Q R w => ?_⟩
  unfold mCallJ at w
  refine h.sn' R w fun r vs H1 R1 S1 V1 w1 => ?_
  split at w1
  · rename_i hl
    refine ⟨by rw [V1.len]; exact hl, R1.tabs, ?_⟩
    obtain ⟨ds0, env2⟩ := r
    simp only at w1 V1 R1 S1 hl
    cases ds0 with
    | nil => exact w1.elim
    | cons d0 ds =>
      cases d0 with
      | own i =>
        obtain ⟨v, ws, rfl, h1, q⟩ := V1.cons_inv
        have h1' : σ[i]? = some (some v) := h1
        simp only at w1
        split at w1
        · rename_i hk
          have fin : ∀ s : Sl, env2[i]? = some s → s.isMut = true → ∀ c, CellOk C.K H1 (Mo (C.w M0) env2 ad) c (ad i) → σ[i]? = some (some (V.ref (ad i))) →
              (match fm c ds with | .ok q => (pure (q.1, env2.set i (s.put q.2)) : Res (D × Sls)) | _ => .bad).Wp (fun r => ∀ v H', RE (C.w M0) ad H' σ r.2 → Stp (C.w M0) ad H env H' r.2 → VR (C.w M0) ad H' σ r.2 r.1 v → Q v H') (Er (C.w M0) ad σ W) →
              ∃ (M : Addr → Prop) (a : Addr) (ws' : List V) (j : D) (ds : List D), v :: ws = .ref a :: ws' ∧ M a ∧ (∀ a, M a → H1 a ≠ none) ∧ CellOk C.K H1 M j a ∧ RpL C.K H1 M ds ws' ∧
                (fm j ds).Wp (fun r => ∀ v H', (∀ b o, H1 b = some o → b ≠ a → (∀ ps, o ≠ .tbl ps) → H' b = some o) → (∀ b, H1 b ≠ none → H' b ≠ none) → LamX.Tabs C.T H' → CellOk C.K H' M r.2 a → Rp C.K H' M r.1 v → Q v H') (fun _ => False) := by
            intro s hs hmu c hc hσ w2
            rw [hσ] at h1'
            cases h1'
            refine ⟨Mo (C.w M0) env2 ad, ad i, ws, c, ds, rfl, .inr ⟨i, s, hs, Sl.isMut.own hmu, rfl⟩, fun a z => R1.mtrk z, hc, allKp_rp q hk, ?_⟩
            cases z : fm c ds with
            | ok q2 =>
              rw [z] at w2
              intro v2 H' kk tk2 tb2 c' rp
              obtain ⟨R2, S2⟩ := R1.put' (d := q2.2) hs hmu kk tk2 tb2 c'
              exact w2 v2 H' R2 (S1.trans S2) (.of (rp.less fun b z => (mo_put hs b).mp z))
            | err c => rw [z] at w2; exact w2.elim
            | bad => rw [z] at w2; exact w2.elim
          cases z : env2[i]? with
          | none => rw [z] at w1; exact w1.elim
          | some s =>
            rw [z] at w1
            cases s with
            | l c =>
              obtain ⟨d0, hd0, hσ, hc⟩ := R1.cell z rfl
              rcases hd0 with e | e | e <;> cases e
              exact fin _ z rfl c hc hσ w1
            | p c =>
              obtain ⟨d0, hd0, hσ, hc⟩ := R1.cell z rfl
              rcases hd0 with e | e | e <;> cases e
              exact fin _ z rfl c hc hσ w1
            | _ => exact w1.elim
        · exact w1.elim
      | _ => exact w1.elim
  · exact w1.elim

/-! ### a cell is changed -/
def Sl.con : Sl → Option D
  | .l d => some d
  | .p d => some d
  | _ => none
theorem Sl.con_mut {s : Sl} {d : D} (h : s.con = some d) : s.isMut = true := by cases s <;> first | rfl | cases h
theorem RE.con {ad : Nat → Addr} {σ : L2.St} {H : Hp} {env : Sls} (R : RE C ad H σ env) {i : Nat} {s : Sl} {d : D} (h : env[i]? = some s) (hc : s.con = some d) : σ[i]? = some (some (V.ref (ad i))) ∧ CellOk C.K H (Mo C env ad) d (ad i) := by
  obtain ⟨d0, hd0, hσ, c⟩ := R.cell h (Sl.isMut.own (Sl.con_mut hc))
  refine ⟨hσ, ?_⟩
  rcases hd0 with e | e | e <;> subst e <;> cases hc <;> exact c
/-- xs.append(e), xs an own list -/
def mApp (i : Nat) (m : Ev) : Ev := fun env =>
  match env[i]?.bind Sl.con with
  | some (.lst _) => do
    let r ← m env
    let d ← kp r.1
    match r.2[i]? with
    | some s => (match s.con with
      | some (.lst ds) => if ds.length < sizeLine then pure (.non, r.2.set i (s.put (.lst (ds ++ [d])))) else .bad
      | _ => .bad)
    | _ => .bad
  | _ => .bad
theorem em_append (i : Nat) {y : Str} {py apos : Pos} (g : Gd X C W k) (he : EM X C W e ta m) (hN : X.N[i]? = some y := by rfl) (hv : Vis X.env.scope y := by first | exact Or.inl rfl | exact Or.inr (Or.inl rfl) | exact Or.inr (Or.inr rfl)) (hd : (y == ("__debug__" : Str)) = false := by decide)
    (hcd : (y == ("__classdict__" : Str)) = false := by decide) (hbase : attributeBase (.Name y py) "append" X.env (eval (.Name y py) X.env) = eval (.Name y py) X.env := by rfl)
    (hfew : ((backTo pos (starEach [e] X.env)).all (fun x => !x.1) && (backToKw pos (keywordEach [] X.env)).all (fun x => x.1.isSome)
      && decide ([e].length + ([] : List Keyword).length + (if ([] : List Keyword).isEmpty then 0 else 1) < 30)) = true := by rfl)
    (hline : (apos.endLine == pos.line) = true := by rfl) (hs : starEach [e] X.env = (false, eval e X.env) :: starEach [] X.env := by rfl) (hplain : (backTo pos (starEach [] X.env)).any (·.1) = false := by rfl) :
    EM X C W (.Call (.Attribute (.Name y py) "append" apos) [e] [] pos) (tBM C.K "list" rAppend (tVar i) (tCons ta tNil)) (mApp i m) := by
  refine ⟨g.kE ▸ pe_bm PySem.F.plainAttrs_list PySem.F.slot_list_append PySem.F.type_list_append mt_append (pe_var hN hv hd hcd) (pa_cons he.pe pa_nil hs) hbase hfew hline hs hplain, fun M0 ad σ H env Q R w => ?_⟩
  unfold mApp at w
  cases z : env[i]? with
  | none => rw [z] at w; exact w.elim
  | some s0 =>
    rw [z] at w
    simp only [Option.bind_some] at w
    cases zc : s0.con with
    | none => rw [zc] at w; exact w.elim
    | some c0 =>
      rw [zc] at w
      cases c0 with
      | lst ds0 =>
        obtain ⟨hσ, hc0⟩ := R.con z zc
        obtain ⟨_, us0, hu0, _⟩ := hc0
        refine ⟨.ref (ad i), hσ, .inl ⟨rfl, us0, .of hu0⟩, ?_⟩
        refine he.sn' R w fun r v H1 R1 S1 V1 w1 => ?_
        rw [wp_bind] at w1
        obtain ⟨_, w2, rp⟩ := kp_rp V1 w1
        cases z2 : r.2[i]? with
        | none => rw [z2] at w2; exact w2.elim
        | some s =>
          rw [z2] at w2
          simp only at w2
          cases zc2 : s.con with
          | none => rw [zc2] at w2; exact w2.elim
          | some c =>
            rw [zc2] at w2
            cases c with
            | lst ds =>
              simp only at w2
              split at w2
              · rename_i hz
                obtain ⟨_, hc⟩ := R1.con z2 zc2
                obtain ⟨z3, us, hu, ru⟩ := hc
                refine ⟨ad i, us, v, rfl, rfl, hu, by rw [ru.len]; exact hz, ?_⟩
                have kk : ∀ b o, H1 b = some o → b ≠ ad i → upd H1 (ad i) (.lst (us ++ [v])) b = some o := fun b o e hb => by rw [upd_ne hb]; exact e
                have hM : Mo (C.w M0) r.2 ad (ad i) := .inr ⟨i, s, z2, Sl.isMut.own (Sl.con_mut zc2), rfl⟩
                have x1 : Ext (Mo (C.w M0) r.2 ad) H1 (upd H1 (ad i) (.lst (us ++ [v]))) := by
                  refine ⟨fun b o e hn _ => kk b o e fun q => hn (q ▸ hM), fun b xs e => kk b _ e fun q => ?_, fun b o u e => kk b _ e fun q => ?_, fun b hb => ?_⟩
                  · rw [q, hu] at e; cases e
                  · rw [q, hu] at e; cases e
                  · by_cases q : b = ad i
                    · rw [q, upd_same]; exact fun z => nomatch z
                    · rw [upd_ne q]; exact hb
                obtain ⟨R2, S2⟩ := R1.put (d := .lst (ds ++ [r.1])) (H' := upd H1 (ad i) (.lst (us ++ [v]))) z2 (Sl.con_mut zc2) kk ⟨by rw [List.length_append]; exact hz, us ++ [v], upd_same, (ru.append (.one rp)).ext x1 fun b q => .inl q⟩
                exact w2 .non _ R2 (S1.trans S2) (.of .non)
              · exact w2.elim
            | _ => exact w2.elim
      | _ => exact w.elim
end
end Vm
end
section
set_option maxRecDepth 100000
set_option maxHeartbeats 4000000
/-! Vm, part G: what is walked, targets, comprehensions. -/
namespace Vm
open PySem PySem.Spec PyProof.Rows L2

/-- the walk J gives the data ds, while hd lies at hv -/
def RpH (K : PySem.W.Frag) (H : Hp) (M : Addr → Prop) (hs : List (D × V)) : Prop := ∀ p ∈ hs, Rp K H M p.1 p.2
theorem RpH.ext {K : PySem.W.Frag} {H H' : Hp} {M M' : Addr → Prop} {hs : List (D × V)} (x : Ext M H H') (hM : ∀ b, M' b → M b ∨ H b = none) (h : RpH K H M hs) : RpH K H' M' hs := fun p hp => (h p hp).ext x hM
structure Wk (K : PySem.W.Frag) (J : It) (hs : List (D × V)) (ds : List D) : Prop where
  go : ∀ (H : Hp) (M : Addr → Prop) (i : Nat) (d : D), (∀ a, M a → H a ≠ none) → RpH K H M hs → ds[i]? = some d → J.go i H ∧ ∀ x H', J.yld i H x H' → Same H H' ∧ Rp K H' M d x
  stop : ∀ (H : Hp) (M : Addr → Prop), RpH K H M hs → J.stop ds.length H
abbrev Em := Sls → Res (List D × Sls)
structure IM (X : Cx) (C : Cfg) (W : WX) (tg iter : Expr) (wi : TI) (m : Em) : Prop where
  pe : PI X tg iter wi
  sn : ∀ (M0 : Addr → Prop) (ad : Nat → Addr) (σ : L2.St) (H : Hp) (env : Sls) (R : It → Hp → Prop), RE (C.w M0) ad H σ env →
    (m env).Wp (fun r => ∀ J hs H', RE (C.w M0) ad H' σ r.2 → Stp (C.w M0) ad H env H' r.2 → RpH C.K H' (Mo (C.w M0) r.2 ad) hs → Wk C.K J hs r.1 → r.1.length ≤ sizeLine → R J H') (Er (C.w M0) ad σ W) → wi σ H R
/-- a target takes data -/
abbrev Gv := D → Sls → Res Sls
structure GM (X : Cx) (C : Cfg) (tg : Expr) (g : TG) (vs : List Nat) (m : Gv) : Prop where
  pe : PG X tg g
  sn : ∀ (M0 : Addr → Prop) (ad : Nat → Addr) (σ : L2.St) (H : Hp) (env : Sls) (d : D) (v : V) (Q : L2.St → Hp → Prop), RE (C.w M0) ad H σ env → Rp C.K H (Mo (C.w M0) env ad) d v →
    (m d env).Wp (fun env' => ∀ σ', RE (C.w M0) ad H σ' env' → (∀ a, Ow env' ad a → Ow env ad a) → σ'.length = σ.length → (∀ j, j ∉ vs → σ'[j]? = σ[j]?) → Q σ' H) (fun _ => False) → g v σ H Q
structure GMs (X : Cx) (C : Cfg) (ts : List Expr) (g : TGs) (vs : List Nat) (m : List D → Sls → Res Sls) : Prop where
  pe : PGs X ts g
  sn : ∀ (M0 : Addr → Prop) (ad : Nat → Addr) (σ : L2.St) (H : Hp) (env : Sls) (ds : List D) (us : List V) (Q : L2.St → Hp → Prop), RE (C.w M0) ad H σ env → RpL C.K H (Mo (C.w M0) env ad) ds us →
    (m ds env).Wp (fun env' => ∀ σ', RE (C.w M0) ad H σ' env' → (∀ a, Ow env' ad a → Ow env ad a) → σ'.length = σ.length → (∀ j, j ∉ vs → σ'[j]? = σ[j]?) → Q σ' H) (fun _ => False) → g us σ H Q
section
variable {X : Cx} {C : Cfg} {W : WX} {k j n : Nat} {a b e : Expr} {es rest : List Expr} {ta tb tc te : TE} {t : TA} {ma mb mc m me : Ev} {ms : Evs} {pos p : Pos} {x : Str} {tg iter elt : Expr}
/-! ### walks -/
theorem wk_list {K : PySem.W.Frag} {a : Addr} {ds : List D} : Wk K (Itl K a) [(.lst ds, .ref a)] ds := by
  refine ⟨fun H M i d _ r h => ?_, fun H M r => ?_⟩
  · cases (show Rp K H M (.lst ds) (.ref a) from r _ (.head _)) with
    | lst h1 hm hl hz hi =>
      rename_i vs
      have hi2 : i < vs.length := by rw [hl]; exact (List.getElem?_eq_some_iff.mp h).1
      have e : vs[i]? = some vs[i] := List.getElem?_eq_getElem hi2
      refine ⟨⟨vs, vs[i], .of h1, e⟩, fun x H' y => ?_⟩
      obtain ⟨e1, y⟩ := y
      subst e1
      have e2 := y vs (.of h1)
      rw [e] at e2
      cases e2
      exact ⟨.refl _, hi i d _ h e⟩
  · cases (show Rp K H M (.lst ds) (.ref a) from r _ (.head _)) with
    | lst h1 hm hl hz hi => exact ⟨_, .of h1, by rw [hl]; exact Nat.le_refl _⟩
theorem wk_tup {K : PySem.W.Frag} {a : Addr} {ds : List D} : Wk K (Itt K a) [(.tup ds, .ref a)] ds := by
  refine ⟨fun H M i d _ r h => ?_, fun H M r => ?_⟩
  · cases (show Rp K H M (.tup ds) (.ref a) from r _ (.head _)) with
    | tup h1 hl hz hi =>
      rename_i vs
      have hi2 : i < vs.length := by rw [hl]; exact (List.getElem?_eq_some_iff.mp h).1
      have e : vs[i]? = some vs[i] := List.getElem?_eq_getElem hi2
      refine ⟨⟨vs, vs[i], h1, e⟩, fun x H' y => ?_⟩
      obtain ⟨e1, y⟩ := y
      subst e1
      have e2 := y vs h1
      rw [e] at e2
      cases e2
      exact ⟨.refl _, hi i d _ h e⟩
  · cases (show Rp K H M (.tup ds) (.ref a) from r _ (.head _)) with
    | tup h1 hl hz hi => exact ⟨_, h1, by rw [hl]; exact Nat.le_refl _⟩
def rangeD (lo : Int) (n : Nat) : List D := (List.range n).map fun (i : Nat) => D.int (lo + i)
theorem rangeD_length (lo : Int) (n : Nat) : (rangeD lo n).length = n := by simp [rangeD]
theorem wk_range {K : PySem.W.Frag} {lo : Int} {n : Nat} : Wk K (Itr lo n) [] (rangeD lo n) := by
  refine ⟨fun H M i d _ r h => ?_, fun H M r => by rw [rangeD_length]; exact Nat.le_refl _⟩
  have hi : i < n := by
    have := (List.getElem?_eq_some_iff.mp h).1
    rwa [rangeD_length] at this
  have e : d = .int (lo + i) := by
    unfold rangeD at h
    rw [List.getElem?_map, List.getElem?_range hi] at h
    cases h
    rfl
  refine ⟨hi, fun x H' y => ?_⟩
  obtain ⟨e1, e2⟩ := y
  subst e1 e2 e
  exact ⟨.refl _, .int _⟩
/-- over a list or a tuple -/
def mSeq (m : Ev) : Em := fun env => do
  let r ← m env
  match r.1 with
  | .lst ds => pure (ds, r.2)
  | .tup ds => pure (ds, r.2)
  | _ => .bad
def iSeq (K : PySem.W.Frag) (t : TE) : TI := fun σ H R => iList K t σ H R ∨ iTup K t σ H R
theorem pi_seq (h : PE X e te) : PI X tg e (iSeq X.K te) := ⟨fun pins s σ H R I q => q.elim ((pi_list h).run pins s σ H R I) ((pi_tup h).run pins s σ H R I)⟩
theorem im_seq (g : Gd X C W k) (h : EM X C W e te m) : IM X C W tg e (iSeq C.K te) (mSeq m) := by
  refine ⟨g.kE ▸ pi_seq h.pe, fun M0 ad σ H env R RR w => ?_⟩
  unfold mSeq at w
  rw [wp_bind] at w
  cases q : m env with
  | ok r =>
    rw [q] at w
    obtain ⟨d, env2⟩ := r
    cases d with
    | lst ds =>
      refine .inl (h.sn M0 ad σ H env _ RR ?_)
      rw [q]
      intro v H' R' S' V'
      have V2 : Rp C.K H' (Mo (C.w M0) env2 ad) (.lst ds) v := V'
      cases V2 with
      | lst h1 hm hl hz hi => exact ⟨_, rfl, ⟨_, .of h1⟩, w _ _ H' R' S' (fun p hp => by rcases List.mem_singleton.mp hp with rfl; exact .lst h1 hm hl hz hi) wk_list hz⟩
    | tup ds =>
      refine .inr (h.sn M0 ad σ H env _ RR ?_)
      rw [q]
      intro v H' R' S' V'
      have V2 : Rp C.K H' (Mo (C.w M0) env2 ad) (.tup ds) v := V'
      cases V2 with
      | tup h1 hl hz hi => exact ⟨_, rfl, ⟨_, h1⟩, w _ _ H' R' S' (fun p hp => by rcases List.mem_singleton.mp hp with rfl; exact .tup h1 hl hz hi) wk_tup hz⟩
    | _ => exact w.elim
  | err c =>
    refine .inl (h.sn M0 ad σ H env _ RR ?_)
    rw [q]
    rw [q] at w
    exact w
  | bad => rw [q] at w; exact w.elim
/-- over range(n) -/
def int1 : List D → Option Int
  | [.int j] => some j
  | _ => none
def int2 : List D → Option (Int × Int)
  | [.int i, .int j] => some (i, j)
  | _ => none
theorem int1_eq {ds : List D} {j : Int} (h : int1 ds = some j) : ds = [.int j] := by
  unfold int1 at h
  split at h
  · cases h; rfl
  · cases h
theorem int2_eq {ds : List D} {p : Int × Int} (h : int2 ds = some p) : ds = [.int p.1, .int p.2] := by
  unfold int2 at h
  split at h
  · cases h; rfl
  · cases h
def mRng1 (ms : Evs) : Em := fun env => do
  let r ← ms env
  match int1 r.1 with
  | some j => if -4611686018427387904 ≤ j ∧ j ≤ 16777216 then pure (rangeD 0 j.toNat, r.2) else .bad
  | none => .bad
def mRng2 (ms : Evs) : Em := fun env => do
  let r ← ms env
  match int2 r.1 with
  | some p => if -4611686018427387904 ≤ p.1 ∧ p.1 < 4611686018427387904 ∧ -4611686018427387904 ≤ p.2 ∧ p.2 < 4611686018427387904 ∧ p.2 - p.1 ≤ 16777216 then pure (rangeD p.1 (p.2 - p.1).toNat, r.2) else .bad
  | none => .bad
theorem im_range1 {tA : TA} (g : Gd X C W k) (h : AM X C W [a] tA ms) (hm : X.mg "range" = none) (hg : Gl X "range" := by rfl) (hs : starEach [a] X.env = [(false, eval a X.env)] := by rfl) : IM X C W tg (.Call (.Name "range" p) [a] [] pos) (iRng1 tA) (mRng1 ms) := by
  refine ⟨pi_range1 hg hm h.pe hs, fun M0 ad σ H env R RR w => ?_⟩
  unfold mRng1 at w
  refine h.sn' RR w fun r vs H' R' S' V' w1 => ?_
  obtain ⟨ds, env2⟩ := r
  simp only at V' w1
  cases q : int1 ds with
  | none => rw [q] at w1; exact w1.elim
  | some j =>
    rw [q] at w1
    rw [int1_eq q] at V'
    obtain ⟨v, us, e1, h1, q⟩ := V'.cons_inv
    have e2 := q.nil_inv
    subst e2
    have h2 : Rp C.K H' (Mo (C.w M0) env2 ad) (.int j) v := h1
    cases h2
    simp only at w1
    split at w1
    · rename_i hz
      refine ⟨j, e1, by omega, by omega, w1 _ [] H' R' S' (fun p hp => nomatch hp) wk_range ?_⟩
      show (rangeD 0 j.toNat).length ≤ sizeLine
      rw [rangeD_length, sizeLine_eq]
      omega
    · exact w1.elim
theorem im_range2 {tA : TA} (g : Gd X C W k) (h : AM X C W [a, b] tA ms) (hm : X.mg "range" = none) (hg : Gl X "range" := by rfl) (hs : starEach [a, b] X.env = [(false, eval a X.env), (false, eval b X.env)] := by rfl) (hs2 : starEach [b] X.env = [(false, eval b X.env)] := by rfl) :
    IM X C W tg (.Call (.Name "range" p) [a, b] [] pos) (iRng2 tA) (mRng2 ms) := by
  refine ⟨pi_range2 hg hm h.pe hs hs2, fun M0 ad σ H env R RR w => ?_⟩
  unfold mRng2 at w
  refine h.sn' RR w fun r vs H' R' S' V' w1 => ?_
  obtain ⟨ds, env2⟩ := r
  simp only at V' w1
  cases q : int2 ds with
  | none => rw [q] at w1; exact w1.elim
  | some pr =>
    rw [q] at w1
    rw [int2_eq q] at V'
    obtain ⟨v, us, e1, h1, q⟩ := V'.cons_inv
    obtain ⟨v2, us2, e3, h3, q2⟩ := q.cons_inv
    have e2 := q2.nil_inv
    subst e2
    subst e3
    have h2 : Rp C.K H' (Mo (C.w M0) env2 ad) (.int pr.1) v := h1
    cases h2
    have h4 : Rp C.K H' (Mo (C.w M0) env2 ad) (.int pr.2) v2 := h3
    cases h4
    simp only at w1
    split at w1
    · rename_i hz
      refine ⟨pr.1, pr.2, e1, ⟨by omega, by omega, by omega, by omega⟩, w1 _ [] H' R' S' (fun p hp => nomatch hp) wk_range ?_⟩
      show (rangeD pr.1 (pr.2 - pr.1).toNat).length ≤ sizeLine
      rw [rangeD_length, sizeLine_eq]
      omega
    · exact w1.elim

/-! ### targets -/
def gmN (i : Nat) : Gv := fun d env => if notPar env i = true then .ok (env.set i (.t d)) else .bad
theorem gm_name (i : Nat) {x : Str} {pos : Pos} (hN : X.N.Nodup) (hi : X.N[i]? = some x := by rfl) (hx : Loc X.env.scope x := by first | exact .inl rfl | exact .inr rfl) (hf : X.fn x = true ∨ X.env.scope.names.lookup x = some .local := by first | exact .inl rfl | exact .inr rfl) : GM X C (.Name x pos) (gName i) [i] (gmN i) := by
  refine ⟨pg_name hN hi hx hf, fun M0 ad σ H env d v Q R r w => ?_⟩
  unfold gmN at w
  split at w
  · refine w _ (R.setS rfl ⟨v, rfl, r⟩) (ow_set rfl) (by rw [List.length_set]) fun j hj => ?_
    rw [List.getElem?_set_ne]
    intro e
    exact hj (by simp [e])
  · exact w.elim
def gmNil : List D → Sls → Res Sls := fun ds env => match ds with
  | [] => .ok env
  | _ => .bad
def gmCons (g : Gv) (gs : List D → Sls → Res Sls) : List D → Sls → Res Sls := fun ds env => match ds with
  | d :: ds => do
    let e ← g d env
    gs ds e
  | _ => .bad
theorem gms_nil : GMs X C [] gNil [] gmNil := by
  refine ⟨pgs_nil, fun M0 ad σ H env ds us Q R r w => ?_⟩
  cases ds with
  | nil => exact ⟨r.nil_inv, w σ R (fun _ z => z) rfl fun _ _ => rfl⟩
  | cons d ds => exact w.elim
theorem gms_cons {e : Expr} {es : List Expr} {g : TG} {gs : TGs} {vs ws : List Nat} {m : Gv} {ms : List D → Sls → Res Sls} (h : GM X C e g vs m) (hs : GMs X C es gs ws ms)
    (ha : (assignEach (e :: es) X.env).map (·.2) = assign e X.env :: (assignEach es X.env).map (·.2) := by rfl) : GMs X C (e :: es) (gCons g gs) (vs ++ ws) (gmCons m ms) := by
  refine ⟨pgs_cons h.pe hs.pe ha, fun M0 ad σ H env ds us Q R r w => ?_⟩
  cases ds with
  | nil => exact w.elim
  | cons d ds =>
    obtain ⟨v, us', rfl, r1, r2⟩ := r.cons_inv
    unfold gmCons at w
    simp only at w
    rw [wp_bind] at w
    refine ⟨v, us', rfl, h.sn M0 ad σ H env d v _ R r1 (w.imp (fun env2 w2 σ2 R2 mo2 l2 o2 => ?_) fun _ z => z)⟩
    refine hs.sn M0 ad σ2 H env2 ds us' Q R2 (r2.less fun a z => z.imp id (mo2 a)) (w2.imp (fun env3 w3 σ3 R3 mo3 l3 o3 => ?_) fun _ z => z)
    refine w3 σ3 R3 (fun a z => mo2 a (mo3 a z)) (l3.trans l2) fun j hj => ?_
    rw [o3 j (fun z => hj (List.mem_append_right _ z)), o2 j (fun z => hj (List.mem_append_left _ z))]
def gmT (n : Nat) (gs : List D → Sls → Res Sls) : Gv := fun d env => match d with
  | .tup ds => if ds.length = n then gs ds env else .bad
  | _ => .bad
theorem gm_tup {es : List Expr} {i n : Nat} {gs : TGs} {vs : List Nat} {ms : List D → Sls → Res Sls} (g : Gd X C W k) (h : GMs X C es gs vs ms) (hn : (assignEach es X.env).length = n := by rfl) (hst : (assignEach es X.env).findIdx? (·.1) = none := by rfl) :
    GM X C (.Tuple es i pos) (gTup C.K n gs) vs (gmT n ms) := by
  refine ⟨g.kE ▸ pg_tup g.calm h.pe hn hst, fun M0 ad σ H env d v Q R r w => ?_⟩
  cases d with
  | tup ds =>
    unfold gmT at w
    simp only at w
    split at w
    · rename_i hl
      cases r with
      | tup h1 hl2 hz hi =>
        exact ⟨_, _, rfl, h1, by rw [hl2]; exact hl, h.sn M0 ad σ H env ds _ Q R ⟨hl2, hi⟩ w⟩
    · exact w.elim
  | _ => exact w.elim

/-! ### comprehensions -/
def noE {α : Type} (r : Res α) : Res α := match r with
  | .err _ => .bad
  | r => r
theorem noE_wp {α : Type} {r : Res α} {P : α → Prop} {E E' : Str → Prop} (w : (noE r).Wp P E) : r.Wp P E' := by
  cases r with
  | ok a => exact w
  | err c => exact w.elim
  | bad => exact w.elim
theorem noE_ok {α : Type} (a : α) : noE (Res.ok a) = .ok a := rfl
def wipeE (env : Sls) : List Nat → Sls
  | [] => env
  | v :: vs => (wipeE env vs).set v .u
def backE (base env : Sls) : List Nat → Sls
  | [] => env
  | v :: vs => (backE base env vs).set v (base.getD v .u)
def okWipe (env : Sls) (vs : List Nat) : Bool := vs.all fun v => match env[v]? with
  | some .u => true
  | some (.t _) => true
  | _ => false
def lcL (vs : List Nat) (g : Gv) (tt : Ev1) (me : Ev) : List D → Sls → Res (List D × Sls)
  | [], env => .ok ([], env)
  | d :: ds, env => do
    let e1 ← noE (g d env)
    let b ← noE (tt e1)
    if b.1 = true then do
      let r ← noE (me b.2)
      let y ← kp r.1
      let q ← lcL vs g tt me ds (wipeE r.2 vs)
      pure (y :: q.1, q.2)
    else lcL vs g tt me ds (wipeE b.2 vs)
def mLc (mi : Em) (vs : List Nat) (g : Gv) (tt : Ev1) (me : Ev) : Ev := fun env => do
  let r ← mi env
  if okWipe r.2 vs = true then do
    let q ← lcL vs g tt me r.1 (wipeE r.2 vs)
    pure (.lst q.1, backE r.2 q.2 vs)
  else .bad
theorem lcL_len {vs : List Nat} {g : Gv} {tt : Ev1} {me : Ev} : ∀ {ds : List D} {env : Sls} {q : List D × Sls}, lcL vs g tt me ds env = .ok q → q.1.length ≤ ds.length
  | [], env, q, h => by cases h; exact Nat.le_refl _
  | d :: ds, env, q, h => by
    simp only [lcL] at h
    cases h1 : noE (g d env) with
    | err c => rw [h1] at h; cases h
    | bad => rw [h1] at h; cases h
    | ok e1 =>
      rw [h1, ok_bind] at h
      cases h2 : noE (tt e1) with
      | err c => rw [h2] at h; cases h
      | bad => rw [h2] at h; cases h
      | ok b =>
        rw [h2, ok_bind] at h
        split at h
        · cases h3 : noE (me b.2) with
          | err c => rw [h3] at h; cases h
          | bad => rw [h3] at h; cases h
          | ok r =>
            rw [h3, ok_bind] at h
            cases h4 : kp r.1 with
            | err c => rw [h4] at h; cases h
            | bad => rw [h4] at h; cases h
            | ok y =>
              rw [h4, ok_bind] at h
              cases h5 : lcL vs g tt me ds (wipeE r.2 vs) with
              | err c => rw [h5] at h; cases h
              | bad => rw [h5] at h; cases h
              | ok q2 =>
                rw [h5, ok_bind] at h
                have := lcL_len h5
                cases h
                simp only [List.length_cons]
                omega
        · have := lcL_len h
          rw [List.length_cons]
          omega

/-! slots wiped and back -/
theorem RE.wipe {ad : Nat → Addr} {σ : L2.St} {H : Hp} {env : Sls} (R : RE C ad H σ env) : ∀ vs : List Nat, RE C ad H (L2.wipe σ vs) (wipeE env vs)
  | [] => R
  | v :: vs => (RE.wipe R vs).setS rfl True.intro
theorem ow_wipe {ad : Nat → Addr} {env : Sls} : ∀ vs : List Nat, ∀ a, Ow (wipeE env vs) ad a → Ow env ad a
  | [], a, h => h
  | v :: vs, a, h => ow_wipe vs a (ow_set rfl a h)
theorem wipeE_out {env : Sls} {i : Nat} : ∀ {vs : List Nat}, i ∉ vs → (wipeE env vs)[i]? = env[i]?
  | [], _ => rfl
  | v :: vs, h => by
    show ((wipeE env vs).set v .u)[i]? = _
    rw [List.getElem?_set_ne (fun e => h (by simp [e])), wipeE_out fun z => h (List.mem_cons_of_mem _ z)]
theorem wipeE_len {env : Sls} : ∀ {vs : List Nat}, (wipeE env vs).length = env.length
  | [] => rfl
  | v :: vs => by
    show ((wipeE env vs).set v .u).length = _
    rw [List.length_set, wipeE_len]
theorem st_wipe_eq {σ σ' : L2.St} {vs : List Nat} (hl : σ'.length = σ.length) (h : ∀ j, j ∉ vs → σ'[j]? = σ[j]?) : L2.wipe σ' vs = L2.wipe σ vs := by
  have inn : ∀ (τ : L2.St) (ws : List Nat) (j : Nat), j ∈ ws → j < τ.length → (L2.wipe τ ws)[j]? = some none := by
    intro τ ws
    induction ws with
    | nil => intro j hj; cases hj
    | cons w ws ih =>
      intro j hj hlt
      show ((L2.wipe τ ws).set w none)[j]? = _
      by_cases e : w = j
      · subst e
        rw [List.getElem?_set_self (by rw [wipe_length]; exact hlt)]
      · rw [List.getElem?_set_ne e]
        exact ih j ((List.mem_cons.mp hj).resolve_left fun z => e z.symm) hlt
  refine List.ext_getElem? fun j => ?_
  by_cases hlt : j < σ.length
  · by_cases hj : j ∈ vs
    · rw [inn σ' vs j hj (by rw [hl]; exact hlt), inn σ vs j hj hlt]
    · rw [wipe_out hj, wipe_out hj, h j hj]
  · rw [List.getElem?_eq_none_iff.mpr (by rw [wipe_length, hl]; omega), List.getElem?_eq_none_iff.mpr (by rw [wipe_length]; omega)]
def backS (σ τ : L2.St) : List Nat → L2.St
  | [] => τ
  | v :: vs => (backS σ τ vs).set v (σ.getD v none)
theorem backS_wipe (σ : L2.St) (vs : List Nat) : backS σ (L2.wipe σ vs) vs = σ := by
  have len : ∀ ws (τ : L2.St), (backS σ τ ws).length = τ.length := by
    intro ws
    induction ws with
    | nil => intro τ; rfl
    | cons w ws ih => intro τ; show ((backS σ τ ws).set w _).length = _; rw [List.length_set, ih]
  have inn : ∀ (ws : List Nat) (τ : L2.St) (j : Nat), τ.length = σ.length → j < σ.length → (j ∈ ws → (backS σ τ ws)[j]? = σ[j]?) ∧ (j ∉ ws → (backS σ τ ws)[j]? = τ[j]?) := by
    intro ws
    induction ws with
    | nil => intro τ j _ _; exact ⟨fun h => by (cases h), fun _ => rfl⟩
    | cons w ws ih =>
      intro τ j hl hlt
      obtain ⟨i1, i2⟩ := ih τ j hl hlt
      have step : ∀ h : w ≠ j, (backS σ τ (w :: ws))[j]? = (backS σ τ ws)[j]? := fun h => by
        show ((backS σ τ ws).set w _)[j]? = _
        rw [List.getElem?_set_ne h]
      refine ⟨fun hj => ?_, fun hj => ?_⟩
      · by_cases e : w = j
        · subst e
          show ((backS σ τ ws).set w _)[w]? = _
          rw [List.getElem?_set_self (by rw [len, hl]; exact hlt), List.getD_eq_getElem?_getD, List.getElem?_eq_getElem hlt]
          rfl
        · rw [step e, i1 ((List.mem_cons.mp hj).resolve_left fun z => e z.symm)]
      · rw [step (fun e => hj (by simp [e])), i2 fun z => hj (List.mem_cons_of_mem _ z)]
  refine List.ext_getElem? fun j => ?_
  by_cases hlt : j < σ.length
  · by_cases hj : j ∈ vs
    · exact (inn vs _ j (wipe_length _ _) hlt).1 hj
    · rw [(inn vs _ j (wipe_length _ _) hlt).2 hj, wipe_out hj]
  · rw [List.getElem?_eq_none_iff.mpr (by rw [len, wipe_length]; omega), List.getElem?_eq_none_iff.mpr (by omega)]
/-- the wiped slots as they were -/
theorem RE.back {ad : Nat → Addr} {σ τ : L2.St} {H H' : Hp} {base env : Sls} (B : RE C ad H σ base) (x : Ext (Mo C base ad) H H') (R : RE C ad H' τ env) (hmo : ∀ a, Ow env ad a → Ow base ad a) : ∀ {vs : List Nat}, okWipe base vs = true →
    RE C ad H' (backS σ τ vs) (backE base env vs) ∧ ∀ a, Ow (backE base env vs) ad a → Ow env ad a
  | [], _ => ⟨R, fun _ z => z⟩
  | v :: vs, h => by
    have h' : (match base[v]? with | some .u => true | some (.t _) => true | _ => false) = true ∧ okWipe base vs = true := by
      have := h
      unfold okWipe at this
      rw [List.all_cons, Bool.and_eq_true] at this
      exact this
    obtain ⟨R2, m2⟩ := RE.back B x R hmo h'.2
    cases q : base[v]? with
    | none => rw [q] at h'; cases h'.1
    | some s =>
      have e : base.getD v .u = s := by rw [List.getD_eq_getElem?_getD, q]; rfl
      have ho : s.isOwn = false := by
        rw [q] at h'
        cases s <;> first | rfl | exact absurd h'.1 Bool.false_ne_true
      have z := B.sl v s q
      have sg : σ[v]?.join = σ.getD v none := by
        rw [List.getD_eq_getElem?_getD]
        cases σ[v]? <;> rfl
      refine ⟨?_, fun a w => ?_⟩
      · show RE C ad H' ((backS σ τ vs).set v (σ.getD v none)) ((backE base env vs).set v (base.getD v .u))
        rw [e]
        refine R2.setS ho ?_
        rw [← sg]
        exact SlOk.ext (C := C) z (fun o => by rw [ho] at o; cases o) x fun b w => .inl (w.imp id fun w => hmo b (m2 b w))
      · have w' : Ow ((backE base env vs).set v (base.getD v .u)) ad a := w
        rw [e] at w'
        exact m2 a (ow_set ho a w')
theorem tabs_upd {T : List (Addr × Str)} {H : Hp} {a : Addr} {us us' : List V} (t : LamX.Tabs T H) (ho : H a = some (.lst us)) : LamX.Tabs T (upd H a (.lst us')) := fun p hp => by
  obtain ⟨ps, e1, e2, e3⟩ := t p hp
  refine ⟨ps, by rw [upd_ne fun q => by rw [q, ho] at e1; cases e1]; exact e1, e2, fun pos cv hc => ?_⟩
  obtain ⟨c', q1, q2⟩ := e3 pos cv hc
  exact ⟨c', q1, by rw [upd_ne fun q => by rw [q, ho] at q2; unfold LamX.CodeO at q2; cases q2]; exact q2⟩
/-- a cell that others hold is changed -/
theorem RE.other {ad : Nat → Addr} {σ : L2.St} {H : Hp} {env : Sls} (R : RE C ad H σ env) {a : Addr} {us us' : List V} (ha : C.M0 a) (hno : ¬ Ow env ad a) (h0 : C.H0 a = none) (ho : H a = some (.lst us)) : RE C ad (upd H a (.lst us')) σ env ∧ Ext (fun b => b = a) H (upd H a (.lst us')) := by
  have x : Ext (fun b => b = a) H (upd H a (.lst us')) := by
    refine ⟨fun b o e n _ => by rw [upd_ne n]; exact e, fun b xs e => ?_, fun b o u e => ?_, fun b e => ?_⟩
    · by_cases q : b = a
      · rw [q, ho] at e; cases e
      · rw [upd_ne q]; exact e
    · by_cases q : b = a
      · rw [q, ho] at e; cases e
      · rw [upd_ne q]; exact e
    · by_cases q : b = a
      · rw [q, upd_same]; exact fun z => nomatch z
      · rw [upd_ne q]; exact e
  refine ⟨⟨R.len, fun i s h => ?_, R.inj, R.loc, R.par, fun b o e n nt => ?_, R.frk, fun b e => x.trk b (R.trk b e), fun b e => x.trk b (R.m0 b e), tabs_upd R.tabs ho⟩, x⟩
  · refine SlOk.ext (C := C) (R.sl i s h) (fun o => ?_) (x.mono fun b e => .inl (e ▸ ha)) fun b z => .inl z
    rw [upd_ne fun e => hno ⟨i, s, h, o, e⟩]
  · rw [upd_ne fun q => by rw [q, h0] at e; cases e]
    exact R.same b o e n nt

theorem RE.mtrk' {ad : Nat → Addr} {σ : L2.St} {H : Hp} {env : Sls} (R : RE C ad H σ env) (a : Addr) (h : Mo C env ad a) : H a ≠ none := R.mtrk h

abbrev W0 : WX := fun _ _ _ _ => False
theorem takesF {X : Cx} : Takes X W0 := fun _ _ x => by
  obtain ⟨_, _, _, _, _, _, _, _, _, _, _, _, _, _, _, _, z⟩ := x
  exact z.elim
/-- the surroundings of a comprehension's block -/
theorem Gd.blk {s : Shared} {H : Hp} {scope : Scope} {cenv : Env} {fp : List Addr} (g : Gd X C W k) : Gd (X.blk s H scope cenv fp) C W0 k := ⟨g.kE, g.mE, g.calm, takesF, g.room, g.nd⟩
/-- tests of a comprehension -/
structure TMs (X : Cx) (C : Cfg) (W : WX) (ifs : List Expr) (t : TT) (m : Ev1) : Prop where
  pe : PTs X ifs t
  sn : ∀ (M0 : Addr → Prop) (ad : Nat → Addr) (σ : L2.St) (H : Hp) (env : Sls) (Q : Bool → Hp → Prop), RE (C.w M0) ad H σ env →
    (m env).Wp (fun r => ∀ H', RE (C.w M0) ad H' σ r.2 → Stp (C.w M0) ad H env H' r.2 → Q r.1 H') (Er (C.w M0) ad σ W) → t σ H Q
def mYes : Ev1 := fun env => .ok (true, env)
theorem tms_nil : TMs X C W [] tYes mYes := ⟨pts_nil, fun M0 ad σ H env Q R w => w H R .refl⟩
theorem tms_one {c : Expr} {t : TT} {m : Ev1} (h : TM X C W c t m) : TMs X C W [c] t m := ⟨pts_one h.pe, h.sn⟩
theorem lc_sn {g : TG} {gv : Gv} {tt : TT} {mt : Ev1} {wi : TI} {mi : Em} {vs : List Nat} (hi : ∀ (M0 : Addr → Prop) (ad : Nat → Addr) (σ : L2.St) (H : Hp) (env : Sls) (R : It → Hp → Prop), RE (C.w M0) ad H σ env →
      (mi env).Wp (fun r => ∀ J hs H', RE (C.w M0) ad H' σ r.2 → Stp (C.w M0) ad H env H' r.2 → RpH C.K H' (Mo (C.w M0) r.2 ad) hs → Wk C.K J hs r.1 → r.1.length ≤ sizeLine → R J H') (Er (C.w M0) ad σ W) → wi σ H R)
    (hg : ∀ (M0 : Addr → Prop) (ad : Nat → Addr) (σ : L2.St) (H : Hp) (env : Sls) (d : D) (v : V) (Q : L2.St → Hp → Prop), RE (C.w M0) ad H σ env → Rp C.K H (Mo (C.w M0) env ad) d v →
      (gv d env).Wp (fun env' => ∀ σ', RE (C.w M0) ad H σ' env' → (∀ a, Ow env' ad a → Ow env ad a) → σ'.length = σ.length → (∀ j, j ∉ vs → σ'[j]? = σ[j]?) → Q σ' H) (fun _ => False) → g v σ H Q)
    (ht : ∀ (M0 : Addr → Prop) (ad : Nat → Addr) (σ : L2.St) (H : Hp) (env : Sls) (Q : Bool → Hp → Prop), RE (C.w M0) ad H σ env →
      (mt env).Wp (fun r => ∀ H', RE (C.w M0) ad H' σ r.2 → Stp (C.w M0) ad H env H' r.2 → Q r.1 H') (Er (C.w M0) ad σ W0) → tt σ H Q)
    (he : ∀ (M0 : Addr → Prop) (ad : Nat → Addr) (σ : L2.St) (H : Hp) (env : Sls) (Q : VK), RE (C.w M0) ad H σ env →
      (me env).Wp (fun r => ∀ v H', RE (C.w M0) ad H' σ r.2 → Stp (C.w M0) ad H env H' r.2 → VR (C.w M0) ad H' σ r.2 r.1 v → Q v H') (Er (C.w M0) ad σ W0) → te σ H Q)
    {M0 : Addr → Prop} {ad : Nat → Addr} {σ : L2.St} {H : Hp} {env : Sls} {Q : VK} (R : RE (C.w M0) ad H σ env)
    (w : (mLc mi vs gv mt me env).Wp (fun r => ∀ a H', H a = none → RE ((C.w M0).add a) ad H' σ r.2 → Stp (C.w M0) ad H env H' r.2 → CellOk C.K H' (Mo ((C.w M0).add a) r.2 ad) r.1 a → Q (.ref a) H') (Er (C.w M0) ad σ W)) : tLc wi g tt te vs σ H Q := by
  unfold mLc at w
  rw [wp_bind] at w
  refine hi M0 ad σ H env _ R (w.imp (fun r w1 J hds H1 R1 S1 Rh Wlk Hz => ?_) fun _ z => z)
  clear w
  obtain ⟨ds, env1⟩ := r
  simp only at w1 R1 S1 Rh Wlk Hz
  split at w1
  · rename_i hw
    intro L hL
    rw [wp_bind] at w1
    have sL : Same H1 (upd H1 L (.lst [])) := same_new hL
    have HL0 : H L = none := by
      cases z : H L with
      | none => rfl
      | some o => exact absurd hL (S1.ext.trk L (by rw [z]; exact fun z => nomatch z))
    have h0L : C.H0 L = none := by
      cases z : C.H0 L with
      | none => rfl
      | some o => exact absurd hL (R1.trk L (by show C.H0 L ≠ none; rw [z]; exact fun z => nomatch z))
    have LnO : ¬ Ow env1 ad L := fun z => R1.mtrk (.inr z) hL
    have RA : RE ((C.w M0).add L) ad (upd H1 L (.lst [])) σ env1 := R1.growAdd sL hL (by rw [upd_same]; exact fun z => nomatch z)
    -- the word: at turn i
    refine ⟨fun i m H => m = ds.length - i ∧ i ≤ ds.length ∧ ∃ (env' : Sls) (acc : List D) (us : List V), RE ((C.w M0).add L) ad H (L2.wipe σ vs) env' ∧ Ext (Ow env1 ad) H1 H ∧ (∀ a, Ow env' ad a → Ow env1 ad a) ∧
        H L = some (.lst us) ∧ RpL C.K H (Mo ((C.w M0).add L) env' ad) acc us ∧ acc.length ≤ i ∧
        (lcL vs gv mt me (ds.drop i) env').Wp (fun q => ∀ H', RE ((C.w M0).add L) ad H' σ (backE env1 q.2 vs) → Ext (Ow env1 ad) H1 H' → (∀ a, Ow (backE env1 q.2 vs) ad a → Ow env1 ad a) →
          CellOk C.K H' (Mo ((C.w M0).add L) (backE env1 q.2 vs) ad) (.lst (acc ++ q.1)) L → Q (.ref L) H') (fun _ => True), ⟨ds.length, by simp, Nat.zero_le _, wipeE env1 vs, [], [], RA.wipe vs, .of_same sL, ow_wipe vs, upd_same, .nil, Nat.le_refl _, ?_⟩, ?_⟩
    · rw [List.drop_zero]
      cases q : lcL vs gv mt me ds (wipeE env1 vs) with
      | ok r =>
        rw [q] at w1
        intro H' R' x' mo' c'
        exact w1 L H' HL0 R' (S1.trans ⟨x', mo'⟩) c'
      | err c => exact True.intro
      | bad => rw [q] at w1; exact w1.elim
    · rintro i m H2 ⟨rfl, hil, env2, acc, us, R2, x2, ow2, hus, rac, hacc, w2⟩
      have Rh2 : RpH C.K H2 (Mo ((C.w M0).add L) env2 ad) hds := Rh.ext (x2.mono fun a z => .inr z) fun b z => by
        rcases mo_add.mp z with z | z
        · exact .inl (z.imp id (ow2 b))
        · exact .inr (z ▸ hL)
      by_cases hlt : i < ds.length
      · have ed : ds[i]? = some ds[i] := List.getElem?_eq_getElem hlt
        have edr : ds.drop i = ds[i] :: ds.drop (i + 1) := List.drop_eq_getElem_cons hlt
        obtain ⟨hgo, hy⟩ := Wlk.go H2 _ i _ (fun a z => R2.mtrk z) Rh2 ed
        rw [edr] at w2
        unfold lcL at w2
        refine .inr ⟨hgo, fun H' => ∃ (env' : Sls) (acc : List D) (us : List V), RE ((C.w M0).add L) ad H' (L2.wipe σ vs) env' ∧ Ext (Ow env1 ad) H1 H' ∧ (∀ a, Ow env' ad a → Ow env1 ad a) ∧
          H' L = some (.lst us) ∧ RpL C.K H' (Mo ((C.w M0).add L) env' ad) acc us ∧ acc.length ≤ i + 1 ∧
          (lcL vs gv mt me (ds.drop (i + 1)) env').Wp (fun q => ∀ H', RE ((C.w M0).add L) ad H' σ (backE env1 q.2 vs) → Ext (Ow env1 ad) H1 H' → (∀ a, Ow (backE env1 q.2 vs) ad a → Ow env1 ad a) →
            CellOk C.K H' (Mo ((C.w M0).add L) (backE env1 q.2 vs) ad) (.lst (acc ++ q.1)) L → Q (.ref L) H') (fun _ => True), fun H' h' => ⟨ds.length - (i + 1), by omega, rfl, hlt, h'⟩, fun x H3 y => ?_⟩
        obtain ⟨s3, rx⟩ := hy x H3 y
        have R3 : RE ((C.w M0).add L) ad H3 (L2.wipe σ vs) env2 := R2.grow s3
        rw [wp_bind] at w2
        refine hg _ ad (L2.wipe σ vs) H3 env2 ds[i] x _ R3 rx ((noE_wp (E' := fun _ => False) w2).imp (fun env3 w3 σ3 R3' ow3 l3 o3 => ?_) fun _ z => z)
        have ew : L2.wipe σ3 vs = L2.wipe σ vs := by
          rw [st_wipe_eq l3 o3]
          exact st_wipe_eq (wipe_length _ _) fun j hj => wipe_out hj
        refine ⟨ew, ?_⟩
        rw [wp_bind] at w3
        refine ht _ ad σ3 H3 env3 _ R3' ((noE_wp (E' := Er ((C.w M0).add L) ad σ3 W0) w3).imp (fun b w4 H4 R4 S4 => ?_) fun _ z => z)
        have x4 : Ext (Ow env1 ad) H2 H4 := (Ext.of_same s3).trans (S4.ext.mono fun a z => ow2 a (ow3 a z))
        have ow4 : ∀ a, Ow b.2 ad a → Ow env1 ad a := fun a z => ow2 a (ow3 a (S4.ow a z))
        have lowM : ∀ {e1 e2 : Sls}, (∀ a, Ow e2 ad a → Ow e1 ad a) → ∀ a, Mo ((C.w M0).add L) e2 ad a → Mo ((C.w M0).add L) e1 ad a := fun h a z => z.imp id (h a)
        split
        · rename_i hb
          rw [if_pos hb, wp_bind] at w4
          refine he _ ad σ3 H4 b.2 _ R4 ((noE_wp (E' := Er ((C.w M0).add L) ad σ3 W0) w4).imp (fun r w5 v H5 R5 S5 V5 => ?_) fun _ z => z)
          rw [wp_bind] at w5
          obtain ⟨_, w6, rv⟩ := kp_rp V5 w5
          have x5 : Ext (Ow env1 ad) H2 H5 := x4.trans (S5.ext.mono ow4)
          have ow5 : ∀ a, Ow r.2 ad a → Ow env1 ad a := fun a z => ow4 a (S5.ow a z)
          have hL5 : H5 L = some (.lst us) := x5.stay L _ hus LnO fun _ z => nomatch z
          obtain ⟨R6, x6⟩ := R5.other (us' := us ++ [v]) (.inr rfl) (fun z => LnO (ow5 L z)) h0L hL5
          have rac5 : RpL C.K H5 (Mo ((C.w M0).add L) r.2 ad) acc us := rac.ext ((Ext.of_same s3).trans ((S4.ext.trans (S5.ext.mono S4.ow)).mono fun a z => .inr (ow3 a z))) fun a z => .inl (z.imp id fun z => ow3 a (S4.ow a (S5.ow a z)))
          refine ⟨us, hL5, by rw [rac5.len]; omega, wipeE r.2 vs, acc ++ [r.1], us ++ [v], by rw [← ew]; exact R6.wipe vs, ?_, fun a z => ow5 a (ow_wipe vs a z), upd_same, ?_, by rw [List.length_append]; exact Nat.succ_le_succ hacc, ?_⟩
          · refine ⟨fun b o e n nt => ?_, fun b xs e => ?_, fun b o u e => ?_, fun b e => ?_⟩
            · rw [upd_ne fun q => by rw [q, hL] at e; cases e]
              exact x5.stay b o (x2.stay b o e n nt) n nt
            · rw [upd_ne fun q => by rw [q, hL] at e; cases e]
              exact x5.tups b xs (x2.tups b xs e)
            · rw [upd_ne fun q => by rw [q, hL] at e; cases e]
              exact x5.frzs b o u (x2.frzs b o u e)
            · rw [upd_ne fun q => by rw [q] at e; exact e hL]
              exact x5.trk b (x2.trk b e)
          · refine ((rac5.append (.one rv)).ext (x6.mono fun b e => ?_) fun a z => .inl (lowM (fun a z => ow_wipe vs a z) a z))
            rw [e]
            exact .inl (.inr rfl)
          · cases q : lcL vs gv mt me (ds.drop (i + 1)) (wipeE r.2 vs) with
            | ok z =>
              rw [q] at w6
              intro H' R' x' m' c'
              exact w6 H' R' x' m' (by rw [List.append_assoc] at c'; exact c')
            | err c => exact True.intro
            | bad => rw [q] at w6; exact w6.elim
        · rename_i hb
          rw [if_neg hb] at w4
          have hL4 : H4 L = some (.lst us) := x4.stay L _ hus LnO fun _ z => nomatch z
          refine ⟨wipeE b.2 vs, acc, us, by rw [← ew]; exact R4.wipe vs, x2.trans x4, fun a z => ow4 a (ow_wipe vs a z), hL4, ?_, Nat.le_succ_of_le hacc, w4⟩
          exact rac.ext ((Ext.of_same s3).trans (S4.ext.mono fun a z => .inr (ow3 a z))) fun a z => .inl (z.imp id fun z => ow3 a (S4.ow a (ow_wipe vs a z)))
      · have ei : i = ds.length := by omega
        subst ei
        rw [List.drop_length] at w2
        refine .inl ⟨Wlk.stop H2 _ Rh2, ?_⟩
        have xb : Ext (Mo ((C.w M0).add L) env1 ad) (upd H1 L (.lst [])) H2 := by
          refine ⟨fun b o e n nt => ?_, fun b xs e => ?_, fun b o u e => ?_, fun b e => ?_⟩
          · rw [upd_ne fun q => n (.inl (.inr q))] at e
            exact x2.stay b o e (fun z => n (.inr z)) nt
          · by_cases q : b = L
            · rw [q, upd_same] at e; cases e
            · rw [upd_ne q] at e; exact x2.tups b xs e
          · by_cases q : b = L
            · rw [q, upd_same] at e; cases e
            · rw [upd_ne q] at e; exact x2.frzs b o u e
          · by_cases q : b = L
            · rw [q, hus]; exact fun z => nomatch z
            · rw [upd_ne q] at e; exact x2.trk b e
        obtain ⟨RB, mb⟩ := RE.back RA xb R2 ow2 hw
        rw [backS_wipe] at RB
        refine w2 H2 RB x2 (fun a z => ow2 a (mb a z)) ⟨?_, us, hus, ?_⟩
        · rw [List.append_nil]; exact Nat.le_trans hacc Hz
        · rw [List.append_nil]
          exact rac.less fun a z => z.imp id (mb a)
  · exact w1.elim
end
end Vm
end
section
set_option maxRecDepth 100000
set_option maxHeartbeats 4000000
/-! Vm, part H: comprehensions as expressions, statements. -/
namespace Vm
open PySem PySem.Spec PyProof.Rows L2

section
variable {X : Cx} {C : Cfg} {W : WX} {k j n : Nat} {a b e : Expr} {es rest : List Expr} {ta tb tc te : TE} {t : TA} {ma mb mc m me : Ev} {ms : Evs} {pos p : Pos} {x : Str} {tg iter elt : Expr}
theorem ef_lc {ifs : List Expr} {scope : Scope} {own : List (Str × Nat)} {wi : TI} {gt : TG} {tt : TT} {mi : Em} {gv : Gv} {mt : Ev1} (g : Gd X C W k) (hi : IM X C W tg iter wi mi) (ok : BlkOk X.N X.env.scope scope own)
    (hg : ∀ (s : Shared) (H : Hp) (L : Addr) (cl : List (Str × Addr)) (fp : List Addr), Gd (X.blk s H scope (compEnvC scope cl L X.env) fp) C W0 k → GM (X.blk s H scope (compEnvC scope cl L X.env) fp) C tg gt (own.map (·.2)) gv)
    (ht : ∀ (s : Shared) (H : Hp) (L : Addr) (cl : List (Str × Addr)) (fp : List Addr), Gd (X.blk s H scope (compEnvC scope cl L X.env) fp) C W0 k → TMs (X.blk s H scope (compEnvC scope cl L X.env) fp) C W0 ifs tt mt)
    (he : ∀ (s : Shared) (H : Hp) (L : Addr) (cl : List (Str × Addr)) (fp : List Addr), Gd (X.blk s H scope (compEnvC scope cl L X.env) fp) C W0 k → EM (X.blk s H scope (compEnvC scope cl L X.env) fp) C W0 elt te me)
    (hs : ∀ x, foldedSetIterable iter X.env x = pure x := by intro _; rfl) :
    EF X C W (.ListComp elt [⟨tg, iter, ifs, 0⟩] scope pos) (tLc wi gt tt te (own.map (·.2))) (mLc mi (own.map (·.2)) gv mt me) :=
  ⟨pe_lc g.calm g.nd hi.pe ok (fun s H L cl fp => (hg s H L cl fp g.blk).pe) (fun s H L cl fp => (ht s H L cl fp g.blk).pe) (fun s H L cl fp => (he s H L cl fp g.blk).pe) hs,
    fun M0 ad σ H env Q R w => lc_sn hi.sn (hg X.s_0 X.H_0 0 [] [] g.blk).sn (ht X.s_0 X.H_0 0 [] [] g.blk).sn (he X.s_0 X.H_0 0 [] [] g.blk).sn R w⟩

/-! ### statements -/
inductive Out where
  | next
  | brk
  | cont
  | ret (d : D)
abbrev Sv := Sls → Res (Out × Sls)
def Keep (C : Cfg) (ad : Nat → Addr) (H : Hp) (env : Sls) (ad' : Nat → Addr) (H' : Hp) (env' : Sls) : Prop := ∀ d v, Rp C.K H (Mo C env ad) d v → Rp C.K H' (Mo C env' ad') d v
theorem Keep.refl {ad : Nat → Addr} {H : Hp} {env : Sls} : Keep C ad H env ad H env := fun _ _ h => h
theorem Keep.trans {ad ad' ad2 : Nat → Addr} {H H' H2 : Hp} {env env' env2 : Sls} (x : Keep C ad H env ad' H' env') (y : Keep C ad' H' env' ad2 H2 env2) : Keep C ad H env ad2 H2 env2 := fun d v h => y d v (x d v h)
theorem Stp.keep {ad : Nat → Addr} {H H' : Hp} {env env' : Sls} (S : Stp C ad H env H' env') : Keep C ad H env ad H' env' := fun _ _ h => S.rp h
def RetOk (C : Cfg) (ad : Nat → Addr) (H : Hp) (σ : L2.St) (env : Sls) (d : D) (v : V) : Prop :=
  match C.fresh with
  | false => RE C ad H σ env ∧ Rp C.K H (Mo C env ad) d v
  | true => (d = .non ∧ v = .non ∧ RE C ad H σ env) ∨ ∃ a, v = .ref a ∧ C.H0 a = none ∧ RE (C.add a) ad H σ env ∧ CellOk C.K H (Mo (C.add a) env ad) d a
def Fin (C : Cfg) (Dn : Ends) (ad : Nat → Addr) (H : Hp) (env : Sls) (r : Out × Sls) : Prop :=
  match r.1 with
  | .next => ∀ ad' σ' H', RE C ad' H' σ' r.2 → Keep C ad H env ad' H' r.2 → Dn.nx σ' H'
  | .brk => ∀ ad' σ' H', RE C ad' H' σ' r.2 → Keep C ad H env ad' H' r.2 → Dn.bk σ' H'
  | .cont => ∀ ad' σ' H', RE C ad' H' σ' r.2 → Keep C ad H env ad' H' r.2 → Dn.ct σ' H'
  | .ret d => ∀ ad' σ' H' v, RetOk C ad' H' σ' r.2 d v → Dn.rt v H'
def ErS (C : Cfg) (W : WX) (c : Str) : Prop := ∀ ad σ cls dd H env', C.mg c = some cls → RE C ad H σ env' → W cls dd σ H
theorem ErS.er {ad : Nat → Addr} {σ : L2.St} {c : Str} (h : ErS C W c) : Er C ad σ W c := fun cls dd H env' hm R => h ad σ cls dd H env' hm R
theorem Fin.mid {Dn : Ends} {ad ad' : Nat → Addr} {H H' : Hp} {env env' : Sls} {r : Out × Sls} (K : Keep C ad H env ad' H' env') (h : Fin C Dn ad H env r) : Fin C Dn ad' H' env' r := by
  obtain ⟨o, e2⟩ := r
  cases o with
  | next => exact fun ad2 σ2 H2 R k2 => h ad2 σ2 H2 R (K.trans k2)
  | brk => exact fun ad2 σ2 H2 R k2 => h ad2 σ2 H2 R (K.trans k2)
  | cont => exact fun ad2 σ2 H2 R k2 => h ad2 σ2 H2 R (K.trans k2)
  | ret d => exact h
structure SM (X : Cx) (C : Cfg) (W : WX) (st : Stmt) (t : TS) (m : Sv) : Prop where
  pe : PS X st t
  sn : ∀ (ad : Nat → Addr) (σ : L2.St) (H : Hp) (env : Sls) (Dn : Ends), RE C ad H σ env → (m env).Wp (Fin C Dn ad H env) (ErS C W) → t Dn σ H
structure SSM (X : Cx) (C : Cfg) (W : WX) (st : List Stmt) (t : TS) (m : Sv) : Prop where
  pe : PSs X st t
  sn : ∀ (ad : Nat → Addr) (σ : L2.St) (H : Hp) (env : Sls) (Dn : Ends), RE C ad H σ env → (m env).Wp (Fin C Dn ad H env) (ErS C W) → t Dn σ H
/-- an expression within a statement -/
theorem EM.st (h : EM X C W e ta m) {ad : Nat → Addr} {σ : L2.St} {H : Hp} {env : Sls} {Q : VK} {α : Type} {f : D × Sls → Res α} {P : α → Prop} (R : RE C ad H σ env)
    (w : (m env >>= f).Wp P (ErS C W)) (hq : ∀ (r : D × Sls) v H', RE C ad H' σ r.2 → Stp C ad H env H' r.2 → VR C ad H' σ r.2 r.1 v → (f r).Wp P (ErS C W) → Q v H') : ta σ H Q := by
  rw [wp_bind] at w
  exact h.sn C.M0 ad σ H env Q R (w.imp (fun r z v H' R' S' V' => hq r v H' R' S' V' z) fun _ z => z.er)
theorem TM.st {t : TT} {m : Ev1} (h : TM X C W e t m) {ad : Nat → Addr} {σ : L2.St} {H : Hp} {env : Sls} {Q : Bool → Hp → Prop} {α : Type} {f : Bool × Sls → Res α} {P : α → Prop} (R : RE C ad H σ env)
    (w : (m env >>= f).Wp P (ErS C W)) (hq : ∀ (r : Bool × Sls) H', RE C ad H' σ r.2 → Stp C ad H env H' r.2 → (f r).Wp P (ErS C W) → Q r.1 H') : t σ H Q := by
  rw [wp_bind] at w
  exact h.sn C.M0 ad σ H env Q R (w.imp (fun r z H' R' S' => hq r H' R' S' z) fun _ z => z.er)
theorem EF.st (h : EF X C W e ta m) {ad : Nat → Addr} {σ : L2.St} {H : Hp} {env : Sls} {Q : VK} {α : Type} {f : D × Sls → Res α} {P : α → Prop} (R : RE C ad H σ env)
    (w : (m env >>= f).Wp P (ErS C W)) (hq : ∀ (r : D × Sls) a H', H a = none → RE (C.add a) ad H' σ r.2 → Stp C ad H env H' r.2 → CellOk C.K H' (Mo (C.add a) r.2 ad) r.1 a → (f r).Wp P (ErS C W) → Q (.ref a) H') : ta σ H Q := by
  rw [wp_bind] at w
  exact h.sn C.M0 ad σ H env Q R (w.imp (fun r z a H' hn R' S' c => hq r a H' hn R' S' c z) fun _ z => z.er)

def mSk : Sv := fun env => .ok (.next, env)
def mSq (m1 m2 : Sv) : Sv := fun env => do
  let r ← m1 env
  match r.1 with
  | .next => m2 r.2
  | o => pure (o, r.2)
theorem ssm_nil : SSM X C W [] tNext mSk := ⟨pss_nil, fun ad σ H env Dn R w => w ad σ H R .refl⟩
theorem ssm_cons {st : Stmt} {sts : List Stmt} {t u : TS} {m1 m2 : Sv} (h1 : SM X C W st t m1) (h2 : SSM X C W sts u m2) : SSM X C W (st :: sts) (tSeq t u) (mSq m1 m2) := by
  refine ⟨pss_cons h1.pe h2.pe, fun ad σ H env Dn R w => ?_⟩
  unfold mSq at w
  rw [wp_bind] at w
  refine h1.sn ad σ H env { Dn with nx := u Dn } R (w.imp (fun r z => ?_) fun _ z => z)
  obtain ⟨o, e2⟩ := r
  cases o with
  | next => exact fun ad' σ' H' R' K' => h2.sn ad' σ' H' e2 Dn R' (Res.Wp.imp z (fun r q => q.mid K') fun _ q => q)
  | brk => exact z
  | cont => exact z
  | ret d => exact z
theorem ssm_one {st : Stmt} {t : TS} {m1 : Sv} (h1 : SM X C W st t m1) : SSM X C W [st] t m1 := ⟨pss_one h1.pe, h1.sn⟩
theorem sm_pass : SM X C W (.Pass pos) tNext mSk := ⟨ps_pass, fun ad σ H env Dn R w => w ad σ H R .refl⟩
def mBrk : Sv := fun env => .ok (.brk, env)
def mCnt : Sv := fun env => .ok (.cont, env)
theorem sm_brk : SM X C W (.Break pos) tBreak mBrk := ⟨ps_break, fun ad σ H env Dn R w => w ad σ H R .refl⟩
theorem sm_cnt : SM X C W (.Continue pos) tCont mCnt := ⟨ps_continue, fun ad σ H env Dn R w => w ad σ H R .refl⟩

/-! name = value -/
def mSet (i : Nat) (m : Ev) : Sv := fun env => do
  let r ← m env
  let d ← kp r.1
  if notPar r.2 i = true then pure (.next, r.2.set i (.t d)) else .bad
theorem set_sn {i : Nat} (h : ∀ (M0 : Addr → Prop) (ad : Nat → Addr) (σ : L2.St) (H : Hp) (env : Sls) (Q : VK), RE (C.w M0) ad H σ env →
      (m env).Wp (fun r => ∀ v H', RE (C.w M0) ad H' σ r.2 → Stp (C.w M0) ad H env H' r.2 → VR (C.w M0) ad H' σ r.2 r.1 v → Q v H') (Er (C.w M0) ad σ W) → ta σ H Q)
    {ad : Nat → Addr} {σ : L2.St} {H : Hp} {env : Sls} {Dn : Ends} (R : RE C ad H σ env) (w : (mSet i m env).Wp (Fin C Dn ad H env) (ErS C W)) : tAsg ta (gName i) Dn σ H := by
  unfold mSet at w
  rw [wp_bind] at w
  refine h C.M0 ad σ H env _ R (w.imp (fun r z v H' R' S' V' => ?_) fun _ z => z.er)
  rw [wp_bind] at z
  obtain ⟨_, z2, rp⟩ := kp_rp V' z
  split at z2
  · exact z2 ad _ H' (RE.setS (C := C) R' rfl ⟨v, rfl, rp⟩) (S'.keep.trans fun d v q => q.less (mo_set rfl))
  · exact z2.elim
theorem sm_set {i : Nat} {x : Str} {pos' : Pos} (g : Gd X C W k) (h : EM X C W e ta m) (hi : X.N[i]? = some x := by rfl) (hx : Loc X.env.scope x := by first | exact .inl rfl | exact .inr rfl) (hs : swapsWith e (some (.Name x pos')) pos.line X.env = pure false := by rfl) (hf : X.fn x = true ∨ X.env.scope.names.lookup x = some .local := by exact .inl rfl) :
    SM X C W (.Assign [.Name x pos'] e pos) (tAsg ta (gName i)) (mSet i m) := ⟨ps_set g.nd hi hx h.pe hs hf, fun ad σ H env Dn R w => set_sn h.sn R w⟩
def mSetL (i : Nat) (m : Ev) : Sv := fun env => do
  let r ← m env
  if notPar r.2 i = true then pure (.next, r.2.set i (.l r.1)) else .bad
theorem notPar_lt {env : Sls} {i : Nat} (h : notPar env i = true) : i < env.length := by
  unfold notPar at h
  cases q : env[i]? with
  | none => rw [q] at h; cases h
  | some s => exact (List.getElem?_eq_some_iff.mp q).1
theorem setL_sn {i : Nat} (h : ∀ (M0 : Addr → Prop) (ad : Nat → Addr) (σ : L2.St) (H : Hp) (env : Sls) (Q : VK), RE (C.w M0) ad H σ env →
      (m env).Wp (fun r => ∀ a H', H a = none → RE ((C.w M0).add a) ad H' σ r.2 → Stp (C.w M0) ad H env H' r.2 → CellOk C.K H' (Mo ((C.w M0).add a) r.2 ad) r.1 a → Q (.ref a) H') (Er (C.w M0) ad σ W) → ta σ H Q)
    {ad : Nat → Addr} {σ : L2.St} {H : Hp} {env : Sls} {Dn : Ends} (R : RE C ad H σ env) (w : (mSetL i m env).Wp (Fin C Dn ad H env) (ErS C W)) : tAsg ta (gName i) Dn σ H := by
  unfold mSetL at w
  rw [wp_bind] at w
  refine h C.M0 ad σ H env _ R (w.imp (fun r z a H' hn R' S' c => ?_) fun _ z => z.er)
  split at z
  · rename_i hp
    have h0 : C.H0 a = none := by
      cases q : C.H0 a with
      | none => rfl
      | some o => exact absurd hn (R.trk a (by rw [q]; exact fun z => nomatch z))
    have hno : ¬ Mo C r.2 ad a := fun q => R.mtrk (S'.mo a q) hn
    have R2 : RE C (adSet ad i a) H' (σ.set i (some (.ref a))) (r.2.set i (.l r.1)) := RE.setL (C := C) R' h0 hno (notPar_lt hp) c
    refine z _ _ H' R2 fun d v q => q.ext S'.extM fun b y => ?_
    rcases y with y | ⟨j, s, e1, o, rfl⟩
    · exact .inl (.inl y)
    · by_cases hj : j = i
      · right
        have : adSet ad i a j = a := by unfold adSet; rw [if_pos hj]
        rw [this]; exact hn
      · rw [List.getElem?_set_ne (Ne.symm hj)] at e1
        have : adSet ad i a j = ad j := by unfold adSet; rw [if_neg hj]
        rw [this]
        exact .inl (S'.mo _ (.inr ⟨j, s, e1, o, rfl⟩))
  · exact z.elim
theorem sm_setL {i : Nat} {x : Str} {pos' : Pos} (g : Gd X C W k) (h : EF X C W e ta m) (hi : X.N[i]? = some x := by rfl) (hx : Loc X.env.scope x := by first | exact .inl rfl | exact .inr rfl) (hs : swapsWith e (some (.Name x pos')) pos.line X.env = pure false := by rfl) (hf : X.fn x = true ∨ X.env.scope.names.lookup x = some .local := by exact .inl rfl) :
    SM X C W (.Assign [.Name x pos'] e pos) (tAsg ta (gName i)) (mSetL i m) := ⟨ps_set g.nd hi hx h.pe hs hf, fun ad σ H env Dn R w => setL_sn h.sn R w⟩
/-- name = [..], the machine's own way of it -/
theorem ps_lc {i : Nat} {y : Str} {py spos : Pos} {ifs : List Expr} {scope : Scope} {own : List (Str × Nat)} {wi : TI} {gt : TG} {tt : TT} {mi : Em} {gv : Gv} {mt : Ev1} (g : Gd X C W k) (hi : IM X C W tg iter wi mi) (ok : BlkOk X.N X.env.scope scope own)
    (hg : ∀ (s : Shared) (H : Hp) (L : Addr) (cl : List (Str × Addr)) (fp : List Addr), Gd (X.blk s H scope (compEnvC scope cl L X.env) fp) C W0 k → GM (X.blk s H scope (compEnvC scope cl L X.env) fp) C tg gt (own.map (·.2)) gv)
    (ht : ∀ (s : Shared) (H : Hp) (L : Addr) (cl : List (Str × Addr)) (fp : List Addr), Gd (X.blk s H scope (compEnvC scope cl L X.env) fp) C W0 k → TMs (X.blk s H scope (compEnvC scope cl L X.env) fp) C W0 ifs tt mt)
    (he : ∀ (s : Shared) (H : Hp) (L : Addr) (cl : List (Str × Addr)) (fp : List Addr), Gd (X.blk s H scope (compEnvC scope cl L X.env) fp) C W0 k → EM (X.blk s H scope (compEnvC scope cl L X.env) fp) C W0 elt te me)
    (hy : X.N[i]? = some y := by rfl) (hyl : X.env.scope.names.lookup y = some .local := by rfl) (hsw : swapsWith (.ListComp elt [⟨tg, iter, ifs, 0⟩] scope pos) (some (.Name y py)) spos.line X.env = pure true := by exact sw_true rfl rfl rfl (by decide +kernel)) (hs : ∀ x, foldedSetIterable iter X.env x = pure x := by intro _; rfl) :
    PS X (.Assign [.Name y py] (.ListComp elt [⟨tg, iter, ifs, 0⟩] scope pos) spos) (tAsg (tLc wi gt tt te (own.map (·.2))) (gName i)) :=
  ps_setLc g.calm g.nd hy hyl hsw hi.pe ok (fun s H L cl fp => (hg s H L cl fp g.blk).pe) (fun s H L cl fp => (ht s H L cl fp g.blk).pe) (fun s H L cl fp => (he s H L cl fp g.blk).pe) hs
theorem sm_lcL {i : Nat} {st : Stmt} (hp : PS X st (tAsg ta (gName i))) (h : EF X C W e ta m) : SM X C W st (tAsg ta (gName i)) (mSetL i m) := ⟨hp, fun ad σ H env Dn R w => setL_sn h.sn R w⟩
theorem sm_lc {i : Nat} {st : Stmt} (hp : PS X st (tAsg ta (gName i))) (h : EM X C W e ta m) : SM X C W st (tAsg ta (gName i)) (mSet i m) := ⟨hp, fun ad σ H env Dn R w => set_sn h.sn R w⟩
/-- a, b = value -/
def mUnp (gv : Gv) (m : Ev) : Sv := fun env => do
  let r ← m env
  let d ← kp r.1
  let e ← noE (gv d r.2)
  pure (.next, e)
theorem sm_unp {gt : TG} {vs : List Nat} {gv : Gv} (h : EM X C W e ta m) (hg : GM X C tg gt vs gv) (hs : swapsWithSole [tg] e pos.line X.env = pure false := by rfl) (hw : swappedStores [tg] e X.env = pure none := by rfl)
    (h1 : (assignEach [tg] X.env).map (·.2) = [assign tg X.env] := by rfl) : SM X C W (.Assign [tg] e pos) (tAsg ta gt) (mUnp gv m) := by
  refine ⟨ps_asg h.pe hg.pe hs hw h1, fun ad σ H env Dn R w => ?_⟩
  unfold mUnp at w
  refine h.st R w fun r v H' R' S' V' z => ?_
  rw [wp_bind] at z
  obtain ⟨_, z2, rp⟩ := kp_rp V' z
  rw [wp_bind] at z2
  refine hg.sn C.M0 ad σ H' r.2 r.1 v _ R' rp ((noE_wp (E' := fun _ => False) z2).imp (fun env3 w3 σ3 R3 ow3 l3 o3 => ?_) fun _ z => z)
  exact w3 ad σ3 H' R3 (S'.keep.trans fun d v q => q.less fun a y => y.imp id (ow3 a))
/-- an expression for its effect -/
def mExp (m : Ev) : Sv := fun env => do
  let r ← m env
  pure (.next, r.2)
theorem sm_expr (h : EM X C W e ta m) (hs : swapsWith e none pos.line X.env = pure false := by rfl) : SM X C W (.Expr e pos) (tDrop ta) (mExp m) := by
  refine ⟨ps_expr h.pe hs, fun ad σ H env Dn R w => ?_⟩
  unfold mExp at w
  exact h.st R w fun r v H' R' S' V' z => z ad σ H' R' S'.keep
theorem sm_doc {y : Str} {j : Nat} {p2 : Pos} : SM X C W (.Expr (.Constant (.str y) j p2) pos) tNext mSk := ⟨ps_doc, fun ad σ H env Dn R w => w ad σ H R .refl⟩
def mIfS (mt : Ev1) (m1 m2 : Sv) : Sv := fun env => do
  let r ← mt env
  if r.1 = true then m1 r.2 else m2 r.2
theorem sm_if {c : Expr} {s1 s2 : List Stmt} {tc : TT} {mt : Ev1} {t u : TS} {m1 m2 : Sv} (hc : TM X C W c tc mt) (h1 : SSM X C W s1 t m1) (h2 : SSM X C W s2 u m2) : SM X C W (.If c s1 s2 pos) (tIfS tc t u) (mIfS mt m1 m2) := by
  refine ⟨ps_if hc.pe h1.pe h2.pe, fun ad σ H env Dn R w => ?_⟩
  unfold mIfS at w
  refine hc.st R w fun r H' R' S' z => ?_
  split
  · rename_i hb
    rw [if_pos hb] at z
    exact h1.sn ad σ H' r.2 Dn R' (z.imp (fun q y => y.mid S'.keep) fun _ y => y)
  · rename_i hb
    rw [if_neg hb] at z
    exact h2.sn ad σ H' r.2 Dn R' (z.imp (fun q y => y.mid S'.keep) fun _ y => y)
/-- return -/
def mRet (m : Ev) : Sv := fun env => do
  let r ← m env
  let d ← kp r.1
  pure (.ret d, r.2)
theorem sm_ret (h : EM X C W e ta m) (hf : C.fresh = false := by rfl) : SM X C W (.Return (some e) pos) (tRet ta) (mRet m) := by
  refine ⟨ps_ret h.pe, fun ad σ H env Dn R w => ?_⟩
  unfold mRet at w
  refine h.st R w fun r v H' R' S' V' z => ?_
  rw [wp_bind] at z
  obtain ⟨_, z2, rp⟩ := kp_rp V' z
  refine z2 ad σ H' v ?_
  unfold RetOk
  rw [hf]
  exact ⟨R', rp⟩
theorem sm_retF (h : EF X C W e ta m) (hf : C.fresh = true := by rfl) : SM X C W (.Return (some e) pos) (tRet ta) (mRet m) := by
  refine ⟨ps_ret h.pe, fun ad σ H env Dn R w => ?_⟩
  unfold mRet at w
  refine h.st R w fun r a H' hn R' S' c z => ?_
  rw [wp_bind] at z
  have hk : kp r.1 = .ok r.1 := by
    cases q : r.1 with
    | own i => rw [q] at c; exact c.elim
    | _ => rfl
  rw [hk] at z
  refine z ad σ H' (.ref a) ?_
  unfold RetOk
  rw [hf]
  refine .inr ⟨a, rfl, ?_, R', c⟩
  cases q : C.H0 a with
  | none => rfl
  | some o => exact absurd hn (R.trk a (by rw [q]; exact fun z => nomatch z))
def mRetN : Sv := fun env => .ok (.ret .non, env)
theorem sm_retN (hf : C.fresh = false := by rfl) : SM X C W (.Return none pos) tRetN mRetN := by
  refine ⟨ps_retN, fun ad σ H env Dn R w => w ad σ H .non ?_⟩
  unfold RetOk
  rw [hf]
  exact ⟨R, .non⟩
/-- .. of a def that hands back a new list, or None -/
theorem sm_retNG (hf : C.fresh = true := by rfl) : SM X C W (.Return none pos) tRetN mRetN := by
  refine ⟨ps_retN, fun ad σ H env Dn R w => w ad σ H .non ?_⟩
  unfold RetOk
  rw [hf]
  exact .inl ⟨rfl, rfl, R⟩
theorem sm_retNG1 {j : Nat} {p2 : Pos} (hf : C.fresh = true := by rfl) : SM X C W (.Return (some (.Constant .none j p2)) pos) (tRet (tC .non)) mRetN := by
  refine ⟨ps_ret pe_non, fun ad σ H env Dn R w => w ad σ H .non ?_⟩
  unfold RetOk
  rw [hf]
  exact .inl ⟨rfl, rfl, R⟩
/-- return of the def's own list -/
def mRetL (i : Nat) : Sv := fun env =>
  match env[i]? with
  | some (.l d) => .ok (.ret d, env.set i .u)
  | _ => .bad
theorem sm_retL (i : Nat) {x : Str} {p2 : Pos} (hN : X.N[i]? = some x := by rfl) (hv : Vis X.env.scope x := by first | exact Or.inl rfl | exact Or.inr (Or.inl rfl) | exact Or.inr (Or.inr rfl)) (hd : (x == ("__debug__" : Str)) = false := by decide)
    (hcd : (x == ("__classdict__" : Str)) = false := by decide) (hf : C.fresh = true := by rfl) : SM X C W (.Return (some (.Name x p2)) pos) (tRet (tVar i)) (mRetL i) := by
  refine ⟨ps_ret (pe_var hN hv hd hcd), fun ad σ H env Dn R w => ?_⟩
  unfold mRetL at w
  cases q : env[i]? with
  | none => rw [q] at w; exact w.elim
  | some s =>
    rw [q] at w
    cases s with
    | l d =>
      have hi : i < env.length := (List.getElem?_eq_some_iff.mp q).1
      obtain ⟨d0, hd0, hσ, c0⟩ := R.cell q rfl
      have e0 : d0 = d := by rcases hd0 with z | z | z <;> cases z; rfl
      subst e0
      refine ⟨.ref (ad i), hσ, w ad (σ.set i none) H _ ?_⟩
      unfold RetOk
      rw [hf]
      have hM : Mo C env ad (ad i) := .inr ⟨i, _, q, rfl, rfl⟩
      have lo : ∀ b, Mo (C.add (ad i)) (env.set i .u) ad b → Mo C env ad b := fun b z => by
        rcases mo_add.mp z with z | z
        · exact mo_set rfl b z
        · exact z ▸ hM
      have RA : RE (C.add (ad i)) ad H (σ.set i none) (env.set i .u) := by
        have R2 := RE.setS R (i := i) (s := .u) (v := none) rfl True.intro
        refine ⟨R2.len, fun j s e => ?_, R2.inj, fun j f e => ⟨(R2.loc j f e).1, fun z => ?_⟩, R2.par, R2.same, R2.frk, R2.trk, (fun b z => z.elim (R2.m0 b) fun z => z ▸ c0.trk), R2.tabs⟩
        · by_cases hj : i = j
          · subst hj
            rw [List.getElem?_set_self hi] at e
            cases e
            trivial
          · rw [List.getElem?_set_ne hj] at e ⊢
            exact SlOk.ext (C := C) (R.sl j s e) (fun _ => rfl) .refl fun b z => .inl (lo b z)
        · rcases z with z | z
          · exact (R2.loc j f e).2 z
          · have e' : ∃ s : Sl, env[j]? = some s ∧ s.isOwn = true ∧ j ≠ i := by
              by_cases hj : i = j
              · subst hj
                rw [List.getElem?_set_self hi] at e
                rcases e with e | e <;> cases e
              · rw [List.getElem?_set_ne hj] at e
                rcases e with e | e
                · exact ⟨_, e, rfl, fun z => hj z.symm⟩
                · exact ⟨_, e, rfl, fun z => hj z.symm⟩
            obtain ⟨s, e1, e2, e3⟩ := e'
            exact e3 (R.inj _ _ _ _ e1 q e2 rfl z)
      exact .inr ⟨ad i, rfl, (R.loc i d0 (.inl q)).1, RA, c0.ext rfl .refl fun b z => .inl (lo b z)⟩
    | _ => exact w.elim
/-- raise X('..') -/
structure ExF (K : PySem.W.Frag) (mg : Str → Option Value) (x : Str) : Prop where
  ex : ∃ C : Addr, mg x = some (.ref C) ∧ PySem.W.excIn K C [.type "ValueError", .type "Exception", .type "BaseException", .type "object"] "ValueError.__new__" = true ∧ PySem.W.keepIn K (.ref C) = true ∧
    PySem.W.subIn K (.ref C) (.type "BaseException") = some true ∧ PySem.W.typeIn K (.ref C) = some (.type "type")
def mRai (x : Str) : Sv := fun _ => .err x
theorem sm_raise {x m : Str} {j : Nat} {p2 p3 p4 : Pos} (g : Gd X C W k) (F : ExF X.K X.mg x) (hg : Gl X x := by rfl) (hdb : (x == ("__debug__" : Str)) = false := by decide) :
    ∃ t, SM X C W (.Raise (some (.Call (.Name x p2) [.Constant (.str m) j p3] [] p4)) none pos) t (mRai x) := by
  obtain ⟨A, gC, q, kC, hsub, hty⟩ := F.ex
  refine ⟨_, ps_raise g.calm g.tk (pmk_own PySem.F.excBase_ValueError q gC kC (raises_own hsub hty) hg hdb), fun ad σ H env Dn R w => ?_⟩
  exact w ad σ (.ref A) none H env (by rw [← g.mE]; exact gC) R
/-- for -/
def forL (gv : Gv) (b : Sv) : List D → Sls → Res (Out × Sls)
  | [], env => .ok (.next, env)
  | d :: ds, env => do
    let e1 ← noE (gv d env)
    let r ← b e1
    match r.1 with
    | .next => forL gv b ds r.2
    | .cont => forL gv b ds r.2
    | .brk => pure (.next, r.2)
    | .ret d => pure (.ret d, r.2)
def mFor (mi : Em) (gv : Gv) (b : Sv) : Sv := fun env => do
  let r ← mi env
  forL gv b r.1 r.2
theorem sm_for {body : List Stmt} {wi : TI} {gt : TG} {vs : List Nat} {tb : TS} {mi : Em} {gv : Gv} {mb : Sv} (g : Gd X C W k) (hi : IM X C W tg iter wi mi) (hg : GM X C tg gt vs gv) (hb : SSM X C W body tb mb)
    (hp : PassesOwn (model X.prog X.w) X.A X.env X.xe := by exact passes_of rfl) (hs : ∀ x, foldedSetIterable iter X.env x = pure x := by intro _; rfl) : SM X C W (.For tg iter body [] pos) (tFor wi gt tb) (mFor mi gv mb) := by
  refine ⟨ps_for hp g.calm hi.pe hg.pe hb.pe hs, fun ad σ H env Dn R w => ?_⟩
  unfold mFor at w
  rw [wp_bind] at w
  refine hi.sn C.M0 ad σ H env _ R (w.imp (fun r w1 J hds H1 R1 S1 Rh Wlk Hz => ?_) fun _ z => z.er)
  clear w
  obtain ⟨ds, env1⟩ := r
  simp only at w1 R1 S1 Rh Wlk Hz
  have K1 : Keep C ad H env ad H1 env1 := Stp.keep (C := C) S1
  refine ⟨fun i m σ2 H2 => m = ds.length - i ∧ i ≤ ds.length ∧ ∃ (ad2 : Nat → Addr) (env2 : Sls), RE C ad2 H2 σ2 env2 ∧ Keep C ad H env ad2 H2 env2 ∧ Keep C ad H1 env1 ad2 H2 env2 ∧ (forL gv mb (ds.drop i) env2).Wp (Fin C Dn ad H env) (ErS C W),
    ⟨ds.length, by simp, Nat.zero_le _, ad, env1, R1, K1, .refl, by rw [List.drop_zero]; exact w1⟩, ?_⟩
  rintro i m σ2 H2 ⟨rfl, hil, ad2, env2, R2, K2, K3, w2⟩
  have Rh2 : RpH C.K H2 (Mo C env2 ad2) hds := fun p hp => K3 p.1 p.2 (Rh p hp)
  by_cases hlt : i < ds.length
  · have ed : ds[i]? = some ds[i] := List.getElem?_eq_getElem hlt
    have edr : ds.drop i = ds[i] :: ds.drop (i + 1) := List.drop_eq_getElem_cons hlt
    obtain ⟨hgo, hy⟩ := Wlk.go H2 _ i _ (fun a z => R2.mtrk z) Rh2 ed
    rw [edr] at w2
    unfold forL at w2
    rw [wp_bind] at w2
    refine .inr ⟨hgo, fun σ3 H3 => ∃ (ad3 : Nat → Addr) (env3 : Sls), RE C ad3 H3 σ3 env3 ∧ Keep C ad H env ad3 H3 env3 ∧ Keep C ad H1 env1 ad3 H3 env3 ∧ (forL gv mb (ds.drop (i + 1)) env3).Wp (Fin C Dn ad H env) (ErS C W),
      fun σ3 H3 h3 => ⟨ds.length - (i + 1), by omega, rfl, hlt, h3⟩, fun x H3 y => ?_⟩
    obtain ⟨s3, rx⟩ := hy x H3 y
    have R3 : RE C ad2 H3 σ2 env2 := R2.grow s3
    have K4 : Keep C ad2 H2 env2 ad2 H3 env2 := Stp.keep (.grow s3)
    refine hg.sn C.M0 ad2 σ2 H3 env2 ds[i] x _ R3 rx ((noE_wp (E' := fun _ => False) w2).imp (fun env4 w4 σ4 R4 ow4 _ _ => ?_) fun _ z => z)
    have K5 : Keep C ad2 H2 env2 ad2 H3 env4 := K4.trans fun d v q => q.less fun a z => z.imp id (ow4 a)
    rw [wp_bind] at w4
    refine hb.sn ad2 σ4 H3 env4 _ R4 (w4.imp (fun r z => ?_) fun _ z => z)
    obtain ⟨o, e5⟩ := r
    cases o with
    | next => exact fun ad' σ' H' R' K' => ⟨ad', e5, R', (K2.trans K5).trans K', (K3.trans K5).trans K', z⟩
    | cont => exact fun ad' σ' H' R' K' => ⟨ad', e5, R', (K2.trans K5).trans K', (K3.trans K5).trans K', z⟩
    | brk => exact fun ad' σ' H' R' K' => z ad' σ' H' R' ((K2.trans K5).trans K')
    | ret d => exact z
  · have ei : i = ds.length := by omega
    subst ei
    rw [List.drop_length] at w2
    exact .inl ⟨Wlk.stop H2 _ Rh2, w2 ad2 σ2 H2 R2 K2⟩
/-- while -/
def whL (mt : Ev1) (mb : Sv) : Nat → Sls → Res (Out × Sls)
  | 0, _ => .bad
  | n + 1, env => do
    let b ← mt env
    if b.1 = true then do
      let r ← mb b.2
      match r.1 with
      | .next => whL mt mb n r.2
      | .cont => whL mt mb n r.2
      | .brk => pure (.next, r.2)
      | .ret d => pure (.ret d, r.2)
    else pure (.next, b.2)
def mWh (f : Sls → Nat) (mt : Ev1) (mb : Sv) : Sv := fun env => whL mt mb (f env) env
theorem sm_while {c : Expr} {body : List Stmt} {tc : TT} {tb : TS} {mt : Ev1} {mb : Sv} (f : Sls → Nat) (hc : TM X C W c tc mt) (hb : SSM X C W body tb mb) (hp : PassesOwn (model X.prog X.w) X.A X.env X.xe := by exact passes_of rfl) : SM X C W (.While c body [] pos) (tWhile tc tb) (mWh f mt mb) := by
  refine ⟨ps_while hp hc.pe hb.pe, fun ad σ H env Dn R w => ?_⟩
  refine ⟨fun m σ2 H2 => ∃ (ad2 : Nat → Addr) (env2 : Sls), RE C ad2 H2 σ2 env2 ∧ Keep C ad H env ad2 H2 env2 ∧ (whL mt mb m env2).Wp (Fin C Dn ad H env) (ErS C W), ⟨f env, ad, env, R, .refl, w⟩, ?_⟩
  rintro m σ2 H2 ⟨ad2, env2, R2, K2, w2⟩
  cases m with
  | zero => exact w2.elim
  | succ n =>
    unfold whL at w2
    refine hc.st R2 w2 fun r H3 R3 S3 z => ?_
    split
    · rename_i hb'
      rw [if_pos hb', wp_bind] at z
      refine ⟨fun σ4 H4 => ∃ (ad4 : Nat → Addr) (env4 : Sls), RE C ad4 H4 σ4 env4 ∧ Keep C ad H env ad4 H4 env4 ∧ (whL mt mb n env4).Wp (Fin C Dn ad H env) (ErS C W), fun σ4 H4 h4 => ⟨n, Nat.lt_succ_self n, h4⟩, ?_⟩
      refine hb.sn ad2 σ2 H3 r.2 _ R3 (z.imp (fun q y => ?_) fun _ y => y)
      obtain ⟨o, e5⟩ := q
      cases o with
      | next => exact fun ad' σ' H' R' K' => ⟨ad', e5, R', (K2.trans S3.keep).trans K', y⟩
      | cont => exact fun ad' σ' H' R' K' => ⟨ad', e5, R', (K2.trans S3.keep).trans K', y⟩
      | brk => exact fun ad' σ' H' R' K' => y ad' σ' H' R' ((K2.trans S3.keep).trans K')
      | ret d => exact y
    · rename_i hb'
      rw [if_neg hb'] at z
      exact z ad2 σ2 H3 R3 (K2.trans S3.keep)
end
end Vm
end
section
set_option maxRecDepth 100000
set_option maxHeartbeats 4000000
/-! Vm, part I: o[i] = v, defs, the law's end. -/
namespace Vm
open PySem PySem.Spec PyProof.Rows L2

section
variable {X : Cx} {C : Cfg} {W : WX} {k j n : Nat} {a b e : Expr} {es rest : List Expr} {ta tb tc te : TE} {t : TA} {ma mb mc m me : Ev} {ms : Evs} {pos p : Pos} {x : Str} {tg iter elt : Expr}
def rSetA : TSet := fun o i v H Q => rSetL o i v H Q ∨ rSetD o i v H Q
theorem set_any (hr : Room k X.A) : PSet X rSetA := by
  intro pins s σ H o i v ov iv u Q I ro ri rv h
  rcases h with h | h
  · exact set_list pins s σ H o i v ov iv u Q I ro ri rv h
  · exact set_dict (hu_of hr) pins s σ H o i v ov iv u Q I ro ri rv h
def putAt (c y d : D) : Res D := match c with
  | .lst ds => (match y with
    | .int i => (match ixN ds.length i with
      | some j => .ok (.lst (ds.set j d))
      | none => .bad)
    | _ => .bad)
  | .dic ds => (match dkey y with
    | some k => if ds.length < sizeLine then .ok (.dic (putD ds k d)) else .bad
    | none => .bad)
  | _ => .bad
def mPut (i : Nat) (mi mv : Ev) : Sv := fun env => do
  let r1 ← mv env
  let d ← kp r1.1
  match r1.2[i]?.bind Sl.con with
  | some _ => do
    let r2 ← mi r1.2
    let y ← rs r2.2 r2.1
    match r2.2[i]? with
    | some s => (match s.con with
      | some c => (match putAt c y d with
        | .ok c' => pure (.next, r2.2.set i (s.put c'))
        | _ => .bad)
      | none => .bad)
    | none => .bad
  | none => .bad
theorem length_putD {κ : Type} [DecidableEq κ] (ds : List (κ × D)) (k : κ) (d : D) : (putD ds k d).length ≤ ds.length + 1 := by
  unfold putD
  split
  · rw [List.length_map]; omega
  · rw [List.length_append]; exact Nat.le_refl _
theorem sm_put (i : Nat) {y : Str} {py p2 : Pos} {ei ev : Expr} {ti tv : TE} {mi mv : Ev} (g : Gd X C W k) (hi : EM X C W ei ti mi) (hv : EM X C W ev tv mv) (hN : X.N[i]? = some y := by rfl) (hvi : Vis X.env.scope y := by first | exact Or.inl rfl | exact Or.inr (Or.inl rfl) | exact Or.inr (Or.inr rfl)) (hd : (y == ("__debug__" : Str)) = false := by decide)
    (hcd : (y == ("__classdict__" : Str)) = false := by decide)
    (ha : ∀ v, assign (.Subscript (.Name y py) ei p2) X.env v = (do
      let ov ← holding [v] (eval (.Name y py) X.env)
      let iv ← holding [v, ov] (eval ei X.env)
      standAt p2
      holding [v, ov, iv] (setItem ov iv v)
      release [v, ov, iv] []) := by intro _; rfl)
    (hs : swapsWithSole [.Subscript (.Name y py) ei p2] ev pos.line X.env = pure false := by rfl) (hw : swappedStores [.Subscript (.Name y py) ei p2] ev X.env = pure none := by rfl)
    (h1 : (assignEach [.Subscript (.Name y py) ei p2] X.env).map (·.2) = [assign (.Subscript (.Name y py) ei p2) X.env] := by rfl) :
    SM X C W (.Assign [.Subscript (.Name y py) ei p2] ev pos) (tAsg tv (gSub (tVar i) ti rSetA)) (mPut i mi mv) := by
  refine ⟨ps_asg hv.pe (pg_sub (pe_var hN hvi hd hcd) hi.pe (set_any g.room) ha) hs hw h1, fun ad σ H env Dn R w => ?_⟩
  unfold mPut at w
  refine hv.st R w fun r1 v H1 R1 S1 V1 w1 => ?_
  rw [wp_bind] at w1
  obtain ⟨_, w2, rv⟩ := kp_rp V1 w1
  cases z : r1.2[i]? with
  | none => rw [z] at w2; exact w2.elim
  | some s0 =>
    rw [z] at w2
    simp only [Option.bind_some] at w2
    cases zc : s0.con with
    | none => rw [zc] at w2; exact w2.elim
    | some c0 =>
      rw [zc] at w2
      obtain ⟨hσ, _⟩ := R1.con z zc
      refine ⟨.ref (ad i), hσ, ?_⟩
      refine hi.st R1 w2 fun r2 iv H2 R2 S2 V2 w3 => ?_
      rw [wp_bind] at w3
      obtain ⟨y', _, w4, ry⟩ := R2.rs V2 w3
      cases z2 : r2.2[i]? with
      | none => rw [z2] at w4; exact w4.elim
      | some s =>
        rw [z2] at w4
        simp only at w4
        cases zc2 : s.con with
        | none => rw [zc2] at w4; exact w4.elim
        | some c =>
          rw [zc2] at w4
          simp only at w4
          obtain ⟨_, hc⟩ := R2.con z2 zc2
          have rv2 : Rp C.K H2 (Mo C r2.2 ad) r1.1 v := S2.rp rv
          have hM : Ow r2.2 ad (ad i) := ⟨i, s, z2, Sl.isMut.own (Sl.con_mut zc2), rfl⟩
          have ck := hc.kind
          have xt : ∀ o, Ext (Mo C r2.2 ad) H2 (upd H2 (ad i) o) := fun o => by
            refine ⟨fun b o e hn _ => by rw [upd_ne (fun q : b = ad i => hn (.inr (q ▸ hM)))]; exact e, fun b xs e => ?_, fun b o u e => ?_, fun b e => ?_⟩
            · by_cases q : b = ad i
              · rw [q] at e; exact absurd e (ck.1 xs)
              · rw [upd_ne q]; exact e
            · by_cases q : b = ad i
              · rw [q] at e; exact absurd e (ck.2 _ _)
              · rw [upd_ne q]; exact e
            · by_cases q : b = ad i
              · rw [q, upd_same]; exact fun z => nomatch z
              · rw [upd_ne q]; exact e
          have kk : ∀ o' b o, H2 b = some o → b ≠ ad i → upd H2 (ad i) o' b = some o := fun o' b o e hb => by rw [upd_ne hb]; exact e
          cases c with
          | lst ds =>
            cases y' with
            | int q =>
              rw [ry.int_inv]
              simp only [putAt] at w4
              cases qx : ixN ds.length q with
              | none => rw [qx] at w4; exact w4.elim
              | some j =>
                rw [qx] at w4
                obtain ⟨z3, us, hu, ru⟩ := hc
                refine .inl ⟨ad i, us, q, j, rfl, rfl, hu, by rw [ru.len]; exact qx, ?_⟩
                obtain ⟨R3, S3⟩ := R2.put (d := .lst (ds.set j r1.1)) (H' := upd H2 (ad i) (.lst (us.set j v))) z2 (Sl.con_mut zc2) (kk _) ⟨by rw [List.length_set]; exact z3, _, upd_same, (ru.set j rv2).ext (xt _) fun b q => .inl q⟩
                exact w4 ad σ _ R3 ((S1.trans S2).trans S3).keep
            | _ => exact w4.elim
          | dic ds =>
            simp only [putAt] at w4
            cases qk : dkey y' with
            | none => rw [qk] at w4; exact w4.elim
            | some kk' =>
              rw [qk] at w4
              simp only at w4
              by_cases hz : ds.length < sizeLine
              · rw [if_pos hz] at w4
                obtain ⟨z3, us, hu, ru⟩ := hc
                refine .inr ⟨ad i, _, rfl, .inl ⟨us, kk', hu, dkey_v qk ry, by rw [ru.len]; exact hz, rfl⟩, ?_⟩
                obtain ⟨R3, S3⟩ := R2.put (d := .dic (putD ds kk' r1.1)) (H' := upd H2 (ad i) (.dK (putK us kk' v))) z2 (Sl.con_mut zc2) (kk _) ⟨Nat.le_trans (length_putD _ _ _) hz, _, upd_same, (ru.put rv2).ext (xt _) fun b q => .inl q⟩
                exact w4 ad σ _ R3 ((S1.trans S2).trans S3).keep
              · rw [if_neg hz] at w4
                exact w4.elim
          | _ => exact w4.elim
end

/-! ### defs -/
abbrev mkC (K : PySem.W.Frag) (T : List (Addr × Str)) (mg : Str → Option Value) (H0 : Hp) (M0 fr : Addr → Prop) (pa : Nat → Addr) (fresh : Bool) : Cfg := ⟨K, mg, H0, M0, fr, pa, fresh, T⟩
/-- a def's body follows the mirror m -/
def Body (P : Program) (w : World) (K : PySem.W.Frag) (T : List (Addr × Str)) (mg : Str → Option Value) (base : Heap) (N : List Str) (qual : Str) (st : Stmt) (k : Nat) (fresh : Bool) (m : Sv) : Prop :=
  ∀ (f : Addr) (cdv : Value) (A : Around) (outer : List Env) (s : Shared) (H : Hp) (E : XK) (M0 fr : Addr → Prop) (pa : Nat → Addr),
    Gd (cxOf (L2.CX P w) P w K mg base N qual (defScope st) f cdv A outer s H E) (mkC K T mg H M0 fr pa fresh) (fun cls d _ H' => E cls d H') k →
    ∃ t, SSM (cxOf (L2.CX P w) P w K mg base N qual (defScope st) f cdv A outer s H E) (mkC K T mg H M0 fr pa fresh) (fun cls d _ H' => E cls d H') (defBody st) t m
def envOf (n : Nat) (ds : List D) : Sls := ds.map Sl.t ++ List.replicate (n - ds.length) .u
def run (n : Nat) (m : Sv) (ds : List D) : Res D :=
  match m (envOf n ds) with
  | .ok (.ret d, _) => .ok d
  | .ok (.next, _) => .ok .non
  | .ok _ => .bad
  | .err c => .err c
  | .bad => .bad
def noneD (d : D) : Bool := match d with
  | .non => true
  | _ => false
def runF (n : Nat) (m : Sv) (ds : List D) : Res D :=
  match m (envOf n ds) with
  | .ok (.ret d, _) => if noneD d = true then .bad else .ok d
  | .ok _ => .bad
  | .err c => .err c
  | .bad => .bad
/-- a new list, or None -/
def runG (n : Nat) (m : Sv) (ds : List D) : Res D :=
  match m (envOf n ds) with
  | .ok (.ret d, _) => .ok d
  | .ok (.next, _) => .ok .non
  | .ok _ => .bad
  | .err c => .err c
  | .bad => .bad
def envJ (n : Nat) (j : D) (ds : List D) : Sls := .p j :: (ds.map Sl.t ++ List.replicate (n - ds.length - 1) .u)
def runJ (n : Nat) (m : Sv) (j : D) (ds : List D) : Res (D × D) :=
  match m (envJ n j ds) with
  | .ok (.ret d, e) => (match (e[0]? : Option Sl) with
    | some (.p j') => .ok (d, j')
    | _ => .bad)
  | .ok (.next, e) => (match (e[0]? : Option Sl) with
    | some (.p j') => .ok (.non, j')
    | _ => .bad)
  | _ => .bad
section
variable {P : Program} {w : World} {K : PySem.W.Frag} {mg : Str → Option Value} {base : Heap} {x : Str} {st : Stmt} {f : Addr} {fd : FuncData} {N ps : List Str} {k n : Nat} {m : Sv}
theorem re_start {T : List (Addr × Str)} {H : Hp} {M : Addr → Prop} {ds : List D} {vs : List V} {fresh : Bool} (hl : ds.length ≤ N.length) (tk : ∀ a, M a → H a ≠ none) (ht : LamX.Tabs T H) (r : RpL K H M ds vs) :
    RE (mkC K T mg H M (fun _ => False) (fun _ => 0) fresh) (fun _ => 0) H (L2.start N vs) (envOf N.length ds) := by
  have noOw : ∀ (i : Nat) (s : Sl), (envOf N.length ds)[i]? = some s → s.isOwn = false := fun i s e => by
    have := List.mem_of_getElem? e
    unfold envOf at this
    rcases List.mem_append.mp this with q | q
    · obtain ⟨d, _, rfl⟩ := List.mem_map.mp q; rfl
    · rw [(List.mem_replicate.mp q).2]; rfl
  have moM : ∀ b, Mo (mkC K T mg H M (fun _ => False) (fun _ => 0) fresh) (envOf N.length ds) (fun _ => 0) b → M b := fun b z => by
    rcases z with z | ⟨i, s, e, o, _⟩
    · exact z
    · rw [noOw i s e] at o; cases o
  refine ⟨?_, fun i s e => ?_, fun i j s t e _ o _ _ => (by rw [noOw i s e] at o; cases o), fun i d e => ?_, fun i d e => (by cases noOw i _ e), fun b o e _ _ => e, fun b h => h.elim, fun b h => h, tk, ht⟩
  · unfold L2.start envOf
    simp only [List.length_append, List.length_map, List.length_replicate, r.len]
  · unfold envOf at e
    by_cases hi : i < ds.length
    · rw [List.getElem?_append_left (by rw [List.length_map]; exact hi), List.getElem?_map, List.getElem?_eq_getElem hi] at e
      cases e
      have hv : i < vs.length := by rw [r.len]; exact hi
      refine ⟨vs[i], ?_, (r.item i _ _ (List.getElem?_eq_getElem hi) (List.getElem?_eq_getElem hv)).less moM⟩
      unfold L2.start
      rw [List.getElem?_append_left (by rw [List.length_map]; exact hv), List.getElem?_map, List.getElem?_eq_getElem hv]
      rfl
    · rw [List.getElem?_append_right (by rw [List.length_map]; omega)] at e
      have := List.mem_of_getElem? e
      rw [(List.mem_replicate.mp this).2]
      trivial
  · rcases e with e | e <;> cases noOw i _ e
theorem gd_of {T : List (Addr × Str)} {fresh : Bool} {cdv : Value} {A : Around} {outer : List Env} {s : Shared} {H : Hp} {E : XK} {M0 fr : Addr → Prop} {pa : Nat → Addr} (S : FnScope N ps (defScope st)) (hr : Room k (A.deeper (envOfC x (defScope st) s.heap.objs.size f cdv))) :
    Gd (cxOf (L2.CX P w) P w K mg base N x (defScope st) f cdv A outer s H E) (mkC K T mg H M0 fr pa fresh) (fun cls d _ H' => E cls d H') k := ⟨rfl, rfl, rfl, takes_of rfl rfl rfl rfl, hr, S.nd⟩
theorem pre_len (S : FnScope N ps (defScope st)) : ps.length ≤ N.length := by
  have := congrArg List.length S.pre
  rw [List.length_take] at this
  omega
theorem RE.sme {T : List (Addr × Str)} {H H' : Hp} {M : Addr → Prop} {pa ad : Nat → Addr} {fresh : Bool} {σ : L2.St} {env : Sls} (R : RE (mkC K T mg H M (fun _ => False) pa fresh) ad H' σ env) : Sme T H H' := ⟨fun b o e t => R.same b o e (fun z => z) t, R.trk, fun _ => R.tabs⟩
variable {T : List (Addr × Str)}
theorem fnP_ok (F : Fun K x x st f fd) (S : FnScope N ps (defScope st)) (hn : ps.length = n) (B : Body P w K T mg base N x st k false m) : FnOk P w K mg base (L2.CX P w) (k + 1) f fd ps (spP K T mg n (run N.length m)) := by
  refine okX F S (fun vs H Q E h => h.1.trans hn.symm) (fun cdv A outer s H vs Q E hr h => ?_)
  obtain ⟨hl, ht, M, ds, tk, r, q⟩ := h
  have hds : ds.length ≤ N.length := by rw [← r.len, hl, ← hn]; exact pre_len S
  obtain ⟨t, hs⟩ := B f cdv A outer s H E M (fun _ => False) (fun _ => 0) (gd_of S hr)
  refine ⟨t, hs.pe, hs.sn _ _ H _ _ (re_start hds tk ht r) ?_⟩
  unfold run at q
  cases z : m (envOf N.length ds) with
  | ok r2 =>
    rw [z] at q
    obtain ⟨o, e2⟩ := r2
    cases o with
    | ret d =>
      intro ad' σ' H' v hR
      obtain ⟨R', rp⟩ := hR
      exact q v H' (R'.sme) (rp.less fun b z => .inl z)
    | next => exact fun ad' σ' H' R' _ => q .non H' (R'.sme) .non
    | brk => exact q.elim
    | cont => exact q.elim
  | err c =>
    rw [z] at q
    exact fun ad' σ' cls dd H' e' hc R' => q cls dd H' hc R'.sme
  | bad => rw [z] at q; exact q.elim
theorem fnP (F : Fun K x x st f fd) (S : FnScope N ps (defScope st)) (hn : ps.length = n) (hm : mg x = some (.ref f)) (hb : Binds K fd ps []) (B : Body P w K T mg base N x st k false m) : Fn P w K mg base (k + 1) x (spP K T mg n (run N.length m)) :=
  ⟨f, fd, ps, fnP_ok F S hn B, hm, F.kp, hb⟩
theorem fnF_ok (F : Fun K x x st f fd) (S : FnScope N ps (defScope st)) (hn : ps.length = n) (B : Body P w K T mg base N x st k true m) : FnOk P w K mg base (L2.CX P w) (k + 1) f fd ps (spF K T mg n (runF N.length m)) := by
  refine okX F S (fun vs H Q E h => h.1.trans hn.symm) (fun cdv A outer s H vs Q E hr h => ?_)
  obtain ⟨hl, ht, M, ds, tk, r, q⟩ := h
  have hds : ds.length ≤ N.length := by rw [← r.len, hl, ← hn]; exact pre_len S
  obtain ⟨t, hs⟩ := B f cdv A outer s H E M (fun _ => False) (fun _ => 0) (gd_of S hr)
  refine ⟨t, hs.pe, hs.sn _ _ H _ _ (re_start hds tk ht r) ?_⟩
  unfold runF at q
  cases z : m (envOf N.length ds) with
  | ok r2 =>
    rw [z] at q
    obtain ⟨o, e2⟩ := r2
    cases o with
    | ret d =>
      intro ad' σ' H' v hR
      rcases hR with ⟨rfl, rfl, R'⟩ | ⟨a, rfl, h0, R', c⟩
      · exact q.elim
      · have hn : noneD d = false := by
          cases d with
          | non => exact c.elim
          | _ => rfl
        simp only [hn, Bool.false_eq_true, if_false] at q
        refine q a H' h0 (R'.sme) (c.ext rfl .refl fun b z => ?_)
        rcases z with z | z
        · exact .inl (.inl (.inl z))
        · exact .inl (.inl (.inr z))
    | next => exact q.elim
    | brk => exact q.elim
    | cont => exact q.elim
  | err c =>
    rw [z] at q
    exact fun ad' σ' cls dd H' e' hc R' => q cls dd H' hc R'.sme
  | bad => rw [z] at q; exact q.elim
/-- a new list or dict is handed back, or None -/
def spG (K : PySem.W.Frag) (T : List (Addr × Str)) (mg : Str → Option Value) (n : Nat) (fm : List D → Res D) : Sp := fun vs H Q E => vs.length = n ∧ LamX.Tabs T H ∧ ∃ (M : Addr → Prop) (ds : List D), (∀ a, M a → H a ≠ none) ∧ RpL K H M ds vs ∧
  (fm ds).Wp (fun d => (d = .non → ∀ H', Sme T H H' → Q .non H') ∧ (d ≠ .non → ∀ a H', H a = none → Sme T H H' → CellOk K H' (fun b => M b ∨ b = a) d a → Q (.ref a) H')) (fun c => ∀ cls dd H', mg c = some cls → Sme T H H' → E cls dd H')
theorem Fn.gToP {T : List (Addr × Str)} {j : Nat} {fm : List D → Res D} (F : Fn P w K mg base j x (spG K T mg n fm)) : Fn P w K mg base j x (spP K T mg n fm) := by
  obtain ⟨f, fd, ps, F, h⟩ := F.ex
  refine ⟨f, fd, ps, F.imp fun vs H Q E ⟨hl, ht, M, ds, tk, r, q⟩ => ⟨hl, ht, M, ds, tk, r, q.imp (fun d z => ⟨fun e H' s => by subst e; exact z _ H' s .non, fun _ a H' hn e c => z _ H' e (cell_rp c (fun q => tk a q hn) fun b q => .inl q)⟩) fun c z => z⟩, h⟩
theorem fnG_ok (F : Fun K x x st f fd) (S : FnScope N ps (defScope st)) (hn : ps.length = n) (B : Body P w K T mg base N x st k true m) : FnOk P w K mg base (L2.CX P w) (k + 1) f fd ps (spG K T mg n (runG N.length m)) := by
  refine okX F S (fun vs H Q E h => h.1.trans hn.symm) (fun cdv A outer s H vs Q E hr h => ?_)
  obtain ⟨hl, ht, M, ds, tk, r, q⟩ := h
  have hds : ds.length ≤ N.length := by rw [← r.len, hl, ← hn]; exact pre_len S
  obtain ⟨t, hs⟩ := B f cdv A outer s H E M (fun _ => False) (fun _ => 0) (gd_of S hr)
  refine ⟨t, hs.pe, hs.sn _ _ H _ _ (re_start hds tk ht r) ?_⟩
  unfold runG at q
  cases z : m (envOf N.length ds) with
  | ok r2 =>
    rw [z] at q
    obtain ⟨o, e2⟩ := r2
    cases o with
    | ret d =>
      intro ad' σ' H' v hR
      rcases hR with ⟨rfl, rfl, R'⟩ | ⟨a, rfl, h0, R', c⟩
      · exact q.1 rfl H' R'.sme
      · have hn : d ≠ .non := fun z => by subst z; exact c.elim
        refine q.2 hn a H' h0 (R'.sme) (c.ext rfl .refl fun b z => ?_)
        rcases z with z | z
        · exact .inl (.inl (.inl z))
        · exact .inl (.inl (.inr z))
    | next => exact fun ad' σ' H' R' _ => q.1 rfl H' R'.sme
    | brk => exact q.elim
    | cont => exact q.elim
  | err c =>
    rw [z] at q
    exact fun ad' σ' cls dd H' e' hc R' => q cls dd H' hc R'.sme
  | bad => rw [z] at q; exact q.elim
theorem fnF (F : Fun K x x st f fd) (S : FnScope N ps (defScope st)) (hn : ps.length = n) (hm : mg x = some (.ref f)) (hb : Binds K fd ps []) (B : Body P w K T mg base N x st k true m) : Fn P w K mg base (k + 1) x (spF K T mg n (runF N.length m)) := ⟨f, fd, ps, fnF_ok F S hn B, hm, F.kp, hb⟩
theorem fnG (F : Fun K x x st f fd) (S : FnScope N ps (defScope st)) (hn : ps.length = n) (hm : mg x = some (.ref f)) (hb : Binds K fd ps []) (B : Body P w K T mg base N x st k true m) : Fn P w K mg base (k + 1) x (spG K T mg n (runG N.length m)) := ⟨f, fd, ps, fnG_ok F S hn B, hm, F.kp, hb⟩
theorem re_startJ {T : List (Addr × Str)} {H : Hp} {M : Addr → Prop} {a : Addr} {j : D} {ds : List D} {vs : List V} (hl : ds.length + 1 ≤ N.length) (hM : M a) (tk : ∀ a, M a → H a ≠ none) (ht : LamX.Tabs T H) (c : CellOk K H M j a) (r : RpL K H M ds vs) :
    RE (mkC K T mg H M (fun b => b = a) (fun _ => a) false) (fun _ => a) H (L2.start N (.ref a :: vs)) (envJ N.length j ds) := by
  have noOw : ∀ (i : Nat) (s : Sl), (envJ N.length j ds)[i]? = some s → s.isOwn = true → i = 0 ∧ s = .p j := fun i s e o => by
    cases i with
    | zero => cases e; exact ⟨rfl, rfl⟩
    | succ i =>
      have := List.mem_of_getElem? (show (ds.map Sl.t ++ List.replicate (N.length - ds.length - 1) Sl.u)[i]? = some s from e)
      rcases List.mem_append.mp this with q | q
      · obtain ⟨d, _, rfl⟩ := List.mem_map.mp q; cases o
      · rw [(List.mem_replicate.mp q).2] at o; cases o
  have moM : ∀ b, Mo (mkC K T mg H M (fun b => b = a) (fun _ => a) false) (envJ N.length j ds) (fun _ => a) b → M b := fun b z => by
    rcases z with z | ⟨i, s, e, o, z⟩
    · exact z
    · exact z ▸ hM
  have hsl : N.length - (V.ref a :: vs).length = N.length - ds.length - 1 := by rw [List.length_cons, r.len]; omega
  refine ⟨?_, fun i s e => ?_, fun i i' s t e e' o o' _ => ((noOw i s e o).1.trans (noOw i' t e' o').1.symm), fun i d e => ?_, fun i d e => ⟨rfl, rfl⟩, fun b o e _ _ => e, fun b h => ?_, fun b h => h, tk, ht⟩
  · unfold L2.start envJ
    simp only [List.length_append, List.length_map, List.length_replicate, List.length_cons, r.len]
    omega
  · cases i with
    | zero =>
      cases e
      exact ⟨rfl, c.ext rfl .refl fun b z => .inl (moM b z)⟩
    | succ i =>
      have e : (ds.map Sl.t ++ List.replicate (N.length - ds.length - 1) Sl.u)[i]? = some s := e
      have es : (L2.start N (.ref a :: vs))[i + 1]? = (vs.map some ++ List.replicate (N.length - ds.length - 1) none)[i]? := by
        unfold L2.start
        rw [hsl]
        rfl
      by_cases hi : i < ds.length
      · rw [List.getElem?_append_left (by rw [List.length_map]; exact hi), List.getElem?_map, List.getElem?_eq_getElem hi] at e
        cases e
        have hv : i < vs.length := by rw [r.len]; exact hi
        refine ⟨vs[i], ?_, (r.item i _ _ (List.getElem?_eq_getElem hi) (List.getElem?_eq_getElem hv)).less moM⟩
        rw [es, List.getElem?_append_left (by rw [List.length_map]; exact hv), List.getElem?_map, List.getElem?_eq_getElem hv]
        rfl
      · rw [List.getElem?_append_right (by rw [List.length_map]; omega)] at e
        have := List.mem_of_getElem? e
        rw [(List.mem_replicate.mp this).2]
        trivial
  · rcases e with e | e
    · cases (noOw i _ e rfl).2
    · cases (noOw i _ e rfl).2
  · have h : b = a := h
    subst h
    have ck := c.kind
    cases z : H b with
    | none => exact absurd z c.trk
    | some o => exact ⟨o, z, fun xs q => ck.1 xs (by rw [z, q]), fun o' u q => ck.2 o' u (by rw [z, q])⟩
theorem fnJ (F : Fun K x x st f fd) (S : FnScope N ps (defScope st)) (hn : ps.length = n) (hm : mg x = some (.ref f)) (hb : Binds K fd ps []) (B : Body P w K T mg base N x st k false m) : Fn P w K mg base (k + 1) x (spJ K T n (runJ N.length m)) := by
  refine ⟨f, fd, ps, okX F S (fun vs H Q E h => h.1.trans hn.symm) (fun cdv A outer s H vs Q E hr h => ?_), hm, F.kp, hb⟩
  obtain ⟨hl, ht, M, a, ws, j, ds, rfl, hM, tk, c, r, q⟩ := h
  have hds : ds.length + 1 ≤ N.length := by
    rw [← r.len]
    rw [List.length_cons] at hl
    rw [hl, ← hn]
    exact pre_len S
  obtain ⟨t, hs⟩ := B f cdv A outer s H E M (fun b => b = a) (fun _ => a) (gd_of S hr)
  refine ⟨t, hs.pe, hs.sn _ _ H _ _ (re_startJ hds hM tk ht c r) ?_⟩
  unfold runJ at q
  cases z : m (envJ N.length j ds) with
  | ok r2 =>
    rw [z] at q
    obtain ⟨o, e2⟩ := r2
    have fin : ∀ (ad' : Nat → Addr) (σ' : L2.St) (H' : Hp) (j' : D), RE (mkC K T mg H M (fun b => b = a) (fun _ => a) false) ad' H' σ' e2 → e2[0]? = some (.p j') → (∀ b o, H b = some o → b ≠ a → (∀ ps, o ≠ .tbl ps) → H' b = some o) ∧ CellOk K H' M j' a := fun ad' σ' H' j' R' e0 => by
      obtain ⟨d0, hd0, _, c0⟩ := R'.cell e0 rfl
      have e1 : d0 = j' := by rcases hd0 with z | z | z <;> cases z; rfl
      subst e1
      obtain ⟨p1, _⟩ := R'.par 0 d0 e0
      have p1' : ad' 0 = a := p1
      refine ⟨fun b o e hb nt => R'.same b o e (fun z => hb z) nt, ?_⟩
      rw [← p1']
      exact c0.ext rfl .refl fun b z => .inl (.inl z)
    cases o with
    | ret d =>
      intro ad' σ' H' v hR
      obtain ⟨R', rp⟩ := hR
      simp only at q
      cases e0 : e2[0]? with
      | none => rw [e0] at q; exact q.elim
      | some s =>
        rw [e0] at q
        cases s with
        | p j' =>
          obtain ⟨f1, f2⟩ := fin ad' σ' H' j' R' e0
          exact q v H' f1 R'.trk R'.tabs f2 (rp.less fun b z => .inl z)
        | _ => exact q.elim
    | next =>
      intro ad' σ' H' R' _
      simp only at q
      cases e0 : e2[0]? with
      | none => rw [e0] at q; exact q.elim
      | some s =>
        rw [e0] at q
        cases s with
        | p j' =>
          obtain ⟨f1, f2⟩ := fin ad' σ' H' j' R' e0
          exact q .non H' f1 R'.trk R'.tabs f2 .non
        | _ => exact q.elim
    | brk => exact q.elim
    | cont => exact q.elim
  | err c => rw [z] at q; exact q.elim
  | bad => rw [z] at q; exact q.elim
end

/-! ### the law's end -/
def spL (K : PySem.W.Frag) (T : List (Addr × Str)) (fm : List D → Res D) : Sp := fun vs H Q E => vs.length = 1 ∧ LamX.Tabs T H ∧ ∃ (M : Addr → Prop) (ds : List D), (∀ a, M a → H a ≠ none) ∧ RpL K H M ds vs ∧
  (fm ds).Wp (fun d => ∀ v H', Sme T H H' → Rp K H' M d v → Q v H') (fun _ => False)
theorem Fn.law {T : List (Addr × Str)} {P : Program} {w : World} {K : PySem.W.Frag} {mg : Str → Option Value} {base : Heap} {j : Nat} {x : Str} {fm : List D → Res D} (F : Fn P w K mg base j x (spP K T mg 1 fm)) : Fn P w K mg base j x (spL K T fm) := by
  obtain ⟨f, fd, ps, F, h⟩ := F.ex
  exact ⟨f, fd, ps, F.imp fun vs H Q E ⟨hl, ht, M, ds, tk, r, q⟩ => ⟨hl, ht, M, ds, tk, r, q.imp (fun d z => z) fun c z => z.elim⟩, h⟩
theorem law_sp {T : List (Addr × Str)} {K : PySem.W.Frag} {fm : List D → Res D} {H : Hp} {a : Addr} {ns : List Int} {E : XK} (hz : ns.length ≤ sizeLine) (hT : LamX.Tabs T H) (hO : (H a = none ∨ ∃ o xs, H a = some (.frz o (.lst xs)))) (hS : SqL K H a (ns.map V.int)) (h : fm [.scr ns] = .ok (.bl true)) : spL K T fm [.ref a] H (fun v _ => v = .bl true) E := by
  refine ⟨rfl, hT, fun _ => False, [.scr ns], fun a z => z.elim, .one (.scr ?_ hz), ?_⟩
  · rcases hS with (hS | ⟨o, hS⟩) | hS
    · rcases hO with q | ⟨o, xs, q⟩
      · rw [hS] at q; cases q
      · rw [hS] at q; cases q
    · exact .inl ⟨o, hS⟩
    · exact .inr hS
  · rw [h]
    intro v H' _ r
    cases r
    rfl
theorem cx_law {P : Program} {w : World} {H : Hp} {s : Shared} {e : Value} {s' : Shared} (h : L2.CX P w [] H s (fun _ _ _ => False) e s') : False := by
  obtain ⟨_, _, _, _, _, _, _, _, _, _, _, _, z⟩ := h
  exact z
end Vm
end
section
set_option maxRecDepth 100000
set_option maxHeartbeats 4000000
/-! Vm, part J: chains, minus, slices of either kind, keywords, isinstance with two classes, a walk over an own list. -/
namespace Vm
open PySem PySem.Spec PyProof.Rows L2

section
variable {X : Cx} {C : Cfg} {W : WX} {k j n : Nat} {a b c e : Expr} {es rest : List Expr} {ta tb tc te : TE} {t : TA} {ma mb mc m me : Ev} {ms : Evs} {pos p : Pos} {x : Str} {tg iter elt : Expr}
/-! ### the rules at the written part C.K -/
theorem oAdd (g : Gd X C W k) : OpR X (binaryOp .Add) (rAddA C.K) := g.kE ▸ or_addA
theorem oEq (g : Gd X C W k) : OpR X (compareOp .Eq) (rEqA C.K) := g.kE ▸ or_eqA g.room
theorem oNe (g : Gd X C W k) : OpR X (compareOp .NotEq) (rNeA C.K) := g.kE ▸ or_neA g.room
theorem iIx (g : Gd X C W k) : IxR X (rIxA C.K) := g.kE ▸ ir_ixA g.room
theorem cLen (g : Gd X C W k) : CallR X (.builtin "len") (rLenA C.K) := g.kE ▸ cr_lenA
theorem cSum (g : Gd X C W k) : CallR X (.builtin "sum") (rSum C.K) := g.kE ▸ cr_sum g.calm
theorem cAll (g : Gd X C W k) : CallR X (.builtin "all") (rAll C.K) := g.kE ▸ cr_all g.calm
theorem cAny (g : Gd X C W k) : CallR X (.builtin "any") (rAny C.K) := g.kE ▸ cr_any g.calm
theorem cMaxL (g : Gd X C W k) : CallR X (.builtin "max") (rMax C.K) := g.kE ▸ cr_max g.calm
theorem cMinL (g : Gd X C W k) : CallR X (.builtin "min") (rMin C.K) := g.kE ▸ cr_min g.calm
theorem cSortI (g : Gd X C W k) : CallR X (.builtin "sorted") (rSortedI C.K) := g.kE ▸ cr_sortedI
theorem cTuple (g : Gd X C W k) : CallR X (.type "tuple") (fun xs H Q => ∃ p ys, xs = [.ref p] ∧ ((SqL C.K H p ys ∧ ∀ l, H l = none → Q (.ref l) (upd H l (.tup ys))) ∨ (SqT C.K H p ys ∧ Q (.ref p) H))) := g.kE ▸ call_tuple_of
theorem cList (g : Gd X C W k) : CallR X (.type "list") (fun xs H Q => ∃ p ys, xs = [.ref p] ∧ (SqL C.K H p ys ∨ SqT C.K H p ys) ∧ ∀ l, H l = none → Q (.ref l) (upd H l (.lst ys))) := g.kE ▸ call_list_of
/-! ### -a -/
def negD (x : D) : Res D := match x with
  | .int i => .ok (.int (-i))
  | _ => .bad
def mUn (g : D → Res D) (m : Ev) : Ev := fun env => do
  let r ← m env
  let x ← rs r.2 r.1
  match g x with
  | .ok d => pure (d, r.2)
  | _ => .bad
theorem em_neg (h : EM X C W a ta ma) : EM X C W (.UnaryOp .USub a pos) (tUn (rU fun i => .int (-i)) ta) (mUn negD ma) := by
  refine ⟨pe_un un_neg h.pe, fun M0 ad σ H env Q R w => ?_⟩
  unfold mUn at w
  refine h.sn' R w fun r v H1 R1 S1 V1 w1 => ?_
  rw [wp_bind] at w1
  obtain ⟨y, _, w2, ry⟩ := R1.rs V1 w1
  cases y with
  | int i =>
    rw [ry.int_inv]
    exact ⟨i, rfl, w2 _ H1 R1 S1 (.of (.int _))⟩
  | _ => exact w2.elim
/-! ### a op b op c -/
theorem chain_sn {r r' : R2} {g g' : D → D → Res D} (ho : OpS C.K r g) (ho' : OpS C.K r' g') (ha : EM X C W a ta ma) (hb : EM X C W b tb mb) (hc : EM X C W c tc mc) {M0 : Addr → Prop} {ad : Nat → Addr} {σ : L2.St} {H : Hp} {env : Sls} {Q : VK} (R : RE (C.w M0) ad H σ env)
    (w : (mChain g g' ma mb mc env).Wp (fun r => ∀ v H', RE (C.w M0) ad H' σ r.2 → Stp (C.w M0) ad H env H' r.2 → VR (C.w M0) ad H' σ r.2 r.1 v → Q v H') (Er (C.w M0) ad σ W)) : tChain r r' ta tb tc σ H Q := by
  unfold mChain at w
  refine ha.sn' R w fun r1 v1 H1 R1 S1 V1 w1 => ?_
  refine hb.sn' R1 w1 fun r2 v2 H2 R2 S2 V2 w2 => ?_
  rw [wp_bind] at w2
  obtain ⟨y1, _, w3, ry1⟩ := R2.rs (V1.stp S2) w2
  rw [wp_bind] at w3
  obtain ⟨y2, _, w4, ry2⟩ := R2.rs V2 w3
  refine ho H2 (Mo (C.w M0) r2.2 ad) v1 v2 y1 y2 _ (fun a z => R2.mtrk z) ry1 ry2 ?_
  cases q : g y1 y2 with
  | err c => rw [q] at w4; exact w4.elim
  | bad => rw [q] at w4; exact w4.elim
  | ok d =>
    rw [q] at w4
    cases d with
    | bl kb =>
      intro v H' e rp
      cases rp
      have R2' := R2.grow e
      have S2' : Stp (C.w M0) ad H env H' r2.2 := (S1.trans S2).trans (.grow e)
      cases kb with
      | false => exact ⟨false, rfl, w4 _ H' R2' S2' (.of (.bl false))⟩
      | true =>
        refine ⟨true, rfl, ?_⟩
        refine hc.sn' R2' w4 fun r3 v3 H3 R3 S3 V3 w5 => ?_
        rw [wp_bind] at w5
        obtain ⟨z1, _, w6, rz1⟩ := R3.rs ((V2.stp (.grow e)).stp S3) w5
        rw [wp_bind] at w6
        obtain ⟨z2, _, w7, rz2⟩ := R3.rs V3 w6
        refine ho' H3 (Mo (C.w M0) r3.2 ad) v2 v3 z1 z2 Q (fun a z => R3.mtrk z) rz1 rz2 ?_
        cases q2 : g' z1 z2 with
        | ok d =>
          rw [q2] at w7
          exact fun v H' e r => w7 v H' (R3.grow e) ((S2'.trans S3).trans (.grow e)) (.of r)
        | err c => rw [q2] at w7; exact w7.elim
        | bad => rw [q2] at w7; exact w7.elim
    | _ => exact w4.elim
theorem em_chain {op op' : CmpOp} {r r' : R2} {g g' : D → D → Res D} (hr : OpR X (compareOp op) r) (hr' : OpR X (compareOp op') r') (ho : OpS C.K r g) (ho' : OpS C.K r' g') (ha : EM X C W a ta ma) (hb : EM X C W b tb mb) (hc : EM X C W c tc mc)
    (hm : lastMarks [op, op'] [b, c] = false := by with_unfolding_all rfl) : EM X C W (.Compare a [op, op'] [b, c] pos) (tChain r r' ta tb tc) (mChain g g' ma mb mc) :=
  ⟨pe_chain hr hr' ha.pe hb.pe hc.pe hm, fun M0 ad σ H env Q R w => chain_sn ho ho' ha hb hc R w⟩
theorem tm_chain {op op' : CmpOp} {r r' : R2} {g g' : D → D → Res D} (hr : OpR X (compareOp op) r) (hr' : OpR X (compareOp op') r') (ho : OpS C.K r g) (ho' : OpS C.K r' g') (ha : EM X C W a ta ma) (hb : EM X C W b tb mb) (hc : EM X C W c tc mc)
    (hm : lastMarks [op, op'] [b, c] = false := by with_unfolding_all rfl) : TM X C W (.Compare a [op, op'] [b, c] pos) (tTest (tChain r r' ta tb tc)) (mTru (mChain g g' ma mb mc)) := by
  refine ⟨pt_chain hr hr' ha.pe hb.pe hc.pe hm, fun M0 ad σ H env Q R w => ?_⟩
  refine chain_sn ho ho' ha hb hc R ?_
  unfold mTru at w
  rw [wp_bind] at w
  refine w.imp (fun r z v H' R' S' V' => ?_) fun _ z => z
  cases hd : r.1 with
  | bl k =>
    rw [hd] at z V'
    cases V'
    exact ⟨k, rfl, z H' R' S'⟩
  | _ => rw [hd] at z; exact z.elim
/-! ### a[lo:hi], a list or a tuple -/
def sliceD (x : D) (lo hi : Option Int) : Res D := match x with
  | .lst xs => .ok (.lst (cutD xs lo hi))
  | .tup xs => .ok (.tup (cutD xs lo hi))
  | .scr ns => .ok (.lst (cutD (ns.map D.int) lo hi))
  | _ => .bad
def rSlE (K : PySem.W.Frag) : V → Option Int → Option Int → Hp → VK → Prop := fun x lo hi H Q => rSlL K x lo hi H Q ∨ rSlA K x lo hi H Q
theorem em_slice {lo hi : Option Expr} {tl th : TO} {ml mh : Eo} {p2 : Pos} (g : Gd X C W k) (h : EM X C W e te m) (hl : OM X C W lo tl ml) (hh : OM X C W hi th mh) :
    EM X C W (.Subscript e (.Slice lo hi none p2) pos) (tSl (rSlE C.K) te tl th) (mSl sliceD m ml mh) := by
  refine ⟨g.kE ▸ pe_slice (sl_list.or sl_tupA) h.pe hl.pe hh.pe, fun M0 ad σ H env Q R w => ?_⟩
  unfold mSl at w
  refine h.sn' R w fun r v H1 R1 S1 V1 w1 => ?_
  rw [wp_bind] at w1
  refine hl.sn M0 ad σ H1 r.2 _ R1 (w1.imp (fun l w2 H2 R2 S2 => ?_) fun _ z => z)
  rw [wp_bind] at w2
  refine hh.sn M0 ad σ H2 l.2 _ R2 (w2.imp (fun q w3 H3 R3 S3 => ?_) fun _ z => z)
  rw [wp_bind] at w3
  obtain ⟨y, _, w4, rx⟩ := R3.rs ((V1.stp S2).stp S3) w3
  have fresh : ∀ {xs : List D} {us : List V} {p : Addr}, RpL C.K H3 (Mo (C.w M0) q.2 ad) xs us → H3 p = none → xs.length ≤ sizeLine → Rp C.K (upd H3 p (.lst us)) (Mo (C.w M0) q.2 ad) (.lst xs) (.ref p) := fun r hn z =>
    cell_rp (cell_new r hn z) (fun q => R3.mtrk q hn) fun b q => .inl q
  cases y with
  | lst xs =>
    obtain ⟨a, us, rfl, hs, z, qr⟩ := rx.lst_inv
    exact .inl ⟨a, us, rfl, .of hs, fun p hn => w4 _ _ (R3.grow (same_new hn)) (((S1.trans S2).trans S3).trans (.grow (same_new hn))) (.of (fresh (qr.cut _ _) hn (Nat.le_trans (cutD_length _ _ _) z)))⟩
  | scr ns =>
    cases rx with
    | scr hs z =>
      have qr : RpL C.K H3 (Mo (C.w M0) q.2 ad) (ns.map D.int) (ns.map V.int) := .of_ints
      exact .inl ⟨_, _, rfl, hs.sq, fun p hn => w4 _ _ (R3.grow (same_new hn)) (((S1.trans S2).trans S3).trans (.grow (same_new hn))) (.of (fresh (qr.cut _ _) hn (Nat.le_trans (cutD_length _ _ _) (by rw [List.length_map]; exact z))))⟩
  | tup xs =>
    obtain ⟨a, us, rfl, hs, z, qr⟩ := rx.tup_inv
    refine .inr ⟨a, us, rfl, hs, fun c => ?_, fun c p hn => w4 _ _ (R3.grow (same_new hn)) (((S1.trans S2).trans S3).trans (.grow (same_new hn))) (.of (.tup' (.of upd_same) (Nat.le_trans (cutD_length _ _ _) z) ((qr.cut _ _).same (same_new hn))))⟩
    have e : cutD xs l.1 q.1 = xs := by
      unfold cutD
      rw [← qr.len, c.1, c.2, qr.len]
      simp
    refine w4 _ H3 R3 ((S1.trans S2).trans S3) (.of ?_)
    show Rp C.K H3 _ (.tup (cutD xs l.1 q.1)) _
    rw [e]
    exact .tup' hs z qr
  | _ => exact w4.elim
/-! ### keywords -/
structure KM (X : Cx) (C : Cfg) (W : WX) (kws : List Keyword) (t : TA) (m : Evs) : Prop where
  pe : PK X kws t
  sn : ∀ (M0 : Addr → Prop) (ad : Nat → Addr) (σ : L2.St) (H : Hp) (env : Sls) (Q : List V → Hp → Prop), RE (C.w M0) ad H σ env →
    (m env).Wp (fun r => ∀ vs H', RE (C.w M0) ad H' σ r.2 → Stp (C.w M0) ad H env H' r.2 → VRL (C.w M0) ad H' σ r.2 r.1 vs → Q vs H') (Er (C.w M0) ad σ W) → t σ H Q
theorem km_nil : KM X C W [] tNil mNil := ⟨pk_nil, fun M0 ad σ H env Q R w => w [] H R .refl .nil⟩
theorem km_cons {kws : List Keyword} {nm : Option Str} {kp : Pos} (h : EM X C W e te m) (hr : KM X C W kws t ms) : KM X C W (⟨nm, e, kp⟩ :: kws) (tCons te t) (mCons m ms) := by
  refine ⟨pk_cons h.pe hr.pe, fun M0 ad σ H env Q R w => ?_⟩
  unfold mCons at w
  refine h.sn' R w fun r1 v1 H1 R1 S1 V1 w1 => ?_
  rw [wp_bind] at w1
  refine hr.sn M0 ad σ H1 r1.2 _ R1 (w1.imp (fun r2 w2 vs H2 R2 S2 V2 => ?_) fun _ z => z)
  exact w2 (v1 :: vs) H2 R2 (S1.trans S2) (.cons (V1.stp S2) V2)
/-- the keywords' values in the parameters' order -/
def pick {α : Type} (is : List Nat) (l : List α) : List α := is.filterMap (l[·]?)
theorem pick_vals {is : List Nat} {zs : List V} {ws : List Value} (r : Vals zs ws) : Vals (pick is zs) (pick is ws) := by
  unfold pick
  induction is with
  | nil => exact .nil
  | cons i is ih =>
    rw [List.filterMap_cons, List.filterMap_cons]
    cases q : zs[i]? with
    | none => rw [r.none_of q]; exact ih
    | some v =>
      obtain ⟨u, e, rv⟩ := r.get q
      rw [e]
      exact .cons rv ih
/-- how the keywords ks bind: is, the places of the parameters among them -/
structure KB (K : PySem.W.Frag) (fd : FuncData) (ps ks : List Str) (is : List Nat) : Prop where
  to : ∀ (s : Shared) (ws : List Value), K.In s.heap → ws.length = is.length → BindsTo s fd ⟨[], ks.zip ws⟩ (ps.zip (pick is ws))
theorem run_fnkS {CX : CXT} {f : Addr} {fd : FuncData} {ps ks : List Str} {is : List Nat} {sp : Sp} {E : L2.St → XK} {pins : List (Addr × Obj)} {σ : L2.St} {H : Hp} {s : Shared} {Q : VK} {ws : List Value} {zs : List V}
    (F : FnOk X.prog X.w X.K X.mg X.base CX k f fd ps sp) (hr : Room k X.A) (hb : KB X.K fd ps ks is) (hx : PassesAt CX X σ (E σ))
    (I : Inv X pins σ H s) (rz : Vals zs ws) (hl : zs.length = is.length) (h : sp (pick is zs) H Q (E σ)) : wpAny (model X.prog X.w) X.A (call (.ref f) [] (ks.zip ws)) (EP X pins σ Q) X.xe s := by
  have r2 := pick_vals (is := is) rz
  refine wpAny_call (codeAny_mono (F.run hr I.env0 (hb.to s ws I.kIn (by rw [← rz.length]; exact hl)) r2 h) fun r s' hq => ?_)
  cases r with
  | error e => exact hx pins H s e s' I hq
  | ok fl =>
    cases fl with
    | ret u => exact I.after hq
    | next => exact False.elim hq
    | brk => exact False.elim hq
    | cont => exact False.elim hq
def tCallKS (sp : Sp) (is : List Nat) (E : L2.St → XK) (tk : TA) : TE := fun σ H Q => tk σ H fun zs H2 => zs.length = is.length ∧ sp (pick is zs) H2 Q (E σ)
theorem pe_callKS0 {CX : CXT} {f : Addr} {fd : FuncData} {ps ks : List Str} {is : List Nat} {sp : Sp} {E : L2.St → XK} {kws : List Keyword} {tk : TA} (F : FnOk X.prog X.w X.K X.mg X.base CX k f fd ps sp) (hr : Room k X.A) (hg : Gl X x) (hm : X.mg x = some (.ref f)) (hk : PySem.W.keepIn X.K (.ref f) = true) (hb : KB X.K fd ps ks is) (hx : ∀ σ, PassesAt CX X σ (E σ))
    (hkw : PK X kws tk) (hall : (backToKw pos (keywordEach kws X.env)).all (·.1.isSome) = true := by rfl) (hks : (backToKw pos (keywordEach kws X.env)).filterMap (·.1) = ks := by rfl)
    (hdb : (x == ("__debug__" : Str)) = false := by decide) (hpl : ((backTo pos (starEach [] X.env)).any (·.1) || (backToKw pos (keywordEach kws X.env)).any (·.1.isNone)) = false := by rfl) :
    PE X (.Call (.Name x p) [] kws pos) (tCallKS sp is E tk) := by
  refine ⟨fun pins s σ H Q I h => ?_⟩
  refine wpAny_Call_Name_kw (ld_glob I hg hm ?_ hdb)
  refine PySem.W.callWith_KW0 (h₀ := X.base) I.ok.mod.kin hk hall ?_ hpl
  refine thn (hkw.run pos pins s σ H _ I h) fun ws s2 ⟨zs, H2, I2, rz, hl, q2⟩ => ⟨I2.kIn, ?_⟩
  rw [hks]
  exact run_fnkS F hr hb (hx σ) I2 rz hl q2
theorem pick_vrl {ad : Nat → Addr} {H : Hp} {σ : L2.St} {env : Sls} {ds : List D} {vs : List V} {is : List Nat} (r : VRL C ad H σ env ds vs) : VRL C ad H σ env (pick is ds) (pick is vs) := by
  unfold pick
  induction is with
  | nil => exact .nil
  | cons i is ih =>
    rw [List.filterMap_cons, List.filterMap_cons]
    cases q : ds[i]? with
    | none =>
      have : vs[i]? = none := List.getElem?_eq_none_iff.mpr (by rw [r.len]; exact List.getElem?_eq_none_iff.mp q)
      rw [this]; exact ih
    | some d =>
      have hi : i < vs.length := by rw [r.len]; exact (List.getElem?_eq_some_iff.mp q).1
      have e : vs[i]? = some vs[i] := List.getElem?_eq_getElem hi
      rw [e]
      exact .cons (r.item i _ _ q e) ih
def mCallK (n : Nat) (is : List Nat) (fm : List D → Res D) (ms : Evs) : Ev := fun env => do
  let r ← ms env
  if r.1.length = is.length ∧ (pick is r.1).length = n ∧ allKp (pick is r.1) = true then do
    let d ← fm (pick is r.1)
    pure (d, r.2)
  else .bad
/-- how the keywords ks of x bind: is, their places -/
structure FnK (P : Program) (w : World) (K : PySem.W.Frag) (mg : Str → Option Value) (base : Heap) (j : Nat) (x : Str) (ks : List Str) (is : List Nat) (sp : Sp) : Prop where
  ex : ∃ f fd ps, FnOk P w K mg base (L2.CX P w) j f fd ps sp ∧ mg x = some (.ref f) ∧ PySem.W.keepIn K (.ref f) = true ∧ KB K fd ps ks is
theorem FnK.mono {P : Program} {w : World} {K : PySem.W.Frag} {mg : Str → Option Value} {base : Heap} {i j : Nat} {x : Str} {ks : List Str} {is : List Nat} {sp : Sp} (F : FnK P w K mg base i x ks is sp) (h : i ≤ j) : FnK P w K mg base j x ks is sp := by
  obtain ⟨f, fd, ps, F, h2⟩ := F.ex
  exact ⟨f, fd, ps, F.mono h, h2⟩
theorem em_callK {fm : List D → Res D} {ks : List Str} {is : List Nat} {kws : List Keyword} {tk : TA} (g : Gd X C W k) (F : FnK X.prog X.w X.K X.mg X.base j x ks is (spP C.K C.T C.mg n fm)) (h : KM X C W kws tk ms) (hj : j ≤ k := by decide) (hg : Gl X x := by rfl)
    (hall : (backToKw pos (keywordEach kws X.env)).all (·.1.isSome) = true := by rfl) (hks : (backToKw pos (keywordEach kws X.env)).filterMap (·.1) = ks := by rfl)
    (hdb : (x == ("__debug__" : Str)) = false := by decide) (hpl : ((backTo pos (starEach [] X.env)).any (·.1) || (backToKw pos (keywordEach kws X.env)).any (·.1.isNone)) = false := by rfl) :
    EM X C W (.Call (.Name x p) [] kws pos) (tCallKS (spP C.K C.T C.mg n fm) is (WE W) tk) (mCallK n is fm ms) := by
  obtain ⟨f, fd, ps, F, hm, hk, hb⟩ := (F.mono hj).ex
  refine ⟨pe_callKS0 F g.room hg hm hk hb (fun σ => passAt g.tk σ) h.pe hall hks hdb hpl, fun M0 ad σ H env Q R w => ?_⟩
  unfold mCallK at w
  rw [wp_bind] at w
  refine h.sn M0 ad σ H env _ R (w.imp (fun r w1 vs H1 R1 S1 V1 => ?_) fun _ z => z)
  split at w1
  · rename_i hc
    have V2 := pick_vrl (is := is) V1
    refine ⟨by rw [V1.len]; exact hc.1, by rw [V2.len]; exact hc.2.1, R1.tabs, Mo (C.w M0) r.2 ad, pick is r.1, fun a z => R1.mtrk z, allKp_rp V2 hc.2.2, ?_⟩
    rw [wp_bind] at w1
    exact w1.imp (fun d z v H' e rp => z v H' (R1.growS e) (S1.trans (.growS e)) (.of rp)) fun c z cls dd H' hm e => z cls dd H' r.2 hm (R1.growS e)
  · exact w1.elim
/-! ### name = [..] -/
theorem sm_lcA {fresh : Bool} {i : Nat} {y : Str} {py spos : Pos} {ifs : List Expr} {scope : Scope} {own : List (Str × Nat)} {wi : TI} {gt : TG} {tt : TT} {mi : Em} {gv : Gv} {mt : Ev1} (g : Gd X C W k) (hi : IM X C W tg iter wi mi) (ok : BlkOk X.N X.env.scope scope own)
    (hg : ∀ (s : Shared) (H : Hp) (L : Addr) (cl : List (Str × Addr)) (fp : List Addr), Gd (X.blk s H scope (compEnvC scope cl L X.env) fp) C W0 k → GM (X.blk s H scope (compEnvC scope cl L X.env) fp) C tg gt (own.map (·.2)) gv)
    (ht : ∀ (s : Shared) (H : Hp) (L : Addr) (cl : List (Str × Addr)) (fp : List Addr), Gd (X.blk s H scope (compEnvC scope cl L X.env) fp) C W0 k → TMs (X.blk s H scope (compEnvC scope cl L X.env) fp) C W0 ifs tt mt)
    (he : ∀ (s : Shared) (H : Hp) (L : Addr) (cl : List (Str × Addr)) (fp : List Addr), Gd (X.blk s H scope (compEnvC scope cl L X.env) fp) C W0 k → EM (X.blk s H scope (compEnvC scope cl L X.env) fp) C W0 elt te me)
    (hy : X.N[i]? = some y := by rfl) (hyl : X.env.scope.names.lookup y = some .local := by rfl) (hsw : swapsWith (.ListComp elt [⟨tg, iter, ifs, 0⟩] scope pos) (some (.Name y py)) spos.line X.env = pure true := by exact sw_true rfl rfl rfl (by decide +kernel)) (hs : ∀ x, foldedSetIterable iter X.env x = pure x := by intro _; rfl) :
    SM X C W (.Assign [.Name y py] (.ListComp elt [⟨tg, iter, ifs, 0⟩] scope pos) spos) (tAsg (tLc wi gt tt te (own.map (·.2))) (gName i)) (match fresh with | true => mSetL i (mLc mi (own.map (·.2)) gv mt me) | false => mSet i (mLc mi (own.map (·.2)) gv mt me)) := by
  have hp := ps_lc (spos := spos) (py := py) (pos := pos) g hi ok hg ht he hy hyl hsw hs
  have he2 := ef_lc (pos := pos) g hi ok hg ht he hs
  cases fresh with
  | true => exact sm_lcL hp he2
  | false => exact sm_lc hp (em_of_ef he2)
/-! ### isinstance(x, (T, U)) -/
def isi2D (n1 n2 : String) (x : D) : Res D := match isiD n1 x with
  | .ok (.bl true) => .ok (.bl true)
  | .ok (.bl false) => isiD n2 x
  | _ => .bad
def mIsi2 (n1 n2 : String) (m : Ev) : Ev := fun env => do
  let r ← m env
  let x ← rs r.2 r.1
  match isi2D n1 n2 x with
  | .ok d => pure (d, r.2)
  | _ => .bad
theorem em_isi2 {n1 n2 : String} {T U : Str} {p pT pU p2 : Pos} {kk} (g : Gd X C W k) (hg : Gl X "isinstance") (hm : X.mg "isinstance" = none) (hgT : Gl X T) (hmT : X.mg T = none) (hvT : bootBuiltins T = some (.type n1)) (hgU : Gl X U) (hmU : X.mg U = none) (hvU : bootBuiltins U = some (.type n2)) (he : EM X C W e te m)
    (hnT : T ≠ "__name__" := by decide) (hdT : (T == ("__debug__" : Str)) = false := by decide) (hnU : U ≠ "__name__" := by decide) (hdU : (U == ("__debug__" : Str)) = false := by decide)
    (hs : starEach [e, .Tuple [.Name T pT, .Name U pU] kk p2] X.env = (false, eval e X.env) :: starEach [.Tuple [.Name T pT, .Name U pU] kk p2] X.env := by rfl)
    (hs2 : starEach [.Tuple [.Name T pT, .Name U pU] kk p2] X.env = (false, eval (.Tuple [.Name T pT, .Name U pU] kk p2) X.env) :: starEach [] X.env := by rfl)
    (hs3 : starEach [.Name T pT, .Name U pU] X.env = (false, eval (.Name T pT) X.env) :: starEach [.Name U pU] X.env := by rfl) (hs4 : starEach [.Name U pU] X.env = (false, eval (.Name U pU) X.env) :: starEach [] X.env := by rfl)
    (hpl : (backTo pos (starEach [.Tuple [.Name T pT, .Name U pU] kk p2] X.env)).any (·.1) = false := by rfl) :
    EM X C W (.Call (.Name "isinstance" p) [e, .Tuple [.Name T pT, .Name U pU] kk p2] [] pos) (tCB (rIsiT C.K) (tCons te (tCons (tTup (tCons (tC (.ty n1)) (tCons (tC (.ty n2)) tNil))) tNil))) (mIsi2 n1 n2 m) := by
  refine ⟨g.kE ▸ pe_callB call_isiT hg hm (by decide +kernel) (pa_cons he.pe (pa_cons (pe_tup (pa_cons (pe_bltn hgT hmT hvT rfl hnT hdT) (pa_cons (pe_bltn hgU hmU hvU rfl hnU hdU) pa_nil hs4) hs3)) pa_nil hs2) hs) (by decide) (by decide) hs hpl, fun M0 ad σ H env Q R w => ?_⟩
  unfold mIsi2 at w
  refine he.sn' R w fun r v H1 R1 S1 V1 w1 => ?_
  rw [wp_bind] at w1
  obtain ⟨y, _, w2, rx⟩ := R1.rs V1 w1
  refine ⟨by show 2 ≤ sizeLine; decide, fun o hn => ?_⟩
  have RG := R1.grow (same_new (o := .tup [V.ty n1, V.ty n2]) hn)
  have SG : Stp (C.w M0) ad H env (upd H1 o (.tup [V.ty n1, V.ty n2])) r.2 := S1.trans (.grow (same_new hn))
  have rx2 : Ro C.K (upd H1 o (.tup [V.ty n1, V.ty n2])) (Mo (C.w M0) r.2 ad) y v := rx.same (same_new hn)
  cases q1 : isiD n1 y with
  | err c => unfold isi2D at w2; rw [q1] at w2; exact w2.elim
  | bad => unfold isi2D at w2; rw [q1] at w2; exact w2.elim
  | ok d1 =>
    obtain ⟨b1, rfl, hk1⟩ := isi_kit q1
    have fin : ∀ bb, PySem.W.kitAny C.K (.type (tyN y)) [.type n1, .type n2] = some bb → (∀ v H', RE (C.w M0) ad H' σ r.2 → Stp (C.w M0) ad H env H' r.2 → VR (C.w M0) ad H' σ r.2 (.bl bb) v → Q v H') →
        rIsiT C.K [v, .ref o] (upd H1 o (.tup [V.ty n1, V.ty n2])) Q := fun bb hk hq => by
      exact ⟨v, o, _, _, _, bb, rfl, upd_same, .cons (.ty n1) (.cons (.ty n2) .nil), rx2.tyx (isi_ne q1), hk, hq _ _ RG SG (.of (.bl bb))⟩
    unfold isi2D at w2
    rw [q1] at w2
    cases b1 with
    | true => exact fin true (kitAny_cons (kit_ty hk1) (fun z => by cases z) fun _ => rfl) w2
    | false =>
      simp only at w2
      cases q2 : isiD n2 y with
      | err c => rw [q2] at w2; exact w2.elim
      | bad => rw [q2] at w2; exact w2.elim
      | ok d2 =>
        obtain ⟨b2, rfl, hk2⟩ := isi_kit q2
        rw [q2] at w2
        refine fin b2 (kitAny_cons (kit_ty hk1) (fun _ => kitAny_cons (kit_ty hk2) (fun z => by rw [z]; exact kitAny_nil) fun z => z) fun z => by cases z) w2
end
section
variable {T : List (Addr × Str)} {P : Program} {w : World} {K : PySem.W.Frag} {mg : Str → Option Value} {base : Heap} {x : Str} {st : Stmt} {f : Addr} {fd : FuncData} {N ps ks : List Str} {is : List Nat} {k n : Nat} {m : Sv}
theorem fnK (F : Fun K x x st f fd) (S : FnScope N ps (defScope st)) (hn : ps.length = n) (hm : mg x = some (.ref f))
    (hb : ∀ (kV doc pm : Value) (an : Option Addr) (cdv ct : Value) (us : List Value), us.length = is.length → bindArgs (PySem.W.fnOf x x (defArgs st) (defBody st) (defScope st) .none kV doc pm an cdv ct) ⟨[], ks.zip us⟩ = pure (ps.zip (pick is us)))
    (B : Body P w K T mg base N x st k false m) : FnK P w K mg base (k + 1) x ks is (spP K T mg n (run N.length m)) := by
  refine ⟨f, fd, ps, fnP_ok F S hn B, hm, F.kp, ?_⟩
  obtain ⟨oc, od, kV, doc, pm, an, cdv, ct, osl, rfl, lk, hcd⟩ := F.ex
  exact ⟨fun s ws _ hl => .of_eq (hb kV doc pm an cdv ct ws hl)⟩
end
end Vm
end
section
namespace Vm
open PySem L2
@[simp] theorem z_mVar (i : Nat) (env : Sls) : (mVar i env : Res (D × Sls)) = (  match env[i]? with
  | some (.t d) => .ok (d, env)
  | some (.l _) => .ok (.own i, env)
  | some (.p _) => .ok (.own i, env)
  | some (.r _) => .ok (.own i, env)
  | _ => .bad) := rfl
@[simp] theorem z_mK (d : D) (env : Sls) : (mK d env : Res (D × Sls)) = (.ok (d, env)) := rfl
@[simp] theorem z_mBin (g : D → D → Res D) (ma mb : Ev) (env : Sls) : (mBin g ma mb env : Res (D × Sls)) = (do
  let r1 ← ma env
  let r2 ← mb r1.2
  let x ← rs r2.2 r1.1
  let y ← rs r2.2 r2.1
  let d ← match g x y with
    | .err _ => .bad
    | z => z
  pure (d, r2.2)) := rfl
@[simp] theorem z_mTru (m : Ev) (env : Sls) : (mTru m env : Res (Bool × Sls)) = (do
  let r ← m env
  match r.1 with
  | .bl b => pure (b, r.2)
  | _ => .bad) := rfl
@[simp] theorem z_mNotT (m : Ev1) (env : Sls) : (mNotT m env : Res (Bool × Sls)) = (do
  let r ← m env
  pure (!r.1, r.2)) := rfl
@[simp] theorem z_mAndT (m n : Ev1) (env : Sls) : (mAndT m n env : Res (Bool × Sls)) = (do
  let r ← m env
  if r.1 = true then n r.2 else pure (false, r.2)) := rfl
@[simp] theorem z_mOrT (m n : Ev1) (env : Sls) : (mOrT m n env : Res (Bool × Sls)) = (do
  let r ← m env
  if r.1 = true then pure (true, r.2) else n r.2) := rfl
@[simp] theorem z_mAndV (m n : Ev) (env : Sls) : (mAndV m n env : Res (D × Sls)) = (do
  let r ← m env
  match r.1 with
  | .bl true => n r.2
  | .bl false => pure (.bl false, r.2)
  | _ => .bad) := rfl
@[simp] theorem z_mOrV (m n : Ev) (env : Sls) : (mOrV m n env : Res (D × Sls)) = (do
  let r ← m env
  match r.1 with
  | .bl true => pure (.bl true, r.2)
  | .bl false => n r.2
  | _ => .bad) := rfl
@[simp] theorem z_mNotV (m : Ev) (env : Sls) : (mNotV m env : Res (D × Sls)) = (do
  let r ← m env
  match r.1 with
  | .bl b => pure (.bl (!b), r.2)
  | _ => .bad) := rfl
@[simp] theorem z_mIf (mt : Ev1) (ma mb : Ev) (env : Sls) : (mIf mt ma mb env : Res (D × Sls)) = (do
  let r ← mt env
  if r.1 = true then ma r.2 else mb r.2) := rfl
@[simp] theorem z_mNil (env : Sls) : (mNil env : Res (List D × Sls)) = (.ok ([], env)) := rfl
@[simp] theorem z_mCons (m : Ev) (ms : Evs) (env : Sls) : (mCons m ms env : Res (List D × Sls)) = (do
  let r1 ← m env
  let r2 ← ms r1.2
  pure (r1.1 :: r2.1, r2.2)) := rfl
@[simp] theorem z_mCallB (g : List D → Res D) (ms : Evs) (env : Sls) : (mCallB g ms env : Res (D × Sls)) = (do
  let r ← ms env
  let xs ← rsL r.2 r.1
  match g xs with
  | .ok d => pure (d, r.2)
  | _ => .bad) := rfl
@[simp] theorem z_mTup (ms : Evs) (env : Sls) : (mTup ms env : Res (D × Sls)) = (do
  let r ← ms env
  let xs ← kpL r.1
  if xs.length ≤ sizeLine then pure (.tup xs, r.2) else .bad) := rfl
@[simp] theorem z_mLst (ms : Evs) (env : Sls) : (mLst ms env : Res (D × Sls)) = (do
  let r ← ms env
  let xs ← kpL r.1
  if xs.length ≤ sizeLine then pure (.lst xs, r.2) else .bad) := rfl
@[simp] theorem z_mDic0 (env : Sls) : (mDic0 env : Res (D × Sls)) = (.ok (.dic [], env)) := rfl
@[simp] theorem z_subD (x y : D) : (subD x y : Res D) = (match x, y with
  | .int i, .int j => .ok (.int (i - j))
  | _, _ => .bad) := rfl
@[simp] theorem z_modD (x y : D) : (modD x y : Res D) = (match x, y with
  | .int i, .int j => if 0 < j then .ok (.int (i % j)) else .bad
  | _, _ => .bad) := rfl
@[simp] theorem z_cmpD (p : Int → Int → Bool) (x y : D) : (cmpD p x y : Res D) = (match x, y with
  | .int i, .int j => .ok (.bl (p i j))
  | _, _ => .bad) := rfl
@[simp] theorem z_isD (x y : D) : (isD x y : Res D) = (match x, y with
  | x, .non => (match x with
    | .non => .ok (.bl true)
    | .own _ => .bad
    | _ => .ok (.bl false))
  | .bl a, .bl b => .ok (.bl (decide (a = b)))
  | _, _ => .bad) := rfl
@[simp] theorem z_isntD (x y : D) : (isntD x y : Res D) = (match x, y with
  | x, .non => (match x with
    | .non => .ok (.bl false)
    | .own _ => .bad
    | _ => .ok (.bl true))
  | .bl a, .bl b => .ok (.bl (!decide (a = b)))
  | _, _ => .bad) := rfl
@[simp] theorem z_one (g : D → Res D) (ds : List D) : (one g ds : Res D) = (match ds with
  | [x] => g x
  | _ => .bad) := rfl
@[simp] theorem z_two (g : D → D → Res D) (ds : List D) : (two g ds : Res D) = (match ds with
  | [x, y] => g x y
  | _ => .bad) := rfl
@[simp] theorem z_lenD (x : D) : (lenD x : Res D) = (match x with
  | .lst xs => .ok (.int xs.length)
  | .tup xs => .ok (.int xs.length)
  | .str x => if x.length ≤ sizeLine then .ok (.int x.length) else .bad
  | .dic xs => .ok (.int xs.length)
  | .scr ns => .ok (.int ns.length)
  | _ => .bad) := rfl
@[simp] theorem z_maxD (x y : D) : (maxD x y : Res D) = (match x, y with
  | .int i, .int j => .ok (.int (if j > i then j else i))
  | _, _ => .bad) := rfl
@[simp] theorem z_minD (x y : D) : (minD x y : Res D) = (match x, y with
  | .int i, .int j => .ok (.int (if j < i then j else i))
  | _, _ => .bad) := rfl
@[simp] theorem z_intD (x : D) : (intD x : Res D) = (match x with
  | .int i => .ok (.int i)
  | .bl k => .ok (.int (if k then 1 else 0))
  | _ => .bad) := rfl
@[simp] theorem z_absD (x : D) : (absD x : Res D) = (match x with
  | .int i => .ok (.int (if i < 0 then -i else i))
  | _ => .bad) := rfl
@[simp] theorem z_tupD (x : D) : (tupD x : Res D) = (match x with
  | .lst xs => .ok (.tup xs)
  | .tup xs => .ok (.tup xs)
  | _ => .bad) := rfl
@[simp] theorem z_lstD (x : D) : (lstD x : Res D) = (match x with
  | .lst xs => .ok (.lst xs)
  | .tup xs => .ok (.lst xs)
  | _ => .bad) := rfl
@[simp] theorem z_dkey (y : D) : (dkey y : Option Key) = (match y with
  | .int i => some (.inl i)
  | .str x => some (.inr x)
  | _ => none) := rfl
@[simp] theorem isiX_t (n : String) (x : List D) : isiX n (.tup x) = isiD n (.tup x) := rfl
@[simp] theorem isiX_l (n : String) (x : List D) : isiX n (.lst x) = isiD n (.lst x) := rfl
@[simp] theorem isiX_i (n : String) (x : Int) : isiX n (.int x) = isiD n (.int x) := rfl
@[simp] theorem isiX_s (n : String) (x : Str) : isiX n (.str x) = isiD n (.str x) := rfl
@[simp] theorem isiX_b (n : String) (x : Bool) : isiX n (.bl x) = isiD n (.bl x) := rfl
@[simp] theorem isiX_n (n : String) : isiX n .non = isiD n .non := rfl
@[simp] theorem isiX_d (n : String) (x : List (Key × D)) : isiX n (.dic x) = isiD n (.dic x) := rfl
@[simp] theorem isiX_c (n : String) (x : List Int) : isiX n (.scr x) = isiD n (.scr x) := rfl
@[simp] theorem isiX_e (n : String) (c : Str) : isiX n (.exc c) = (if n ∈ ty6 then .ok (.bl false) else .bad) := rfl
@[simp] theorem x9 (c : Str) : kp (.exc c) = .ok (.exc c) := rfl
@[simp] theorem w11 (env : Sls) (c : Str) : rs env (.exc c) = .ok (.exc c) := rfl
@[simp] theorem y18e (c : Str) (ds : List D) : allKp (.exc c :: ds) = allKp ds := rfl
@[simp] theorem z_mIsi (n : String) (m : Ev) (env : Sls) : (mIsi n m env : Res (D × Sls)) = (do
  let r ← m env
  let x ← rs r.2 r.1
  match isiX n x with
  | .ok d => pure (d, r.2)
  | _ => .bad) := rfl
@[simp] theorem z_mNo (env : Sls) : (mNo env : Res (Option Int × Sls)) = (.ok (none, env)) := rfl
@[simp] theorem z_mPart (m : Ev) (env : Sls) : (mPart m env : Res (Option Int × Sls)) = (do
  let r ← m env
  match r.1 with
  | .int i => pure (some i, r.2)
  | _ => .bad) := rfl
@[simp] theorem z_mSl (g : D → Option Int → Option Int → Res D) (m : Ev) (ml mh : Eo) (env : Sls) : (mSl g m ml mh env : Res (D × Sls)) = (do
  let r ← m env
  let l ← ml r.2
  let h ← mh l.2
  let x ← rs h.2 r.1
  match g x l.1 h.1 with
  | .ok d => pure (d, h.2)
  | _ => .bad) := rfl
@[simp] theorem z_mCall (n : Nat) (fm : List D → Res D) (ms : Evs) (env : Sls) : (mCall n fm ms env : Res (D × Sls)) = (do
  let r ← ms env
  if r.1.length = n then
    if allKp r.1 = true then do
      let d ← fm r.1
      pure (d, r.2)
    else do
      let xs ← rsL r.2 r.1
      let d ← fm xs
      if d.flat = true then pure (d, r.2) else .bad
  else .bad) := rfl
@[simp] theorem z_mCall0 (fm : List D → Res D) (env : Sls) : (mCall0 fm env : Res (D × Sls)) = (  match fm [] with
  | .ok d => .ok (d, env)
  | _ => .bad) := rfl
@[simp] theorem z_mCallF (n : Nat) (fm : List D → Res D) (ms : Evs) (env : Sls) : (mCallF n fm ms env : Res (D × Sls)) = (do
  let r ← ms env
  if r.1.length = n then
    if allKp r.1 = true then do
      let d ← fm r.1
      pure (d, r.2)
    else .bad
  else .bad) := rfl
@[simp] theorem z_mCallJ (n : Nat) (fm : D → List D → Res (D × D)) (ms : Evs) (env : Sls) : (mCallJ n fm ms env : Res (D × Sls)) = (do
  let r ← ms env
  if r.1.length = n then
    match r.1 with
    | .own i :: ds =>
      if allKp ds = true then
        match r.2[i]? with
        | some (.l c) => (match fm c ds with
          | .ok q => pure (q.1, r.2.set i (.l q.2))
          | _ => .bad)
        | some (.p c) => (match fm c ds with
          | .ok q => pure (q.1, r.2.set i (.p q.2))
          | _ => .bad)
        | _ => .bad
      else .bad
    | _ => .bad
  else .bad) := rfl
@[simp] theorem z_mApp (i : Nat) (m : Ev) (env : Sls) : (mApp i m env : Res (D × Sls)) = (  match env[i]?.bind Sl.con with
  | some (.lst _) => do
    let r ← m env
    let d ← kp r.1
    match r.2[i]? with
    | some s => (match s.con with
      | some (.lst ds) => if ds.length < sizeLine then pure (.non, r.2.set i (s.put (.lst (ds ++ [d])))) else .bad
      | _ => .bad)
    | _ => .bad
  | _ => .bad) := rfl
@[simp] theorem z_mSeq (m : Ev) (env : Sls) : (mSeq m env : Res (List D × Sls)) = (do
  let r ← m env
  match r.1 with
  | .lst ds => pure (ds, r.2)
  | .tup ds => pure (ds, r.2)
  | _ => .bad) := rfl
@[simp] theorem z_gmN (i : Nat) (d : D) (env : Sls) : (gmN i d env : Res Sls) = (if notPar env i = true then .ok (env.set i (.t d)) else .bad) := rfl
@[simp] theorem z_gmNil (ds : List D) (env : Sls) : (gmNil ds env : Res Sls) = (match ds with
  | [] => .ok env
  | _ => .bad) := rfl
@[simp] theorem z_gmCons (g : Gv) (gs : List D → Sls → Res Sls) (ds : List D) (env : Sls) : (gmCons g gs ds env : Res Sls) = (match ds with
  | d :: ds => do
    let e ← g d env
    gs ds e
  | _ => .bad) := rfl
@[simp] theorem z_gmT (n : Nat) (gs : List D → Sls → Res Sls) (d : D) (env : Sls) : (gmT n gs d env : Res Sls) = (match d with
  | .tup ds => if ds.length = n then gs ds env else .bad
  | _ => .bad) := rfl
@[simp] theorem z_noE {α : Type} (r : Res α) : (noE r : Res α) = (match r with
  | .err _ => .bad
  | r => r) := rfl
@[simp] theorem z_mLc (mi : Em) (vs : List Nat) (g : Gv) (tt : Ev1) (me : Ev) (env : Sls) : (mLc mi vs g tt me env : Res (D × Sls)) = (do
  let r ← mi env
  if okWipe r.2 vs = true then do
    let q ← lcL vs g tt me r.1 (wipeE r.2 vs)
    pure (.lst q.1, backE r.2 q.2 vs)
  else .bad) := rfl
@[simp] theorem z_mYes (env : Sls) : (mYes env : Res (Bool × Sls)) = (.ok (true, env)) := rfl
@[simp] theorem z_mSk (env : Sls) : (mSk env : Res (Out × Sls)) = (.ok (.next, env)) := rfl
@[simp] theorem z_mSq (m1 m2 : Sv) (env : Sls) : (mSq m1 m2 env : Res (Out × Sls)) = (do
  let r ← m1 env
  match r.1 with
  | .next => m2 r.2
  | o => pure (o, r.2)) := rfl
@[simp] theorem z_mBrk (env : Sls) : (mBrk env : Res (Out × Sls)) = (.ok (.brk, env)) := rfl
@[simp] theorem z_mCnt (env : Sls) : (mCnt env : Res (Out × Sls)) = (.ok (.cont, env)) := rfl
@[simp] theorem z_mSet (i : Nat) (m : Ev) (env : Sls) : (mSet i m env : Res (Out × Sls)) = (do
  let r ← m env
  let d ← kp r.1
  if notPar r.2 i = true then pure (.next, r.2.set i (.t d)) else .bad) := rfl
@[simp] theorem z_mSetL (i : Nat) (m : Ev) (env : Sls) : (mSetL i m env : Res (Out × Sls)) = (do
  let r ← m env
  if notPar r.2 i = true then pure (.next, r.2.set i (.l r.1)) else .bad) := rfl
@[simp] theorem z_mUnp (gv : Gv) (m : Ev) (env : Sls) : (mUnp gv m env : Res (Out × Sls)) = (do
  let r ← m env
  let d ← kp r.1
  let e ← noE (gv d r.2)
  pure (.next, e)) := rfl
@[simp] theorem z_mExp (m : Ev) (env : Sls) : (mExp m env : Res (Out × Sls)) = (do
  let r ← m env
  pure (.next, r.2)) := rfl
@[simp] theorem z_mIfS (mt : Ev1) (m1 m2 : Sv) (env : Sls) : (mIfS mt m1 m2 env : Res (Out × Sls)) = (do
  let r ← mt env
  if r.1 = true then m1 r.2 else m2 r.2) := rfl
@[simp] theorem z_mRet (m : Ev) (env : Sls) : (mRet m env : Res (Out × Sls)) = (do
  let r ← m env
  let d ← kp r.1
  pure (.ret d, r.2)) := rfl
@[simp] theorem z_mRetN (env : Sls) : (mRetN env : Res (Out × Sls)) = (.ok (.ret .non, env)) := rfl
@[simp] theorem z_mRetL (i : Nat) (env : Sls) : (mRetL i env : Res (Out × Sls)) = (  match env[i]? with
  | some (.l d) => .ok (.ret d, env.set i .u)
  | _ => .bad) := rfl
@[simp] theorem z_mRai (x : Str) (env : Sls) : (mRai x env : Res (Out × Sls)) = (.err x) := rfl
@[simp] theorem z_mFor (mi : Em) (gv : Gv) (b : Sv) (env : Sls) : (mFor mi gv b env : Res (Out × Sls)) = (do
  let r ← mi env
  forL gv b r.1 r.2) := rfl
@[simp] theorem z_mPut (i : Nat) (mi mv : Ev) (env : Sls) : (mPut i mi mv env : Res (Out × Sls)) = (do
  let r1 ← mv env
  let d ← kp r1.1
  match r1.2[i]?.bind Sl.con with
  | some _ => do
    let r2 ← mi r1.2
    let y ← rs r2.2 r2.1
    match r2.2[i]? with
    | some s => (match s.con with
      | some c => (match putAt c y d with
        | .ok c' => pure (.next, r2.2.set i (s.put c'))
        | _ => .bad)
      | none => .bad)
    | none => .bad
  | none => .bad) := rfl
@[simp] theorem z_envOf (n : Nat) (ds : List D) : (envOf n ds : Sls) = (ds.map Sl.t ++ List.replicate (n - ds.length) .u) := rfl
@[simp] theorem z_run (n : Nat) (m : Sv) (ds : List D) : (run n m ds : Res D) = (
  match m (envOf n ds) with
  | .ok (.ret d, _) => .ok d
  | .ok (.next, _) => .ok .non
  | .ok _ => .bad
  | .err c => .err c
  | .bad => .bad) := rfl
@[simp] theorem z_noneD (d : D) : (noneD d : Bool) = (match d with
  | .non => true
  | _ => false) := rfl
@[simp] theorem z_runF (n : Nat) (m : Sv) (ds : List D) : (runF n m ds : Res D) = (
  match m (envOf n ds) with
  | .ok (.ret d, _) => if noneD d = true then .bad else .ok d
  | .ok _ => .bad
  | .err c => .err c
  | .bad => .bad) := rfl
@[simp] theorem z_runG (n : Nat) (m : Sv) (ds : List D) : (runG n m ds : Res D) = (
  match m (envOf n ds) with
  | .ok (.ret d, _) => .ok d
  | .ok (.next, _) => .ok .non
  | .ok _ => .bad
  | .err c => .err c
  | .bad => .bad) := rfl
@[simp] theorem z_envJ (n : Nat) (j : D) (ds : List D) : (envJ n j ds : Sls) = (.p j :: (ds.map Sl.t ++ List.replicate (n - ds.length - 1) .u)) := rfl
@[simp] theorem z_runJ (n : Nat) (m : Sv) (j : D) (ds : List D) : (runJ n m j ds : Res (D × D)) = (
  match m (envJ n j ds) with
  | .ok (.ret d, e) => (match (e[0]? : Option Sl) with
    | some (.p j') => .ok (d, j')
    | _ => .bad)
  | .ok (.next, e) => (match (e[0]? : Option Sl) with
    | some (.p j') => .ok (.non, j')
    | _ => .bad)
  | _ => .bad) := rfl
@[simp] theorem z_negD (x : D) : (negD x : Res D) = (match x with
  | .int i => .ok (.int (-i))
  | _ => .bad) := rfl
@[simp] theorem z_mUn (g : D → Res D) (m : Ev) (env : Sls) : (mUn g m env : Res (D × Sls)) = (do
  let r ← m env
  let x ← rs r.2 r.1
  match g x with
  | .ok d => pure (d, r.2)
  | _ => .bad) := rfl
@[simp] theorem z_sliceD (x : D) (lo hi : Option Int) : (sliceD x lo hi : Res D) = (match x with
  | .lst xs => .ok (.lst (cutD xs lo hi))
  | .tup xs => .ok (.tup (cutD xs lo hi))
  | .scr ns => .ok (.lst (cutD (ns.map D.int) lo hi))
  | _ => .bad) := rfl
@[simp] theorem z_mCallK (n : Nat) (is : List Nat) (fm : List D → Res D) (ms : Evs) (env : Sls) : (mCallK n is fm ms env : Res (D × Sls)) = (do
  let r ← ms env
  if r.1.length = is.length ∧ (pick is r.1).length = n ∧ allKp (pick is r.1) = true then do
    let d ← fm (pick is r.1)
    pure (d, r.2)
  else .bad) := rfl
@[simp] theorem z_mIsi2 (n1 n2 : String) (m : Ev) (env : Sls) : (mIsi2 n1 n2 m env : Res (D × Sls)) = (do
  let r ← m env
  let x ← rs r.2 r.1
  match isi2D n1 n2 x with
  | .ok d => pure (d, r.2)
  | _ => .bad) := rfl
@[simp] theorem z_mWh (f : Sls → Nat) (mt : Ev1) (mb : Sv) (env : Sls) : (mWh f mt mb env : Res (Out × Sls)) = (whL mt mb (f env) env) := rfl
@[simp] theorem z_mChain (g g' : D → D → Res D) (ma mb mc : Ev) (env : Sls) : (mChain g g' ma mb mc env : Res (D × Sls)) = (do
  let r1 ← ma env
  let r2 ← mb r1.2
  let x ← rs r2.2 r1.1
  let y ← rs r2.2 r2.1
  match g x y with
  | .ok (.bl true) =>
    let r3 ← mc r2.2
    let y ← rs r3.2 r2.1
    let z ← rs r3.2 r3.1
    match g' y z with
    | .ok d => pure (d, r3.2)
    | _ => .bad
  | .ok (.bl false) => pure (.bl false, r2.2)
  | _ => .bad) := rfl
@[simp] theorem z_mGive (i : Nat) (env : Sls) : (mGive i env : Res (D × Sls)) = (  match env[i]? with
  | some (.l d) => .ok (d, env.set i (.t d))
  | _ => .bad) := rfl
theorem rg1_ex : ∃ f : Int → Bool, ∀ j, (f j = true) = (-4611686018427387904 ≤ j ∧ j ≤ 16777216) := ⟨fun j => decide (-4611686018427387904 ≤ j ∧ j ≤ 16777216), fun j => decide_eq_true_eq⟩
theorem rg2_ex : ∃ f : Int × Int → Bool, ∀ p, (f p = true) = (-4611686018427387904 ≤ p.1 ∧ p.1 < 4611686018427387904 ∧ -4611686018427387904 ≤ p.2 ∧ p.2 < 4611686018427387904 ∧ p.2 - p.1 ≤ 16777216) := ⟨fun p => decide (-4611686018427387904 ≤ p.1 ∧ p.1 < 4611686018427387904 ∧ -4611686018427387904 ≤ p.2 ∧ p.2 < 4611686018427387904 ∧ p.2 - p.1 ≤ 16777216), fun p => decide_eq_true_eq⟩
noncomputable def rg1 : Int → Bool := Classical.choose rg1_ex
noncomputable def rg2 : Int × Int → Bool := Classical.choose rg2_ex
theorem rg1_eq (j : Int) : (rg1 j = true) = (-4611686018427387904 ≤ j ∧ j ≤ 16777216) := Classical.choose_spec rg1_ex j
theorem rg2_eq (p : Int × Int) : (rg2 p = true) = (-4611686018427387904 ≤ p.1 ∧ p.1 < 4611686018427387904 ∧ -4611686018427387904 ≤ p.2 ∧ p.2 < 4611686018427387904 ∧ p.2 - p.1 ≤ 16777216) := Classical.choose_spec rg2_ex p
theorem rg1_ok {j : Int} (h : -16777216 ≤ j) (h2 : j ≤ 16777216) : rg1 j = true := by rw [rg1_eq]; omega
theorem rg2_ok {i j : Int} (h : -1000000 ≤ i) (h2 : i ≤ 1000000) (h3 : -1000000 ≤ j) (h4 : j ≤ 1000000) : rg2 (i, j) = true := by rw [rg2_eq]; simp only; omega
@[simp] theorem rg1_lit (j : Nat) (h : j ≤ 16777216) : rg1 (j : Int) = true := rg1_ok (by omega) (by omega)
@[simp] theorem z_mRng1 (ms : Evs) (env : Sls) : mRng1 ms env = (do
  let r ← ms env
  match int1 r.1 with
  | some j => if rg1 j = true then pure (rangeD 0 j.toNat, r.2) else .bad
  | none => .bad) := by
  unfold mRng1
  simp only [rg1_eq] <;> rfl
@[simp] theorem z_mRng2 (ms : Evs) (env : Sls) : mRng2 ms env = (do
  let r ← ms env
  match int2 r.1 with
  | some p => if rg2 p = true then pure (rangeD p.1 (p.2 - p.1).toNat, r.2) else .bad
  | none => .bad) := by
  unfold mRng2
  simp only [rg2_eq] <;> rfl
@[simp] theorem sz_lit (n : Nat) (h : n ≤ 1000000 := by decide) : (n ≤ sizeLine) = True := eq_true (Nat.le_trans h (by decide))
@[simp] theorem sz_lt (n : Nat) (h : n < 1000000) : (n < sizeLine) = True := eq_true (Nat.lt_of_lt_of_le h (by decide))
def np (s : Sl) : Bool := match s with
  | .p _ => false
  | _ => true
@[simp] theorem n0 (s : Sl) (e : Sls) : notPar (s :: e) 0 = np s := by cases s <;> rfl
@[simp] theorem n1 (s : Sl) (e : Sls) (i : Nat) : notPar (s :: e) (i + 1) = notPar e i := by
  unfold notPar
  rw [List.getElem?_cons_succ]
@[simp] theorem n2 (d : D) : np (.t d) = true := rfl
@[simp] theorem n3 (d : D) : np (.l d) = true := rfl
@[simp] theorem n4 : np .u = true := rfl
@[simp] theorem n5 (d : D) : np (.r d) = true := rfl
@[simp] theorem n6 (d : D) : np (.p d) = false := rfl
@[simp] theorem v4 (i j : Int) : powD (.int i) (.int j) = (if 0 ≤ j ∧ j ≤ 1000000 ∧ i.natAbs < 2 ^ 64 then .ok (.int (i ^ j.toNat)) else .bad) := rfl
@[simp] theorem v0 (i j : Int) : addD (.int i) (.int j) = .ok (.int (i + j)) := rfl
@[simp] theorem v1 (a b : List D) : addD (.lst a) (.lst b) = (if a.length + b.length ≤ sizeLine then .ok (.lst (a ++ b)) else .bad) := rfl
@[simp] theorem v2 (a b : List D) : addD (.tup a) (.tup b) = (if a.length + b.length ≤ sizeLine then .ok (.tup (a ++ b)) else .bad) := rfl
@[simp] theorem v3 (a b : Str) : addD (.str a) (.str b) = (if a.length + b.length ≤ sizeLine then .ok (.str (a ++ b)) else .bad) := rfl
@[simp] theorem x0 (i : Bool) : kp (.bl i) = .ok (.bl i) := rfl
@[simp] theorem w0 (env : Sls) (i : Bool) : rs env (.bl i) = .ok (.bl i) := rfl
@[simp] theorem x1 (i : Int) : kp (.int i) = .ok (.int i) := rfl
@[simp] theorem w1 (env : Sls) (i : Int) : rs env (.int i) = .ok (.int i) := rfl
@[simp] theorem x2 (i : Str) : kp (.str i) = .ok (.str i) := rfl
@[simp] theorem w2 (env : Sls) (i : Str) : rs env (.str i) = .ok (.str i) := rfl
@[simp] theorem x3 (i : List D) : kp (.tup i) = .ok (.tup i) := rfl
@[simp] theorem w3 (env : Sls) (i : List D) : rs env (.tup i) = .ok (.tup i) := rfl
@[simp] theorem x4 (i : List D) : kp (.lst i) = .ok (.lst i) := rfl
@[simp] theorem w4 (env : Sls) (i : List D) : rs env (.lst i) = .ok (.lst i) := rfl
@[simp] theorem x5 (i : List (Key × D)) : kp (.dic i) = .ok (.dic i) := rfl
@[simp] theorem w5 (env : Sls) (i : List (Key × D)) : rs env (.dic i) = .ok (.dic i) := rfl
@[simp] theorem x6 (i : List Int) : kp (.scr i) = .ok (.scr i) := rfl
@[simp] theorem w6 (env : Sls) (i : List Int) : rs env (.scr i) = .ok (.scr i) := rfl
@[simp] theorem x7 : kp .non = .ok .non := rfl
@[simp] theorem w7 (env : Sls) : rs env .non = .ok .non := rfl
@[simp] theorem x8 (i : Nat) : kp (.own i) = .bad := rfl
@[simp] theorem w8 (env : Sls) (i : Nat) : rs env (.own i) = (match env[i]? with
    | some (.t d) => .ok d
    | some (.l d) => .ok d
    | some (.p d) => .ok d
    | some (.r d) => .ok d
    | _ => .bad) := rfl
@[simp] theorem w9 (i : Int) : int1 [.int i] = some i := rfl
@[simp] theorem w10 (i j : Int) : int2 [.int i, .int j] = some (i, j) := rfl
@[simp] theorem y1 {α β : Type} (a : α) (f : α → Res β) : (Res.ok a >>= f) = f a := rfl
@[simp] theorem y2 {α β : Type} (c : Str) (f : α → Res β) : ((Res.err c : Res α) >>= f) = Res.err c := rfl
@[simp] theorem y3 {α β : Type} (f : α → Res β) : ((Res.bad : Res α) >>= f) = Res.bad := rfl
@[simp] theorem y4 {α : Type} (a : α) : (pure a : Res α) = Res.ok a := rfl
@[simp] theorem y5 (env : Sls) : rsL env [] = .ok [] := rfl
@[simp] theorem y6 (env : Sls) (d : D) (ds : List D) : rsL env (d :: ds) = (do
    let x ← rs env d
    let xs ← rsL env ds
    pure (x :: xs)) := rfl
@[simp] theorem y7 : kpL [] = .ok [] := rfl
@[simp] theorem y8 (d : D) (ds : List D) : kpL (d :: ds) = (do
    let x ← kp d
    let xs ← kpL ds
    pure (x :: xs)) := rfl
@[simp] theorem y9 : allKp [] = true := rfl
@[simp] theorem y10 (i : Nat) (ds : List D) : allKp (.own i :: ds) = false := rfl
@[simp] theorem y11 (i : Int) (ds : List D) : allKp (.int i :: ds) = allKp ds := rfl
@[simp] theorem y12 (i : List D) (ds : List D) : allKp (.tup i :: ds) = allKp ds := rfl
@[simp] theorem y13 (i : Bool) (ds : List D) : allKp (.bl i :: ds) = allKp ds := rfl
@[simp] theorem y14 (i : Str) (ds : List D) : allKp (.str i :: ds) = allKp ds := rfl
@[simp] theorem y15 (ds : List D) : allKp (.non :: ds) = allKp ds := rfl
@[simp] theorem y16 (i : List D) (ds : List D) : allKp (.lst i :: ds) = allKp ds := rfl
@[simp] theorem y17 (i : List (Key × D)) (ds : List D) : allKp (.dic i :: ds) = allKp ds := rfl
@[simp] theorem y18 (i : List Int) (ds : List D) : allKp (.scr i :: ds) = allKp ds := rfl
@[simp] theorem y19 (env : Sls) : wipeE env [] = env := rfl
@[simp] theorem y20 (env : Sls) (v : Nat) (vs : List Nat) : wipeE env (v :: vs) = (wipeE env vs).set v .u := rfl
@[simp] theorem y21 (b env : Sls) : backE b env [] = env := rfl
@[simp] theorem y22 (b env : Sls) (v : Nat) (vs : List Nat) : backE b env (v :: vs) = (backE b env vs).set v (b.getD v .u) := rfl
@[simp] theorem y23 (env : Sls) : okWipe env [] = true := rfl
@[simp] theorem y24 (env : Sls) (v : Nat) (vs : List Nat) : okWipe env (v :: vs) = ((match env[v]? with
  | some .u => true
  | some (.t _) => true
  | _ => false) && okWipe env vs) := rfl
@[simp] theorem y25 (d : D) : (Sl.l d).con = some d := rfl
@[simp] theorem y26 (d : D) : (Sl.p d).con = some d := rfl
@[simp] theorem y27 (d e : D) : (Sl.l d).put e = .l e := rfl
@[simp] theorem y28 (d e : D) : (Sl.p d).put e = .p e := rfl
@[simp] theorem y29 (ds : List D) (i : Int) : ixD (.lst ds) (.int i) = (match L2.atI ds i with | some d => .ok d | none => .bad) := rfl
@[simp] theorem y30 (ds : List D) (i : Int) : ixD (.tup ds) (.int i) = (match L2.atI ds i with | some d => .ok d | none => .bad) := rfl
@[simp] theorem y31 (ds : List D) (y : D) : ixA (.lst ds) y = ixD (.lst ds) y := rfl
@[simp] theorem y32 (ds : List D) (y : D) : ixA (.tup ds) y = ixD (.tup ds) y := rfl
@[simp] theorem y33 (ds : List (Key × D)) (y : D) : ixA (.dic ds) y = (match dkey y with
    | some k => (match valD ds k with | some d => .ok d | none => .bad)
    | none => .bad) := rfl
@[simp] theorem y34 {α : Type} (x : α) (xs : List α) : L2.atI (x :: xs) 0 = some x := by unfold L2.atI L2.ixN; rw [if_pos (by decide), if_pos (by simp only [List.length_cons]; omega)]; rfl
@[simp] theorem y35 {α : Type} (x y : α) (xs : List α) : L2.atI (x :: y :: xs) 1 = some y := by unfold L2.atI L2.ixN; rw [if_pos (by decide), if_pos (by simp only [List.length_cons]; omega)]; rfl
@[simp] theorem y36 {α : Type} (x y z : α) (xs : List α) : L2.atI (x :: y :: z :: xs) 2 = some z := by unfold L2.atI L2.ixN; rw [if_pos (by decide), if_pos (by simp only [List.length_cons]; omega)]; rfl
@[simp] theorem y37 {α : Type} (x y z u : α) (xs : List α) : L2.atI (x :: y :: z :: u :: xs) 3 = some u := by unfold L2.atI L2.ixN; rw [if_pos (by decide), if_pos (by simp only [List.length_cons]; omega)]; rfl
theorem atI_ok {α : Type} {xs : List α} {i : Int} (h : 0 ≤ i) (h2 : i < xs.length) : ∃ (q : i.toNat < xs.length), L2.atI xs i = some (xs[i.toNat]) := by
  refine ⟨by omega, ?_⟩
  unfold L2.atI L2.ixN
  rw [if_pos h, if_pos h2]
  simp
@[simp] theorem y38 (ds : List D) (i : Int) (d : D) : putAt (.lst ds) (.int i) d = (match L2.ixN ds.length i with
      | some j => .ok (.lst (ds.set j d))
      | none => .bad) := rfl
@[simp] theorem y39 (ds : List (Key × D)) (y d : D) : putAt (.dic ds) y d = (match dkey y with
    | some k => if ds.length < sizeLine then .ok (.dic (putD ds k d)) else .bad
    | none => .bad) := rfl
@[simp] theorem y40 (ds : List D) : isiD "tuple" (.tup ds) = .ok (.bl true) := rfl
@[simp] theorem y41 (i : Int) : isiD "int" (.int i) = .ok (.bl true) := rfl
@[simp] theorem y42 (i : Int) : isiD "bool" (.int i) = .ok (.bl false) := rfl
@[simp] theorem y43 (i : Str) : isiD "str" (.str i) = .ok (.bl true) := rfl
@[simp] theorem y44 (i : List D) : isiD "list" (.lst i) = .ok (.bl true) := rfl
@[simp] theorem y45 (i j : Int) : eqD (.int i) (.int j) = .ok (.bl (decide (i = j))) := rfl
@[simp] theorem y46 (i j : Str) : eqD (.str i) (.str j) = .ok (.bl (decide (i = j))) := rfl
@[simp] theorem y47 (i j : Int) : neD (.int i) (.int j) = .ok (.bl (!decide (i = j))) := rfl
@[simp] theorem y48 (i j : Str) : neD (.str i) (.str j) = .ok (.bl (!decide (i = j))) := rfl
@[simp] theorem y49 (gv : Gv) (b : Sv) (env : Sls) : forL gv b [] env = .ok (.next, env) := rfl
@[simp] theorem y51 (vs : List Nat) (gv : Gv) (t : Ev1) (m : Ev) (env : Sls) : lcL vs gv t m [] env = .ok ([], env) := rfl
theorem log_lt {n k : Nat} (h : n < 2 ^ (k + 1)) : n.log2 < k + 1 := by
  by_cases z : n = 0
  · subst z; simp
  · exact (Nat.log2_lt z).mpr h
theorem pow_le {a b : Nat} (h : a ≤ b) : 2 ^ a ≤ 2 ^ b := Nat.pow_le_pow_right (by decide) h
theorem mul_ok {i j : Int} (a : i.natAbs < 2 ^ 250) (b : j.natAbs < 2 ^ 250) : mulD (.int i) (.int j) = .ok (.int (i * j)) := by
  have h1 := log_lt (k := 249) a
  have h2 := log_lt (k := 249) b
  show (if i.natAbs.log2 + j.natAbs.log2 < 1000000 then Res.ok (D.int (i * j)) else .bad) = _
  rw [if_pos (by omega)]
theorem div_ok {i j : Int} (a : 0 < j) (b : j.natAbs < 2 ^ 250) : divD (.int i) (.int j) = .ok (.int (i / j)) := by
  have h2 := log_lt (k := 249) b
  show (if 0 < j ∧ j.natAbs.log2 < 9000 then Res.ok (D.int (i / j)) else .bad) = _
  rw [if_pos ⟨a, by omega⟩]
theorem str_ok {i : Int} (a : i.natAbs < 2 ^ 250) : strI (.int i) = .ok (.str (toString i)) := by
  have h1 := log_lt (k := 249) a
  show (if i.natAbs.log2 < 1920 then Res.ok (D.str (toString i)) else Res.bad) = _
  rw [if_pos (by omega)]
@[simp] theorem pick10 {α : Type} (a b : α) : pick [1, 0] [a, b] = [b, a] := rfl
@[simp] theorem pick01 {α : Type} (a b : α) : pick [0, 1] [a, b] = [a, b] := rfl
@[simp] theorem pick0 {α : Type} (a : α) : pick [0] [a] = [a] := rfl
theorem bd_mul {i j : Int} {a b : Nat} (h : i.natAbs ≤ a) (h2 : j.natAbs ≤ b) : (i * j).natAbs ≤ a * b := by
  rw [Int.natAbs_mul]
  exact Nat.mul_le_mul h h2
theorem bd_add {i j : Int} {a b : Nat} (h : i.natAbs ≤ a) (h2 : j.natAbs ≤ b) : (i + j).natAbs ≤ a + b := by omega
theorem bd_sub {i j : Int} {a b : Nat} (h : i.natAbs ≤ a) (h2 : j.natAbs ≤ b) : (i - j).natAbs ≤ a + b := by omega
/-- a loop: an invariant of what is behind it -/
theorem forL_inv {gv : Gv} {b : Sv} (I : Nat → Sls → Prop) : ∀ (ds : List D) (env : Sls) (n : Nat), I n env →
    (∀ (i : Nat) (d : D) (e : Sls), ds[i]? = some d → I (n + i) e → ∃ e1 e2, gv d e = .ok e1 ∧ (b e1 = .ok (.next, e2) ∨ b e1 = .ok (.cont, e2)) ∧ I (n + i + 1) e2) →
    ∃ e', forL gv b ds env = .ok (.next, e') ∧ I (n + ds.length) e'
  | [], env, n, h, _ => ⟨env, rfl, h⟩
  | d :: ds, env, n, h, hs => by
    obtain ⟨e1, e2, h1, h2, h3⟩ := hs 0 d env rfl h
    obtain ⟨e', q, r⟩ := forL_inv I ds e2 (n + 1) h3 (fun i x e hx hi => by
      have := hs (i + 1) x e (by simpa using hx) (by rw [← Nat.add_assoc, Nat.add_right_comm]; exact hi)
      rw [← Nat.add_assoc, Nat.add_right_comm n i 1] at this
      exact this)
    refine ⟨e', ?_, by rw [List.length_cons, Nat.add_comm ds.length, ← Nat.add_assoc]; exact r⟩
    unfold forL
    rw [h1]
    rcases h2 with h2 | h2
    · simp [h2, q]
    · simp [h2, q]
/-- a comprehension: each item's value -/
theorem lcL_map {vs : List Nat} {gv : Gv} {t : Ev1} {m : Ev} {env : Sls} (f : D → D) : ∀ (ds : List D), (∀ d ∈ ds, ∃ e1 b e3, gv d env = .ok e1 ∧ t e1 = .ok (true, b) ∧ m b = .ok (f d, e3) ∧ kp (f d) = .ok (f d) ∧ wipeE e3 vs = env) →
    lcL vs gv t m ds env = .ok (ds.map f, env)
  | [], _ => rfl
  | d :: ds, h => by
    obtain ⟨e1, b, e3, h1, h2, h3, h4, h5⟩ := h d (.head _)
    have ih := lcL_map (vs := vs) (gv := gv) (t := t) (m := m) f ds fun x hx => h x (.tail _ hx)
    unfold lcL
    rw [h1]
    simp [h2, h3, h4, h5, ih]
/-! dicts with whole keys -/
def ki (p : Int × D) : Key × D := (.inl p.1, p.2)
def putP (ps : List (Int × D)) (c : Int) (d : D) : List (Int × D) := if (ps.any fun p => decide (p.1 = c)) = true then ps.map (fun p => if p.1 = c then (p.1, d) else p) else ps ++ [(c, d)]
def getP (ps : List (Int × D)) (c : Int) : Option D := (ps.find? fun p => decide (p.1 = c)).map (·.2)
@[simp] theorem ki_inl (c b : Int) : ((Sum.inl c : Key) = Sum.inl b) = (c = b) := by
  apply propext
  exact ⟨fun h => by cases h; rfl, fun h => by rw [h]⟩
theorem putD_ki (ps : List (Int × D)) (c : Int) (d : D) : putD (ps.map ki) (.inl c) d = (putP ps c d).map ki := by
  unfold putD putP
  have e : ((ps.map ki).any fun kv => decide (kv.1 = (Sum.inl c : Key))) = ps.any fun p => decide (p.1 = c) := by
    rw [List.any_map]
    congr 1
    funext p
    exact decide_eq_decide.mpr ⟨fun h => by cases p; cases h; rfl, fun h => by cases p; cases h; rfl⟩
  rw [e]
  split
  · rw [List.map_map, List.map_map]
    refine List.map_congr_left fun p _ => ?_
    by_cases h : p.1 = c
    · simp [ki, h]
    · simp only [Function.comp, if_neg h]
      rw [if_neg]
      intro z
      exact h (by cases p; cases z; rfl)
  · simp [ki]
theorem keysI_ki : ∀ ps : List (Int × D), keysI (ps.map ki) = some (ps.map (·.1))
  | [] => rfl
  | p :: ps => by
    show (keysI (ps.map ki)).map (p.1 :: ·) = _
    rw [keysI_ki ps]
    rfl
theorem valD_ki : ∀ (ps : List (Int × D)) (c : Int), valD (ps.map ki) (.inl c) = getP ps c
  | [], c => rfl
  | p :: ps, c => by
    have ih := valD_ki ps c
    unfold valD getP at *
    by_cases h : p.1 = c
    · rw [List.map_cons, List.find?_cons_of_pos, List.find?_cons_of_pos (by simpa using h)]
      · rfl
      · simp only [decide_eq_true_eq]; show (Sum.inl p.1 : Key) = _; rw [h]
    · rw [List.map_cons, List.find?_cons_of_neg, List.find?_cons_of_neg (by simpa using h)]
      · exact ih
      · simp only [decide_eq_true_eq]; intro z; exact h (by cases p; cases z; rfl)
theorem putP_len (ps : List (Int × D)) (c : Int) (d : D) : (putP ps c d).length ≤ ps.length + 1 := by
  unfold putP
  split <;> simp
theorem putP_mem {ps : List (Int × D)} {c : Int} {d : D} {q : Int × D} (h : q ∈ putP ps c d) : q = (c, d) ∨ q ∈ ps := by
  unfold putP at h
  split at h
  · obtain ⟨p, hp, e⟩ := List.mem_map.mp h
    split at e
    · rename_i z; left; rw [← e, z]
    · right; rw [← e]; exact hp
  · rcases List.mem_append.mp h with h | h
    · exact .inr h
    · left; simpa using h
theorem putP_nodup {ps : List (Int × D)} (c : Int) (d : D) (h : (ps.map (·.1)).Nodup) : ((putP ps c d).map (·.1)).Nodup := by
  unfold putP
  split
  · have e : (ps.map (fun p => if p.1 = c then (p.1, d) else p)).map (·.1) = ps.map (·.1) := by
      rw [List.map_map]
      refine List.map_congr_left fun p _ => ?_
      by_cases z : p.1 = c <;> simp [z]
    rw [e]; exact h
  · rename_i z
    rw [List.map_append, List.nodup_append]
    refine ⟨h, by simp, fun a ha b hb => ?_⟩
    simp at hb
    subst hb
    rintro rfl
    apply z
    obtain ⟨p, hp, e⟩ := List.mem_map.mp ha
    exact List.any_eq_true.mpr ⟨p, hp, by simpa using e⟩
theorem getP_mem {ps : List (Int × D)} {c : Int} (h : c ∈ ps.map (·.1)) : ∃ d, getP ps c = some d ∧ (c, d) ∈ ps := by
  obtain ⟨p, hp, e⟩ := List.mem_map.mp h
  cases q : ps.find? (fun p => decide (p.1 = c)) with
  | none =>
    have := List.find?_eq_none.mp q p hp
    simp [e] at this
  | some x =>
    have h1 := List.find?_some q
    have h2 := List.mem_of_find?_eq_some q
    simp at h1
    exact ⟨x.2, by simp [getP, q], by rw [← h1]; exact h2⟩
theorem sortI_lt {ns : List Int} (h : ns.Nodup) : (sortI ns).Pairwise (· < ·) := by
  have h1 := sortI_sorted ns
  have h2 : (sortI ns).Nodup := (sortI_perm ns).nodup_iff.mpr h
  exact (h1.and h2).imp fun ⟨a, b⟩ => by omega
theorem cut_head {xs : List D} (k : Nat) : cutD xs none (some (k : Int)) = xs.take k := by
  unfold cutD
  rw [HT.sIx_none, HT.sIx_nat]
  simp
theorem bls_true {α : Type} : ∀ (xs : List α), blsD (xs.map fun _ => D.bl true) = some (xs.map fun _ => true)
  | [] => rfl
  | x :: xs => by simp only [List.map_cons, blsD, bls_true xs]; rfl
@[simp] theorem all_true {α : Type} (xs : List α) : onB (fun ns => .ok (.bl (ns.all id))) (.lst (xs.map fun _ => D.bl true)) = .ok (.bl true) := by
  simp [onB, bls_true]
theorem ints_mapf {α : Type} (f : α → Int) : ∀ (xs : List α), intsD (xs.map fun x => D.int (f x)) = some (xs.map f)
  | [] => rfl
  | x :: xs => by simp only [List.map_cons, intsD, ints_mapf f xs]; rfl
@[simp] theorem sum_mapf {α : Type} (f : α → Int) (xs : List α) : onI (fun ns => .ok (.int ns.sum)) (.lst (xs.map fun x => D.int (f x))) = .ok (.int (xs.map f).sum) := by
  simp [onI, ints_mapf]

end Vm
end
section
set_option maxRecDepth 100000
set_option maxHeartbeats 4000000
/-! Vm, part L: in, lists times numbers. -/
namespace Vm
open PySem PySem.Spec PyProof.Rows L2
section
variable {K : PySem.W.Frag}
/-! ### x in a list or tuple of flat items -/
def flV (d : D) : Option V := match d with
  | .non => some .non
  | .bl b => some (.bl b)
  | .int i => some (.int i)
  | .str x => some (.str x)
  | _ => none
def flVs : List D → Option (List V)
  | [] => some []
  | d :: ds => (flV d).bind fun v => (flVs ds).map (v :: ·)
def itV (y : D) : Option (List V) := match y with
  | .tup ds => flVs ds
  | .lst ds => flVs ds
  | _ => none
theorem flV_flat {d : D} {a : V} (h : flV d = some a) : flatV a = true := by
  cases d <;> first | (cases h; rfl) | cases h
theorem flV_ro {H : Hp} {M : Addr → Prop} {d : D} {a v : V} (h : flV d = some a) (r : Ro K H M d v) : v = a := by
  cases d <;> first | (cases h; cases r; rfl) | cases h
theorem flV_rp {H : Hp} {M : Addr → Prop} {d : D} {a v : V} (h : flV d = some a) (r : Rp K H M d v) : v = a := by
  cases d <;> first | (cases h; cases r; rfl) | cases h
theorem flVs_rp {H : Hp} {M : Addr → Prop} : ∀ {ds : List D} {as vs : List V}, flVs ds = some as → RpL K H M ds vs → vs = as ∧ as.all flatV = true
  | [], as, vs, h, r => by cases h; exact ⟨r.nil_inv, rfl⟩
  | d :: ds, as, vs, h, r => by
    obtain ⟨v, ws, rfl, r1, r2⟩ := r.cons_inv
    simp only [flVs] at h
    cases q : flV d with
    | none => rw [q] at h; cases h
    | some a =>
      rw [q] at h
      cases q2 : flVs ds with
      | none => rw [q2] at h; cases h
      | some bs =>
        rw [q2] at h
        cases h
        obtain ⟨e, f⟩ := flVs_rp q2 r2
        rw [flV_rp q r1, e]
        exact ⟨rfl, by rw [List.all_cons, flV_flat q, f]; rfl⟩
def inG (neg : Bool) (x y : D) : Res D := match flV x with
  | some a => (match itV y with
    | some vs => .ok (.bl (if neg then !inV a vs else inV a vs))
    | none => .bad)
  | none => .bad
abbrev inD := inG false
abbrev ninD := inG true
theorem os_inG {neg : Bool} : OpS K (rIn K neg) (inG neg) := by
  intro H M x y dx dy Q tk rx ry w
  unfold inG at w
  cases q : flV dx with
  | none => rw [q] at w; exact w.elim
  | some a =>
    rw [q] at w
    cases q2 : itV dy with
    | none => rw [q2] at w; exact w.elim
    | some as =>
      rw [q2] at w
      rw [flV_ro q rx]
      cases dy with
      | lst ds =>
        obtain ⟨p, vs, rfl, h1, z1, q1⟩ := ry.lst_inv
        obtain ⟨e, f⟩ := flVs_rp q2 q1
        subst e
        exact ⟨p, _, rfl, .inl (.of h1), flV_flat q, f, w _ _ (.refl _) (.bl _)⟩
      | tup ds =>
        obtain ⟨p, vs, rfl, h1, z1, q1⟩ := ry.tup_inv
        obtain ⟨e, f⟩ := flVs_rp q2 q1
        subst e
        exact ⟨p, _, rfl, .inr h1, flV_flat q, f, w _ _ (.refl _) (.bl _)⟩
      | _ => cases q2
theorem os_inA : OpS K (rIn K false) inD := os_inG
theorem os_ninA : OpS K (rIn K true) ninD := os_inG
/-! ### a list times an int -/
def repD (x y : D) : Res D := match x, y with
  | .int i, .int j => mulD (.int i) (.int j)
  | .lst ds, .int k => if -(2 ^ 63) ≤ k ∧ k < 2 ^ 63 ∧ ds.length * k.toNat ≤ sizeLine then .ok (.lst (List.replicate k.toNat ds).flatten) else .bad
  | _, _ => .bad
def rMulA : R2 := fun x y H Q => (rI CMulW fun i j => .int (i * j)) x y H Q ∨ rRep x y H Q
theorem rp_rep {H : Hp} {M : Addr → Prop} {ds : List D} {vs : List V} (r : RpL K H M ds vs) : ∀ n : Nat, RpL K H M (List.replicate n ds).flatten (List.replicate n vs).flatten
  | 0 => by simp; exact .nil
  | n + 1 => by
    rw [List.replicate_succ, List.replicate_succ, List.flatten_cons, List.flatten_cons]
    exact r.append (rp_rep r n)
theorem rep_len {α : Type} (xs : List α) : ∀ n : Nat, (List.replicate n xs).flatten.length = xs.length * n
  | 0 => by simp
  | n + 1 => by rw [List.replicate_succ, List.flatten_cons, List.length_append, rep_len xs n, Nat.mul_succ, Nat.add_comm]
theorem os_repD : OpS K rMulA repD := by
  intro H M x y dx dy Q tk rx ry w
  cases dx with
  | int i =>
    cases dy with
    | int j => exact .inl (os_mul H M x y _ _ Q tk rx ry w)
    | _ => exact w.elim
  | lst ds =>
    cases dy with
    | int j =>
      obtain ⟨p, vs, rfl, h1, z1, q1⟩ := rx.lst_inv
      rw [ry.int_inv]
      simp only [repD] at w
      split at w
      · rename_i hc
        refine .inr ⟨p, j, vs, rfl, rfl, h1, hc.1, hc.2.1, by rw [q1.len]; exact hc.2.2, fun o hn => w _ _ (same_new hn) ?_⟩
        exact cell_rp (cell_new (rp_rep q1 _) hn (by rw [rep_len]; exact hc.2.2)) (fun q => tk o q hn) fun b q => .inl q
      · exact w.elim
    | _ => exact w.elim
  | _ => cases dy <;> exact w.elim
theorem oMulA {X : Cx} : OpR X (binaryOp .Mult) rMulA := op_mulW.or op_rep
end
section
variable {X : Cx} {C : Cfg} {W : WX} {k : Nat}
theorem oIn (g : Gd X C W k) : OpR X (compareOp .In) (rIn C.K false) := g.kE ▸ op_in_seq
theorem oNin (g : Gd X C W k) : OpR X (compareOp .NotIn) (rIn C.K true) := g.kE ▸ op_notIn_seq
end
end Vm
end
section
set_option maxRecDepth 100000
set_option maxHeartbeats 4000000
/-! Vm, part M: sorted(set(xs)) of a list of ints. -/
namespace Vm
open PySem PySem.Spec PyProof.Rows L2
abbrev fs0 (w : World) : Obj := { cls := .type "set", dict := none, data := .set #[] 0 (.fresh 0 0 (!w.params.followText "set-order")) }
section
variable {P : Program} {w : World} {A : Around} {E : Value → Shared → Prop} {s : Shared}
theorem set_of_list {l : Addr} {us : Array Value} (ks : List Int) {Q : Value → Shared → Prop} (cold : A.handled = none) (isl : s.heap.IsList l us) (whole : IntsAre us.toList ks) (few : ks.length + 1 < scanBound)
    (k : ∀ (g : Heap) (t n : Nat), SetR w g s.heap.objs.size (fun j => decide (j ∈ ks)) n → n ≤ ks.length → (∀ b o, s.heap.get? b = some o → g.get? b = some o) → Q (.ref s.heap.objs.size) { s with heap := g, toks := t }) :
    wpAny (model P w) A (call (.type "set") [.ref l]) Q E s := by
  have size_us : us.size = ks.length := by
    have z := IntsAre.length whole
    rwa [Array.length_toList] at z
  obtain ⟨c0, tl0, hmro⟩ := F.called_set.mro
  have m1 := F.called_set.made
  have m2 := F.called_set.sub
  apply wpAny_call
  apply codeAny_of_tree
  show wpAny _ _ (callAny (.type "set") _) _ _ _
  refine wpAny_pure (And.intro (Code.quiet_builtin _ (by decide +kernel)) (codeAny_builtin F.entry_type_call ?_))
  rw [Around.under_plain (weight_type_call_type "set" [Value.ref l] []) rfl]
  have m3 := F.called_set.notType
  have m4 := F.called_set.canCreate
  have m5 := F.typeCall_set_1 (.ref l)
  repeat (any_goals (first | (assumption; done) | wp_step))
  refine codeAny_mono (code_set_led1 (.ref l) (E := E) (Q₁ := fun z s1 => z = .ref s.heap.objs.size ∧ s1 = { s with heap := s.heap.push (fs0 w) }) ⟨rfl, rfl⟩) fun r s1 q => ?_
  match r, q with
  | .error e, q => exact q
  | .ok (.ret z), q =>
    obtain ⟨rfl, rfl⟩ := q
    have at0 : (s.heap.push (fs0 w)).get? s.heap.objs.size = some (fs0 w) := Heap.get?_push_size _ rfl
    have ty0 : Shared.TypeIs { s with heap := s.heap.push (fs0 w) } (.ref s.heap.objs.size) "set" := ⟨_, at0, rfl⟩
    have m6 := F.called_set.init.lookup
    have m7 := F.called_set.init.bind (.ref s.heap.objs.size)
    repeat (any_goals (first | (assumption; done) | wp_step))
    refine codeAny_mono (codeAny_call_builtin (R := wants (fun r s2 => r = .none ∧ ∃ g t n, s2 = { s with heap := g, toks := t } ∧ SetR w g s.heap.objs.size (fun j => decide (j ∈ ks)) n ∧ n ≤ ks.length ∧ ∀ b o, s.heap.get? b = some o → g.get? b = some o) E)
      F.called_set.init.plain F.entry_set_init (check_set_init_1 ty0 ?_)) fun r2 s2 q2 => ?_
    · obtain ⟨⟨co, di, da, so⟩, hol, hcl, nl, hdl⟩ := isl
      simp only at hcl hdl
      subst hcl hdl
      have at1 : (s.heap.push (fs0 w)).get? l = some { cls := .type "list", dict := di, data := .seq us nl, slots := so } := Heap.get?_push_of_some _ hol
      have b1 := F.sub_list_set
      have b2 := F.sub_list_frozenset
      have b3 : (Value.type "list" == Value.type "dict") = false := by decide
      have il1 : (s.heap.push (fs0 w)).IsList l us := ⟨_, at1, rfl, nl, rfl⟩
      unfold Builtin.«set.__init__» noKeywords
      unfold Builtin.Frozenset.updateFrom
      generalize hP : pyIter = PIt
      wp_walk
      subst hP
      refine wpAny_pyIter_list il1 ?_
      refine wpAny_bind (wpAny_runValue ?_)
      have lt0 : l < s.heap.objs.size := Heap.lt_size hol
      have cold3 : A.in1.in1.in1.handled = none := by simp [cold]
      have sz1 : (s.heap.push (fs0 w)).objs.size = s.heap.objs.size + 1 := Heap.size_push ..
      have ne1 : l ≠ (s.heap.push (fs0 w)).objs.size := by rw [sz1]; exact Nat.ne_of_lt (Nat.lt_succ_of_lt lt0)
      have out1 : s.heap.objs.size ∉ [(s.heap.push (fs0 w)).objs.size, l] := by
        rw [sz1]
        intro z
        rcases List.mem_cons.mp z with z | z
        · exact Nat.ne_of_lt (Nat.lt_succ_self _) z
        · exact Nat.ne_of_gt lt0 (List.mem_singleton.mp z)
      have vals : ∀ (i : Nat) (v : Value), us[i]? = some v → ∃ k t, ks[i]? = some k ∧ v = .int k t := fun i v hv => by
        have lt : i < ks.length := by rw [← size_us]; exact (Array.getElem?_eq_some_iff.mp hv).1
        obtain ⟨t, e⟩ := whole.int_at i v (by rw [Array.getElem?_toList]; exact hv)
        rw [List.getD_eq_getElem?_getD, List.getElem?_eq_getElem lt] at e
        exact ⟨ks[i], t, List.getElem?_eq_getElem lt, e⟩
      refine set_update_ints ((Walks.list cold3 _ l ne1 us).toS) s.heap.objs.size out1 ks size_us few vals (us.size - 0) 0 _ (by omega) (Nat.zero_le _) ⟨⟨_, Heap.get?_push_size _ rfl, rfl, rfl⟩, (il1.push _)⟩ ?s0 ?s1
      case s0 => exact ⟨0, Nat.le_refl 0, setR_new_at (Heap.get?_push_of_some _ at0)⟩
      case s1 =>
        intro s3 n mv hn hS
        obtain ⟨g, ge, dr, tk, os⟩ := s3
        have e1 : ge = s.gens := mv.gens
        have e2 : dr = s.drawn := mv.drawn
        have e3 : os = s.os := mv.os
        subst e1 e2 e3
        show wpAny _ _ _ _ _ _
        refine wpAny_pure ?_
        show wpAny _ _ (ret Value.none) _ _ _
        refine wpAny_pure ⟨rfl, g, tk, n, rfl, hS, by rw [← size_us]; exact hn, fun b o e => ?_⟩
        have lb : b < s.heap.objs.size := Heap.lt_size e
        refine mv.heap b o ?_ (Heap.get?_push_of_some _ (Heap.get?_push_of_some _ e))
        rw [sz1]
        intro z
        rcases List.mem_cons.mp z with z | z
        · exact Nat.ne_of_lt lb z
        · exact Nat.ne_of_lt (Nat.lt_succ_of_lt lb) (List.mem_singleton.mp z)
    · match r2, q2 with
      | .error e, q2 => exact q2
      | .ok (.ret z), q2 =>
        obtain ⟨rfl, g, tk, n, rfl, hS, hn, hk⟩ := q2
        repeat (any_goals (first | (assumption; done) | wp_step))
        exact k g tk n hS hn hk
end
end Vm
end
section
set_option maxRecDepth 100000
set_option maxHeartbeats 4000000
/-! Vm, part N: sorted(set(xs)) as an expression. -/
namespace Vm
open PySem PySem.Spec PyProof.Rows L2
theorem sorted_setB {w : World} {prog : Program} {A : Around} {E : Value → Shared → Prop} {s : Shared} {a : Addr} {S : Int → Bool} {n : Nat} {Q : Value → Shared → Prop} (R : SetR w s.heap a S n) (hh : A.handled = none) (h64 : n < 4000)
    (hQ : ∀ s' p (out : Array Value) (c : Nat) (ns : List Int), (∀ b o, s.heap.get? b = some o → s'.heap.get? b = some o) → s'.gens = s.gens → s'.os = s.os → s.heap.objs.size ≤ p →
      s'.heap.get? p = some (seqObj "list" out c) → IntsAre out.toList ns → ns.Pairwise (· < ·) → (∀ k, k ∈ ns ↔ S k = true) → ns.length = n → Q (.ref p) s') :
    wpAny (model prog w) A (call (.builtin "sorted") [.ref a]) Q E s := by
  obtain ⟨o, es, ep, t, ho, hex, hd, g, nd, hm, hb, hf, hn, hr, hl⟩ := R
  refine Calls.call_function_entry kind_sorted plain_sorted entry_sorted (args_sorted1 _) ?_
  unfold Builtin.«sorted»
  refine wpAny_bind (m := checkCount "sorted" 1 1 _) (wpAny_pure ?_)
  refine wpAny_bind (collect_set (A := A.in1) hh ⟨o, ho, hex.1, hd⟩ hf hb hr hl fun s1 vs k1 hz g1 o1 pm => ?_)
  have hvl : vs.length = n := by rw [pm.length_eq, List.length_map, Array.length_toList]; exact hn
  have hI : IntsAre vs (vs.map Builtin.Re.reRawOf) := ints_of vs fun v hv => by
    obtain ⟨e, he, q⟩ := List.mem_map.mp (pm.mem_iff.mp hv)
    obtain ⟨k, tk, h1, _⟩ := g e he
    exact ⟨k, tk, by rw [← q]; exact h1⟩
  have pk : (vs.map Builtin.Re.reRawOf).Perm (es.toList.map keyOf) := by
    have q := pm.map Builtin.Re.reRawOf
    rw [List.map_map] at q
    exact q
  have hvz : vs.length ≤ sizeLine := by rw [hvl, sizeLine_eq]; omega
  refine wpAny_bind (wpAny_newList ?_ hvz)
  have hoL : (s1.heap.push (seqObj "list" vs.toArray 0)).get? s1.heap.objs.size = some (seqObj "list" vs.toArray 0) := Heap.get?_push_size _ rfl
  refine wpAny_bind (wpAny_holding (wpAny_call_entry slot_list_sort ⟨_, hoL, rfl⟩ entry_list_sort (SrtO.list_sort_ord SrtO.swo_int hoL hvz (fun h2 => SrtO.ints_sortable hI h2) fun out h1 h2 => ⟨_, rfl, ?_⟩) (args_list_sort _)))
  obtain ⟨a1, a2, a3⟩ := SrtO.ints_out hI h1 h2
  obtain ⟨c, hc⟩ := sortedHeap_at (vs := vs) (out := out.toArray) hoL
  have pn : (out.map SrtO.iv).Perm (es.toList.map keyOf) := a2.trans pk
  refine wpAny_pure ⟨_, rfl, hQ _ s1.heap.objs.size out.toArray c (out.map SrtO.iv) (fun b u e => ?_) g1 o1 hz hc (by simpa using a1) (lt_of_le_nodup _ a3 (pn.nodup_iff.mpr nd)) (fun k => by rw [pn.mem_iff, ← hm k]) ?_⟩
  · have q := k1 b u e
    have hlt := Heap.lt_size q
    show (sortedHeap (s1.heap.push (seqObj "list" vs.toArray 0)) s1.heap.objs.size vs out.toArray).get? b = some u
    rw [sortedHeap_old (Nat.ne_of_lt hlt) (by rw [size_push']; exact Nat.lt_succ_of_lt hlt)]
    exact Heap.get?_push_of_some _ q
  · rw [pn.length_eq, List.length_map, Array.length_toList]; exact hn
section
variable {X : Cx}
def tSoSet (K : PySem.W.Frag) (ta : TE) : TE := fun σ H Q => ta σ H fun x H1 => ∃ (l : Addr) (ks : List Int), x = V.ref l ∧ SqL K H1 l (ks.map V.int) ∧ ks.length < 4000 ∧
  ∀ (ms : List Int) (p : Addr), ms.Pairwise (· < ·) → (∀ j, j ∈ ms ↔ j ∈ ks) → ms.length ≤ ks.length → H1 p = none → Q (.ref p) (upd H1 p (.lst (ms.map V.int)))
theorem pe_soSet {a : Expr} {ta : TE} {p p2 q pos : Pos} (cold : X.calm = true) (hg : Gl X "sorted") (hm : X.mg "sorted" = none) (hg2 : Gl X "set") (hm2 : X.mg "set" = none) (hv : bootBuiltins "sorted" = some (.builtin "sorted")) (hv2 : bootBuiltins "set" = some (.type "set")) (ha : PE X a ta)
    (st : starEach [a] X.env = (false, eval a X.env) :: starEach [] X.env := by rfl) : PE X (.Call (.Name "sorted" p) [.Call (.Name "set" p2) [a] [] q] [] pos) (tSoSet X.K ta) := by
  refine ⟨fun pins s σ H Q I h => ?_⟩
  refine Call_ (ld_blt I hg hm hv ?_)
  refine callWith_builtin1 (args_cons ?_ rfl) rfl rfl
  refine Call_ (ld_blt I hg2 hm2 hv2 ?_)
  refine callWith_type1 (args_cons (thn (ha.run pins s σ H _ I h) fun v s1 ⟨x, H1, I1, r1, q1⟩ => args_nil ?_) st) st rfl
  obtain ⟨l, ks, rfl, hq, few, q1⟩ := q1
  cases r1
  obtain ⟨its, rv, pl, hz⟩ := I1.list hq
  have ii : IntsAre its.toArray.toList ks := ints_of_vals rv
  refine set_of_list ks (I1.ok.hd cold) pl.isList ii (by unfold scanBound; omega) fun g tk n R hn up => ?_
  refine args_nil ?_
  have I2 : Inv X pins σ H1 { s1 with heap := g, toks := tk } := I1.kept fun b o e => up b o e
  refine sorted_setB (s := { s1 with heap := g, toks := tk }) R (I2.ok.hd cold) (by omega) fun s' p out c ns up2 eg eo hp hat hin hs hmem hl => ?_
  have hlen : (ns.map V.int).length ≤ sizeLine := by rw [List.length_map, hl, sizeLine_eq]; omega
  have fr : H1 p = none := I2.hok.fresh hp
  have J : Inv X pins σ (upd H1 p (.lst (ns.map V.int))) { ({ s1 with heap := g, toks := tk } : Shared) with heap := s'.heap, gens := s'.gens, drawn := s'.drawn, toks := s'.toks } :=
    I2.call (ch := []) (Un.laid up2 hp fr) (I2.hok.laid up2 hp ⟨hlen, out.toList, c, vals_of_ints hin, hat⟩) (by rw [eg]; exact I2.bare) (fun _ z => nomatch z)
  have e : s' = { s1 with heap := s'.heap, gens := s'.gens, drawn := s'.drawn, toks := s'.toks } := by
    obtain ⟨x1, x2, x3, x4, x5⟩ := s'
    cases eo
    rfl
  rw [e]
  exact ⟨.ref p, _, J, rfl, q1 ns p hs (fun j => by rw [hmem j, decide_eq_true_eq]) (by rw [hl]; exact hn) fr⟩
end
section
variable {X : Cx} {C : Cfg} {W : WX} {k : Nat} {a : Expr} {ta : TE} {ma : Ev}
/-- the list's items, each once, ascending -/
def ded : List Int → List Int
  | [] => []
  | x :: xs => if x ∈ xs then ded xs else x :: ded xs
theorem ded_mem (j : Int) : ∀ ns : List Int, j ∈ ded ns ↔ j ∈ ns
  | [] => Iff.rfl
  | x :: xs => by
    unfold ded
    split
    · rename_i h
      rw [ded_mem j xs, List.mem_cons]
      exact ⟨.inr, fun z => z.elim (fun z => z ▸ h) id⟩
    · rw [List.mem_cons, List.mem_cons, ded_mem j xs]
theorem ded_nodup : ∀ ns : List Int, (ded ns).Nodup
  | [] => List.nodup_nil
  | x :: xs => by
    unfold ded
    split
    · exact ded_nodup xs
    · rename_i h
      exact List.nodup_cons.mpr ⟨fun z => h ((ded_mem x xs).mp z), ded_nodup xs⟩
def usI (ns : List Int) : List Int := sortI (ded ns)
def soSetD (x : D) : Res D := match x with
  | .lst ds => (match intsD ds with
    | some ns => if ns.length < 4000 then .ok (.lst ((usI ns).map D.int)) else .bad
    | none => .bad)
  | _ => .bad
def mUn1 (g : D → Res D) (m : Ev) : Ev := fun env => do
  let r ← m env
  let x ← rs r.2 r.1
  match g x with
  | .ok d => pure (d, r.2)
  | _ => .bad
theorem lt_same {xs ys : List Int} (hx : xs.Pairwise (· < ·)) (hy : ys.Pairwise (· < ·)) (h : ∀ j, j ∈ xs ↔ j ∈ ys) : xs = ys := by
  have nx : xs.Nodup := hx.imp fun h => by omega
  have ny : ys.Nodup := hy.imp fun h => by omega
  have hp : xs.Perm ys := (List.perm_ext_iff_of_nodup nx ny).mpr h
  exact ksame hp (hx.imp fun h => by omega) (hy.imp fun h => by omega)
theorem usI_lt (ns : List Int) : (usI ns).Pairwise (· < ·) := by
  have h1 := sortI_sorted (ded ns)
  have h2 : (sortI (ded ns)).Nodup := (sortI_perm _).nodup_iff.mpr (ded_nodup ns)
  exact (h1.and h2).imp fun ⟨a, b⟩ => by omega
theorem usI_mem (ns : List Int) (j : Int) : j ∈ usI ns ↔ j ∈ ns := by
  unfold usI
  rw [(sortI_perm _).mem_iff, ded_mem]
theorem ef_soSet {p p2 q pos : Pos} (g : Gd X C W k) (hg : Gl X "sorted") (hm : X.mg "sorted" = none) (hv : bootBuiltins "sorted" = some (.builtin "sorted")) (hg2 : Gl X "set") (hm2 : X.mg "set" = none) (hv2 : bootBuiltins "set" = some (.type "set")) (ha : EM X C W a ta ma)
    (st : starEach [a] X.env = (false, eval a X.env) :: starEach [] X.env := by rfl) : EF X C W (.Call (.Name "sorted" p) [.Call (.Name "set" p2) [a] [] q] [] pos) (tSoSet C.K ta) (mUn1 soSetD ma) := by
  refine ⟨g.kE ▸ pe_soSet g.calm hg hm hg2 hm2 hv hv2 ha.pe st, fun M0 ad σ H env Q R w => ?_⟩
  unfold mUn1 at w
  refine ha.sn' R w fun r v H1 R1 S1 V1 w1 => ?_
  rw [wp_bind] at w1
  obtain ⟨y, _, w2, ry⟩ := R1.rs V1 w1
  cases y with
  | lst ds =>
    obtain ⟨l, us, rfl, hl, hz, qr⟩ := ry.lst_inv
    simp only [soSetD] at w2
    cases hn : intsD ds with
    | none => rw [hn] at w2; exact w2.elim
    | some ns =>
      rw [hn] at w2
      cases ints_eq hn
      rw [qr.ints] at hl
      simp only at w2
      split at w2
      · rename_i w3 hd
        split at hd
        · rename_i few
          cases hd
          refine ⟨l, ns, rfl, .of hl, few, fun ms p hs hmem hlen hf => ?_⟩
          have e : ms = usI ns := lt_same hs (usI_lt ns) fun j => (hmem j).trans (usI_mem ns j).symm
          subst e
          refine w2 p _ ?_ (R1.growAdd (same_new hf) hf (by rw [upd_same]; exact fun z => nomatch z)) (S1.trans (.grow (same_new hf))) ?_
          · cases z : H p with
            | none => rfl
            | some o => exact absurd hf (S1.ext.trk p (by rw [z]; exact fun z => nomatch z))
          · refine (cell_new (M := Mo (C.w M0) r.2 ad) .of_ints hf ?_).ext rfl .refl fun b z => .inl (mo_add.mp z)
            rw [List.length_map]
            exact Nat.le_trans hlen (Nat.le_trans (Nat.le_of_lt few) (by decide))
        · cases hd
      · exact w2.elim
  | _ => exact w2.elim
end
end Vm
end
section
set_option maxRecDepth 100000
set_option maxHeartbeats 4000000
/-! Vm, part O: xs[::-1] of a list or a tuple. -/
namespace Vm
open PySem PySem.Spec PyProof.Rows L2
section
variable {prog : Program} {w : World} {A : Around} {E : Value → Shared → Prop} {s : Shared}
theorem back_places (n : Nat) : Builtin.Slice.slicePlaces ((n : Int) - 1) (-1) (-1) = n := by
  unfold Builtin.Slice.slicePlaces
  rw [if_neg (by decide)]
  by_cases h : (n : Int) - 1 > -1
  · rw [if_pos h, show (-(-1) : Int) = 1 by decide, Int.ediv_one]
    omega
  · rw [if_neg h]
    omega
theorem back_applied {sl : Addr} {vs : Value} {n : Nat} {Q : Int × Int × Nat → Shared → Prop} (hs : s.heap.IsSliceOf sl .none .none vs) (ps : IsPart vs (some (-1))) (h : Q ((n : Int) - 1, -1, n) s) :
    wpAny (model prog w) A (Builtin.Slice.sliceApplied (.ref sl) (pure (n : Int))) Q E s := by
  obtain ⟨o, at0, oc, od⟩ := id hs
  unfold Builtin.Slice.sliceApplied Builtin.Slice.sliceFields
  refine wpAny_bind (wpAny_bind (wpAny_field at0 od (x := .none) rfl (wpAny_bind (wpAny_field at0 od (x := .none) rfl (wpAny_bind (wpAny_field at0 od (x := vs) rfl (wpAny_pure ?_)))))))
  refine wpAny_bind (HT.slicePart_ ps ?_)
  show wpAny _ _ (if ((-1 : Int) == 0) = true then _ else _) _ _ s
  rw [if_neg (by decide)]
  refine wpAny_bind (slicePart_none (wpAny_bind (slicePart_none (wpAny_bind (wpAny_pure ?_)))))
  show wpAny _ _ (pure ((n : Int) - 1, (-1 : Int), Builtin.Slice.slicePlaces ((n : Int) - 1) (-1) (-1))) _ _ s
  rw [back_places]
  exact wpAny_pure h
theorem back_pick (xs : Array Value) : ((List.range xs.size).filterMap fun (m : Nat) => xs[((xs.size : Int) - 1 + (m : Int) * -1).toNat]?).toArray = xs.toList.reverse.toArray := by
  congr 1
  have e : (List.range xs.size).filterMap (fun (m : Nat) => xs[((xs.size : Int) - 1 + (m : Int) * -1).toNat]?) = ((List.range xs.size).map fun m => xs.size - 1 - m).filterMap fun m => xs[m]? := by
    rw [List.filterMap_map]
    have : ∀ (ms : List Nat) (f g : Nat → Option Value), (∀ m ∈ ms, f m = g m) → ms.filterMap f = ms.filterMap g := fun ms f g h => by
      induction ms with
      | nil => rfl
      | cons m ms ih => rw [List.filterMap_cons, List.filterMap_cons, h m (.head _), ih fun x hx => h x (.tail _ hx)]
    refine this _ _ _ fun m hm => ?_
    have lt := List.mem_range.mp hm
    show xs[((xs.size : Int) - 1 + (m : Int) * -1).toNat]? = xs[xs.size - 1 - m]?
    rw [show ((xs.size : Int) - 1 + (m : Int) * -1).toNat = xs.size - 1 - m by omega]
  rw [e, PySem.W.krv_range, List.filterMap_reverse, PySem.W.krv_all]
theorem tup_back {t sl : Addr} {us : Array Value} {vs : Value} {Q : Value → Shared → Prop} (ht : IsTup s.heap t us) (hs : s.heap.IsSliceOf sl .none .none vs) (ps : IsPart vs (some (-1)))
    (h : Q (.ref s.heap.objs.size) { s with heap := s.heap.push { cls := .type "tuple", data := .seq us.toList.reverse.toArray } }) (hz : us.size ≤ sizeLine) : wpAny (model prog w) A (getItem (.ref t) (.ref sl)) Q E s := by
  have okz : sizeOk (.seq us.toList.reverse.toArray) := by
    show us.toList.reverse.toArray.size ≤ sizeLine
    rw [List.size_toArray, List.length_reverse, Array.length_toList]
    exact hz
  obtain ⟨o, at0, oc, od⟩ := id hs
  have tsl : s.TypeIs (.ref sl) "slice" := ⟨o, at0, oc⟩
  unfold getItem
  try with_reducible refine wpAny_holding ?_
  first | refine wpAny_bind (wpAny_pure ?_) | skip
  refine wpAny_bind (wpAny_sequenceKey ht.typeIs (by decide) ?_)
  refine wpAny_bind (wpAny_callSpecial?_slot (name := Str.ofString "__getitem__") ht.typeIs slot_tuple_getitem (wpAny_call_entry slot_tuple_getitem ht.typeIs entry_tuple_getitem ?_ (args_tuple_getitem _ _)))
  show wpAny _ _ (Builtin.Tuple.tupleItemsOf (.ref t) >>= _) _ _ s
  refine wpAny_bind (tupleItemsOf_ ht ?_)
  refine wpAny_bind (wpAny_typeOf tsl ?_)
  rw [if_pos (by decide)]
  refine wpAny_bind (back_applied hs ps ?_)
  have no : ¬ ((((us.size : Int) - 1) == 0 && (-1 : Int) == 1 && us.size == us.size) = true) := by
    rw [show ((-1 : Int) == 1) = false by decide, Bool.and_false, Bool.false_and]
    exact Bool.false_ne_true
  show wpAny _ _ (if (((us.size : Int) - 1) == 0 && (-1 : Int) == 1 && us.size == us.size) = true then _ else _) _ _ s
  rw [if_neg no, back_pick]
  first
    | exact wpAny_bind (m := Builtin.Tuple.tupleExact _) (wpAny_newObj_type (wpAny_pure ⟨_, rfl, wpAny_pure h⟩) okz)
    | exact wpAny_bind (m := Builtin.Tuple.tupleExact _) (wpAny_newObj_type (wpAny_bind (wpAny_pure (wpAny_pure ⟨_, rfl, wpAny_pure h⟩))) okz)
    | exact wpAny_bind (wpAny_bind (m := Builtin.Tuple.tupleExact _) (wpAny_newObj_type (wpAny_pure (wpAny_pure ⟨_, rfl, wpAny_pure h⟩)) okz))
    | exact wpAny_bind (wpAny_bind (m := Builtin.Tuple.tupleExact _) (wpAny_newObj_type (wpAny_pure ⟨_, rfl, wpAny_pure h⟩) okz))
end
section
variable {X : Cx}
def tBack (K : PySem.W.Frag) (te : TE) : TE := fun σ H Q => te σ H fun x H1 => ∃ a xs, x = .ref a ∧ ((SqL K H1 a xs ∧ ∀ p, H1 p = none → Q (.ref p) (upd H1 p (.lst xs.reverse))) ∨ (SqT K H1 a xs ∧ ∀ p, H1 p = none → Q (.ref p) (upd H1 p (.tup xs.reverse))))
theorem pe_back {e : Expr} {te : TE} {k : Nat} {p1 p2 p3 pos : Pos} (he : PE X e te) : PE X (.Subscript e (.Slice none none (some (.UnaryOp .USub (.Constant (.int 1) k p1) p2)) p3) pos) (tBack X.K te) := by
  refine ⟨fun pins s σ H Q I h => ?_⟩
  refine Subscript_ (thn (he.run pins s σ H _ I h) fun v s1 ⟨x, H1, I1, r1, a, xs, ex, q⟩ => ?_)
  subst ex
  cases r1
  have part : PO X (some (.UnaryOp .USub (.Constant (.int 1) k p1) p2)) (tPart (tUn (rU fun i => .int (-i)) (tC (.int 1)))) := po_some (pe_un un_neg pe_int)
  refine wpAny_Slice (thn (po_none.run pins s1 σ H1 (fun o G => o = none ∧ G = H1) I1 ⟨rfl, rfl⟩) fun v1 s2 ⟨o1, H2, I2, i1, e1, g1⟩ => ?_)
  subst e1 g1
  refine thn (po_none.run pins s2 σ H2 (fun o G => o = none ∧ G = H2) I2 ⟨rfl, rfl⟩) fun v2 s3 ⟨o2, H3, I3, i2, e2, g2⟩ => ?_
  subst e2 g2
  refine thn (part.run pins s3 σ H3 (fun o G => o = some (-1) ∧ G = H3) I3 ⟨1, rfl, -1, rfl, rfl, rfl⟩) fun v3 s4 ⟨o3, H4, I4, i3, e3, g3⟩ => ?_
  subst e3 g3
  have I5 : Inv X pins σ H4 { s4 with heap := s4.heap.push { cls := .type "slice", data := .fields #[v1, v2, v3] } } := I4.kept (t' := s4.toks) fun b ob z => Heap.get?_push_of_some _ z
  show wpAny (model X.prog X.w) X.A (subscriptTail e (.Slice none none (some (.UnaryOp .USub (.Constant (.int 1) k p1) p2)) p3) (.ref a) (.ref s4.heap.objs.size)) (EP X pins σ Q) X.xe { s4 with heap := s4.heap.push { cls := .type "slice", data := .fields #[v1, v2, v3] } }
  rcases q with ⟨hx, q⟩ | ⟨hx, q⟩
  · obtain ⟨us, r, ht, hz⟩ := I5.list hx
    have hl := r.length
    refine tail_any (ops := [.ref a, .ref s4.heap.objs.size]) ht.isList.typeIs PySem.slot_list_getitem.lookup ?_ (by with_unfolding_all rfl)
    refine wpAny_getItem_list_slice ht.isList (Heap.IsSliceOf.new _ v1 v2 v3) i1 i2 i3 (by decide) ?_ (by rw [List.size_toArray]; omega)
    rw [PySem.W.krv_pick]
    refine ⟨.ref _, _, I5.laid (t' := s4.toks) (o := .lst xs.reverse) (fun b ob z => Heap.get?_push_of_some _ z) (Nat.le_refl _) ?_, rfl, q _ (I5.hok.fresh (Nat.le_refl _))⟩
    exact ⟨by rw [List.length_reverse]; exact hz, _, 0, r.reverse, Heap.get?_push_size _ rfl⟩
  · obtain ⟨us, r, ht, hz⟩ := I5.tuple hx
    have hl := r.length
    cases i1
    cases i2
    refine tail_any (ops := [.ref a, .ref s4.heap.objs.size]) ht.typeIs slot_tuple_getitem.lookup ?_ (by with_unfolding_all rfl)
    refine tup_back ht (Heap.IsSliceOf.new _ .none .none v3) i3 ?_ (by rw [List.size_toArray]; omega)
    refine ⟨.ref _, _, I5.laid (t' := s4.toks) (o := .tup xs.reverse) (fun b ob z => Heap.get?_push_of_some _ z) (Nat.le_refl _) ?_, rfl, q _ (I5.hok.fresh (Nat.le_refl _))⟩
    exact ⟨by rw [List.length_reverse]; exact hz, _, r.reverse, ⟨_, Heap.get?_push_size _ rfl, rfl, _, rfl⟩⟩
end
section
variable {X : Cx} {C : Cfg} {W : WX} {k : Nat} {e : Expr} {te : TE} {m : Ev}
def backD (x : D) : Res D := match x with
  | .lst xs => .ok (.lst xs.reverse)
  | .tup xs => .ok (.tup xs.reverse)
  | .scr ns => .ok (.lst (ns.map D.int).reverse)
  | _ => .bad
theorem RpL.rev {K : PySem.W.Frag} {H : Hp} {M : Addr → Prop} {ds : List D} {vs : List V} (r : RpL K H M ds vs) : RpL K H M ds.reverse vs.reverse := by
  refine ⟨by rw [List.length_reverse, List.length_reverse, r.len], fun i d v h1 h2 => ?_⟩
  have l1 := (List.getElem?_eq_some_iff.mp h1).1
  rw [List.length_reverse] at l1
  have hl := r.len
  rw [List.getElem?_reverse l1] at h1
  rw [List.getElem?_reverse (by omega)] at h2
  rw [show vs.length - 1 - i = ds.length - 1 - i by omega] at h2
  exact r.item _ d v h1 h2
theorem em_back {kk : Nat} {p1 p2 p3 pos : Pos} (g : Gd X C W k) (h : EM X C W e te m) : EM X C W (.Subscript e (.Slice none none (some (.UnaryOp .USub (.Constant (.int 1) kk p1) p2)) p3) pos) (tBack C.K te) (mUn1 backD m) := by
  refine ⟨g.kE ▸ pe_back h.pe, fun M0 ad σ H env Q R w => ?_⟩
  unfold mUn1 at w
  refine h.sn' R w fun r v H1 R1 S1 V1 w1 => ?_
  rw [wp_bind] at w1
  obtain ⟨y, _, w2, ry⟩ := R1.rs V1 w1
  have fresh : ∀ {xs : List D} {us : List V} {p : Addr}, RpL C.K H1 (Mo (C.w M0) r.2 ad) xs us → H1 p = none → xs.length ≤ sizeLine → Rp C.K (upd H1 p (.lst us)) (Mo (C.w M0) r.2 ad) (.lst xs) (.ref p) := fun q hn z =>
    cell_rp (cell_new q hn z) (fun q => R1.mtrk q hn) fun b q => .inl q
  cases y with
  | lst ds =>
    obtain ⟨a, us, rfl, hs, z, q⟩ := ry.lst_inv
    exact ⟨a, us, rfl, .inl ⟨.of hs, fun p hn => w2 _ _ (R1.grow (same_new hn)) (S1.trans (.grow (same_new hn))) (.of (fresh q.rev hn (by rw [List.length_reverse]; exact z)))⟩⟩
  | scr ns =>
    cases ry with
    | scr hs z =>
      have q : RpL C.K H1 (Mo (C.w M0) r.2 ad) (ns.map D.int) (ns.map V.int) := .of_ints
      exact ⟨_, _, rfl, .inl ⟨hs.sq, fun p hn => w2 _ _ (R1.grow (same_new hn)) (S1.trans (.grow (same_new hn))) (.of (fresh q.rev hn (by rw [List.length_reverse, List.length_map]; exact z)))⟩⟩
  | tup ds =>
    obtain ⟨a, us, rfl, hs, z, q⟩ := ry.tup_inv
    exact ⟨a, us, rfl, .inr ⟨hs, fun p hn => w2 _ _ (R1.grow (same_new hn)) (S1.trans (.grow (same_new hn))) (.of (.tup' (.of upd_same) (by rw [List.length_reverse]; exact z) (q.rev.same (same_new hn))))⟩⟩
  | _ => exact w2.elim
end
end Vm
end
section
set_option maxRecDepth 100000
set_option maxHeartbeats 4000000
/-! Vm, part P: a def of which nothing is asked (the ground of a recursion). -/
namespace Vm
open PySem PySem.Spec PyProof.Rows L2
section
variable {T : List (Addr × Str)} {P : Program} {w : World} {K : PySem.W.Frag} {mg : Str → Option Value} {base : Heap} {x : Str} {st : Stmt} {f : Addr} {fd : FuncData} {N ps : List Str} {k n : Nat}
theorem fnP0 (F : Fun K x x st f fd) (S : FnScope N ps (defScope st)) (hn : ps.length = n) (hm : mg x = some (.ref f)) (hb : Binds K fd ps []) : Fn P w K mg base (k + 1) x (spP K T mg n fun _ => .bad) :=
  ⟨f, fd, ps, okX F S (fun vs H Q E h => h.1.trans hn.symm) (fun cdv A outer s H vs Q E hr h => h.elim fun _ ⟨_, _, _, _, _, z⟩ => z.elim), hm, F.kp, hb⟩
end
end Vm
end
section
/-! Vm, part Q: loops and comprehensions, plainly. -/
namespace Vm
open PySem L2
inductive F2 {α β : Type} (P : α → β → Prop) : List α → List β → Prop
  | nil : F2 P [] []
  | cons {x : α} {y : β} {xs : List α} {ys : List β} : P x y → F2 P xs ys → F2 P (x :: xs) (y :: ys)
/-- a comprehension whose item changes the surroundings -/
theorem lcL_inv {vs : List Nat} {gv : Gv} {t : Ev1} {m : Ev} (I : Nat → Sls → Prop) (Pd : D → D → Prop) : ∀ (ds : List D) (env : Sls) (n : Nat), I n env →
    (∀ (i : Nat) (d : D) (e : Sls), ds[i]? = some d → I (n + i) e → ∃ e1 b y e3, gv d e = .ok e1 ∧ t e1 = .ok (true, b) ∧ m b = .ok (y, e3) ∧ kp y = .ok y ∧ Pd d y ∧ I (n + i + 1) (wipeE e3 vs)) →
    ∃ ys e', lcL vs gv t m ds env = .ok (ys, e') ∧ I (n + ds.length) e' ∧ F2 Pd ds ys
  | [], env, n, h, _ => ⟨[], env, rfl, h, .nil⟩
  | d :: ds, env, n, h, hs => by
    obtain ⟨e1, b, y, e3, h1, h2, h3, h4, h5, h6⟩ := hs 0 d env rfl h
    obtain ⟨ys, e', q, r, p⟩ := lcL_inv I Pd ds _ (n + 1) h6 (fun i x e hx hi => by
      have := hs (i + 1) x e (by simpa using hx) (by rw [← Nat.add_assoc, Nat.add_right_comm]; exact hi)
      rw [← Nat.add_assoc, Nat.add_right_comm n i 1] at this
      exact this)
    refine ⟨y :: ys, e', ?_, by rw [List.length_cons, Nat.add_comm ds.length, ← Nat.add_assoc]; exact r, .cons h5 p⟩
    unfold lcL
    rw [h1]
    simp [h2, h3, h4, q]
/-- a comprehension with a test -/
theorem lcL_filt {vs : List Nat} {gv : Gv} {t : Ev1} {m : Ev} {env : Sls} (p : D → Bool) (f : D → D) : ∀ (ds : List D), (∀ d ∈ ds, ∃ e1 b, gv d env = .ok e1 ∧ t e1 = .ok (p d, b) ∧
      (p d = true → ∃ e3, m b = .ok (f d, e3) ∧ kp (f d) = .ok (f d) ∧ wipeE e3 vs = env) ∧ (p d = false → wipeE b vs = env)) →
    lcL vs gv t m ds env = .ok ((ds.filter p).map f, env)
  | [], _ => rfl
  | d :: ds, h => by
    obtain ⟨e1, b, h1, h2, h3, h4⟩ := h d (.head _)
    have ih := lcL_filt (vs := vs) (gv := gv) (t := t) (m := m) p f ds fun x hx => h x (.tail _ hx)
    unfold lcL
    rw [h1]
    cases hp : p d with
    | true =>
      obtain ⟨e3, h5, h6, h7⟩ := h3 hp
      rw [hp] at h2
      simp [h2, h5, h6, h7, ih, hp]
    | false =>
      have h7 := h4 hp
      rw [hp] at h2
      simp [h2, h7, ih, hp]
/-- the first answer of g from n on -/
def fs (g : Nat → Option D) : Nat → Nat → Option D
  | _, 0 => none
  | n, k + 1 => match g n with
    | some r => some r
    | none => fs g (n + 1) k
/-- a loop that looks for something -/
theorem forL_find {gv : Gv} {b : Sv} (I : Nat → Sls → Prop) (g : Nat → Option D) : ∀ (ds : List D) (env : Sls) (n : Nat), I n env →
    (∀ (i : Nat) (d : D) (e : Sls), ds[i]? = some d → I (n + i) e → ∃ e1 e2, gv d e = .ok e1 ∧ (∀ r, g (n + i) = some r → b e1 = .ok (.ret r, e2)) ∧ (g (n + i) = none → b e1 = .ok (.next, e2) ∧ I (n + i + 1) e2)) →
    ∃ e', (∀ r, fs g n ds.length = some r → forL gv b ds env = .ok (.ret r, e')) ∧ (fs g n ds.length = none → forL gv b ds env = .ok (.next, e') ∧ I (n + ds.length) e')
  | [], env, n, h, _ => ⟨env, ⟨fun r h => (by cases h), fun _ => ⟨rfl, h⟩⟩⟩
  | d :: ds, env, n, h, hs => by
    obtain ⟨e1, e2, h1, h2, h3⟩ := hs 0 d env rfl h
    rw [Nat.add_zero] at h2 h3
    cases q : g n with
    | some r =>
      refine ⟨e2, fun r' hr => ?_, fun hr => ?_⟩
      · simp only [List.length_cons, fs, q] at hr
        cases hr
        unfold forL
        rw [h1]
        simp [h2 r q]
      · simp [List.length_cons, fs, q] at hr
    | none =>
      obtain ⟨h4, h5⟩ := h3 q
      obtain ⟨e', k1, k2⟩ := forL_find I g ds e2 (n + 1) h5 (fun i x e hx hi => by
        have := hs (i + 1) x e (by simpa using hx) (by rw [← Nat.add_assoc, Nat.add_right_comm]; exact hi)
        rw [← Nat.add_assoc, Nat.add_right_comm n i 1] at this
        exact this)
      have ef : fs g n (ds.length + 1) = fs g (n + 1) ds.length := by simp only [fs, q]
      refine ⟨e', fun r hr => ?_, fun hr => ?_⟩
      · rw [List.length_cons, ef] at hr
        unfold forL
        rw [h1]
        simp [h4, k1 r hr]
      · rw [List.length_cons, ef] at hr
        obtain ⟨k3, k4⟩ := k2 hr
        refine ⟨?_, by rw [List.length_cons, Nat.add_comm ds.length, ← Nat.add_assoc]; exact k4⟩
        unfold forL
        rw [h1]
        simp [h4, k3]
theorem fs_congr {g g' : Nat → Option D} : ∀ (k n : Nat), (∀ i, n ≤ i → i < n + k → g i = g' i) → fs g n k = fs g' n k
  | 0, _, _ => rfl
  | k + 1, n, h => by
    simp only [fs]
    rw [h n (Nat.le_refl _) (by omega), fs_congr k (n + 1) fun i h1 h2 => h i (by omega) (by omega)]
/-- the first place of a kind -/
theorem fs_some {g : Nat → Option D} : ∀ (k n j : Nat) (r : D), n ≤ j → j < n + k → g j = some r → (∀ i, n ≤ i → i < j → g i = none) → fs g n k = some r
  | 0, n, j, r, h1, h2, _, _ => by omega
  | k + 1, n, j, r, h1, h2, h3, h4 => by
    simp only [fs]
    by_cases e : n = j
    · subst e; rw [h3]
    · rw [h4 n (Nat.le_refl _) (by omega)]
      exact fs_some k (n + 1) j r (by omega) (by omega) h3 fun i a b => h4 i (by omega) b
theorem fs_none {g : Nat → Option D} : ∀ (k n : Nat), (∀ i, n ≤ i → i < n + k → g i = none) → fs g n k = none
  | 0, _, _ => rfl
  | k + 1, n, h => by
    simp only [fs]
    rw [h n (Nat.le_refl _) (by omega)]
    exact fs_none k (n + 1) fun i a b => h i (by omega) (by omega)
theorem fs_inv {g : Nat → Option D} : ∀ (k n : Nat), (fs g n k = none ∧ ∀ i, n ≤ i → i < n + k → g i = none) ∨ ∃ j r, n ≤ j ∧ j < n + k ∧ g j = some r ∧ (∀ i, n ≤ i → i < j → g i = none) ∧ fs g n k = some r
  | 0, n => .inl ⟨rfl, fun i a b => by omega⟩
  | k + 1, n => by
    cases q : g n with
    | some r => exact .inr ⟨n, r, Nat.le_refl _, by omega, q, fun i a b => by omega, by simp only [fs, q]⟩
    | none =>
      rcases fs_inv (g := g) k (n + 1) with ⟨h1, h2⟩ | ⟨j, r, h1, h2, h3, h4, h5⟩
      · refine .inl ⟨by simp only [fs, q, h1], fun i a b => ?_⟩
        by_cases e : n = i
        · exact e ▸ q
        · exact h2 i (by omega) (by omega)
      · refine .inr ⟨j, r, by omega, by omega, h3, fun i a b => ?_, by simp only [fs, q, h5]⟩
        by_cases e : n = i
        · exact e ▸ q
        · exact h4 i (by omega) b
@[simp] theorem q_mUn1 (g : D → Res D) (m : Ev) (env : Sls) : mUn1 g m env = (do
  let r ← m env
  let x ← rs r.2 r.1
  match g x with
  | .ok d => pure (d, r.2)
  | _ => .bad) := rfl
@[simp] theorem q_backL (xs : List D) : backD (.lst xs) = .ok (.lst xs.reverse) := rfl
@[simp] theorem q_backT (xs : List D) : backD (.tup xs) = .ok (.tup xs.reverse) := rfl
@[simp] theorem q_mul (i j : Int) : repD (.int i) (.int j) = mulD (.int i) (.int j) := rfl
@[simp] theorem f2_map {α : Type} {P : D → D → Prop} (f : α → D) : ∀ (xs : List α) (ys : List D), F2 P (xs.map f) ys ↔ F2 (fun x y => P (f x) y) xs ys
  | [], ys => ⟨fun h => by cases h; exact .nil, fun h => by cases h; exact .nil⟩
  | x :: xs, [] => ⟨fun h => (nomatch h), fun h => (nomatch h)⟩
  | x :: xs, y :: ys => ⟨fun h => by cases h with | cons a b => exact .cons a ((f2_map f xs ys).mp b), fun h => by cases h with | cons a b => exact .cons a ((f2_map f xs ys).mpr b)⟩
theorem f2_len {α β : Type} {P : α → β → Prop} : ∀ {xs : List α} {ys : List β}, F2 P xs ys → xs.length = ys.length
  | _, _, .nil => rfl
  | _, _, .cons _ h => by rw [List.length_cons, List.length_cons, f2_len h]
theorem f2_ints {α : Type} {P : α → Int → Prop} : ∀ {xs : List α} {ys : List D}, F2 (fun x y => ∃ i : Int, y = .int i ∧ P x i) xs ys → ∃ ns : List Int, ys = ns.map D.int ∧ F2 P xs ns
  | _, _, .nil => ⟨[], rfl, .nil⟩
  | _, _, .cons ⟨i, e, p⟩ h => by
    obtain ⟨ns, e2, h2⟩ := f2_ints h
    exact ⟨i :: ns, by rw [e, e2]; rfl, .cons p h2⟩
theorem intsD_map (ns : List Int) : intsD (ns.map D.int) = some ns := ints_map ns
@[simp] theorem onI_ints (g : List Int → Res D) (ns : List Int) : onI g (.lst (ns.map D.int)) = g ns := by
  simp only [onI, ints_map]
end Vm
end
section
/-! Vm, part R: == of data, plainly. -/
namespace Vm
open PySem L2
def Lay (k : Nat) (d : D) : Prop := d.py.canLay0 = true ∧ d.py.depth ≤ k
theorem Lay.mono {k m : Nat} {d : D} (h : Lay k d) (l : k ≤ m) : Lay m d := ⟨h.1, Nat.le_trans h.2 l⟩
theorem lay_int (i : Int) (k : Nat) : Lay k (.int i) := by simp [Lay, D.py, PyData.canLay0, PyData.depth]
theorem lay_bl (i : Bool) (k : Nat) : Lay k (.bl i) := by simp [Lay, D.py, PyData.canLay0, PyData.depth]
theorem lay_non (k : Nat) : Lay k .non := by simp [Lay, D.py, PyData.canLay0, PyData.depth]
theorem lay_str {x : Str} (h : (PyData.str x).canLay0 = true) (k : Nat) : Lay k (.str x) := ⟨h, by simp [D.py, PyData.depth]⟩
theorem lay_all {k : Nat} : ∀ {xs : List D}, (∀ x ∈ xs, Lay k x) → PyData.canLayAll0 (D.pyL xs) = true ∧ PyData.depthAll (D.pyL xs) ≤ k
  | [], _ => by simp [D.pyL, PyData.canLayAll0, PyData.depthAll]
  | x :: xs, h => by
    obtain ⟨h1, h2⟩ := h x (.head _)
    obtain ⟨h3, h4⟩ := lay_all (xs := xs) fun y hy => h y (.tail _ hy)
    refine ⟨by simp only [D.pyL, PyData.canLayAll0, h1, h3, Bool.and_self], ?_⟩
    simp only [D.pyL, PyData.depthAll]
    omega
theorem lay_tup {k : Nat} {xs : List D} (h : ∀ x ∈ xs, Lay k x) : Lay (k + 1) (.tup xs) := by
  obtain ⟨h3, h4⟩ := lay_all h
  refine ⟨by simp only [D.py, PyData.canLay0, h3], ?_⟩
  simp only [D.py, PyData.depth]
  omega
theorem lay_lst {k : Nat} {xs : List D} (h : ∀ x ∈ xs, Lay k x) : Lay (k + 1) (.lst xs) := by
  obtain ⟨h3, h4⟩ := lay_all h
  refine ⟨by simp only [D.py, PyData.canLay0, h3], ?_⟩
  simp only [D.py, PyData.depth]
  omega
theorem Lay.shaped {k : Nat} {d : D} (h : Lay k d) (l : k ≤ 64 := by decide) : SeqAt.shaped d.py = true := by
  unfold SeqAt.shaped
  rw [h.1, Bool.true_and]
  exact decide_eq_true (Nat.le_trans h.2 l)
theorem eqD_gen {x y : D} {k m : Nat} (hx : Lay k x) (hy : Lay m y) (k1 : k ≤ 64) (k2 : m ≤ 64) (hi : ∀ i, x ≠ .int i) (hs : ∀ i, x ≠ .str i) : eqD x y = .ok (.bl (PyData.eqv x.py y.py)) := by
  unfold eqD
  split
  · rename_i i j; exact absurd rfl (hi i)
  · rename_i i j; exact absurd rfl (hs i)
  · rw [if_pos ⟨hx.shaped k1, hy.shaped k2⟩]
theorem neD_gen {x y : D} {k m : Nat} (hx : Lay k x) (hy : Lay m y) (k1 : k ≤ 64) (k2 : m ≤ 64) (hi : ∀ i, x ≠ .int i) (hs : ∀ i, x ≠ .str i) : neD x y = .ok (.bl (!PyData.eqv x.py y.py)) := by
  unfold neD
  split
  · rename_i i j; exact absurd rfl (hi i)
  · rename_i i j; exact absurd rfl (hs i)
  · rw [if_pos ⟨hx.shaped k1, hy.shaped k2⟩]
theorem eq_tup0 {xs : List D} {k : Nat} (h : Lay k (.tup xs)) (l : k ≤ 64 := by decide) : eqD (.tup xs) (.tup []) = .ok (.bl xs.isEmpty) := by
  rw [eqD_gen h (lay_tup (k := 0) (xs := []) fun x hx => by cases hx) l (by decide) (fun i z => nomatch z) (fun i z => nomatch z)]
  cases xs <;> simp [D.py, D.pyL, PyData.eqv, PyData.eqvAll]
theorem eq_lst0 {xs : List D} {k : Nat} (h : Lay k (.lst xs)) (l : k ≤ 64 := by decide) : eqD (.lst xs) (.lst []) = .ok (.bl xs.isEmpty) := by
  rw [eqD_gen h (lay_lst (k := 0) (xs := []) fun x hx => by cases hx) l (by decide) (fun i z => nomatch z) (fun i z => nomatch z)]
  cases xs <;> simp [D.py, D.pyL, PyData.eqv, PyData.eqvAll]
theorem ne_lst0 {xs : List D} {k : Nat} (h : Lay k (.lst xs)) (l : k ≤ 64 := by decide) : neD (.lst xs) (.lst []) = .ok (.bl (!xs.isEmpty)) := by
  rw [neD_gen h (lay_lst (k := 0) (xs := []) fun x hx => by cases hx) l (by decide) (fun i z => nomatch z) (fun i z => nomatch z)]
  cases xs <;> simp [D.py, D.pyL, PyData.eqv, PyData.eqvAll]
@[simp] theorem ne_bl (a b : Bool) : neD (.bl a) (.bl b) = .ok (.bl (!(a == b))) := by
  rw [neD_gen (lay_bl a 0) (lay_bl b 0) (by decide) (by decide) (fun i z => nomatch z) (fun i z => nomatch z)]
  simp [D.py, PyData.eqv]
@[simp] theorem eq_bl (a b : Bool) : eqD (.bl a) (.bl b) = .ok (.bl (a == b)) := by
  rw [eqD_gen (lay_bl a 0) (lay_bl b 0) (by decide) (by decide) (fun i z => nomatch z) (fun i z => nomatch z)]
  simp [D.py, PyData.eqv]
theorem cut_from {xs : List D} (k : Nat) : cutD xs (some (k : Int)) none = xs.drop k := by
  unfold cutD
  rw [HT.sIx_none, HT.sIx_nat]
  rcases Nat.le_total k xs.length with h | h
  · rw [Nat.min_eq_left h, List.take_of_length_le]
    rw [List.length_drop]; exact Nat.le_refl _
  · rw [Nat.min_eq_right h, List.drop_length, List.drop_of_length_le h]
    simp
@[simp] theorem is1 (x : Str) : isiD "list" (.str x) = .ok (.bl false) := rfl
@[simp] theorem is2 (x : Str) : isiD "tuple" (.str x) = .ok (.bl false) := rfl
@[simp] theorem is3 (x : Str) : isiD "int" (.str x) = .ok (.bl false) := rfl
@[simp] theorem is4 (x : Str) : isiD "bool" (.str x) = .ok (.bl false) := rfl
@[simp] theorem is5 : isiD "list" .non = .ok (.bl false) := rfl
@[simp] theorem is6 : isiD "tuple" .non = .ok (.bl false) := rfl
@[simp] theorem is7 : isiD "int" .non = .ok (.bl false) := rfl
@[simp] theorem is8 : isiD "bool" .non = .ok (.bl false) := rfl
@[simp] theorem is9 : isiD "str" .non = .ok (.bl false) := rfl
@[simp] theorem is10 (xs : List D) : isiD "list" (.tup xs) = .ok (.bl false) := rfl
@[simp] theorem is11 (i : Int) : isiD "list" (.int i) = .ok (.bl false) := rfl
@[simp] theorem is12 (i : Int) : isiD "tuple" (.int i) = .ok (.bl false) := rfl
@[simp] theorem is13 (i : Int) : isiD "str" (.int i) = .ok (.bl false) := rfl
theorem eq_non : eqD .non .non = .ok (.bl true) := by
  rw [eqD_gen (lay_non 0) (lay_non 0) (by decide) (by decide) (fun i z => nomatch z) (fun i z => nomatch z)]
  simp [D.py, PyData.eqv]
end Vm
end
section
set_option maxRecDepth 100000
set_option maxHeartbeats 4000000
/-! Vm, part S: sum of a tuple. -/
namespace Vm
open PySem PySem.Spec PyProof.Rows L2
section
variable {prog : Program} {w : World} {A : Around} {E : Value → Shared → Prop} {s : Shared}
theorem pre_take (ns : List Int) : ∀ j, preSum (fun i => ns.getD i 0) j = (ns.take j).sum
  | 0 => by simp [preSum]
  | j + 1 => by
    rw [preSum, pre_take ns j, List.take_add_one, List.sum_append, List.getD_eq_getElem?_getD]
    cases ns[j]? <;> simp
theorem sum_of_tuple {l : Addr} {us : Array Value} {ns : List Int} {Q : Value → Shared → Prop} (cold : A.handled = none) (ist : s.heap.IsTuple l us) (ii : IntsAre us.toList ns)
    (h : ∀ g tk t, (∀ b o, s.heap.get? b = some o → g.get? b = some o) → Q (.int ns.sum t) { s with heap := g, toks := tk }) : wpAny (model prog w) A (call (.builtin "sum") [.ref l]) Q E s := by
  have lt : l < s.heap.objs.size := by
    obtain ⟨_, e, _⟩ := ist
    exact Heap.lt_size e
  have z : us.size = ns.length := by
    have q := IntsAre.length ii
    rwa [Array.length_toList] at q
  refine call_sum_walkG (wpAny_pyIter_tuple ist ⟨_, _, _, _, _, _, fun i => ns.getD i 0, rfl, Walks.tuple (A := A.in1) cold _ l (Nat.ne_of_lt lt) us, ⟨⟨_, Heap.get?_push_size _ rfl, rfl, rfl⟩, ist.push _⟩, fun b hb => ?_, fun i v hv => ?_, fun g tk t hk => ?_⟩)
  · show b < (s.heap.push _).objs.size
    rw [Heap.size_push]
    rcases List.mem_cons.mp hb with rfl | hb
    · exact Nat.lt_succ_self _
    · rw [List.mem_singleton.mp hb]; exact Nat.lt_succ_of_lt lt
  · exact ii.int_at i v (by rw [Array.getElem?_toList]; exact hv)
  · have e : preSum (fun i => ns.getD i 0) us.size = ns.sum := by rw [pre_take, z, List.take_length]
    rw [e]
    refine h g tk t fun b o q => hk b o (fun m => ?_) (Heap.get?_push_of_some _ q)
    rw [List.mem_singleton.mp m] at q
    exact absurd (Heap.lt_size q) (Nat.lt_irrefl _)
end
section
variable {X : Cx} {K : PySem.W.Frag}
def rSumT (K : PySem.W.Frag) : List V → Hp → VK → Prop := fun vs H Q => ∃ (a : Addr) (ns : List Int), vs = [V.ref a] ∧ SqT K H a (ns.map V.int) ∧ Q (.int ns.sum) H
theorem cr_sumT (hc : X.calm = true) : CallR X (.builtin "sum") (rSumT X.K) := by
  intro pins s σ H vs us Q I r h
  obtain ⟨a, ns, rfl, hs, q⟩ := h
  obtain ⟨its, rv, hl, _⟩ := I.tuple hs
  rw [Vals.ref1 r]
  exact sum_of_tuple (I.ok.hd hc) (show s.heap.IsTuple a its.toArray from hl) (ints_of_vals rv) fun h' tk t' hk => ⟨.int _, H, I.kept hk, ⟨_, rfl⟩, q⟩
def rSumA (K : PySem.W.Frag) : List V → Hp → VK → Prop := fun vs H Q => rSum K vs H Q ∨ rSumT K vs H Q
theorem cr_sumA (hc : X.calm = true) : CallR X (.builtin "sum") (rSumA X.K) := fun pins s σ H vs us Q I r h => h.elim (cr_sum hc pins s σ H vs us Q I r) (cr_sumT hc pins s σ H vs us Q I r)
def onT (g : List Int → Res D) (x : D) : Res D := match x with
  | .tup ds => onI g (.lst ds)
  | x => onI g x
theorem cs_sumA : CallS K (rSumA K) (one (onT fun ns => .ok (.int ns.sum))) := by
  intro H M vs ds Q tk r w
  obtain ⟨d, rfl, w1⟩ := one_inv w
  obtain ⟨v, rfl, rv⟩ := r.one
  cases d with
  | tup ds =>
    obtain ⟨ns, e, w2⟩ := onI_inv (x := .lst ds) w1
    cases e
    obtain ⟨a, us, rfl, h, z, q⟩ := rv.tup_inv
    rw [q.ints] at h
    exact .inr ⟨a, ns, rfl, h, w2 _ _ (.refl _) (.int _)⟩
  | _ => exact .inl (cs_sum H M [v] _ Q tk r w)
end
theorem cSumA {X : Cx} {C : Cfg} {W : WX} {k : Nat} (g : Gd X C W k) : CallR X (.builtin "sum") (rSumA C.K) := g.kE ▸ cr_sumA g.calm
@[simp] theorem onT_l (g : List Int → Res D) (ds : List D) : onT g (.lst ds) = onI g (.lst ds) := rfl
@[simp] theorem onT_t (g : List Int → Res D) (ds : List D) : onT g (.tup ds) = onI g (.lst ds) := rfl
end Vm
end
section
set_option maxRecDepth 100000
set_option maxHeartbeats 4000000
/-! Vm, part T: a, b = x, y; range with a step. -/
namespace Vm
open PySem PySem.Spec PyProof.Rows L2
section
variable {X : Cx} {C : Cfg} {W : WX} {k : Nat} {tg : Expr} {a b c : Expr} {ta : TA} {ms : Evs} {p pos : Pos}
def mPar (i j : Nat) (ms : Evs) : Sv := fun env => do
  let r ← ms env
  match r.1 with
  | [d1, d2] => do
    let x ← kp d1
    let y ← kp d2
    if notPar r.2 i = true ∧ notPar r.2 j = true then pure (.next, (r.2.set i (.t x)).set j (.t y)) else .bad
  | _ => .bad
theorem sm_par (i j : Nat) {x y : Str} {px py pt : Pos} {kt k2 : Nat} {pt2 : Pos} (g : Gd X C W k) (h : AM X C W [a, b] ta ms) (hi : X.N[i]? = some x := by rfl) (hj : X.N[j]? = some y := by rfl) (hij : i ≠ j := by decide)
    (hx : X.env.scope.names.lookup x = some .local := by rfl) (hy : X.env.scope.names.lookup y = some .local := by rfl)
    (hw : swappedStores [.Tuple [.Name x px, .Name y py] kt pt] (.Tuple [a, b] k2 pt2) X.env = pure (some [x, y]) := by rfl)
    (hs : swapsWithSole [.Tuple [.Name x px, .Name y py] kt pt] (.Tuple [a, b] k2 pt2) pos.line X.env = pure false := by rfl) :
    SM X C W (.Assign [.Tuple [.Name x px, .Name y py] kt pt] (.Tuple [a, b] k2 pt2) pos) (tPar i j ta) (mPar i j ms) := by
  refine ⟨ps_par g.calm g.nd hi hj hij hx hy h.pe hw hs, fun ad σ H env Dn R w => ?_⟩
  unfold mPar at w
  rw [wp_bind] at w
  refine h.sn C.M0 ad σ H env _ R (w.imp (fun r z vs H' R' S' V' => ?_) fun _ z => z.er)
  obtain ⟨ds, env2⟩ := r
  simp only at z V' R' S'
  match ds, V', z with
  | [], _, z => exact z.elim
  | [_], _, z => exact z.elim
  | _ :: _ :: _ :: _, _, z => exact z.elim
  | [d1, d2], V', z =>
    obtain ⟨v, us, e1, V1, q1⟩ := V'.cons_inv
    obtain ⟨v2, us2, e2, V2, q2⟩ := q1.cons_inv
    have e3 := q2.nil_inv
    subst e3 e2 e1
    simp only at z
    rw [wp_bind] at z
    obtain ⟨x1, z2, rp⟩ := kp_rp V1 z
    rw [wp_bind] at z2
    obtain ⟨y1, z3, rp2⟩ := kp_rp V2 z2
    split at z3
    · refine ⟨v, v2, rfl, ?_⟩
      have R1 := RE.setS (C := C) (i := i) (s := .t d1) (v := some v) R' rfl ⟨v, rfl, rp⟩
      have R2 := RE.setS (C := C) (i := j) (s := .t d2) (v := some v2) R1 rfl ⟨v2, rfl, rp2.less (mo_set rfl)⟩
      exact z3 ad _ H' R2 (S'.keep.trans fun d v q => (q.less (mo_set rfl)).less (mo_set rfl))
    · exact z3.elim
/-! ### range(i, j, c) -/
def rangeC (lo c : Int) (n : Nat) : List D := (List.range n).map fun (i : Nat) => D.int (lo + i * c)
theorem rangeC_length (lo c : Int) (n : Nat) : (rangeC lo c n).length = n := by simp [rangeC]
theorem wk_rangeC {K : PySem.W.Frag} {lo c : Int} {n : Nat} : Wk K (Itc lo c n) [] (rangeC lo c n) := by
  refine ⟨fun H M i d _ r h => ?_, fun H M r => by rw [rangeC_length]; exact Nat.le_refl _⟩
  have hi : i < n := by
    have := (List.getElem?_eq_some_iff.mp h).1
    rwa [rangeC_length] at this
  have e : d = .int (lo + i * c) := by
    unfold rangeC at h
    rw [List.getElem?_map, List.getElem?_range hi] at h
    cases h
    rfl
  refine ⟨hi, fun x H' y => ?_⟩
  obtain ⟨e1, e2⟩ := y
  subst e1 e2 e
  exact ⟨.refl _, .int _⟩
def int3 : List D → Option (Int × Int × Int)
  | [.int i, .int j, .int c] => some (i, j, c)
  | _ => none
theorem int3_eq {ds : List D} {q : Int × Int × Int} (h : int3 ds = some q) : ds = [.int q.1, .int q.2.1, .int q.2.2] := by
  unfold int3 at h
  split at h
  · cases h; rfl
  · cases h
def mRng3 (ms : Evs) : Em := fun env => do
  let r ← ms env
  match int3 r.1 with
  | some q => if q.2.2 ≠ 0 ∧ q.2.2.natAbs < 1073741824 ∧ Builtin.Range.small q.1 q.2.1 q.2.2 = true ∧ Builtin.Range.rangeSize q.1 q.2.1 q.2.2 = ((Builtin.Range.rangeSize q.1 q.2.1 q.2.2).toNat : Int) ∧ (Builtin.Range.rangeSize q.1 q.2.1 q.2.2).toNat ≤ sizeLine then
      pure (rangeC q.1 q.2.2 (Builtin.Range.rangeSize q.1 q.2.1 q.2.2).toNat, r.2) else .bad
  | none => .bad
theorem im_range3 (g : Gd X C W k) (h : AM X C W [a, b, c] ta ms) (hm : X.mg "range" = none) (hg : Gl X "range" := by rfl) (hs : starEach [a, b, c] X.env = (false, eval a X.env) :: starEach [b, c] X.env := by rfl) (hpl : (backTo pos (starEach [b, c] X.env)).any (·.1) = false := by rfl) :
    IM X C W tg (.Call (.Name "range" p) [a, b, c] [] pos) (iRng3 ta) (mRng3 ms) := by
  refine ⟨pi_range3 hg hm h.pe hs hpl, fun M0 ad σ H env R RR w => ?_⟩
  unfold mRng3 at w
  refine h.sn' RR w fun r vs H' R' S' V' w1 => ?_
  obtain ⟨ds, env2⟩ := r
  simp only at V' w1
  cases q : int3 ds with
  | none => rw [q] at w1; exact w1.elim
  | some pr =>
    rw [q] at w1
    rw [int3_eq q] at V'
    obtain ⟨v, us, e1, h1, q1⟩ := V'.cons_inv
    obtain ⟨v2, us2, e2, h2, q2⟩ := q1.cons_inv
    obtain ⟨v3, us3, e3, h3, q3⟩ := q2.cons_inv
    have e4 := q3.nil_inv
    subst e4 e3 e2
    have k1 : Rp C.K H' (Mo (C.w M0) env2 ad) (.int pr.1) v := h1
    have k2 : Rp C.K H' (Mo (C.w M0) env2 ad) (.int pr.2.1) v2 := h2
    have k3 : Rp C.K H' (Mo (C.w M0) env2 ad) (.int pr.2.2) v3 := h3
    cases k1
    cases k2
    cases k3
    simp only at w1
    split at w1
    · rename_i hz
      refine ⟨pr.1, pr.2.1, pr.2.2, (Builtin.Range.rangeSize pr.1 pr.2.1 pr.2.2).toNat, e1, ⟨hz.1, hz.2.1, hz.2.2.1, hz.2.2.2.1⟩, w1 _ [] H' R' S' (fun p hp => nomatch hp) wk_rangeC ?_⟩
      show (rangeC pr.1 pr.2.2 (Builtin.Range.rangeSize pr.1 pr.2.1 pr.2.2).toNat).length ≤ sizeLine
      rw [rangeC_length]
      exact hz.2.2.2.2
    · exact w1.elim
end
end Vm
end
section
set_option maxRecDepth 100000
set_option maxHeartbeats 4000000
/-! Vm, part U: pop(i), extend of an own list. -/
namespace Vm
open PySem PySem.Spec PyProof.Rows L2
section
variable {X : Cx} {C : Cfg} {W : WX} {k : Nat} {e : Expr} {ta : TE} {m : Ev} {pos : Pos}
/-- an own list's content anew -/
theorem RE.lay {M0 : Addr → Prop} {ad : Nat → Addr} {σ : L2.St} {H1 : Hp} {env : Sls} {i : Nat} {s : Sl} {ds ds' : List D} {us us' : List V} (R1 : RE (C.w M0) ad H1 σ env) (z2 : env[i]? = some s) (zc2 : s.con = some (.lst ds)) (hu : H1 (ad i) = some (.lst us))
    (hz : ds'.length ≤ sizeLine) (ru : RpL C.K H1 (Mo (C.w M0) env ad) ds' us') :
    RE (C.w M0) ad (upd H1 (ad i) (.lst us')) σ (env.set i (s.put (.lst ds'))) ∧ Stp (C.w M0) ad H1 env (upd H1 (ad i) (.lst us')) (env.set i (s.put (.lst ds'))) ∧
      ∀ d v, Rp C.K H1 (Mo (C.w M0) env ad) d v → Rp C.K (upd H1 (ad i) (.lst us')) (Mo (C.w M0) (env.set i (s.put (.lst ds'))) ad) d v := by
  have kk : ∀ b o, H1 b = some o → b ≠ ad i → upd H1 (ad i) (.lst us') b = some o := fun b o e hb => by rw [upd_ne hb]; exact e
  have hM : Mo (C.w M0) env ad (ad i) := .inr ⟨i, s, z2, Sl.isMut.own (Sl.con_mut zc2), rfl⟩
  have x1 : Ext (Mo (C.w M0) env ad) H1 (upd H1 (ad i) (.lst us')) := by
    refine ⟨fun b o e hn _ => kk b o e fun q => hn (q ▸ hM), fun b xs e => kk b _ e fun q => ?_, fun b o u e => kk b _ e fun q => ?_, fun b hb => ?_⟩
    · rw [q, hu] at e; cases e
    · rw [q, hu] at e; cases e
    · by_cases q : b = ad i
      · rw [q, upd_same]; exact fun z => nomatch z
      · rw [upd_ne q]; exact hb
  obtain ⟨R2, S2⟩ := R1.put (d := .lst ds') (H' := upd H1 (ad i) (.lst us')) z2 (Sl.con_mut zc2) kk ⟨hz, us', upd_same, ru.ext x1 fun b q => .inl q⟩
  refine ⟨R2, S2, fun d v h => ?_⟩
  exact (S2.rp h)
def mPopAt (i : Nat) (m : Ev) : Ev := fun env =>
  match env[i]?.bind Sl.con with
  | some (.lst _) => do
    let r ← m env
    match r.2[i]? with
    | some s => (match s.con, r.1 with
      | some (.lst ds), .int j => (match seqIndex? j ds.length with
        | some n => (match ds[n]? with
          | some d => if -(2 ^ 63) ≤ j ∧ j < 2 ^ 63 then pure (d, r.2.set i (s.put (.lst (ds.eraseIdx n)))) else .bad
          | none => .bad)
        | none => .bad)
      | _, _ => .bad)
    | _ => .bad
  | _ => .bad
theorem RpL.erase {K : PySem.W.Frag} {H : Hp} {M : Addr → Prop} {ds : List D} {vs : List V} (r : RpL K H M ds vs) (n : Nat) : RpL K H M (ds.eraseIdx n) (vs.eraseIdx n) := by
  refine ⟨?_, fun i d v h1 h2 => ?_⟩
  · rw [List.length_eraseIdx, List.length_eraseIdx, r.len]
  · rw [List.getElem?_eraseIdx] at h1 h2
    split at h1
    · rename_i hi
      rw [if_pos hi] at h2
      exact r.item i d v h1 h2
    · rename_i hi
      rw [if_neg hi] at h2
      exact r.item (i + 1) d v h1 h2
theorem em_popAt (i : Nat) {y : Str} {py apos : Pos} (g : Gd X C W k) (he : EM X C W e ta m) (hN : X.N[i]? = some y := by rfl) (hv : Vis X.env.scope y := by first | exact Or.inl rfl | exact Or.inr (Or.inl rfl) | exact Or.inr (Or.inr rfl)) (hd : (y == ("__debug__" : Str)) = false := by decide)
    (hcd : (y == ("__classdict__" : Str)) = false := by decide) (hbase : attributeBase (.Name y py) "pop" X.env (eval (.Name y py) X.env) = eval (.Name y py) X.env := by rfl)
    (hfew : ((backTo pos (starEach [e] X.env)).all (fun x => !x.1) && (backToKw pos (keywordEach [] X.env)).all (fun x => x.1.isSome)
      && decide ([e].length + ([] : List Keyword).length + (if ([] : List Keyword).isEmpty then 0 else 1) < 30)) = true := by rfl)
    (hline : (apos.endLine == pos.line) = true := by rfl) (hs : starEach [e] X.env = (false, eval e X.env) :: starEach [] X.env := by rfl) (hplain : (backTo pos (starEach [] X.env)).any (·.1) = false := by rfl) :
    EM X C W (.Call (.Attribute (.Name y py) "pop" apos) [e] [] pos) (tBM C.K "list" rPopAt (tVar i) (tCons ta tNil)) (mPopAt i m) := by
  refine ⟨g.kE ▸ pe_bm PySem.F.plainAttrs_list PySem.F.slot_list_pop PySem.F.type_list_pop mt_popAt (pe_var hN hv hd hcd) (pa_cons he.pe pa_nil hs) hbase hfew hline hs hplain, fun M0 ad σ H env Q R w => ?_⟩
  unfold mPopAt at w
  cases z : env[i]? with
  | none => rw [z] at w; exact w.elim
  | some s0 =>
    rw [z] at w
    simp only [Option.bind_some] at w
    cases zc : s0.con with
    | none => rw [zc] at w; exact w.elim
    | some c0 =>
      rw [zc] at w
      cases c0 with
      | lst ds0 =>
        obtain ⟨hσ, _, us0, hu0, _⟩ := R.con z zc
        refine ⟨.ref (ad i), hσ, .inl ⟨rfl, us0, .of hu0⟩, ?_⟩
        refine he.sn' R w fun r v H1 R1 S1 V1 w1 => ?_
        cases z2 : r.2[i]? with
        | none => rw [z2] at w1; exact w1.elim
        | some s =>
          rw [z2] at w1
          simp only at w1
          cases zc2 : s.con with
          | none => rw [zc2] at w1; exact w1.elim
          | some c =>
            rw [zc2] at w1
            cases hr : r.1 with
            | int j =>
              rw [hr] at w1 V1
              cases c with
              | lst ds =>
                simp only at w1
                cases hq : seqIndex? j ds.length with
                | none => rw [hq] at w1; exact w1.elim
                | some n =>
                  rw [hq] at w1
                  simp only at w1
                  cases hd2 : ds[n]? with
                  | none => rw [hd2] at w1; exact w1.elim
                  | some d =>
                    rw [hd2] at w1
                    simp only at w1
                    split at w1
                    · rename_i hb
                      obtain ⟨_, hz, us, hu, ru⟩ := R1.con z2 zc2
                      cases V1
                      have hl := ru.len
                      have hn : n < us.length := by rw [hl]; exact (List.getElem?_eq_some_iff.mp hd2).1
                      have hv2 : us[n]? = some us[n] := List.getElem?_eq_getElem hn
                      refine ⟨ad i, us, j, n, us[n], rfl, rfl, hu, hb.1, hb.2, by rw [hl]; exact hq, hv2, ?_⟩
                      obtain ⟨R2, S2, kk⟩ := RE.lay (ds' := ds.eraseIdx n) (us' := us.eraseIdx n) R1 z2 zc2 hu (Nat.le_trans (by rw [List.length_eraseIdx]; split <;> omega) hz) (ru.erase n)
                      exact w1 _ _ R2 (S1.trans S2) (.of (kk _ _ (ru.item n d _ hd2 hv2)))
                    · exact w1.elim
              | _ => exact w1.elim
            | _ => rw [hr] at w1; cases c <;> exact w1.elim
      | _ => exact w.elim
def mExt (i : Nat) (m : Ev) : Ev := fun env =>
  match env[i]?.bind Sl.con with
  | some (.lst _) => do
    let r ← m env
    let d ← kp r.1
    match r.2[i]? with
    | some s => (match s.con, d with
      | some (.lst ds), .lst es => if ds.length + es.length ≤ sizeLine then pure (.non, r.2.set i (s.put (.lst (ds ++ es)))) else .bad
      | _, _ => .bad)
    | _ => .bad
  | _ => .bad
theorem em_extend (i : Nat) {y : Str} {py apos : Pos} (g : Gd X C W k) (he : EM X C W e ta m) (hN : X.N[i]? = some y := by rfl) (hv : Vis X.env.scope y := by first | exact Or.inl rfl | exact Or.inr (Or.inl rfl) | exact Or.inr (Or.inr rfl)) (hd : (y == ("__debug__" : Str)) = false := by decide)
    (hcd : (y == ("__classdict__" : Str)) = false := by decide) (hbase : attributeBase (.Name y py) "extend" X.env (eval (.Name y py) X.env) = eval (.Name y py) X.env := by rfl)
    (hfew : ((backTo pos (starEach [e] X.env)).all (fun x => !x.1) && (backToKw pos (keywordEach [] X.env)).all (fun x => x.1.isSome)
      && decide ([e].length + ([] : List Keyword).length + (if ([] : List Keyword).isEmpty then 0 else 1) < 30)) = true := by rfl)
    (hline : (apos.endLine == pos.line) = true := by rfl) (hs : starEach [e] X.env = (false, eval e X.env) :: starEach [] X.env := by rfl) (hplain : (backTo pos (starEach [] X.env)).any (·.1) = false := by rfl) :
    EM X C W (.Call (.Attribute (.Name y py) "extend" apos) [e] [] pos) (tBM C.K "list" rExtend (tVar i) (tCons ta tNil)) (mExt i m) := by
  refine ⟨g.kE ▸ pe_bm PySem.F.plainAttrs_list PySem.F.slot_list_extend PySem.F.type_list_extend mt_extend (pe_var hN hv hd hcd) (pa_cons he.pe pa_nil hs) hbase hfew hline hs hplain, fun M0 ad σ H env Q R w => ?_⟩
  unfold mExt at w
  cases z : env[i]? with
  | none => rw [z] at w; exact w.elim
  | some s0 =>
    rw [z] at w
    simp only [Option.bind_some] at w
    cases zc : s0.con with
    | none => rw [zc] at w; exact w.elim
    | some c0 =>
      rw [zc] at w
      cases c0 with
      | lst ds0 =>
        obtain ⟨hσ, _, us0, hu0, _⟩ := R.con z zc
        refine ⟨.ref (ad i), hσ, .inl ⟨rfl, us0, .of hu0⟩, ?_⟩
        refine he.sn' R w fun r v H1 R1 S1 V1 w1 => ?_
        rw [wp_bind] at w1
        obtain ⟨_, w2, rp⟩ := kp_rp V1 w1
        cases z2 : r.2[i]? with
        | none => rw [z2] at w2; exact w2.elim
        | some s =>
          rw [z2] at w2
          simp only at w2
          cases zc2 : s.con with
          | none => rw [zc2] at w2; exact w2.elim
          | some c =>
            rw [zc2] at w2
            cases hr : r.1 with
            | lst es =>
              rw [hr] at w2 rp
              cases c with
              | lst ds =>
                simp only at w2
                split at w2
                · rename_i hz2
                  obtain ⟨_, hz, us, hu, ru⟩ := R1.con z2 zc2
                  obtain ⟨b, ws, rfl, hb, hzb, rb⟩ := (show Ro C.K H1 (Mo (C.w M0) r.2 ad) (.lst es) v from rp.ro).lst_inv
                  refine ⟨ad i, b, us, ws, rfl, rfl, hu, hb, by rw [ru.len, rb.len]; exact hz2, ?_⟩
                  obtain ⟨R2, S2, kk⟩ := RE.lay (ds' := ds ++ es) (us' := us ++ ws) R1 z2 zc2 hu (by rw [List.length_append]; exact hz2) (ru.append rb)
                  exact w2 _ _ R2 (S1.trans S2) (.of .non)
                · exact w2.elim
              | _ => exact w2.elim
            | _ => rw [hr] at w2; cases c <;> exact w2.elim
      | _ => exact w.elim
end
end Vm
end
section
set_option maxRecDepth 100000
set_option maxHeartbeats 4000000
/-! Vm, part V: name = f(..), f hands back a new list or None. -/
namespace Vm
open PySem PySem.Spec PyProof.Rows L2
section
variable {X : Cx} {C : Cfg} {W : WX} {k j n : Nat} {e : Expr} {es : List Expr} {t : TA} {ms : Evs} {x : Str} {p pos pos2 pos' : Pos}
def mSetG (i n : Nat) (fm : List D → Res D) (ms : Evs) : Sv := fun env => do
  let r ← ms env
  if r.1.length = n ∧ allKp r.1 = true then do
    let d ← fm r.1
    if notPar r.2 i = true then pure (.next, r.2.set i (if noneD d = true then .t d else .l d)) else .bad
  else .bad
theorem sm_setG (i : Nat) {y : Str} {fm : List D → Res D} (g : Gd X C W k) (F : Fn X.prog X.w X.K X.mg X.base j x (spG C.K C.T C.mg n fm)) (h : AM X C W (e :: es) t ms) (hj : j ≤ k := by decide) (hg : Gl X x := by rfl)
    (hdb : (x == ("__debug__" : Str)) = false := by decide) (he : starEach (e :: es) X.env = (false, eval e X.env) :: starEach es X.env := by rfl) (hpl : (backTo pos (starEach es X.env)).any (·.1) = false := by rfl)
    (hi : X.N[i]? = some y := by rfl) (hx : Loc X.env.scope y := by first | exact .inl rfl | exact .inr rfl) (hs : swapsWith (.Call (.Name x p) (e :: es) [] pos) (some (.Name y pos')) pos2.line X.env = pure false := by rfl) (hf : X.fn y = true ∨ X.env.scope.names.lookup y = some .local := by exact .inl rfl) :
    SM X C W (.Assign [.Name y pos'] (.Call (.Name x p) (e :: es) [] pos) pos2) (tAsg (tCallS (spG C.K C.T C.mg n fm) (WE W) t) (gName i)) (mSetG i n fm ms) := by
  obtain ⟨f, fd, ps, F, hm, hk, hb⟩ := (F.mono hj).ex
  refine ⟨ps_set g.nd hi hx (pe_callS F g.room hg hm hk hb (fun σ => passAt g.tk σ) h.pe hdb he hpl) hs hf, fun ad σ H env Dn R w => ?_⟩
  unfold mSetG at w
  rw [wp_bind] at w
  refine h.sn C.M0 ad σ H env _ R (w.imp (fun r z vs H1 R1 S1 V1 => ?_) fun _ z => z.er)
  split at z
  · rename_i hl
    refine ⟨by rw [V1.len]; exact hl.1, R1.tabs, Mo C r.2 ad, r.1, fun a z => R1.mtrk z, allKp_rp V1 hl.2, ?_⟩
    rw [wp_bind] at z
    refine z.imp (fun d z2 => ⟨fun e H' s => ?_, fun e a H' hn s c => ?_⟩) fun c z cls dd H' hm e => z ad σ cls dd H' r.2 hm (R1.growS e)
    · subst e
      split at z2
      · exact z2 ad _ H' (RE.setS (C := C) (s := .t .non) (v := some .non) (R1.growS s) rfl ⟨.non, rfl, .non⟩) ((S1.trans (.growS s)).keep.trans fun d v q => q.less fun a z => mo_set rfl a z)
      · exact z2.elim
    · have hnd : noneD d = false := by
        cases d with
        | non => exact absurd rfl e
        | _ => rfl
      rw [hnd] at z2
      split at z2
      · rename_i hp
        have h1 : H a = none := by
          cases q : H a with
          | none => rfl
          | some o => exact absurd hn (by
              have := S1.ext.trk a (by rw [q]; exact fun z => nomatch z)
              cases q1 : H1 a with
              | none => exact absurd q1 this
              | some o1 => exact absurd hn (by rw [q1]; exact fun z => nomatch z))
        have h0 : C.H0 a = none := by
          cases q : C.H0 a with
          | none => rfl
          | some o => exact absurd h1 (R.trk a (by rw [q]; exact fun z => nomatch z))
        have S' : Stp C ad H env H' r.2 := S1.trans (.growS s)
        have hno : ¬ Mo C r.2 ad a := fun q => R.mtrk (S'.mo a q) h1
        have R' : RE (C.add a) ad H' σ r.2 := R1.growAddS s hn c.trk
        have R2 : RE C (adSet ad i a) H' (σ.set i (some (.ref a))) (r.2.set i (.l d)) := RE.setL (C := C) R' h0 hno (notPar_lt hp) (c.ext rfl .refl fun b z => .inl (mo_add.mp z))
        refine z2 _ _ H' R2 fun d v q => q.ext S'.extM fun b y => ?_
        rcases y with y | ⟨j2, s2, e1, o, rfl⟩
        · exact .inl (.inl y)
        · by_cases hj2 : j2 = i
          · right
            have : adSet ad i a j2 = a := by unfold adSet; rw [if_pos hj2]
            rw [this]; exact h1
          · rw [List.getElem?_set_ne (Ne.symm hj2)] at e1
            have : adSet ad i a j2 = ad j2 := by unfold adSet; rw [if_neg hj2]
            rw [this]
            exact .inl (S'.mo _ (.inr ⟨j2, s2, e1, o, rfl⟩))
      · exact z2.elim
  · exact z.elim
end
section
variable {T : List (Addr × Str)} {P : Program} {w : World} {K : PySem.W.Frag} {mg : Str → Option Value} {base : Heap} {x : Str} {st : Stmt} {f : Addr} {fd : FuncData} {N ps ks : List Str} {is : List Nat} {k n : Nat} {m : Sv}
theorem fnKG (F : Fun K x x st f fd) (S : FnScope N ps (defScope st)) (hn : ps.length = n) (hm : mg x = some (.ref f))
    (hb : ∀ (kV doc pm : Value) (an : Option Addr) (cdv ct : Value) (us : List Value), us.length = is.length → bindArgs (PySem.W.fnOf x x (defArgs st) (defBody st) (defScope st) .none kV doc pm an cdv ct) ⟨[], ks.zip us⟩ = pure (ps.zip (pick is us)))
    (B : Body P w K T mg base N x st k true m) : FnK P w K mg base (k + 1) x ks is (spP K T mg n (runG N.length m)) := by
  refine ⟨f, fd, ps, (fnG_ok F S hn B).imp fun vs H Q E ⟨hl, ht, M, ds, tk, r, q⟩ => ⟨hl, ht, M, ds, tk, r, q.imp (fun d z => ⟨fun e H' s => by subst e; exact z _ H' s .non, fun _ a H' hn e c => z _ H' e (cell_rp c (fun q => tk a q hn) fun b q => .inl q)⟩) fun c z => z⟩, hm, F.kp, ?_⟩
  obtain ⟨oc, od, kV, doc, pm, an, cdv, ct, osl, rfl, lk, hcd⟩ := F.ex
  exact ⟨fun s ws _ hl => .of_eq (hb kV doc pm an cdv ct ws hl)⟩
theorem fnKF (F : Fun K x x st f fd) (S : FnScope N ps (defScope st)) (hn : ps.length = n) (hm : mg x = some (.ref f))
    (hb : ∀ (kV doc pm : Value) (an : Option Addr) (cdv ct : Value) (us : List Value), us.length = is.length → bindArgs (PySem.W.fnOf x x (defArgs st) (defBody st) (defScope st) .none kV doc pm an cdv ct) ⟨[], ks.zip us⟩ = pure (ps.zip (pick is us)))
    (B : Body P w K T mg base N x st k true m) : FnK P w K mg base (k + 1) x ks is (spP K T mg n (runF N.length m)) := by
  refine ⟨f, fd, ps, (fnF_ok F S hn B).imp fun vs H Q E ⟨hl, ht, M, ds, tk, r, q⟩ => ⟨hl, ht, M, ds, tk, r, q.imp (fun d z a H' hn e c => z _ H' e (cell_rp c (fun q => tk a q hn) fun b q => .inl q)) fun c z => z⟩, hm, F.kp, ?_⟩
  obtain ⟨oc, od, kV, doc, pm, an, cdv, ct, osl, rfl, lk, hcd⟩ := F.ex
  exact ⟨fun s ws _ hl => .of_eq (hb kV doc pm an cdv ct ws hl)⟩
end
end Vm
end
section
set_option maxRecDepth 100000
set_option maxHeartbeats 4000000
/-! Vm, part W: a comprehension with two fors. -/
namespace Vm
open PySem PySem.Spec PyProof.Rows L2
def lcL2 (vs vs1 : List Nat) (g : Gv) (tt : Ev1) (mi1 : Em) (g1 : Gv) (tt1 : Ev1) (me : Ev) : List D → Sls → Res (List D × Sls)
  | [], env => .ok ([], env)
  | d :: ds, env => do
    let e1 ← noE (g d env)
    let b ← noE (tt e1)
    if b.1 = true then do
      let r ← noE (mi1 b.2)
      if r.1.length ≤ 1000 then do
        let q1 ← lcL vs1 g1 tt1 me r.1 (wipeE r.2 vs1)
        let q ← lcL2 vs vs1 g tt mi1 g1 tt1 me ds (wipeE q1.2 vs)
        pure (q1.1 ++ q.1, q.2)
      else .bad
    else lcL2 vs vs1 g tt mi1 g1 tt1 me ds (wipeE b.2 vs)
def mLc2 (mi : Em) (vs vs1 : List Nat) (g : Gv) (tt : Ev1) (mi1 : Em) (g1 : Gv) (tt1 : Ev1) (me : Ev) : Ev := fun env => do
  let r ← mi env
  if okWipe r.2 vs = true ∧ r.1.length ≤ 1000 ∧ vs1.all (fun i => vs.contains i) = true then do
    let q ← lcL2 vs vs1 g tt mi1 g1 tt1 me r.1 (wipeE r.2 vs)
    if q.1.length ≤ sizeLine then pure (.lst q.1, backE r.2 q.2 vs) else .bad
  else .bad
theorem ext_upd {M : Addr → Prop} {H1 H5 : Hp} {L : Addr} {o : HO} (x : Ext M H1 H5) (h : H1 L = none) : Ext M H1 (upd H5 L o) := by
  refine ⟨fun b o e n nt => ?_, fun b xs e => ?_, fun b o u e => ?_, fun b e => ?_⟩
  · rw [upd_ne fun q => by rw [q, h] at e; cases e]; exact x.stay b o e n nt
  · rw [upd_ne fun q => by rw [q, h] at e; cases e]; exact x.tups b xs e
  · rw [upd_ne fun q => by rw [q, h] at e; cases e]; exact x.frzs b o u e
  · rw [upd_ne fun q => by rw [q] at e; exact e h]; exact x.trk b e
variable {C : Cfg} {W : WX} {me : Ev} {te : TE}
/-- the inner loop: from the inner source's data on -/
theorem inner_sn {g1 : TG} {gv1 : Gv} {tt1 : TT} {mt1 : Ev1} {vs1 : List Nat} (hg : ∀ (M0 : Addr → Prop) (ad : Nat → Addr) (σ : L2.St) (H : Hp) (env : Sls) (d : D) (v : V) (Q : L2.St → Hp → Prop), RE (C.w M0) ad H σ env → Rp C.K H (Mo (C.w M0) env ad) d v →
      (gv1 d env).Wp (fun env' => ∀ σ', RE (C.w M0) ad H σ' env' → (∀ a, Ow env' ad a → Ow env ad a) → σ'.length = σ.length → (∀ j, j ∉ vs1 → σ'[j]? = σ[j]?) → Q σ' H) (fun _ => False) → g1 v σ H Q)
    (ht : ∀ (M0 : Addr → Prop) (ad : Nat → Addr) (σ : L2.St) (H : Hp) (env : Sls) (Q : Bool → Hp → Prop), RE (C.w M0) ad H σ env →
      (mt1 env).Wp (fun r => ∀ H', RE (C.w M0) ad H' σ r.2 → Stp (C.w M0) ad H env H' r.2 → Q r.1 H') (Er (C.w M0) ad σ W0) → tt1 σ H Q)
    (he : ∀ (M0 : Addr → Prop) (ad : Nat → Addr) (σ : L2.St) (H : Hp) (env : Sls) (Q : VK), RE (C.w M0) ad H σ env →
      (me env).Wp (fun r => ∀ v H', RE (C.w M0) ad H' σ r.2 → Stp (C.w M0) ad H env H' r.2 → VR (C.w M0) ad H' σ r.2 r.1 v → Q v H') (Er (C.w M0) ad σ W0) → te σ H Q)
    {M0 : Addr → Prop} {ad : Nat → Addr} {σ2 : L2.St} {L : Addr} {H1 H4 : Hp} {envR : Sls} {acc0 : List D} {us0 : List V} {O : Addr → Prop} {n0 : Nat} {hs : List (D × V)} {J : It} {ds : List D} {Nx : Hp → Prop} {P : List D → Sls → Prop}
    (hL1 : H1 L = none) (h0L : C.H0 L = none) (LnO : ¬ O L) (R0 : RE ((C.w M0).add L) ad H4 σ2 envR) (x0 : Ext O H1 H4) (ow0 : ∀ a, Ow envR ad a → O a) (hus0 : H4 L = some (.lst us0)) (rac0 : RpL C.K H4 (Mo ((C.w M0).add L) envR ad) acc0 us0) (hacc0 : acc0.length ≤ n0)
    (Rh : RpH C.K H4 (Mo ((C.w M0).add L) envR ad) hs) (Wlk : Wk C.K J hs ds) (hz : ds.length ≤ 1000) (hn : n0 + 1000 < sizeLine)
    (w : (lcL vs1 gv1 mt1 me ds (wipeE envR vs1)).Wp (fun q => P (acc0 ++ q.1) q.2) (fun _ => True))
    (nx : ∀ (env' : Sls) (acc : List D) (us : List V) (H : Hp), RE ((C.w M0).add L) ad H (L2.wipe σ2 vs1) env' → Ext O H1 H → (∀ a, Ow env' ad a → O a) → H L = some (.lst us) → RpL C.K H (Mo ((C.w M0).add L) env' ad) acc us → acc.length ≤ n0 + 1000 → P acc env' → Nx H) :
    ∃ W1 : Nat → Nat → Hp → Prop, (∃ m, W1 0 m H4) ∧ ∀ j k H, W1 j k H →
      (J.stop j H ∧ Nx H) ∨ (J.go j H ∧ ∃ Nx1 : Hp → Prop, (∀ H', Nx1 H' → ∃ k', k' < k ∧ W1 (j + 1) k' H') ∧ ∀ x H', J.yld j H x H' → g1 x (L2.wipe σ2 vs1) H' fun σ3 H5 => L2.wipe σ3 vs1 = L2.wipe σ2 vs1 ∧ tt1 σ3 H5 fun b H6 =>
        if b = true then te σ3 H6 fun y H7 => ∃ acc, H7 L = some (.lst acc) ∧ acc.length < sizeLine ∧ Nx1 (upd H7 L (.lst (acc ++ [y]))) else Nx1 H6) := by
  refine ⟨fun j k H => k = ds.length - j ∧ j ≤ ds.length ∧ ∃ (env' : Sls) (acc : List D) (us : List V), RE ((C.w M0).add L) ad H (L2.wipe σ2 vs1) env' ∧ Ext O H1 H ∧ Ext (fun a => a = L ∨ Ow envR ad a) H4 H ∧ (∀ a, Ow env' ad a → Ow envR ad a) ∧
      H L = some (.lst us) ∧ RpL C.K H (Mo ((C.w M0).add L) env' ad) acc us ∧ acc.length ≤ n0 + j ∧ (lcL vs1 gv1 mt1 me (ds.drop j) env').Wp (fun q => P (acc ++ q.1) q.2) (fun _ => True),
    ⟨ds.length, by simp, Nat.zero_le _, wipeE envR vs1, acc0, us0, R0.wipe vs1, x0, .refl, ow_wipe vs1, hus0, rac0.less fun a z => z.imp id (ow_wipe vs1 a), hacc0, by rw [List.drop_zero]; exact w⟩, ?_⟩
  rintro j k H2 ⟨rfl, hjl, env2, acc, us, R2, x2, y2, ow2, hus, rac, hacc, w2⟩
  have owO : ∀ a, Ow env2 ad a → O a := fun a z => ow0 a (ow2 a z)
  have Rh2 : RpH C.K H2 (Mo ((C.w M0).add L) env2 ad) hs := Rh.ext (y2.mono fun a z => z.elim (fun z => z ▸ .inl (.inr rfl)) fun z => .inr z) fun b z => .inl (z.imp id (ow2 b))
  by_cases hlt : j < ds.length
  · have ed : ds[j]? = some ds[j] := List.getElem?_eq_getElem hlt
    have edr : ds.drop j = ds[j] :: ds.drop (j + 1) := List.drop_eq_getElem_cons hlt
    obtain ⟨hgo, hy⟩ := Wlk.go H2 _ j _ (fun a z => R2.mtrk z) Rh2 ed
    rw [edr] at w2
    unfold lcL at w2
    refine .inr ⟨hgo, fun H' => ∃ (env' : Sls) (acc : List D) (us : List V), RE ((C.w M0).add L) ad H' (L2.wipe σ2 vs1) env' ∧ Ext O H1 H' ∧ Ext (fun a => a = L ∨ Ow envR ad a) H4 H' ∧ (∀ a, Ow env' ad a → Ow envR ad a) ∧
      H' L = some (.lst us) ∧ RpL C.K H' (Mo ((C.w M0).add L) env' ad) acc us ∧ acc.length ≤ n0 + (j + 1) ∧ (lcL vs1 gv1 mt1 me (ds.drop (j + 1)) env').Wp (fun q => P (acc ++ q.1) q.2) (fun _ => True), fun H' h' => ⟨ds.length - (j + 1), by omega, rfl, hlt, h'⟩, fun x H3 y => ?_⟩
    obtain ⟨s3, rx⟩ := hy x H3 y
    have R3 : RE ((C.w M0).add L) ad H3 (L2.wipe σ2 vs1) env2 := R2.grow s3
    rw [wp_bind] at w2
    refine hg _ ad (L2.wipe σ2 vs1) H3 env2 ds[j] x _ R3 rx ((noE_wp (E' := fun _ => False) w2).imp (fun env3 w3 σ3 R3' ow3 l3 o3 => ?_) fun _ z => z)
    have ew : L2.wipe σ3 vs1 = L2.wipe σ2 vs1 := by
      rw [st_wipe_eq l3 o3]
      exact st_wipe_eq (wipe_length _ _) fun j hj => wipe_out hj
    refine ⟨ew, ?_⟩
    rw [wp_bind] at w3
    refine ht _ ad σ3 H3 env3 _ R3' ((noE_wp (E' := Er ((C.w M0).add L) ad σ3 W0) w3).imp (fun b w4 H4' R4 S4 => ?_) fun _ z => z)
    have z4 : Ext (Ow env2 ad) H2 H4' := (Ext.of_same s3).trans (S4.ext.mono fun a z => ow3 a z)
    have ow4 : ∀ a, Ow b.2 ad a → Ow env2 ad a := fun a z => ow3 a (S4.ow a z)
    have lowM : ∀ {e1 e2 : Sls}, (∀ a, Ow e2 ad a → Ow e1 ad a) → ∀ a, Mo ((C.w M0).add L) e2 ad a → Mo ((C.w M0).add L) e1 ad a := fun h a z => z.imp id (h a)
    split
    · rename_i hb
      rw [if_pos hb, wp_bind] at w4
      refine he _ ad σ3 H4' b.2 _ R4 ((noE_wp (E' := Er ((C.w M0).add L) ad σ3 W0) w4).imp (fun r w5 v H5 R5 S5 V5 => ?_) fun _ z => z)
      rw [wp_bind] at w5
      obtain ⟨_, w6, rv⟩ := kp_rp V5 w5
      have z5 : Ext (Ow env2 ad) H2 H5 := z4.trans (S5.ext.mono ow4)
      have ow5 : ∀ a, Ow r.2 ad a → Ow env2 ad a := fun a z => ow4 a (S5.ow a z)
      have hL5 : H5 L = some (.lst us) := z5.stay L _ hus (fun z => LnO (owO L z)) fun _ z => nomatch z
      obtain ⟨R6, x6⟩ := R5.other (us' := us ++ [v]) (.inr rfl) (fun z => LnO (owO L (ow5 L z))) h0L hL5
      have rac5 : RpL C.K H5 (Mo ((C.w M0).add L) r.2 ad) acc us := rac.ext ((Ext.of_same s3).trans ((S4.ext.trans (S5.ext.mono S4.ow)).mono fun a z => .inr (ow3 a z))) fun a z => .inl (z.imp id fun z => ow3 a (S4.ow a (S5.ow a z)))
      refine ⟨us, hL5, by rw [rac5.len]; omega, wipeE r.2 vs1, acc ++ [r.1], us ++ [v], by rw [← ew]; exact R6.wipe vs1, ext_upd (x2.trans (z5.mono owO)) hL1, (y2.trans (z5.mono fun a z => .inr (ow2 a z))).trans (x6.mono fun a z => .inl z), fun a z => ow2 a (ow5 a (ow_wipe vs1 a z)), upd_same, ?_, by rw [List.length_append]; simp; omega, ?_⟩
      · refine ((rac5.append (.one rv)).ext (x6.mono fun b e => ?_) fun a z => .inl (lowM (fun a z => ow_wipe vs1 a z) a z))
        rw [e]
        exact .inl (.inr rfl)
      · cases q : lcL vs1 gv1 mt1 me (ds.drop (j + 1)) (wipeE r.2 vs1) with
        | ok z =>
          rw [q] at w6
          show P (acc ++ [r.1] ++ z.1) z.2
          rw [List.append_assoc]
          exact w6
        | err c => exact True.intro
        | bad => rw [q] at w6; exact w6.elim
    · rename_i hb
      rw [if_neg hb] at w4
      have hL4 : H4' L = some (.lst us) := z4.stay L _ hus (fun z => LnO (owO L z)) fun _ z => nomatch z
      refine ⟨wipeE b.2 vs1, acc, us, by rw [← ew]; exact R4.wipe vs1, x2.trans (z4.mono owO), y2.trans (z4.mono fun a z => .inr (ow2 a z)), fun a z => ow2 a (ow4 a (ow_wipe vs1 a z)), hL4, ?_, by omega, w4⟩
      exact rac.ext ((Ext.of_same s3).trans (S4.ext.mono fun a z => .inr (ow3 a z))) fun a z => .inl (z.imp id fun z => ow3 a (S4.ow a (ow_wipe vs1 a z)))
  · have ej : j = ds.length := by omega
    subst ej
    rw [List.drop_length] at w2
    have w3 : P (acc ++ []) env2 := w2
    rw [List.append_nil] at w3
    exact .inl ⟨Wlk.stop H2 _ Rh2, nx env2 acc us H2 R2 x2 owO hus rac (by omega) w3⟩
theorem lc2_sn {g g1 : TG} {gv gv1 : Gv} {tt tt1 : TT} {mt mt1 : Ev1} {wi wi1 : TI} {mi mi1 : Em} {vs vs1 : List Nat} (hi : ∀ (M0 : Addr → Prop) (ad : Nat → Addr) (σ : L2.St) (H : Hp) (env : Sls) (R : It → Hp → Prop), RE (C.w M0) ad H σ env →
      (mi env).Wp (fun r => ∀ J hs H', RE (C.w M0) ad H' σ r.2 → Stp (C.w M0) ad H env H' r.2 → RpH C.K H' (Mo (C.w M0) r.2 ad) hs → Wk C.K J hs r.1 → r.1.length ≤ sizeLine → R J H') (Er (C.w M0) ad σ W) → wi σ H R)
    (hg : ∀ (M0 : Addr → Prop) (ad : Nat → Addr) (σ : L2.St) (H : Hp) (env : Sls) (d : D) (v : V) (Q : L2.St → Hp → Prop), RE (C.w M0) ad H σ env → Rp C.K H (Mo (C.w M0) env ad) d v →
      (gv d env).Wp (fun env' => ∀ σ', RE (C.w M0) ad H σ' env' → (∀ a, Ow env' ad a → Ow env ad a) → σ'.length = σ.length → (∀ j, j ∉ vs → σ'[j]? = σ[j]?) → Q σ' H) (fun _ => False) → g v σ H Q)
    (ht : ∀ (M0 : Addr → Prop) (ad : Nat → Addr) (σ : L2.St) (H : Hp) (env : Sls) (Q : Bool → Hp → Prop), RE (C.w M0) ad H σ env →
      (mt env).Wp (fun r => ∀ H', RE (C.w M0) ad H' σ r.2 → Stp (C.w M0) ad H env H' r.2 → Q r.1 H') (Er (C.w M0) ad σ W0) → tt σ H Q)
    (hi1 : ∀ (M0 : Addr → Prop) (ad : Nat → Addr) (σ : L2.St) (H : Hp) (env : Sls) (R : It → Hp → Prop), RE (C.w M0) ad H σ env →
      (mi1 env).Wp (fun r => ∀ J hs H', RE (C.w M0) ad H' σ r.2 → Stp (C.w M0) ad H env H' r.2 → RpH C.K H' (Mo (C.w M0) r.2 ad) hs → Wk C.K J hs r.1 → r.1.length ≤ sizeLine → R J H') (Er (C.w M0) ad σ W0) → wi1 σ H R)
    (hg1 : ∀ (M0 : Addr → Prop) (ad : Nat → Addr) (σ : L2.St) (H : Hp) (env : Sls) (d : D) (v : V) (Q : L2.St → Hp → Prop), RE (C.w M0) ad H σ env → Rp C.K H (Mo (C.w M0) env ad) d v →
      (gv1 d env).Wp (fun env' => ∀ σ', RE (C.w M0) ad H σ' env' → (∀ a, Ow env' ad a → Ow env ad a) → σ'.length = σ.length → (∀ j, j ∉ vs1 → σ'[j]? = σ[j]?) → Q σ' H) (fun _ => False) → g1 v σ H Q)
    (ht1 : ∀ (M0 : Addr → Prop) (ad : Nat → Addr) (σ : L2.St) (H : Hp) (env : Sls) (Q : Bool → Hp → Prop), RE (C.w M0) ad H σ env →
      (mt1 env).Wp (fun r => ∀ H', RE (C.w M0) ad H' σ r.2 → Stp (C.w M0) ad H env H' r.2 → Q r.1 H') (Er (C.w M0) ad σ W0) → tt1 σ H Q)
    (he : ∀ (M0 : Addr → Prop) (ad : Nat → Addr) (σ : L2.St) (H : Hp) (env : Sls) (Q : VK), RE (C.w M0) ad H σ env →
      (me env).Wp (fun r => ∀ v H', RE (C.w M0) ad H' σ r.2 → Stp (C.w M0) ad H env H' r.2 → VR (C.w M0) ad H' σ r.2 r.1 v → Q v H') (Er (C.w M0) ad σ W0) → te σ H Q)
    {M0 : Addr → Prop} {ad : Nat → Addr} {σ : L2.St} {H : Hp} {env : Sls} {Q : VK} (R : RE (C.w M0) ad H σ env)
    (w : (mLc2 mi vs vs1 gv mt mi1 gv1 mt1 me env).Wp (fun r => ∀ a H', H a = none → RE ((C.w M0).add a) ad H' σ r.2 → Stp (C.w M0) ad H env H' r.2 → CellOk C.K H' (Mo ((C.w M0).add a) r.2 ad) r.1 a → Q (.ref a) H') (Er (C.w M0) ad σ W)) : tLc2 wi g tt wi1 g1 tt1 te vs vs1 σ H Q := by
  unfold mLc2 at w
  rw [wp_bind] at w
  refine hi M0 ad σ H env _ R (w.imp (fun r w1 J hds H1 R1 S1 Rh Wlk Hz => ?_) fun _ z => z)
  clear w
  obtain ⟨ds, env1⟩ := r
  simp only at w1 R1 S1 Rh Wlk Hz
  split at w1
  · rename_i hw
    obtain ⟨hw, hd, hsub⟩ := hw
    have hsub : ∀ j, j ∉ vs → j ∉ vs1 := fun j hj z => by
      have := List.all_eq_true.mp hsub j z
      exact hj (by simpa using this)
    intro L hL
    rw [wp_bind] at w1
    have sL : Same H1 (upd H1 L (.lst [])) := same_new hL
    have HL0 : H L = none := by
      cases z : H L with
      | none => rfl
      | some o => exact absurd hL (S1.ext.trk L (by rw [z]; exact fun z => nomatch z))
    have h0L : C.H0 L = none := by
      cases z : C.H0 L with
      | none => rfl
      | some o => exact absurd hL (R1.trk L (by show C.H0 L ≠ none; rw [z]; exact fun z => nomatch z))
    have LnO : ¬ Ow env1 ad L := fun z => R1.mtrk (.inr z) hL
    have RA : RE ((C.w M0).add L) ad (upd H1 L (.lst [])) σ env1 := R1.growAdd sL hL (by rw [upd_same]; exact fun z => nomatch z)
    have big : 1000 * 1000 + 1000 < sizeLine := by decide
    let Rest : List D → List D × Sls → Prop := fun acc q => acc.length + q.1.length ≤ sizeLine → ∀ H', RE ((C.w M0).add L) ad H' σ (backE env1 q.2 vs) → Ext (Ow env1 ad) H1 H' → (∀ a, Ow (backE env1 q.2 vs) ad a → Ow env1 ad a) →
      CellOk C.K H' (Mo ((C.w M0).add L) (backE env1 q.2 vs) ad) (.lst (acc ++ q.1)) L → Q (.ref L) H'
    let St : Nat → Hp → Prop := fun i H => ∃ (env' : Sls) (acc : List D) (us : List V), RE ((C.w M0).add L) ad H (L2.wipe σ vs) env' ∧ Ext (Ow env1 ad) H1 H ∧ (∀ a, Ow env' ad a → Ow env1 ad a) ∧
      H L = some (.lst us) ∧ RpL C.K H (Mo ((C.w M0).add L) env' ad) acc us ∧ acc.length ≤ i * 1000 ∧ (lcL2 vs vs1 gv mt mi1 gv1 mt1 me (ds.drop i) env').Wp (Rest acc) (fun _ => True)
    refine ⟨fun i m H => m = ds.length - i ∧ i ≤ ds.length ∧ St i H, ⟨ds.length, by simp, Nat.zero_le _, wipeE env1 vs, [], [], RA.wipe vs, .of_same sL, ow_wipe vs, upd_same, .nil, Nat.zero_le _, ?_⟩, ?_⟩
    · rw [List.drop_zero]
      cases q : lcL2 vs vs1 gv mt mi1 gv1 mt1 me ds (wipeE env1 vs) with
      | ok r =>
        rw [q] at w1
        intro hl H' R' x' mo' c'
        have w1 : (if r.1.length ≤ sizeLine then pure (.lst r.1, backE env1 r.2 vs) else Res.bad : Res (D × Sls)).Wp _ _ := w1
        rw [if_pos (by simpa using hl)] at w1
        exact w1 L H' HL0 R' (S1.trans ⟨x', mo'⟩) c'
      | err c => exact True.intro
      | bad => rw [q] at w1; exact w1.elim
    · rintro i m H2 ⟨rfl, hil, env2, acc, us, R2, x2, ow2, hus, rac, hacc, w2⟩
      have Rh2 : RpH C.K H2 (Mo ((C.w M0).add L) env2 ad) hds := Rh.ext (x2.mono fun a z => .inr z) fun b z => by
        rcases mo_add.mp z with z | z
        · exact .inl (z.imp id (ow2 b))
        · exact .inr (z ▸ hL)
      by_cases hlt : i < ds.length
      · have ed : ds[i]? = some ds[i] := List.getElem?_eq_getElem hlt
        have edr : ds.drop i = ds[i] :: ds.drop (i + 1) := List.drop_eq_getElem_cons hlt
        obtain ⟨hgo, hy⟩ := Wlk.go H2 _ i _ (fun a z => R2.mtrk z) Rh2 ed
        rw [edr] at w2
        unfold lcL2 at w2
        refine .inr ⟨hgo, St (i + 1), fun H' h' => ⟨ds.length - (i + 1), by omega, rfl, hlt, h'⟩, fun x H3 y => ?_⟩
        obtain ⟨s3, rx⟩ := hy x H3 y
        have R3 : RE ((C.w M0).add L) ad H3 (L2.wipe σ vs) env2 := R2.grow s3
        rw [wp_bind] at w2
        refine hg _ ad (L2.wipe σ vs) H3 env2 ds[i] x _ R3 rx ((noE_wp (E' := fun _ => False) w2).imp (fun env3 w3 σ3 R3' ow3 l3 o3 => ?_) fun _ z => z)
        have ew : L2.wipe σ3 vs = L2.wipe σ vs := by
          rw [st_wipe_eq l3 o3]
          exact st_wipe_eq (wipe_length _ _) fun j hj => wipe_out hj
        have ew1 : L2.wipe (L2.wipe σ3 vs1) vs = L2.wipe σ vs := by
          rw [← ew]
          exact st_wipe_eq (wipe_length _ _) fun j hj => wipe_out (hsub j hj)
        refine ⟨ew, ?_⟩
        rw [wp_bind] at w3
        refine ht _ ad σ3 H3 env3 _ R3' ((noE_wp (E' := Er ((C.w M0).add L) ad σ3 W0) w3).imp (fun b w4 H4 R4 S4 => ?_) fun _ z => z)
        have x4 : Ext (Ow env1 ad) H2 H4 := (Ext.of_same s3).trans (S4.ext.mono fun a z => ow2 a (ow3 a z))
        have ow4 : ∀ a, Ow b.2 ad a → Ow env1 ad a := fun a z => ow2 a (ow3 a (S4.ow a z))
        split
        · rename_i hb
          rw [if_pos hb, wp_bind] at w4
          refine hi1 _ ad σ3 H4 b.2 _ R4 ((noE_wp (E' := Er ((C.w M0).add L) ad σ3 W0) w4).imp (fun r w5 J1 hs1 H5 R5 S5 Rh5 Wlk5 Hz5 => ?_) fun _ z => z)
          split at w5
          · rename_i hr
            rw [wp_bind] at w5
            have x5 : Ext (Ow env1 ad) H2 H5 := x4.trans (S5.ext.mono ow4)
            have ow5 : ∀ a, Ow r.2 ad a → Ow env1 ad a := fun a z => ow4 a (S5.ow a z)
            have hL5 : H5 L = some (.lst us) := x5.stay L _ hus LnO fun _ z => nomatch z
            have rac5 : RpL C.K H5 (Mo ((C.w M0).add L) r.2 ad) acc us := rac.ext ((Ext.of_same s3).trans ((S4.ext.trans (S5.ext.mono S4.ow)).mono fun a z => .inr (ow3 a z))) fun a z => .inl (z.imp id fun z => ow3 a (S4.ow a (S5.ow a z)))
            refine inner_sn (M0 := M0) (ad := ad) hg1 ht1 he hL h0L LnO R5 (x2.trans x5) ow5 hL5 rac5 hacc Rh5 Wlk5 hr (by have : i * 1000 ≤ 1000 * 1000 := Nat.mul_le_mul_right _ (by omega); omega)
              (P := fun accF envF => (lcL2 vs vs1 gv mt mi1 gv1 mt1 me (ds.drop (i + 1)) (wipeE envF vs)).Wp (Rest accF) (fun _ => True)) ?_ ?_
            · cases q1 : lcL vs1 gv1 mt1 me r.1 (wipeE r.2 vs1) with
              | ok z =>
                rw [q1] at w5
                show (lcL2 vs vs1 gv mt mi1 gv1 mt1 me (ds.drop (i + 1)) (wipeE z.2 vs)).Wp (Rest (acc ++ z.1)) (fun _ => True)
                have w6 : ((lcL2 vs vs1 gv mt mi1 gv1 mt1 me (ds.drop (i + 1)) (wipeE z.2 vs)).bind fun q => Res.ok (z.1 ++ q.1, q.2)).Wp (Rest acc) (fun _ => True) := w5
                cases q2 : lcL2 vs vs1 gv mt mi1 gv1 mt1 me (ds.drop (i + 1)) (wipeE z.2 vs) with
                | ok q =>
                  rw [q2] at w6
                  intro hl H' R' x' m' c'
                  refine w6 ?_ H' R' x' m' ?_
                  · show acc.length + (z.1 ++ q.1).length ≤ sizeLine
                    rw [List.length_append] at hl ⊢
                    omega
                  · show CellOk _ _ _ (.lst (acc ++ (z.1 ++ q.1))) _
                    rw [List.append_assoc] at c'
                    exact c'
                | err c => exact True.intro
                | bad => rw [q2] at w6; exact w6.elim
              | err c => exact True.intro
              | bad => rw [q1] at w5; exact w5.elim
            · intro env' accF usF H' R' x' owF hF racF hz' hP
              refine ⟨wipeE env' vs, accF, usF, by rw [← ew1]; exact R'.wipe vs, x', fun a z => owF a (ow_wipe vs a z), hF, racF.less fun a z => z.imp id (ow_wipe vs a), ?_, hP⟩
              rw [Nat.succ_mul]
              exact hz'
          · exact w5.elim
        · rename_i hb
          rw [if_neg hb] at w4
          have hL4 : H4 L = some (.lst us) := x4.stay L _ hus LnO fun _ z => nomatch z
          refine ⟨wipeE b.2 vs, acc, us, by rw [← ew]; exact R4.wipe vs, x2.trans x4, fun a z => ow4 a (ow_wipe vs a z), hL4, ?_, by rw [Nat.succ_mul]; omega, w4⟩
          exact rac.ext ((Ext.of_same s3).trans (S4.ext.mono fun a z => .inr (ow3 a z))) fun a z => .inl (z.imp id fun z => ow3 a (S4.ow a (ow_wipe vs a z)))
      · have ei : i = ds.length := by omega
        subst ei
        rw [List.drop_length] at w2
        refine .inl ⟨Wlk.stop H2 _ Rh2, ?_⟩
        have xb : Ext (Mo ((C.w M0).add L) env1 ad) (upd H1 L (.lst [])) H2 := by
          refine ⟨fun b o e n nt => ?_, fun b xs e => ?_, fun b o u e => ?_, fun b e => ?_⟩
          · rw [upd_ne fun q => n (.inl (.inr q))] at e
            exact x2.stay b o e (fun z => n (.inr z)) nt
          · by_cases q : b = L
            · rw [q, upd_same] at e; cases e
            · rw [upd_ne q] at e; exact x2.tups b xs e
          · by_cases q : b = L
            · rw [q, upd_same] at e; cases e
            · rw [upd_ne q] at e; exact x2.frzs b o u e
          · by_cases q : b = L
            · rw [q, hus]; exact fun z => nomatch z
            · rw [upd_ne q] at e; exact x2.trk b e
        obtain ⟨RB, mb⟩ := RE.back RA xb R2 ow2 hw
        rw [backS_wipe] at RB
        have w3 : Rest acc ([], env2) := w2
        have hz2 : acc.length ≤ sizeLine := by
          have : ds.length * 1000 ≤ 1000 * 1000 := Nat.mul_le_mul_right _ hd
          omega
        refine w3 (by simpa using hz2) H2 RB x2 (fun a z => ow2 a (mb a z)) ⟨?_, us, hus, ?_⟩
        · rw [List.append_nil]; exact hz2
        · rw [List.append_nil]
          exact rac.less fun a z => z.imp id (mb a)
  · exact w1.elim
section
variable {X : Cx} {k : Nat} {tg iter tg1 iter1 elt : Expr} {pos : Pos}
theorem GM.wider {X : Cx} {C : Cfg} {tg : Expr} {g : TG} {vs vs' : List Nat} {m : Gv} (h : GM X C tg g vs m) (hv : vs.all (fun i => vs'.contains i) = true) : GM X C tg g vs' m :=
  ⟨h.pe, fun M0 ad σ H env d v Q R r w => h.sn M0 ad σ H env d v Q R r (w.imp (fun e z σ' R' ow l o => z σ' R' ow l fun j hj => o j fun q => hj (by simpa using List.all_eq_true.mp hv j q)) fun _ z => z)⟩
theorem ef_lc2 {ifs ifs1 : List Expr} {scope : Scope} {own : List (Str × Nat)} {vs1 vs0 : List Nat} {wi wi1 : TI} {gt gt1 : TG} {tt tt1 : TT} {mi mi1 : Em} {gv gv1 : Gv} {mt mt1 : Ev1} (g : Gd X C W k) (hi : IM X C W tg iter wi mi) (ok : BlkOk X.N X.env.scope scope own) (hv : vs1.all (fun i => (own.map (·.2)).contains i) = true)
    (hg : ∀ (s : Shared) (H : Hp) (L : Addr) (cl : List (Str × Addr)) (fp : List Addr), Gd (X.blk s H scope (compEnvC scope cl L X.env) fp) C W0 k → GM (X.blk s H scope (compEnvC scope cl L X.env) fp) C tg gt vs0 gv)
    (ht : ∀ (s : Shared) (H : Hp) (L : Addr) (cl : List (Str × Addr)) (fp : List Addr), Gd (X.blk s H scope (compEnvC scope cl L X.env) fp) C W0 k → TMs (X.blk s H scope (compEnvC scope cl L X.env) fp) C W0 ifs tt mt)
    (hi1 : ∀ (s : Shared) (H : Hp) (L : Addr) (cl : List (Str × Addr)) (fp : List Addr), Gd (X.blk s H scope (compEnvC scope cl L X.env) fp) C W0 k → IM (X.blk s H scope (compEnvC scope cl L X.env) fp) C W0 tg1 iter1 wi1 mi1)
    (hg1 : ∀ (s : Shared) (H : Hp) (L : Addr) (cl : List (Str × Addr)) (fp : List Addr), Gd (X.blk s H scope (compEnvC scope cl L X.env) fp) C W0 k → GM (X.blk s H scope (compEnvC scope cl L X.env) fp) C tg1 gt1 vs1 gv1)
    (ht1 : ∀ (s : Shared) (H : Hp) (L : Addr) (cl : List (Str × Addr)) (fp : List Addr), Gd (X.blk s H scope (compEnvC scope cl L X.env) fp) C W0 k → TMs (X.blk s H scope (compEnvC scope cl L X.env) fp) C W0 ifs1 tt1 mt1)
    (he : ∀ (s : Shared) (H : Hp) (L : Addr) (cl : List (Str × Addr)) (fp : List Addr), Gd (X.blk s H scope (compEnvC scope cl L X.env) fp) C W0 k → EM (X.blk s H scope (compEnvC scope cl L X.env) fp) C W0 elt te me)
    (hs : ∀ x, foldedSetIterable iter X.env x = pure x := by intro _; rfl) (hs1 : ∀ env x, foldedSetIterable iter1 env x = pure x := by intro _ _; rfl) (hv0 : vs0.all (fun i => (own.map (·.2)).contains i) = true := by decide) :
    EF X C W (.ListComp elt [⟨tg, iter, ifs, 0⟩, ⟨tg1, iter1, ifs1, 0⟩] scope pos) (tLc2 wi gt tt wi1 gt1 tt1 te (own.map (·.2)) vs1) (mLc2 mi (own.map (·.2)) vs1 gv mt mi1 gv1 mt1 me) :=
  ⟨pe_lc2 g.calm g.nd hi.pe ok (fun i h => by simpa using List.all_eq_true.mp hv i h) (fun s H L cl fp => (hg s H L cl fp g.blk).pe) (fun s H L cl fp => (ht s H L cl fp g.blk).pe) (fun s H L cl fp => (hi1 s H L cl fp g.blk).pe) (fun s H L cl fp => (hg1 s H L cl fp g.blk).pe)
      (fun s H L cl fp => (ht1 s H L cl fp g.blk).pe) (fun s H L cl fp => (he s H L cl fp g.blk).pe) hs hs1,
    fun M0 ad σ H env Q R w => lc2_sn hi.sn ((hg X.s_0 X.H_0 0 [] [] g.blk).wider hv0).sn (ht X.s_0 X.H_0 0 [] [] g.blk).sn (hi1 X.s_0 X.H_0 0 [] [] g.blk).sn (hg1 X.s_0 X.H_0 0 [] [] g.blk).sn (ht1 X.s_0 X.H_0 0 [] [] g.blk).sn (he X.s_0 X.H_0 0 [] [] g.blk).sn R w⟩
theorem sm_lcA2 {fresh : Bool} {i : Nat} {y : Str} {py spos : Pos} {ifs ifs1 : List Expr} {scope : Scope} {own : List (Str × Nat)} {vs1 vs0 : List Nat} {wi wi1 : TI} {gt gt1 : TG} {tt tt1 : TT} {mi mi1 : Em} {gv gv1 : Gv} {mt mt1 : Ev1} (g : Gd X C W k) (hi : IM X C W tg iter wi mi) (ok : BlkOk X.N X.env.scope scope own) (hv : vs1.all (fun i => (own.map (·.2)).contains i) = true)
    (hg : ∀ (s : Shared) (H : Hp) (L : Addr) (cl : List (Str × Addr)) (fp : List Addr), Gd (X.blk s H scope (compEnvC scope cl L X.env) fp) C W0 k → GM (X.blk s H scope (compEnvC scope cl L X.env) fp) C tg gt vs0 gv)
    (ht : ∀ (s : Shared) (H : Hp) (L : Addr) (cl : List (Str × Addr)) (fp : List Addr), Gd (X.blk s H scope (compEnvC scope cl L X.env) fp) C W0 k → TMs (X.blk s H scope (compEnvC scope cl L X.env) fp) C W0 ifs tt mt)
    (hi1 : ∀ (s : Shared) (H : Hp) (L : Addr) (cl : List (Str × Addr)) (fp : List Addr), Gd (X.blk s H scope (compEnvC scope cl L X.env) fp) C W0 k → IM (X.blk s H scope (compEnvC scope cl L X.env) fp) C W0 tg1 iter1 wi1 mi1)
    (hg1 : ∀ (s : Shared) (H : Hp) (L : Addr) (cl : List (Str × Addr)) (fp : List Addr), Gd (X.blk s H scope (compEnvC scope cl L X.env) fp) C W0 k → GM (X.blk s H scope (compEnvC scope cl L X.env) fp) C tg1 gt1 vs1 gv1)
    (ht1 : ∀ (s : Shared) (H : Hp) (L : Addr) (cl : List (Str × Addr)) (fp : List Addr), Gd (X.blk s H scope (compEnvC scope cl L X.env) fp) C W0 k → TMs (X.blk s H scope (compEnvC scope cl L X.env) fp) C W0 ifs1 tt1 mt1)
    (he : ∀ (s : Shared) (H : Hp) (L : Addr) (cl : List (Str × Addr)) (fp : List Addr), Gd (X.blk s H scope (compEnvC scope cl L X.env) fp) C W0 k → EM (X.blk s H scope (compEnvC scope cl L X.env) fp) C W0 elt te me)
    (hy : X.N[i]? = some y := by rfl) (hyl : X.env.scope.names.lookup y = some .local := by rfl) (hsw : swapsWith (.ListComp elt [⟨tg, iter, ifs, 0⟩, ⟨tg1, iter1, ifs1, 0⟩] scope pos) (some (.Name y py)) spos.line X.env = pure true := by exact sw_true rfl rfl rfl (by decide +kernel)) (hs : ∀ x, foldedSetIterable iter X.env x = pure x := by intro _; rfl) (hs1 : ∀ env x, foldedSetIterable iter1 env x = pure x := by intro _ _; rfl) (hv0 : vs0.all (fun i => (own.map (·.2)).contains i) = true := by decide) :
    SM X C W (.Assign [.Name y py] (.ListComp elt [⟨tg, iter, ifs, 0⟩, ⟨tg1, iter1, ifs1, 0⟩] scope pos) spos) (tAsg (tLc2 wi gt tt wi1 gt1 tt1 te (own.map (·.2)) vs1) (gName i)) (match fresh with | true => mSetL i (mLc2 mi (own.map (·.2)) vs1 gv mt mi1 gv1 mt1 me) | false => mSet i (mLc2 mi (own.map (·.2)) vs1 gv mt mi1 gv1 mt1 me)) := by
  have hp := ps_setLc2 (spos := spos) (py := py) (pos := pos) g.calm g.nd hy hyl hsw hi.pe ok (fun i h => by simpa using List.all_eq_true.mp hv i h) (fun s H L cl fp => (hg s H L cl fp g.blk).pe) (fun s H L cl fp => (ht s H L cl fp g.blk).pe) (fun s H L cl fp => (hi1 s H L cl fp g.blk).pe) (fun s H L cl fp => (hg1 s H L cl fp g.blk).pe)
      (fun s H L cl fp => (ht1 s H L cl fp g.blk).pe) (fun s H L cl fp => (he s H L cl fp g.blk).pe) hs hs1
  have he2 := ef_lc2 (pos := pos) g hi ok hv hg ht hi1 hg1 ht1 he hs hs1 hv0
  cases fresh with
  | true => exact sm_lcL hp he2
  | false => exact sm_lc hp (em_of_ef he2)
end
end Vm
end
section
set_option maxRecDepth 100000
set_option maxHeartbeats 4000000
/-! Vm, part X: clear of an own list. -/
namespace Vm
open PySem PySem.Spec PyProof.Rows L2
section
variable {X : Cx} {C : Cfg} {W : WX} {k : Nat} {pos : Pos}
def mClr (i : Nat) : Ev := fun env =>
  match env[i]? with
  | some s => (match s.con with
    | some (.lst _) => .ok (.non, env.set i (s.put (.lst [])))
    | _ => .bad)
  | none => .bad
theorem em_clear (i : Nat) {y : Str} {py apos : Pos} (g : Gd X C W k) (hN : X.N[i]? = some y := by rfl) (hv : Vis X.env.scope y := by first | exact Or.inl rfl | exact Or.inr (Or.inl rfl) | exact Or.inr (Or.inr rfl)) (hd : (y == ("__debug__" : Str)) = false := by decide)
    (hcd : (y == ("__classdict__" : Str)) = false := by decide) (hbase : attributeBase (.Name y py) "clear" X.env (eval (.Name y py) X.env) = eval (.Name y py) X.env := by rfl) (hline : (apos.endLine == pos.line) = true := by rfl) :
    EM X C W (.Call (.Attribute (.Name y py) "clear" apos) [] [] pos) (tBM0 C.K "list" rClear (tVar i)) (mClr i) := by
  refine ⟨g.kE ▸ pe_bm0 PySem.F.plainAttrs_list PySem.F.slot_list_clear PySem.F.type_list_clear mt_clear (pe_var hN hv hd hcd) hbase hline, fun M0 ad σ H env Q R w => ?_⟩
  unfold mClr at w
  cases z : env[i]? with
  | none => rw [z] at w; exact w.elim
  | some s =>
    rw [z] at w
    simp only at w
    cases zc : s.con with
    | none => rw [zc] at w; exact w.elim
    | some c =>
      rw [zc] at w
      cases c with
      | lst ds =>
        obtain ⟨hσ, hz, us, hu, ru⟩ := R.con z zc
        refine ⟨.ref (ad i), hσ, .inl ⟨rfl, us, .of hu⟩, ad i, us, rfl, rfl, hu, ?_⟩
        obtain ⟨R2, S2, kk⟩ := RE.lay (ds' := []) (us' := []) R z zc hu (Nat.zero_le _) .nil
        exact w .non _ R2 S2 (.of .non)
      | _ => exact w.elim
variable {e : Expr} {te : TE} {m : Ev}
def backL (x : D) : Res D := match x with
  | .lst xs => .ok (.lst xs.reverse)
  | _ => .bad
theorem ef_back {kk : Nat} {p1 p2 p3 : Pos} (g : Gd X C W k) (h : EM X C W e te m) : EF X C W (.Subscript e (.Slice none none (some (.UnaryOp .USub (.Constant (.int 1) kk p1) p2)) p3) pos) (tBack C.K te) (mUn1 backL m) := by
  refine ⟨g.kE ▸ pe_back h.pe, fun M0 ad σ H env Q R w => ?_⟩
  unfold mUn1 at w
  refine h.sn' R w fun r v H1 R1 S1 V1 w1 => ?_
  rw [wp_bind] at w1
  obtain ⟨y, _, w2, ry⟩ := R1.rs V1 w1
  cases y with
  | lst ds =>
    obtain ⟨a, us, rfl, hs, z, q⟩ := ry.lst_inv
    refine ⟨a, us, rfl, .inl ⟨.of hs, fun p hf => w2 p _ ?_ (R1.growAdd (same_new hf) hf (by rw [upd_same]; exact fun z => nomatch z)) (S1.trans (.grow (same_new hf))) ?_⟩⟩
    · cases z : H p with
      | none => rfl
      | some o => exact absurd hf (S1.ext.trk p (by rw [z]; exact fun z => nomatch z))
    · exact (cell_new (M := Mo (C.w M0) r.2 ad) q.rev hf (by rw [List.length_reverse]; exact z)).ext rfl .refl fun b z => .inl (mo_add.mp z)
  | _ => exact w2.elim
end
@[simp] theorem z_mSetG (i n : Nat) (fm : List D → Res D) (ms : Evs) (env : Sls) : mSetG i n fm ms env = (do
  let r ← ms env
  if r.1.length = n ∧ allKp r.1 = true then do
    let d ← fm r.1
    if notPar r.2 i = true then pure (.next, r.2.set i (if noneD d = true then .t d else .l d)) else .bad
  else .bad) := rfl
@[simp] theorem z_mClr (i : Nat) (env : Sls) : mClr i env = (match env[i]? with
  | some s => (match s.con with
    | some (.lst _) => .ok (.non, env.set i (s.put (.lst [])))
    | _ => .bad)
  | none => .bad) := rfl
@[simp] theorem z_flat_bl (b : Bool) : (D.bl b).flat = true := rfl
@[simp] theorem z_flat_int (b : Int) : (D.int b).flat = true := rfl
@[simp] theorem z_flat_str (b : Str) : (D.str b).flat = true := rfl
@[simp] theorem z_flat_non : D.non.flat = true := rfl
end Vm
end
section
set_option maxRecDepth 100000
set_option maxHeartbeats 4000000
/-! Vm, part Y: sorted(xs, key=lambda y: (x[y][1], y)). -/
namespace Vm
open PySem PySem.Spec PyProof.Rows L2
abbrev lamBody (x y : Str) (p1 p2 p3 p4 p5 p6 p7 : Pos) (kk : Nat) (k2 : Nat) : Expr := .Tuple [.Subscript (.Subscript (.Name x p1) (.Name y p2) p3) (.Constant (.int 1) kk p4) p5, .Name y p6] k2 p7
section
variable {P : Program} {w : World} {A : Around} {s : Shared}
theorem lam_turn {f c' cc acc row : Addr} {q x y : Str} {params : Arguments} {scope : Scope} {p1 p2 p3 p4 p5 p6 p7 : Pos} {kk k2 : Nat} {cl : List (Str × Addr)} {pm ctv : Value} {items its : Array Value} {i d : Int} {j : Nat} {t t2 : Tok}
    (hroom : A.depth < recursionLimit) (hf : s.heap.get? f = some (PySem.W.kla_obj "<lambda>" q params (lamBody x y p1 p2 p3 p4 p5 p6 p7 kk k2) scope cl pm c' ctv))
    (hk : scope.kind = .function) (hco : scope.isCoroutine = false) (hgen : scope.isGenerator = false) (hnm : scope.names = [(y, .local), (x, .free)]) (hxy : (x == y) = false)
    (hbind : bindArgs (PySem.W.kla_fn "<lambda>" q params (lamBody x y p1 p2 p3 p4 p5 p6 p7 kk k2) scope cl pm (.ref c') ctv) ⟨[.int i t], []⟩ = pure [(y, .int i t)])
    (hrec : ∃ (oc : Obj) (vs : Array Value) (tk : Tok), s.heap.get? c' = some oc ∧ oc.data = .fields vs ∧ vs[1]? = some (.str q tk)) (lim : s.heap.NoLimit)
    (hcl : cl.lookup x = some cc) (hcell : s.heap.IsCell cc (some (.ref acc))) (hacc : IsTup s.heap acc items) (h63 : -(2 ^ 63) ≤ i ∧ i < 2 ^ 63) (hi : seqIndex? i items.size = some j) (hrow : items[j]? = some (.ref row)) (hr : IsTup s.heap row its) (hd : its[1]? = some (.int d t2)) (hsz : 1 < its.size)
    (hdx : (x == ("__debug__" : Str)) = false) (hcx : (x == ("__classdict__" : Str)) = false) (hdy : (y == ("__debug__" : Str)) = false) :
    wpAny (model P w) A (call (.ref f) [.int i t]) (PySem.W.KeyPure (.tuple [.int d, .int i]) s) (fun _ _ => False) s := by
  obtain ⟨oc, vs, tk, hoc, hdc, hvc⟩ := hrec
  have rc : codeAny (model P w) A (.call (.ref f) ⟨[.int i t], []⟩) (fun r s2 => ∃ v, r = .ok (.ret v) ∧ PySem.W.KeyPure (.tuple [.int d, .int i]) s v s2) s := by
    refine PySem.W.kla_callFunE hroom hf rfl hco hgen rfl ⟨c', oc, vs, tk, rfl, hoc, hdc, hvc⟩ ?_
    rw [hbind]
    have nc : ∀ z ∈ scope.names, z.2 ≠ .cell := fun z hz => by
      rw [hnm] at hz
      simp only [List.mem_cons, List.not_mem_nil, or_false] at hz
      rcases hz with rfl | rfl <;> exact fun e => nomatch e
    have ky : scope.names.lookup y = some .local := by rw [hnm]; simp [List.lookup]
    have kx : scope.names.lookup x = some .free := by rw [hnm]; simp [List.lookup, hxy]
    refine wpAny_pure (wpAny_newFunctionEnv nc (fun z hz => ?_) (fun h₁ hns hsb => ⟨lim.fresh _ hsb, ?_⟩) hk)
    · simp only [List.mem_cons, List.not_mem_nil, or_false] at hz
      subst hz
      exact ky
    · show codeAny _ _ (.expr (lamBody x y p1 p2 p3 p4 p5 p6 p7 kk k2) (PySem.W.envX q scope s.heap.objs.size f (.ref c') cl)) _ _
      have kp : ∀ b o, s.heap.get? b = some o → h₁.get? b = some o := fun b o e => hsb.extBut b o (Nat.ne_of_lt (Heap.lt_size e)) (Heap.get?_push_of_some _ e)
      refine PySem.W.kla_codeExpr ?_
      refine wpAny_Tuple_spliced (args_cons ?_)
      refine Subscript_ (Subscript_ ?_)
      refine wpAny_Name (wpAny_loadName_free hk kx hcl (hcell.keeps kp) ?_ hcx) hdx
      refine wpAny_Name (wpAny_loadName_local hk ky hns (by simp [List.lookup]; rfl) ?_) hdy
      refine item_tuple (hacc.keeps kp) h63.1 h63.2 hi hrow ?_
      refine wpAny_Constant_int ?_
      refine subscriptTail_builtinR (x := .int d t2) (hr.keeps kp).typeIs slot_tuple_getitem.lookup (getItem_tuple (j := 1) (hr.keeps kp) (by decide) (by decide) (by unfold seqIndex?; simp; omega) hd ⟨rfl, ?_⟩)
      refine args_cons ?_
      refine wpAny_Name (wpAny_loadName_local hk ky hns (by simp [List.lookup]; rfl) ?_) hdy
      refine args_nil ⟨by show 2 ≤ sizeLine; decide, _, rfl, _, _, rfl, fun b o e => Heap.get?_push_of_some _ (kp b o e), ?_⟩
      exact .tuple (as := [] ++ ([] ++ [])) (Heap.get?_push_size _ rfl) rfl rfl (.cons (.int _ _) (.cons (.int _ _) .nil))
  refine wpAny_call (codeAny_mono rc fun r s2 ⟨v, e, h⟩ => ?_)
  subst e
  exact h
end

section
variable {X : Cx} {pins : List (Addr × Obj)} {σ : L2.St} {H : Hp} {s : Shared}
/-- all but the tables stays, nothing gets lost: a table is longer, a code object is new -/
theorem sme_tab {T : List (Addr × Str)} {P c : Addr} {q : Str} {ps qs : Array Value} (hP : H P = some (.tbl ps)) (hc : H c = none) (ht : LamX.Tabs T (upd (upd H P (.tbl qs)) c (LamX.CodeO c q))) : Sme T H (upd (upd H P (.tbl qs)) c (LamX.CodeO c q)) := by
  refine ⟨fun b o e n => ?_, fun b e => ?_, fun _ => ht⟩
  · have h1 : b ≠ P := fun z => by
      subst z
      rw [hP] at e
      exact n ps (Option.some.inj e).symm
    have h2 : b ≠ c := fun z => by
      subst z
      rw [hc] at e
      cases e
    rw [upd_ne h2, upd_ne h1]
    exact e
  · by_cases h2 : b = c
    · rw [h2, upd_same]; exact fun z => nomatch z
    · rw [upd_ne h2]
      by_cases h1 : b = P
      · rw [h1, upd_same]; exact fun z => nomatch z
      · rw [upd_ne h1]; exact e
/-- the tables behind it -/
theorem tabs_tab {T : List (Addr × Str)} {P c : Addr} {q : Str} {ps : Array Value} {pos : Pos} (hT : LamX.Tabs T H) (hu : ∀ p ∈ T, p.1 = P → p.2 = q) (hP : H P = some (.tbl ps)) (hc : H c = none) (h3 : TriplesOk ps.toList) (h4 : ∀ (p : Pos) (cv : Value), codeAmong p ps.toList = some cv → ∃ a, cv = .ref a ∧ H a = some (LamX.CodeO a q)) :
    LamX.Tabs T (upd (upd H P (.tbl (ps ++ #[rawInt pos.line, rawInt pos.col, .ref c]))) c (LamX.CodeO c q)) := by
  have cd : ∀ a r, H a = some (LamX.CodeO a r) → upd (upd H P (.tbl (ps ++ #[rawInt pos.line, rawInt pos.col, .ref c]))) c (LamX.CodeO c q) a = some (LamX.CodeO a r) := fun a r e => by
    rw [upd_ne (fun z : a = c => by rw [z, hc] at e; cases e), upd_ne (fun z : a = P => by rw [z, hP] at e; unfold LamX.CodeO at e; cases e)]
    exact e
  intro p hp
  by_cases hb : p.1 = P
  · have el : (ps ++ #[rawInt pos.line, rawInt pos.col, Value.ref c]).toList = ps.toList ++ [rawInt pos.line, rawInt pos.col, .ref c] := by simp
    refine ⟨ps ++ #[rawInt pos.line, rawInt pos.col, .ref c], ?_, ?_, fun p2 cv e => ?_⟩
    · rw [hb, upd_ne (fun z : P = c => by rw [z, hc] at hP; cases hP), upd_same]
    · rw [el]; exact PySem.TriplesOk_snoc _ _ _ _ h3
    · rw [el] at e
      rw [hu p hp hb]
      rcases LamX.among_app _ h3 e with z | z
      · obtain ⟨a, e1, e2⟩ := h4 p2 cv z
        exact ⟨a, e1, cd _ _ e2⟩
      · exact ⟨c, z, upd_same⟩
  · obtain ⟨qs, a1, a2, a3⟩ := hT p hp
    refine ⟨qs, ?_, a2, fun p2 cv e => ?_⟩
    · rw [upd_ne (fun z : p.1 = c => by rw [z, hc] at a1; cases a1), upd_ne hb]
      exact a1
    · obtain ⟨a, e1, e2⟩ := a3 p2 cv e
      exact ⟨a, e1, cd _ _ e2⟩
/-- the lambda is made -/
theorem lam_made {T : List (Addr × Str)} {c P : Addr} {params : Arguments} {body : Expr} {scope : Scope} {pos : Pos} {E Q : Value → Shared → Prop} (I : Inv X pins σ H s) (B : LamX.TabB X.base X.mg c P) (hcode : X.env.code = .ref c) (hm : (P, X.env.qual ++ "<lambda>") ∈ T)
    (hu : ∀ p ∈ T, p.1 = P → p.2 = X.env.qual ++ "<lambda>") (hT : LamX.Tabs T H) (hdef : defaultsOf params X.env = ([], [])) (hfree : ∀ y ∈ scope.names, y.2 = .free → ∃ a, X.env.cells.lookup y.1 = some a)
    (h : ∀ (f c' : Addr) (pm ctv : Value) (H1 : Hp) (s' : Shared), Inv X pins σ H1 s' → Sme T H H1 → (∀ b o, s.heap.get? b = some o → b ≠ P → s'.heap.get? b = some o) → s'.heap.get? f = some (PySem.W.kla_obj "<lambda>" (X.env.qual ++ "<lambda>") params body scope (cloFrom X.env.cells scope.names []) pm c' ctv) →
      (∃ (oc : Obj) (vs : Array Value) (tk : Tok), s'.heap.get? c' = some oc ∧ oc.data = .fields vs ∧ vs[1]? = some (.str (X.env.qual ++ "<lambda>") tk)) → Q (.ref f) s') :
    wpAny (model X.prog X.w) X.A (eval (.Lambda params body scope pos) X.env) Q E s := by
  obtain ⟨ps, hP, h3, h4⟩ := hT _ hm
  have gP : s.heap.get? P = some { cls := .none, data := .fields ps } := I.hok P _ hP
  refine PySem.W.kla_eval hdef ?_
  cases hc : codeAmong pos ps.toList with
  | some cv =>
    obtain ⟨c', e, hco⟩ := h4 pos cv hc
    subst e
    refine PySem.W.kla_makeFunctionHit (mg := X.mg) (closure_ok hfree) I.ok.glob (I.mod.glob.keeps I.bk) hcode (B.code.keeps I.bk) gP h3 hc (B.bm.keeps I.bk) fun ctv h' tk hx hsz => ?_
    have up : ∀ b o, s.heap.get? b = some o → (h'.push (PySem.W.kla_obj "<lambda>" (X.env.qual ++ "<lambda>") params body scope (cloFrom X.env.cells scope.names []) ((X.mg "__name__").getD .none) c' ctv)).get? b = some o := fun b o e => Heap.get?_push_of_some _ (hx b o e)
    have J : Inv X pins σ H { s with heap := h'.push (PySem.W.kla_obj "<lambda>" (X.env.qual ++ "<lambda>") params body scope (cloFrom X.env.cells scope.names []) ((X.mg "__name__").getD .none) c' ctv), toks := tk } := I.kept up
    obtain ⟨⟨oc, vs, t, q1, q2, q3⟩, _⟩ := J.hok c' _ hco
    exact h h'.objs.size c' _ ctv H _ J (.of fun b o e => e) (fun b o e _ => up b o e) (Heap.get?_push_size _ rfl) ⟨oc, vs, t, q1, q2, q3⟩
  | none =>
    refine PySem.W.kla_makeFunction (mg := X.mg) (closure_ok hfree) I.ok.glob (I.mod.glob.keeps I.bk) hcode (B.code.keeps I.bk) gP h3 hc B.gP (B.bm.keeps I.bk) fun c' ctv h' tk hx hge hlt hrec htb => ?_
    obtain ⟨c2, oc, vs, t, e2, hoc, hd, hv⟩ := hrec
    cases e2
    have nc : H c' = none := I.hok.fresh hge
    have cr := Heap.get?_push_of_some (PySem.W.kla_obj "<lambda>" (X.env.qual ++ "<lambda>") params body scope (cloFrom X.env.cells scope.names []) ((X.mg "__name__").getD .none) c' ctv) hoc
    have J := LamX.inv_table (t' := tk) (more := #[rawInt pos.line, rawInt pos.col, .ref c']) (h' := h'.push (PySem.W.kla_obj "<lambda>" (X.env.qual ++ "<lambda>") params body scope (cloFrom X.env.cells scope.names []) ((X.mg "__name__").getD .none) c' ctv)) I hP
      (fun b o hb e => Heap.get?_push_of_some _ (hx b o hb e)) (Heap.get?_push_of_some _ htb) hge ⟨oc, vs, t, cr, hd, hv⟩
    exact h h'.objs.size c' _ ctv _ _ J (sme_tab hP nc (tabs_tab hT hu hP nc h3 h4)) (fun b o e n => Heap.get?_push_of_some _ (hx b o n e)) (Heap.get?_push_size _ rfl) ⟨oc, vs, t, cr, hd, hv⟩
end

/-- by the day, then by the index -/
def leDay (day : Int → Int) (p q : Int) : Bool := decide (day p < day q ∨ (day p = day q ∧ p ≤ q))
def tSoLam (K : PySem.W.Frag) (T : List (Addr × Str)) (j : Nat) (ta : TE) : TE := fun σ H Q => ta σ H fun v H1 => ∃ (l acc : Addr) (ns : List Int) (rows : List V) (day : Int → Int), v = .ref l ∧ SqL K H1 l (ns.map V.int) ∧ σ[j]? = some (some (.ref acc)) ∧ SqT K H1 acc rows ∧ LamX.Tabs T H1 ∧
  (∀ n ∈ ns, 0 ≤ n ∧ ∃ (r : Addr) (us : List V), rows[n.toNat]? = some (.ref r) ∧ SqT K H1 r us ∧ us[1]? = some (.int (day n))) ∧
  ∀ H2 p, Sme T H1 H2 → H2 p = none → Q (.ref p) (upd H2 p (.lst ((ns.mergeSort (leDay day)).map V.int)))
theorem each_int {ns : List Int} : ∀ {vs : List Value}, IntsAre vs ns → PySem.W.EachIs (fun v n => ∃ t, v = .int n t) vs ns
  | _, .nil => .nil
  | _, .cons n t h => .cons ⟨t, rfl⟩ (each_int h)
theorem ints_each {ns : List Int} : ∀ {vs : List Value}, PySem.W.EachIs (fun v n => ∃ t, v = .int n t) vs ns → IntsAre vs ns
  | _, .nil => .nil
  | _, .cons ⟨t, e⟩ h => by subst e; exact .cons _ t (ints_each h)
section
variable {X : Cx}
theorem pe_soLam {a : Expr} {ta : TE} {j : Nat} {T : List (Addr × Str)} {c P : Addr} {k : Nat} {x y : Str} {params : Arguments} {scope : Scope} {p q pos p1 p2 p3 p4 p5 p6 p7 p8 p9 : Pos} {kk k2 : Nat} (hr : Room k X.A) (hg : Gl X "sorted") (hm : X.mg "sorted" = none) (hv : bootBuiltins "sorted" = some (.builtin "sorted")) (ha : PE X a ta)
    (B : LamX.TabB X.base X.mg c P) (hcode : X.env.code = .ref c) (hmT : (P, X.env.qual ++ "<lambda>") ∈ T) (hu : ∀ p ∈ T, p.1 = P → p.2 = X.env.qual ++ "<lambda>") (hdef : defaultsOf params X.env = ([], []))
    (hk : scope.kind = .function) (hco : scope.isCoroutine = false) (hgen : scope.isGenerator = false) (hnm : scope.names = [(y, .local), (x, .free)]) (hxy : (x == y) = false) (hN : X.N[j]? = some x) (hcx' : X.env.scope.names.lookup x = some .cell)
    (hbind : ∀ (q : Str) (cl : List (Str × Addr)) (pm cv ctv u : Value), bindArgs (PySem.W.kla_fn "<lambda>" q params (lamBody x y p1 p2 p3 p4 p5 p6 p7 kk k2) scope cl pm cv ctv) ⟨[u], []⟩ = pure [(y, u)])
    (hdx : (x == ("__debug__" : Str)) = false) (hcx : (x == ("__classdict__" : Str)) = false) (hdy : (y == ("__debug__" : Str)) = false)
    (st : starEach [a] X.env = (false, eval a X.env) :: starEach [] X.env := by rfl) :
    PE X (.Call (.Name "sorted" p) [a] [⟨some "key", .Lambda params (lamBody x y p1 p2 p3 p4 p5 p6 p7 kk k2) scope p8, p9⟩] pos) (tSoLam X.K T j ta) := by
  refine ⟨fun pins s σ H Q I h => ?_⟩
  refine wpAny_Call_Name_kw (ld_blt I hg hm hv ?_)
  refine PyProof.Rows.callWith_kw (args_cons (thn (ha.run pins s σ H _ I h) fun v s1 ⟨z, H1, I1, r1, q1⟩ => args_nil ?_) st) (by rw [st]; rfl) (by rw [st]; rfl)
  obtain ⟨l, acc, ns, rows, day, rfl, hl, hj, hacc, hT, hrows, q1⟩ := q1
  cases r1
  show wpAny _ _ (evalAll [do let v ← eval (.Lambda params (lamBody x y p1 p2 p3 p4 p5 p6 p7 kk k2) scope p8) X.env; standAt pos; pure v]) _ _ s1
  have hfree : ∀ y' ∈ scope.names, y'.2 = .free → ∃ a, X.env.cells.lookup y'.1 = some a := fun y' hy e => by
    rw [hnm] at hy
    simp only [List.mem_cons, List.not_mem_nil, or_false] at hy
    rcases hy with rfl | rfl
    · cases e
    · exact I1.ok.has _ (.inl hcx')
  refine wpAny_evalAll_cons (wpAny_bind (lam_made I1 B hcode hmT hu hT hdef hfree fun f c' pm ctv H2 s2 I2 sm kp2 hf hrec => wpAny_bind (wpAny_standAt (wpAny_pure (wpAny_evalAll_nil ?_)))))
  show wpAny _ _ (call (.builtin "sorted") [.ref l] [(Str.ofString "key", .ref f)]) _ _ s2
  -- the captured cell
  obtain ⟨m, hn, hlk⟩ := I2.loc
  obtain ⟨ua, ra, lk⟩ := hlk j x (.ref acc) hN hj (.inr (.inl hcx'))
  cases ra
  obtain ⟨cc, hcc, hcell⟩ : ∃ cc, X.env.cells.lookup x = some cc ∧ s2.heap.IsCell cc (some (.ref acc)) := by
    rcases lk with ⟨e, _⟩ | ⟨_, cc, e1, e2⟩
    · have e : X.env.scope.names.lookup x = some .local := e
      rw [hcx'] at e
      cases e
    · exact ⟨cc, e1, e2⟩
  have hclo : (cloFrom X.env.cells scope.names []).lookup x = some cc := by
    rw [hnm]
    simp [cloFrom, hcc, List.lookup]
  have x2 : Ext (fun _ => False) H1 H2 := .of_sme sm
  obtain ⟨its, rv, pl, hz⟩ := I2.list (show SqL X.K H2 l (ns.map V.int) from hl.imp (fun h => h.elim (fun h => .inl (sm.stay _ _ h fun _ z => nomatch z)) fun ⟨o, h⟩ => .inr ⟨o, sm.stay _ _ h fun _ z => nomatch z⟩) id)
  have hi := rv.ints
  obtain ⟨ai, av, ap, az⟩ := I2.tuple (x2.sq hacc)
  rw [List.length_map] at hz
  refine PySem.W.sorted_key_data (b := false) (R := fun v n => ∃ t, v = .int n t) (fun n : Int => .tuple [.int (day n), .int n]) pl.isList (each_int hi) (PySem.W.AllAlike.of fun _ _ => by simp [PySem.W.alike, PySem.W.alikeAll]) (PySem.W.Sortable.tuples fun _ => ⟨_, _, rfl⟩) hz (fun n _ => ?_) (ksk_s1 _ _) (fun _ => ksk_l1 _ _) (fun _ => ksk_t1 _ _)
    (fun v n hv hn' h' tk kp => ?_) fun out oc h' tk kp fr hD hlen eo => ?_
  · have hd : (PyData.tuple [.int (day n), .int n]).depth = 1 := by simp [PyData.depth, PyData.depthAll]
    rw [hd]
    have := hr.un
    omega
  · obtain ⟨t, rfl⟩ := hv
    obtain ⟨h0, r, us, hrow, hus, hday⟩ := hrows n hn'
    obtain ⟨oc, cvs, ct, c1, c2, c3⟩ := hrec
    have hlt : n.toNat < rows.length := (List.getElem?_eq_some_iff.mp hrow).1
    have hz63 := line63
    have al := av.length
    obtain ⟨w1, e1, g1⟩ := av.get hrow
    cases g1
    obtain ⟨ri, rv2, rp, rz⟩ := I2.tuple (x2.sq hus)
    obtain ⟨w2, e2, t2, rfl⟩ := rv2.get hday
    have h1l : 1 < ri.length := (List.getElem?_eq_some_iff.mp e2).1
    refine lam_turn (s := { s2 with heap := h', toks := tk }) (items := ai.toArray) (its := ri.toArray) (j := n.toNat) (t2 := t2) (by show X.A.depth < _; have := hr.dp; omega) (kp _ _ hf) hk hco hgen hnm hxy (hbind _ _ _ _ _ _) ⟨oc, cvs, ct, kp _ _ c1, c2, c3⟩ (I2.nolimit.keeps kp) hclo (hcell.keeps kp) (ap.keeps kp) ⟨by omega, by omega⟩
      (seqIndex_of h0 (by rw [List.size_toArray]; omega)) (by simpa using e1) (rp.keeps kp) (by simpa using e2) (by simpa using h1l) hdx hcx hdy
  · rw [PySem.W.dataLe_ii (β := Int) day (fun n => n)] at eo
    have io : IntsAre out (ns.mergeSort (leDay day)) := ints_each eo
    have hlen2 : ((ns.mergeSort (leDay day)).map V.int).length ≤ sizeLine := by rw [List.length_map, List.length_mergeSort]; exact hz
    exact ⟨.ref _, upd H2 (s2.heap.objs.size + 1) (.lst ((ns.mergeSort (leDay day)).map V.int)), I2.laid (t' := tk) kp (Nat.le_succ _) ⟨hlen2, out, oc, vals_of_ints io, hD⟩, rfl, q1 H2 _ sm (I2.hok.fresh (Nat.le_succ _))⟩
end
end Vm
end
section
set_option maxRecDepth 100000
set_option maxHeartbeats 4000000
/-! Vm, part Z: .. as an expression; defs whose code object is known; the end with tables. -/
namespace Vm
open PySem PySem.Spec PyProof.Rows L2
def dayOf (rows : List D) (n : Int) : Int := match rows[n.toNat]? with
  | some (.tup (_ :: .int d :: _)) => d
  | _ => 0
def dayAt (rows : List D) (n : Int) : Bool := decide (0 ≤ n) && (match rows[n.toNat]? with
  | some (.tup (_ :: .int _ :: _)) => true
  | _ => false)
def soLam (rows : List D) (ns : List Int) : Res D := if ns.all (dayAt rows) = true then .ok (.lst ((ns.mergeSort (leDay (dayOf rows))).map D.int)) else .bad
def mSoLam (j : Nat) (m : Ev) : Ev := fun env => do
  let r ← m env
  let x ← rs r.2 r.1
  match x with
  | .lst ds => (match intsD ds with
    | some ns => (match r.2[j]? with
      | some (.t (.tup rows)) => (match soLam rows ns with
        | .ok d => pure (d, r.2)
        | _ => .bad)
      | _ => .bad)
    | none => .bad)
  | _ => .bad
theorem day_at {rows : List D} {n : Int} (h : dayAt rows n = true) : 0 ≤ n ∧ ∃ d0 ds, rows[n.toNat]? = some (.tup (d0 :: .int (dayOf rows n) :: ds)) := by
  unfold dayAt at h
  rw [Bool.and_eq_true, decide_eq_true_eq] at h
  refine ⟨h.1, ?_⟩
  have h2 := h.2
  unfold dayOf
  split at h2
  · rename_i d0 d ds e
    rw [e]
    exact ⟨d0, ds, rfl⟩
  · cases h2
section
variable {X : Cx} {C : Cfg} {W : WX} {k : Nat} {a : Expr} {ta : TE} {m : Ev}
/-- the def's code object c and its table P -/
structure LamC (X : Cx) (C : Cfg) (c P : Addr) : Prop where
  tab : LamX.TabB X.base X.mg c P
  code : X.env.code = .ref c
  mem : (P, X.env.qual ++ "<lambda>") ∈ C.T
  one : ∀ p ∈ C.T, p.1 = P → p.2 = X.env.qual ++ "<lambda>"
theorem ef_soLam (j : Nat) {c P : Addr} {x y : Str} {params : Arguments} {scope : Scope} {p q pos p1 p2 p3 p4 p5 p6 p7 p8 p9 : Pos} {kk k2 : Nat} (g : Gd X C W k) (L : LamC X C c P) (h : EM X C W a ta m) (hg : Gl X "sorted") (hm : X.mg "sorted" = none) (hv : bootBuiltins "sorted" = some (.builtin "sorted"))
    (hdef : defaultsOf params X.env = ([], []) := by rfl) (hk : scope.kind = .function := by rfl) (hco : scope.isCoroutine = false := by rfl) (hgen : scope.isGenerator = false := by rfl) (hnm : scope.names = [(y, .local), (x, .free)] := by rfl) (hxy : (x == y) = false := by decide) (hN : X.N[j]? = some x := by rfl) (hcx' : X.env.scope.names.lookup x = some .cell := by rfl)
    (hbind : ∀ (q : Str) (cl : List (Str × Addr)) (pm cv ctv u : Value), bindArgs (PySem.W.kla_fn "<lambda>" q params (lamBody x y p1 p2 p3 p4 p5 p6 p7 kk k2) scope cl pm cv ctv) ⟨[u], []⟩ = pure [(y, u)] := by intro _ _ _ _ _ _; rfl)
    (hdx : (x == ("__debug__" : Str)) = false := by decide) (hcx : (x == ("__classdict__" : Str)) = false := by decide) (hdy : (y == ("__debug__" : Str)) = false := by decide) (st : starEach [a] X.env = (false, eval a X.env) :: starEach [] X.env := by rfl) :
    EF X C W (.Call (.Name "sorted" p) [a] [⟨some "key", .Lambda params (lamBody x y p1 p2 p3 p4 p5 p6 p7 kk k2) scope p8, p9⟩] pos) (tSoLam C.K C.T j ta) (mSoLam j m) := by
  refine ⟨g.kE ▸ pe_soLam g.room hg hm hv h.pe L.tab L.code L.mem L.one hdef hk hco hgen hnm hxy hN hcx' hbind hdx hcx hdy st (q := q), fun M0 ad σ H env Q R w => ?_⟩
  unfold mSoLam at w
  refine h.sn' R w fun r v H1 R1 S1 V1 w1 => ?_
  rw [wp_bind] at w1
  obtain ⟨z, _, w2, rz⟩ := R1.rs V1 w1
  cases z with
  | lst ds =>
    simp only at w2
    cases qi : intsD ds with
    | none => rw [qi] at w2; exact w2.elim
    | some ns =>
      rw [qi] at w2
      simp only at w2
      split at w2
      · rename_i rows hj
        obtain ⟨l, us, rfl, hl, hz, ru⟩ := rz.lst_inv
        have ed : ds = ns.map D.int := ints_eq qi
        subst ed
        rw [ru.ints] at hl
        rw [List.length_map] at hz
        obtain ⟨xv, hx, rx⟩ := R1.sl j _ hj
        have hσ : σ[j]? = some (some xv) := by
          cases e : σ[j]? with
          | none => rw [e] at hx; cases hx
          | some o => rw [e] at hx; rw [show o = some xv from hx]
        obtain ⟨acc, vs, rfl, hacc, hzr, rr⟩ : ∃ acc vs, xv = .ref acc ∧ SqT C.K H1 acc vs ∧ rows.length ≤ sizeLine ∧ RpL C.K H1 (Mo (C.w M0) r.2 ad) rows vs := by
          cases rx with
          | tup h hl hz hi => exact ⟨_, _, rfl, h, hz, ⟨hl, hi⟩⟩
        unfold soLam at w2
        by_cases hall : ns.all (dayAt rows) = true
        · rw [if_pos hall] at w2
          rw [List.all_eq_true] at hall
          refine ⟨l, acc, ns, vs, dayOf rows, rfl, .inl (.inl hl), hσ, hacc, R1.tabs, fun n hn => ?_, fun H2 p sm hp => ?_⟩
          · obtain ⟨n0, d0, dt, e⟩ := day_at (hall n hn)
            obtain ⟨v', e', rv⟩ := rr.at1 e
            cases rv with
            | tup h hl hz hi =>
              rename_i ra vs'
              refine ⟨n0, ra, vs', e', h, ?_⟩
              have h1 : 1 < vs'.length := by rw [hl]; simp
              have e1 : vs'[1]? = some vs'[1] := List.getElem?_eq_getElem h1
              have := hi 1 _ _ rfl e1
              rw [e1]
              cases hv : vs'[1] with
              | int i => rw [hv] at this; cases this; rfl
              | _ => rw [hv] at this; cases this
          · have p1 : H1 p = none := by
              cases e : H1 p with
              | none => rfl
              | some o => exact absurd hp (sm.trk p (by rw [e]; exact fun z => nomatch z))
            have p0 : H p = none := by
              cases e : H p with
              | none => rfl
              | some o => exact absurd p1 (S1.ext.trk p (by rw [e]; exact fun z => nomatch z))
            have S2 : Stp (C.w M0) ad H1 r.2 (upd H2 p (.lst ((ns.mergeSort (leDay (dayOf rows))).map V.int))) r.2 := (Stp.growS sm).trans (.grow (same_new hp))
            refine w2 p _ p0 ((R1.growS sm).growAdd (same_new hp) hp (by rw [upd_same]; exact fun z => nomatch z)) (S1.trans S2) ⟨?_, _, upd_same, RpL.of_ints⟩
            rw [List.length_map, List.length_mergeSort]
            exact hz
        · rw [if_neg hall] at w2
          exact w2.elim
      · exact w2.elim
  | _ => exact w2.elim
end

/-! ### defs whose code object is known -/
def BodyC (P : Program) (w : World) (K : PySem.W.Frag) (T : List (Addr × Str)) (mg : Str → Option Value) (base : Heap) (N : List Str) (qual : Str) (st : Stmt) (k : Nat) (fresh : Bool) (c : Addr) (m : Sv) : Prop :=
  ∀ (f : Addr) (A : Around) (outer : List Env) (s : Shared) (H : Hp) (E : XK) (M0 fr : Addr → Prop) (pa : Nat → Addr),
    Gd (cxOf (L2.CX P w) P w K mg base N qual (defScope st) f (.ref c) A outer s H E) (mkC K T mg H M0 fr pa fresh) (fun cls d _ H' => E cls d H') k →
    ∃ t, SSM (cxOf (L2.CX P w) P w K mg base N qual (defScope st) f (.ref c) A outer s H E) (mkC K T mg H M0 fr pa fresh) (fun cls d _ H' => E cls d H') (defBody st) t m
section
variable {P : Program} {w : World} {K : PySem.W.Frag} {T : List (Addr × Str)} {mg : Str → Option Value} {base : Heap} {x : Str} {st : Stmt} {f c : Addr} {fd : FuncData} {N ps : List Str} {k n : Nat} {m : Sv}
theorem okC {sp : Sp} (F : Fun K x x st f fd) (hc : fd.code = .ref c) (S : FnScope N ps (defScope st)) (len : ∀ vs H Q E, sp vs H Q E → vs.length = ps.length)
    (hbody : ∀ (A : Around) (outer : List Env) (s : Shared) (H : Hp) (vs : List V) (Q : VK) (E : XK), Room k (A.deeper (envOfC x (defScope st) s.heap.objs.size f (.ref c))) → sp vs H Q E →
      ∃ t, PSs (cxOf (L2.CX P w) P w K mg base N x (defScope st) f (.ref c) A outer s H E) (defBody st) t ∧ t { nx := fun _ H' => Q .non H', rt := Q } (L2.start N vs) H) : FnOk P w K mg base (L2.CX P w) (k + 1) f fd ps sp := by
  obtain ⟨oc, od, kV, doc, pm, an, cdv, ct, osl, rfl, lk, hcd⟩ := F.ex
  have e : cdv = .ref c := hc
  subst e
  exact fn_of lk hcd S len fun A outer s H vs Q E hr hsp => hbody A outer s H vs Q E hr hsp
theorem fnPc_ok (F : Fun K x x st f fd) (hc : fd.code = .ref c) (S : FnScope N ps (defScope st)) (hn : ps.length = n) (B : BodyC P w K T mg base N x st k false c m) : FnOk P w K mg base (L2.CX P w) (k + 1) f fd ps (spP K T mg n (run N.length m)) := by
  refine okC F hc S (fun vs H Q E h => h.1.trans hn.symm) (fun A outer s H vs Q E hr h => ?_)
  obtain ⟨hl, ht, M, ds, tk, r, q⟩ := h
  have hds : ds.length ≤ N.length := by rw [← r.len, hl, ← hn]; exact pre_len S
  obtain ⟨t, hs⟩ := B f A outer s H E M (fun _ => False) (fun _ => 0) (gd_of S hr)
  refine ⟨t, hs.pe, hs.sn _ _ H _ _ (re_start hds tk ht r) ?_⟩
  unfold run at q
  cases z : m (envOf N.length ds) with
  | ok r2 =>
    rw [z] at q
    obtain ⟨o, e2⟩ := r2
    cases o with
    | ret d =>
      intro ad' σ' H' v hR
      obtain ⟨R', rp⟩ := hR
      exact q v H' R'.sme (rp.less fun b z => .inl z)
    | next => exact fun ad' σ' H' R' _ => q .non H' R'.sme .non
    | brk => exact q.elim
    | cont => exact q.elim
  | err c =>
    rw [z] at q
    exact fun ad' σ' cls dd H' e' hc R' => q cls dd H' hc R'.sme
  | bad => rw [z] at q; exact q.elim
theorem fnFc_ok (F : Fun K x x st f fd) (hc : fd.code = .ref c) (S : FnScope N ps (defScope st)) (hn : ps.length = n) (B : BodyC P w K T mg base N x st k true c m) : FnOk P w K mg base (L2.CX P w) (k + 1) f fd ps (spF K T mg n (runF N.length m)) := by
  refine okC F hc S (fun vs H Q E h => h.1.trans hn.symm) (fun A outer s H vs Q E hr h => ?_)
  obtain ⟨hl, ht, M, ds, tk, r, q⟩ := h
  have hds : ds.length ≤ N.length := by rw [← r.len, hl, ← hn]; exact pre_len S
  obtain ⟨t, hs⟩ := B f A outer s H E M (fun _ => False) (fun _ => 0) (gd_of S hr)
  refine ⟨t, hs.pe, hs.sn _ _ H _ _ (re_start hds tk ht r) ?_⟩
  unfold runF at q
  cases z : m (envOf N.length ds) with
  | ok r2 =>
    rw [z] at q
    obtain ⟨o, e2⟩ := r2
    cases o with
    | ret d =>
      intro ad' σ' H' v hR
      rcases hR with ⟨rfl, rfl, R'⟩ | ⟨a, rfl, h0, R', c⟩
      · exact q.elim
      · have hn : noneD d = false := by
          cases d with
          | non => exact c.elim
          | _ => rfl
        simp only [hn, Bool.false_eq_true, if_false] at q
        refine q a H' h0 R'.sme (c.ext rfl .refl fun b z => ?_)
        rcases z with z | z
        · exact .inl (.inl (.inl z))
        · exact .inl (.inl (.inr z))
    | next => exact q.elim
    | brk => exact q.elim
    | cont => exact q.elim
  | err c =>
    rw [z] at q
    exact fun ad' σ' cls dd H' e' hc R' => q cls dd H' hc R'.sme
  | bad => rw [z] at q; exact q.elim
theorem fnPc (F : Fun K x x st f fd) (hc : fd.code = .ref c) (S : FnScope N ps (defScope st)) (hn : ps.length = n) (hm : mg x = some (.ref f)) (hb : Binds K fd ps []) (B : BodyC P w K T mg base N x st k false c m) : Fn P w K mg base (k + 1) x (spP K T mg n (run N.length m)) := ⟨f, fd, ps, fnPc_ok F hc S hn B, hm, F.kp, hb⟩
theorem fnFc (F : Fun K x x st f fd) (hc : fd.code = .ref c) (S : FnScope N ps (defScope st)) (hn : ps.length = n) (hm : mg x = some (.ref f)) (hb : Binds K fd ps []) (B : BodyC P w K T mg base N x st k true c m) : Fn P w K mg base (k + 1) x (spF K T mg n (runF N.length m)) := ⟨f, fd, ps, fnFc_ok F hc S hn B, hm, F.kp, hb⟩
end
/-- the law's end, with tables -/
theorem law_spT {K : PySem.W.Frag} {T : List (Addr × Str)} {fm : List D → Res D} {H : Hp} {a : Addr} {ns : List Int} {E : XK} (hz : ns.length ≤ sizeLine) (hT : LamX.Tabs T H) (hS : SqL K H a (ns.map V.int)) (h : fm [.scr ns] = .ok (.bl true)) (h2 : fm [.lst (ns.map D.int)] = .ok (.bl true)) : spL K T fm [.ref a] H (fun v _ => v = .bl true) E := by
  by_cases hl : H a = some (.lst (ns.map V.int))
  · refine ⟨rfl, hT, fun _ => False, [.lst (ns.map D.int)], fun a z => z.elim, .one (.lst' hl (fun z => z) (by rw [List.length_map]; exact hz) .of_ints), ?_⟩
    rw [h2]
    intro v H' _ r
    cases r
    rfl
  · refine ⟨rfl, hT, fun _ => False, [.scr ns], fun a z => z.elim, .one (.scr ?_ hz), ?_⟩
    · rcases hS with (hS | ⟨o, hS⟩) | hS
      · exact absurd hS hl
      · exact .inl ⟨o, hS⟩
      · exact .inr hS
    · rw [h]
      intro v H' _ r
      cases r
      rfl
theorem tabs_nil {cs : List (Addr × Addr)} {T : List (Addr × Str)} {H : Hp} (h : ∀ p ∈ cs, H p.2 = some (.tbl #[])) (hT : ∀ p ∈ T, p.1 ∈ cs.map (·.2)) : LamX.Tabs T H := fun p hp => by
  obtain ⟨q, hq, e⟩ := List.mem_map.mp (hT p hp)
  exact .nil (e ▸ h q hq)
end Vm
namespace Vm
open PySem PySem.Spec PyProof.Rows L2
/-- an own exception class, whose objects are values -/
structure ExV (K : PySem.W.Frag) (mg : Str → Option Value) (c : Str) : Prop where
  ex : ∃ D : Addr, mg c = some (.ref D) ∧ PySem.W.excIn K D [.type "ValueError", .type "Exception", .type "BaseException", .type "object"] "ValueError.__new__" = true ∧ PySem.W.keepIn K (.ref D) = true ∧ ExD K c D
theorem em_exc {X : Cx} {C : Cfg} {W : WX} {k : Nat} {x m : Str} {j : Nat} {p2 p3 p4 : Pos} (g : Gd X C W k) (F : ExV X.K X.mg x) (hg : Gl X x := by rfl) (hdb : (x == ("__debug__" : Str)) = false := by decide)
    (hs : starEach [.Constant (.str m) j p3] X.env = (false, eval (.Constant (.str m) j p3) X.env) :: starEach [] X.env := by rfl) :
    ∃ t, EM X C W (.Call (.Name x p2) [.Constant (.str m) j p3] [] p4) t (mK (.exc x)) := by
  obtain ⟨D, gC, q, kC, hd⟩ := F.ex
  refine ⟨_, pe_exc1 PySem.F.excBase_ValueError q gC kC hg pe_str hs hdb, fun M0 ad σ H env Q R w => ?_⟩
  intro a ha
  exact w (.ref a) _ (R.grow (same_new ha)) (.grow (same_new ha)) (.of (.exc upd_same (fun z => R.mtrk z ha) (g.kE ▸ hd)))
end Vm
end
section
set_option maxRecDepth 100000
set_option maxHeartbeats 4000000
/-! Vm, part ZA: sorted of a list of tuples of ints. -/
namespace Vm
open PySem PySem.Spec PyProof.Rows L2
def leR (p q : List Int) : Bool := decide (p ≤ q)
def sortR (bs : List (List Int)) : List (List Int) := bs.mergeSort leR
abbrev encR (b : List Int) : PyData := .tuple (b.map .int)
theorem dataLe_tup : PySem.W.dataLe false encR = leR := by
  funext p q
  have h := congrFun (congrFun (PySem.W.dataLe_rows (β := List Int) id) p) q
  show (!PySem.W.dataLt (.tuple (q.map .int)) (.tuple (p.map .int))) = _
  rw [PySem.W.dataLt_tuple, ← PySem.W.dataLt_list]
  exact h
theorem alike_ints : ∀ xs ys : List Int, PySem.W.alikeAll (xs.map PyData.int) (ys.map PyData.int) = true
  | [], _ => by simp [PySem.W.alikeAll]
  | _ :: _, [] => by simp [PySem.W.alikeAll]
  | x :: xs, y :: ys => by simp [PySem.W.alikeAll, PySem.W.alike, alike_ints xs ys]
theorem ints_depth : ∀ xs : List Int, PyData.depthAll (xs.map PyData.int) = 0
  | [] => rfl
  | x :: xs => by simp [PyData.depthAll, PyData.depth, ints_depth xs]
theorem sortR_perm (bs : List (List Int)) : (sortR bs).Perm bs := List.mergeSort_perm _ _
theorem sortR_len (bs : List (List Int)) : (sortR bs).length = bs.length := (sortR_perm bs).length_eq
/-- the tuple at an address -/
def IsRow (K : PySem.W.Frag) (H : Hp) (v : V) (b : List Int) : Prop := ∃ t, v = .ref t ∧ SqT K H t (b.map V.int)
def rSortR (K : PySem.W.Frag) : List V → Hp → VK → Prop := fun vs H Q => ∃ (a : Addr) (us : List V) (bs : List (List Int)), vs = [V.ref a] ∧ SqL K H a us ∧ F2' (IsRow K H) us bs ∧ (∀ b ∈ bs, b ≠ []) ∧
  ∀ (us' : List V) (p : Addr), F2' (IsRow K H) us' (sortR bs) → H p = none → Q (.ref p) (upd H p (.lst us'))
where
  F2' (R : V → List Int → Prop) (xs : List V) (ys : List (List Int)) : Prop := xs.length = ys.length ∧ ∀ (i : Nat) (x : V) (y : List Int), xs[i]? = some x → ys[i]? = some y → R x y
abbrev Eq2 := rSortR.F2'
theorem each_of {R : Value → List Int → Prop} : ∀ {vs : List Value} {bs : List (List Int)}, vs.length = bs.length → (∀ (i : Nat) (v : Value) (b : List Int), vs[i]? = some v → bs[i]? = some b → R v b) → PySem.W.EachIs R vs bs
  | [], [], _, _ => .nil
  | v :: vs, b :: bs, hl, h => .cons (h 0 v b rfl rfl) (each_of (by simpa using hl) fun i v b h1 h2 => h (i + 1) v b (by simpa using h1) (by simpa using h2))
  | [], _ :: _, hl, _ => by simp at hl
  | _ :: _, [], hl, _ => by simp at hl
theorem each_at {R : Value → List Int → Prop} : ∀ {vs : List Value} {bs : List (List Int)}, PySem.W.EachIs R vs bs → ∀ (i : Nat) (v : Value) (b : List Int), vs[i]? = some v → bs[i]? = some b → R v b
  | _, _, .nil, i, v, b, h, _ => by simp at h
  | _, _, .cons p h, 0, v, b, h1, h2 => by
    simp at h1 h2
    subst h1 h2
    exact p
  | _, _, .cons p h, i + 1, v, b, h1, h2 => each_at h i v b (by simpa using h1) (by simpa using h2)
section
variable {X : Cx}
theorem cr_sortR (hu : X.A.units + 3 < cLine) : CallR X (.builtin "sorted") (rSortR X.K) := by
  intro pins s σ H vs us Q I r h
  obtain ⟨a, xs, bs, rfl, hs, ⟨hl, hrow⟩, hne, q⟩ := h
  obtain ⟨its, rv, pl, hz⟩ := I.list hs
  rw [Vals.ref1 r]
  have lv := rv.length
  have row : ∀ (i : Nat) (v : Value) (b : List Int), its[i]? = some v → bs[i]? = some b → ∃ t, v = .ref t ∧ SqT X.K H t (b.map V.int) := fun i v b h1 h2 => by
    have hi : i < xs.length := by
      rw [hl]
      exact (List.getElem?_eq_some_iff.mp h2).1
    have hx : xs[i]? = some xs[i] := List.getElem?_eq_getElem hi
    obtain ⟨t, e, ht⟩ := hrow i _ b hx h2
    obtain ⟨w, e2, rw2⟩ := rv.get hx
    rw [h1] at e2
    cases e2
    rw [e] at rw2
    cases (show v = Value.ref t from rw2)
    exact ⟨t, rfl, ht⟩
  have rd : ∀ (t : Addr) (b : List Int), SqT X.K H t (b.map V.int) → ∃ as, Reads s.heap (.ref t) (encR b) as := fun t b ht => by
    have all : ∀ ns : List Int, DpAll X.K H (ns.map V.int) (ns.map PyData.int) := fun ns => by
      induction ns with
      | nil => exact .nil
      | cons n ns ih => exact .cons (.int n) ih
    exact Dp.reads I _ _ _ (.tup ht (all b)) rfl
  refine PySem.W.sorted_data (R := fun v b => ∃ t, v = .ref t ∧ SqT X.K H t (b.map V.int)) (enc := encR) (bs := bs) pl.isList (each_of (by omega) row) (each_of (by omega) fun i v b h1 h2 => ?_) (PySem.W.AllAlike.of fun _ _ => by simp only [PySem.W.alike]; exact alike_ints _ _) (.inl fun d hd => ?_) (by rw [← hl]; exact hz) (fun b _ => ?_) fun out hlen eo => ?_
  · obtain ⟨t, rfl, ht⟩ := row i v b h1 h2
    exact rd t b ht
  · obtain ⟨b, hb, rfl⟩ := List.mem_map.mp hd
    cases b with
    | nil => exact absurd rfl (hne _ hb)
    | cons x xs => exact ⟨_, _, rfl⟩
  · have hd : (encR b).depth = 1 := by simp [PyData.depth, ints_depth]
    rw [hd]
    omega
  · rw [dataLe_tup] at eo
    obtain ⟨ep, hat⟩ := PyProof.Rows.sortedAll_at s.heap its (List.toArray out)
    have hfr : H (s.heap.objs.size + 1) = none := I.hok.fresh (Nat.le_succ _)
    have lo : out.length = (sortR bs).length := by rw [sortR_len]; exact hlen
    obtain ⟨us', hu1, hu2⟩ : ∃ us' : List V, Vals us' out ∧ Eq2 (IsRow X.K H) us' (sortR bs) := by
      have ea := each_at eo
      clear hat eo q
      revert lo ea
      show out.length = (sortR bs).length → (∀ (i : Nat) (v : Value) (b : List Int), out[i]? = some v → (sortR bs)[i]? = some b → _) → _
      generalize sortR bs = cs
      clear hlen
      intro lo ea
      induction out generalizing cs with
      | nil =>
        cases cs with
        | nil => exact ⟨[], .nil, rfl, fun i x y h => by simp at h⟩
        | cons _ _ => simp at lo
      | cons v out ih =>
        cases cs with
        | nil => simp at lo
        | cons c cs =>
          obtain ⟨t, rfl, ht⟩ := ea 0 v c rfl rfl
          obtain ⟨us', h1, h2, h3⟩ := ih cs (by simpa using lo) fun i v b e1 e2 => ea (i + 1) v b (by simpa using e1) (by simpa using e2)
          refine ⟨.ref t :: us', .cons rfl h1, by simp [h2], fun i x y e1 e2 => ?_⟩
          cases i with
          | zero => simp at e1 e2; subst e1 e2; exact ⟨t, rfl, ht⟩
          | succ i => exact h3 i x y (by simpa using e1) (by simpa using e2)
    have hlu : us'.length ≤ sizeLine := by
      rw [hu2.1, sortR_len, ← hl]
      exact hz
    exact ⟨.ref _, upd H (s.heap.objs.size + 1) (.lst us'), I.laid (t' := s.toks) (fun _ _ => PyProof.Rows.sortedAll_old) (Nat.le_succ _) ⟨hlu, out, ep, hu1, hat⟩, rfl, q us' _ hu2 hfr⟩
end
end Vm
end
section
set_option maxRecDepth 100000
set_option maxHeartbeats 4000000
/-! Vm, part ZB: zip of two lists or of two tuples. -/
namespace Vm
open PySem PySem.Spec PyProof.Rows L2 RZ
def zipP : List D → List D → List D
  | x :: xs, y :: ys => .tup [x, y] :: zipP xs ys
  | _, _ => []
theorem zipP_len : ∀ xs ys : List D, (zipP xs ys).length = min xs.length ys.length
  | [], _ => by simp [zipP]
  | _ :: _, [] => by simp [zipP]
  | x :: xs, y :: ys => by simp [zipP, zipP_len xs ys]
theorem zipP_at : ∀ (xs ys : List D) (i : Nat) (d : D), (zipP xs ys)[i]? = some d → ∃ x y, xs[i]? = some x ∧ ys[i]? = some y ∧ d = .tup [x, y]
  | [], _, i, d, h => by simp [zipP] at h
  | _ :: _, [], i, d, h => by simp [zipP] at h
  | x :: xs, y :: ys, 0, d, h => by simp [zipP] at h; exact ⟨x, y, rfl, rfl, h.symm⟩
  | x :: xs, y :: ys, i + 1, d, h => by
    simp [zipP] at h
    obtain ⟨a, b, h1, h2, h3⟩ := zipP_at xs ys i d h
    exact ⟨a, b, by simpa using h1, by simpa using h2, h3⟩
theorem pair_rp {K : PySem.W.Frag} {H : Hp} {M : Addr → Prop} {T : Addr} {x y : D} {u v : V} (hT : H T = none) (hu : Rp K H M x u) (hv : Rp K H M y v) : Same H (upd H T (.tup [u, v])) ∧ Rp K (upd H T (.tup [u, v])) M (.tup [x, y]) (.ref T) := by
  have s : Same H (upd H T (.tup [u, v])) := same_new hT
  refine ⟨s, .tup' (vs := [u, v]) (.inl (.inl upd_same)) (by show 2 ≤ sizeLine; decide) (.cons (hu.same s) (.cons (hv.same s) .nil))⟩
theorem wk_zipL {K : PySem.W.Frag} {a b : Addr} {xs ys : List D} : Wk K (Itz K a b) [(.lst xs, .ref a), (.lst ys, .ref b)] (zipP xs ys) := by
  refine ⟨fun H M i d _ r h => ?_, fun H M r => ?_⟩
  · have ra : Rp K H M (.lst xs) (.ref a) := r _ (.head _)
    have rb : Rp K H M (.lst ys) (.ref b) := r _ (.tail _ (.head _))
    cases ra with
    | lst a1 am al az ai =>
      rename_i us
      cases rb with
      | lst b1 bm bl bz bi =>
        rename_i vs
        obtain ⟨x, y, hx, hy, rfl⟩ := zipP_at _ _ _ _ h
        have i1 : i < us.length := by rw [al]; exact (List.getElem?_eq_some_iff.mp hx).1
        have i2 : i < vs.length := by rw [bl]; exact (List.getElem?_eq_some_iff.mp hy).1
        have e1 : us[i]? = some us[i] := List.getElem?_eq_getElem i1
        have e2 : vs[i]? = some vs[i] := List.getElem?_eq_getElem i2
        refine ⟨⟨us, vs, us[i], vs[i], .of a1, .of b1, e1, e2⟩, fun z H' yl => ?_⟩
        obtain ⟨T, u, v, rfl, hT, rfl, q1, q2⟩ := yl
        have h1 := q1 us (.of a1)
        have h2 := q2 vs (.of b1)
        exact pair_rp hT (ai i x u hx h1) (bi i y v hy h2)
  · have ra : Rp K H M (.lst xs) (.ref a) := r _ (.head _)
    have rb : Rp K H M (.lst ys) (.ref b) := r _ (.tail _ (.head _))
    cases ra with
    | lst a1 am al az ai =>
      cases rb with
      | lst b1 bm bl bz bi => exact ⟨_, _, .of a1, .of b1, by rw [al, bl, zipP_len]; omega⟩
theorem wk_zipT {K : PySem.W.Frag} {a b : Addr} {xs ys : List D} : Wk K (ItzT K a b) [(.tup xs, .ref a), (.tup ys, .ref b)] (zipP xs ys) := by
  refine ⟨fun H M i d _ r h => ?_, fun H M r => ?_⟩
  · have ra : Rp K H M (.tup xs) (.ref a) := r _ (.head _)
    have rb : Rp K H M (.tup ys) (.ref b) := r _ (.tail _ (.head _))
    cases ra with
    | tup a1 al az ai =>
      rename_i us
      cases rb with
      | tup b1 bl bz bi =>
        rename_i vs
        obtain ⟨x, y, hx, hy, rfl⟩ := zipP_at _ _ _ _ h
        have i1 : i < us.length := by rw [al]; exact (List.getElem?_eq_some_iff.mp hx).1
        have i2 : i < vs.length := by rw [bl]; exact (List.getElem?_eq_some_iff.mp hy).1
        have e1 : us[i]? = some us[i] := List.getElem?_eq_getElem i1
        have e2 : vs[i]? = some vs[i] := List.getElem?_eq_getElem i2
        refine ⟨⟨us, vs, us[i], vs[i], a1, b1, e1, e2⟩, fun z H' yl => ?_⟩
        obtain ⟨T, u, v, rfl, hT, rfl, q1, q2⟩ := yl
        have h1 := q1 us a1
        have h2 := q2 vs b1
        exact pair_rp hT (ai i x u hx h1) (bi i y v hy h2)
  · have ra : Rp K H M (.tup xs) (.ref a) := r _ (.head _)
    have rb : Rp K H M (.tup ys) (.ref b) := r _ (.tail _ (.head _))
    cases ra with
    | tup a1 al az ai =>
      cases rb with
      | tup b1 bl bz bi => exact ⟨_, _, a1, b1, by rw [al, bl, zipP_len]; omega⟩
def mZip (ms : Evs) : Em := fun env => do
  let r ← ms env
  match r.1 with
  | [.lst xs, .lst ys] => pure (zipP xs ys, r.2)
  | [.tup xs, .tup ys] => pure (zipP xs ys, r.2)
  | _ => .bad
section
variable {X : Cx} {C : Cfg} {W : WX} {k : Nat} {a b : Expr} {tA : TA} {ms : Evs} {pos p tpos : Pos} {kk : Nat} {elts : List Expr}
theorem im_zip (g : Gd X C W k) (h : AM X C W [a, b] tA ms) (hm : X.mg "zip" = none) (hg : Gl X "zip" := by rfl) (hs : starEach [a, b] X.env = (false, eval a X.env) :: starEach [b] X.env := by rfl) (hpl : (backTo pos (starEach [b] X.env)).any (·.1) = false := by rfl) :
    IM X C W (.Tuple elts kk tpos) (.Call (.Name "zip" p) [a, b] [] pos) (iZipA C.K tA) (mZip ms) := by
  refine ⟨g.kE ▸ pi_zipA hg hm h.pe hs hpl, fun M0 ad σ H env R RR w => ?_⟩
  unfold mZip at w
  refine h.sn' RR w fun r vs H1 R1 S1 V1 w1 => ?_
  obtain ⟨ds, e1⟩ := r
  simp only at w1 V1 R1 S1
  match ds, V1, w1 with
  | [.lst xs, .lst ys], V1, w1 =>
    obtain ⟨u, us, rfl, q1, V2⟩ := V1.cons_inv
    obtain ⟨v, vs, rfl, q2, V3⟩ := V2.cons_inv
    cases V3.nil_inv
    have r1 : Rp C.K H1 (Mo (C.w M0) e1 ad) (.lst xs) u := q1
    have r2 : Rp C.K H1 (Mo (C.w M0) e1 ad) (.lst ys) v := q2
    cases r1 with
    | lst a1 am al az ai =>
      cases r2 with
      | lst b1 bm bl bz bi =>
        refine ⟨_, _, _, _, rfl, .inl ⟨.of a1, .of b1, w1 _ _ H1 R1 S1 (fun p hp => ?_) wk_zipL (by rw [zipP_len]; omega)⟩⟩
        rcases List.mem_cons.mp hp with rfl | hp
        · exact .lst a1 am al az ai
        · rcases List.mem_singleton.mp hp with rfl
          exact .lst b1 bm bl bz bi
  | [.tup xs, .tup ys], V1, w1 =>
    obtain ⟨u, us, rfl, q1, V2⟩ := V1.cons_inv
    obtain ⟨v, vs, rfl, q2, V3⟩ := V2.cons_inv
    cases V3.nil_inv
    have r1 : Rp C.K H1 (Mo (C.w M0) e1 ad) (.tup xs) u := q1
    have r2 : Rp C.K H1 (Mo (C.w M0) e1 ad) (.tup ys) v := q2
    cases r1 with
    | tup a1 al az ai =>
      cases r2 with
      | tup b1 bl bz bi =>
        refine ⟨_, _, _, _, rfl, .inr ⟨a1, b1, w1 _ _ H1 R1 S1 (fun p hp => ?_) wk_zipT (by rw [zipP_len]; omega)⟩⟩
        rcases List.mem_cons.mp hp with rfl | hp
        · exact .tup a1 al az ai
        · rcases List.mem_singleton.mp hp with rfl
          exact .tup b1 bl bz bi
end
@[simp] theorem z_mZip (ms : Evs) (env : Sls) : mZip ms env = (do
  let r ← ms env
  match r.1 with
  | [.lst xs, .lst ys] => pure (zipP xs ys, r.2)
  | [.tup xs, .tup ys] => pure (zipP xs ys, r.2)
  | _ => .bad) := rfl
end Vm
end
section
set_option maxRecDepth 100000
set_option maxHeartbeats 4000000
/-! Vm, part ZC: names of tables, constants of the module. -/
namespace Vm
open PySem PySem.Spec PyProof.Rows L2
abbrev lamN (x : Str) : Str := x ++ ".<locals>." ++ "<lambda>"
def tabO (K : PySem.W.Frag) (c : Addr) : Addr := match K.lookup c with
  | some o => (match o.data with
    | .fields vs => (match vs.getD 11 .none with
      | .ref P => P
      | _ => 0)
    | _ => 0)
  | none => 0
theorem tab_ne {a b : Addr} (h : (a == b) = false) : a ≠ b := by simpa using h
/-- a constant of the module -/
structure CoF (K : PySem.W.Frag) (mg : Str → Option Value) (x : Str) (d : D) : Prop where
  ex : ∃ u v, mg x = some u ∧ RelV v u ∧ ∀ H M, Rp K H M d v
theorem em_con {X : Cx} {C : Cfg} {W : WX} {k : Nat} {x : Str} {d : D} {pos : Pos} (g : Gd X C W k) (F : CoF X.K X.mg x d) (hg : Gl X x := by rfl) (hd : (x == ("__debug__" : Str)) = false := by decide) : EM X C W (.Name x pos) (tC (Classical.choose (Classical.choose_spec F.ex))) (mK d) := by
  have h := Classical.choose_spec (Classical.choose_spec F.ex)
  exact em_glob hg h.1 h.2.1 (g.kE ▸ h.2.2) hd
def conV (u : Value) (d : D) : Bool := match d, u with
  | .str x, .str y _ => x == y
  | .int i, .int j _ => i == j
  | _, _ => false
def conVs : List Value → List D → Bool
  | [], [] => true
  | u :: us, d :: ds => conV u d && conVs us ds
  | _, _ => false
def conO (o : Obj) (ds : List D) : Bool := (match o.cls with | .type t => t == "tuple" | _ => false) && (match o.data with | .seq its _ => conVs its.toList ds && decide (its.size ≤ 1000) | _ => false)
theorem conV_rp {u : Value} {d : D} (h : conV u d = true) : ∃ v, RelV v u ∧ ∀ K H M, Rp K H M d v := by
  unfold conV at h
  split at h
  · rename_i x y t
    rw [beq_iff_eq] at h
    subst h
    exact ⟨.str _, ⟨_, rfl⟩, fun K H M => .str _⟩
  · rename_i x y t
    rw [beq_iff_eq] at h
    subst h
    exact ⟨.int _, ⟨_, rfl⟩, fun K H M => .int _⟩
  · cases h
theorem conVs_rp : ∀ {us : List Value} {ds : List D}, conVs us ds = true → ∃ vs, Vals vs us ∧ ∀ K H M, RpL K H M ds vs
  | [], [], _ => ⟨[], .nil, fun _ _ _ => .nil⟩
  | u :: us, d :: ds, h => by
    simp only [conVs, Bool.and_eq_true] at h
    obtain ⟨v, r, p⟩ := conV_rp h.1
    obtain ⟨vs, rs, ps⟩ := conVs_rp h.2
    exact ⟨v :: vs, .cons r rs, fun K H M => .cons (p K H M) (ps K H M)⟩
  | [], _ :: _, h => by simp [conVs] at h
  | _ :: _, [], h => by simp [conVs] at h
theorem con_tup {K : PySem.W.Frag} {mg : Str → Option Value} {x : Str} {a : Addr} {o : Obj} {ds : List D} (hm : mg x = some (.ref a)) (hk : K.lookup a = some o) (h : conO o ds = true) : CoF K mg x (.tup ds) := by
  unfold conO at h
  rw [Bool.and_eq_true] at h
  obtain ⟨h1, h2⟩ := h
  split at h1
  · rename_i t hc
    rw [beq_iff_eq] at h1
    subst h1
    split at h2
    · rename_i its n hd
      rw [Bool.and_eq_true] at h2
      obtain ⟨vs, r, p⟩ := conVs_rp h2.1
      have hz : its.size ≤ sizeLine := Nat.le_trans (of_decide_eq_true h2.2) (by decide)
      refine ⟨_, .ref a, hm, rfl, fun H M => .tup' (vs := vs) (.inr ⟨o, its, n, hk, hc, hd, hz, r⟩) ?_ (p K H M)⟩
      rw [← (p K H M).len, r.length, Array.length_toList]
      exact hz
    · cases h2
  · cases h1
theorem con_one {K : PySem.W.Frag} {mg : Str → Option Value} {x : Str} {u : Value} {d : D} (hm : mg x = some u) (h : conV u d = true) : CoF K mg x d := by
  obtain ⟨v, r, p⟩ := conV_rp h
  exact ⟨u, v, hm, r, p K⟩
end Vm
end
section
set_option maxRecDepth 100000
set_option maxHeartbeats 4000000
/-! Vm, part ZD: sorted of a list of ints or of tuples of ints. -/
namespace Vm
open PySem PySem.Spec PyProof.Rows L2
def rowD (b : List Int) : D := .tup (b.map D.int)
def rowsD : List D → Option (List (List Int))
  | [] => some []
  | .tup xs :: r => (match intsD xs, rowsD r with
    | some (n :: ns), some bs => some ((n :: ns) :: bs)
    | _, _ => none)
  | _ => none
theorem rows_eq : ∀ {ds : List D} {bs : List (List Int)}, rowsD ds = some bs → ds = bs.map rowD ∧ ∀ b ∈ bs, b ≠ []
  | [], bs, h => by cases h; exact ⟨rfl, fun b hb => by cases hb⟩
  | d :: r, bs, h => by
    cases d with
    | tup xs =>
      simp only [rowsD] at h
      split at h
      · rename_i n ns cs h1 h2
        cases h
        obtain ⟨e1, e2⟩ := rows_eq h2
        rw [ints_eq h1, e1]
        exact ⟨rfl, fun b hb => by
          rcases List.mem_cons.mp hb with rfl | hb
          · exact fun z => nomatch z
          · exact e2 b hb⟩
      · cases h
    | _ => simp [rowsD] at h
theorem rows_map : ∀ {bs : List (List Int)}, (∀ b ∈ bs, b ≠ []) → rowsD (bs.map rowD) = some bs
  | [], _ => rfl
  | b :: bs, h => by
    cases b with
    | nil => exact absurd rfl (h _ (.head _))
    | cons n ns =>
      have e := rows_map fun c hc => h c (.tail _ hc)
      have e2 := ints_map (n :: ns)
      show rowsD (.tup ((n :: ns).map D.int) :: bs.map rowD) = _
      unfold rowsD
      rw [e2, e]
def sortA (x : D) : Res D := match x with
  | .lst ds => (match intsD ds with
    | some ns => .ok (.lst ((sortI ns).map D.int))
    | none => (match rowsD ds with
      | some bs => .ok (.lst ((sortR bs).map rowD))
      | none => .bad))
  | _ => .bad
def rSortA (K : PySem.W.Frag) : List V → Hp → VK → Prop := fun vs H Q => rSortedI K vs H Q ∨ rSortR K vs H Q
section
variable {K : PySem.W.Frag}
theorem row_is {H : Hp} {M : Addr → Prop} {b : List Int} {v : V} (h : Rp K H M (rowD b) v) : IsRow K H v b := by
  have h' : Rp K H M (.tup (b.map D.int)) v := h
  cases h' with
  | tup q hl hz hi =>
    have r : RpL K H M (b.map D.int) _ := ⟨hl, hi⟩
    rw [r.ints] at q
    exact ⟨_, rfl, q⟩
theorem is_row {H : Hp} {M : Addr → Prop} {b : List Int} {v : V} (hz : b.length ≤ sizeLine) (h : IsRow K H v b) : Rp K H M (rowD b) v := by
  obtain ⟨t, rfl, h⟩ := h
  exact .tup' h (by rw [List.length_map]; exact hz) .of_ints
theorem cf_sortA : CallF K (rSortA K) (one sortA) := by
  intro H M vs ds Q tk r w
  obtain ⟨d, rfl, w1⟩ := one_inv w
  cases d with
  | lst xs =>
    simp only [sortA] at w1
    cases h1 : intsD xs with
    | some ns =>
      rw [h1] at w1
      refine .inl (cf_sortI H M vs [.lst xs] Q tk r ?_)
      show (onI _ (.lst xs)).Wp _ _
      simp only [onI, h1]
      exact w1
    | none =>
      rw [h1] at w1
      simp only at w1
      cases h2 : rowsD xs with
      | none => rw [h2] at w1; exact w1.elim
      | some bs =>
        rw [h2] at w1
        obtain ⟨v, rfl, rv⟩ := r.one
        obtain ⟨a, us, rfl, h, z, q⟩ := rv.lst_inv
        obtain ⟨rfl, hne⟩ := rows_eq h2
        have hl : us.length = bs.length := by rw [q.len, List.length_map]
        have sz : ∀ b ∈ bs, b.length ≤ sizeLine := fun b hb => by
          obtain ⟨i, hi⟩ := List.mem_iff_getElem?.mp hb
          obtain ⟨v, e, rv⟩ := q.at1 (i := i) (d := rowD b) (by rw [List.getElem?_map, hi]; rfl)
          have rv' : Rp K H M (.tup (b.map D.int)) v := rv
          cases rv' with
          | tup h hl hz hi => rwa [List.length_map] at hz
        refine .inr ⟨a, us, bs, rfl, .of h, ⟨hl, fun i x y e1 e2 => ?_⟩, hne, fun us' p ⟨l1, l2⟩ hp => ?_⟩
        · exact row_is (q.item i (rowD y) x (by rw [List.getElem?_map, e2]; rfl) e1)
        · have hz2 : ((sortR bs).map rowD).length ≤ sizeLine := by
            rw [List.length_map, sortR_len]
            rwa [List.length_map] at z
          refine w1 p _ hp (same_new hp) (cell_new ⟨by rw [List.length_map]; exact l1, fun i d v e1 e2 => ?_⟩ hp hz2)
          rw [List.getElem?_map] at e1
          cases e3 : (sortR bs)[i]? with
          | none => rw [e3] at e1; cases e1
          | some b =>
            rw [e3] at e1
            cases e1
            exact is_row (sz b ((sortR_perm bs).mem_iff.mp (List.mem_of_getElem? e3))) (l2 i v b e2 e3)
  | _ => exact w1.elim
end
theorem cSortA {X : Cx} {C : Cfg} {W : WX} {k : Nat} (g : Gd X C W k) : CallR X (.builtin "sorted") (rSortA C.K) := g.kE ▸ cr_sortedI.or (cr_sortR (by have := g.room.un; omega))
@[simp] theorem sortA_ints (ns : List Int) : sortA (.lst (ns.map D.int)) = .ok (.lst ((sortI ns).map D.int)) := by
  simp only [sortA, ints_map]
theorem sortA_rows {bs : List (List Int)} (h : ∀ b ∈ bs, b ≠ []) : sortA (.lst (bs.map rowD)) = .ok (.lst ((sortR bs).map rowD)) := by
  cases bs with
  | nil => simp [sortA, intsD, sortR, sortI]
  | cons b bs =>
    have e : intsD ((b :: bs).map rowD) = none := rfl
    simp only [sortA, e, rows_map h]
end Vm
end
section
/-! Vm, part ZE: words (printed by zwords.py), in over written words. -/
namespace Vm
open PySem L2
@[simp] theorem wd_bill_pay : (("bill" : Str) = "pay") = False := by decide
@[simp] theorem wd_bill_named : (("bill" : Str) = "named") = False := by decide
@[simp] theorem wd_bill_struck : (("bill" : Str) = "struck") = False := by decide
@[simp] theorem wd_bill_days : (("bill" : Str) = "days") = False := by decide
@[simp] theorem wd_bill_entered : (("bill" : Str) = "entered") = False := by decide
@[simp] theorem wd_bill_oldest : (("bill" : Str) = "oldest") = False := by decide
@[simp] theorem wd_bill_newest : (("bill" : Str) = "newest") = False := by decide
@[simp] theorem wd_bill_greatest : (("bill" : Str) = "greatest") = False := by decide
@[simp] theorem wd_bill_least : (("bill" : Str) = "least") = False := by decide
@[simp] theorem wd_bill_late : (("bill" : Str) = "late") = False := by decide
@[simp] theorem wd_bill_apart : (("bill" : Str) = "apart") = False := by decide
@[simp] theorem wd_bill_squares : (("bill" : Str) = "squares") = False := by decide
@[simp] theorem wd_bill_more : (("bill" : Str) = "more") = False := by decide
@[simp] theorem wd_bill_crossed : (("bill" : Str) = "crossed") = False := by decide
@[simp] theorem wd_bill_less : (("bill" : Str) = "less") = False := by decide
@[simp] theorem wd_pay_bill : (("pay" : Str) = "bill") = False := by decide
@[simp] theorem wd_pay_named : (("pay" : Str) = "named") = False := by decide
@[simp] theorem wd_pay_struck : (("pay" : Str) = "struck") = False := by decide
@[simp] theorem wd_pay_days : (("pay" : Str) = "days") = False := by decide
@[simp] theorem wd_pay_entered : (("pay" : Str) = "entered") = False := by decide
@[simp] theorem wd_pay_oldest : (("pay" : Str) = "oldest") = False := by decide
@[simp] theorem wd_pay_newest : (("pay" : Str) = "newest") = False := by decide
@[simp] theorem wd_pay_greatest : (("pay" : Str) = "greatest") = False := by decide
@[simp] theorem wd_pay_least : (("pay" : Str) = "least") = False := by decide
@[simp] theorem wd_pay_late : (("pay" : Str) = "late") = False := by decide
@[simp] theorem wd_pay_apart : (("pay" : Str) = "apart") = False := by decide
@[simp] theorem wd_pay_squares : (("pay" : Str) = "squares") = False := by decide
@[simp] theorem wd_pay_more : (("pay" : Str) = "more") = False := by decide
@[simp] theorem wd_pay_crossed : (("pay" : Str) = "crossed") = False := by decide
@[simp] theorem wd_pay_less : (("pay" : Str) = "less") = False := by decide
@[simp] theorem wd_named_bill : (("named" : Str) = "bill") = False := by decide
@[simp] theorem wd_named_pay : (("named" : Str) = "pay") = False := by decide
@[simp] theorem wd_named_struck : (("named" : Str) = "struck") = False := by decide
@[simp] theorem wd_named_days : (("named" : Str) = "days") = False := by decide
@[simp] theorem wd_named_entered : (("named" : Str) = "entered") = False := by decide
@[simp] theorem wd_named_oldest : (("named" : Str) = "oldest") = False := by decide
@[simp] theorem wd_named_newest : (("named" : Str) = "newest") = False := by decide
@[simp] theorem wd_named_greatest : (("named" : Str) = "greatest") = False := by decide
@[simp] theorem wd_named_least : (("named" : Str) = "least") = False := by decide
@[simp] theorem wd_named_late : (("named" : Str) = "late") = False := by decide
@[simp] theorem wd_named_apart : (("named" : Str) = "apart") = False := by decide
@[simp] theorem wd_named_squares : (("named" : Str) = "squares") = False := by decide
@[simp] theorem wd_named_more : (("named" : Str) = "more") = False := by decide
@[simp] theorem wd_named_crossed : (("named" : Str) = "crossed") = False := by decide
@[simp] theorem wd_named_less : (("named" : Str) = "less") = False := by decide
@[simp] theorem wd_struck_bill : (("struck" : Str) = "bill") = False := by decide
@[simp] theorem wd_struck_pay : (("struck" : Str) = "pay") = False := by decide
@[simp] theorem wd_struck_named : (("struck" : Str) = "named") = False := by decide
@[simp] theorem wd_struck_days : (("struck" : Str) = "days") = False := by decide
@[simp] theorem wd_struck_entered : (("struck" : Str) = "entered") = False := by decide
@[simp] theorem wd_struck_oldest : (("struck" : Str) = "oldest") = False := by decide
@[simp] theorem wd_struck_newest : (("struck" : Str) = "newest") = False := by decide
@[simp] theorem wd_struck_greatest : (("struck" : Str) = "greatest") = False := by decide
@[simp] theorem wd_struck_least : (("struck" : Str) = "least") = False := by decide
@[simp] theorem wd_struck_late : (("struck" : Str) = "late") = False := by decide
@[simp] theorem wd_struck_apart : (("struck" : Str) = "apart") = False := by decide
@[simp] theorem wd_struck_squares : (("struck" : Str) = "squares") = False := by decide
@[simp] theorem wd_struck_more : (("struck" : Str) = "more") = False := by decide
@[simp] theorem wd_struck_crossed : (("struck" : Str) = "crossed") = False := by decide
@[simp] theorem wd_struck_less : (("struck" : Str) = "less") = False := by decide
@[simp] theorem wd_days_bill : (("days" : Str) = "bill") = False := by decide
@[simp] theorem wd_days_pay : (("days" : Str) = "pay") = False := by decide
@[simp] theorem wd_days_named : (("days" : Str) = "named") = False := by decide
@[simp] theorem wd_days_struck : (("days" : Str) = "struck") = False := by decide
@[simp] theorem wd_days_entered : (("days" : Str) = "entered") = False := by decide
@[simp] theorem wd_days_oldest : (("days" : Str) = "oldest") = False := by decide
@[simp] theorem wd_days_newest : (("days" : Str) = "newest") = False := by decide
@[simp] theorem wd_days_greatest : (("days" : Str) = "greatest") = False := by decide
@[simp] theorem wd_days_least : (("days" : Str) = "least") = False := by decide
@[simp] theorem wd_days_late : (("days" : Str) = "late") = False := by decide
@[simp] theorem wd_days_apart : (("days" : Str) = "apart") = False := by decide
@[simp] theorem wd_days_squares : (("days" : Str) = "squares") = False := by decide
@[simp] theorem wd_days_more : (("days" : Str) = "more") = False := by decide
@[simp] theorem wd_days_crossed : (("days" : Str) = "crossed") = False := by decide
@[simp] theorem wd_days_less : (("days" : Str) = "less") = False := by decide
@[simp] theorem wd_entered_bill : (("entered" : Str) = "bill") = False := by decide
@[simp] theorem wd_entered_pay : (("entered" : Str) = "pay") = False := by decide
@[simp] theorem wd_entered_named : (("entered" : Str) = "named") = False := by decide
@[simp] theorem wd_entered_struck : (("entered" : Str) = "struck") = False := by decide
@[simp] theorem wd_entered_days : (("entered" : Str) = "days") = False := by decide
@[simp] theorem wd_entered_oldest : (("entered" : Str) = "oldest") = False := by decide
@[simp] theorem wd_entered_newest : (("entered" : Str) = "newest") = False := by decide
@[simp] theorem wd_entered_greatest : (("entered" : Str) = "greatest") = False := by decide
@[simp] theorem wd_entered_least : (("entered" : Str) = "least") = False := by decide
@[simp] theorem wd_entered_late : (("entered" : Str) = "late") = False := by decide
@[simp] theorem wd_entered_apart : (("entered" : Str) = "apart") = False := by decide
@[simp] theorem wd_entered_squares : (("entered" : Str) = "squares") = False := by decide
@[simp] theorem wd_entered_more : (("entered" : Str) = "more") = False := by decide
@[simp] theorem wd_entered_crossed : (("entered" : Str) = "crossed") = False := by decide
@[simp] theorem wd_entered_less : (("entered" : Str) = "less") = False := by decide
@[simp] theorem wd_oldest_bill : (("oldest" : Str) = "bill") = False := by decide
@[simp] theorem wd_oldest_pay : (("oldest" : Str) = "pay") = False := by decide
@[simp] theorem wd_oldest_named : (("oldest" : Str) = "named") = False := by decide
@[simp] theorem wd_oldest_struck : (("oldest" : Str) = "struck") = False := by decide
@[simp] theorem wd_oldest_days : (("oldest" : Str) = "days") = False := by decide
@[simp] theorem wd_oldest_entered : (("oldest" : Str) = "entered") = False := by decide
@[simp] theorem wd_oldest_newest : (("oldest" : Str) = "newest") = False := by decide
@[simp] theorem wd_oldest_greatest : (("oldest" : Str) = "greatest") = False := by decide
@[simp] theorem wd_oldest_least : (("oldest" : Str) = "least") = False := by decide
@[simp] theorem wd_oldest_late : (("oldest" : Str) = "late") = False := by decide
@[simp] theorem wd_oldest_apart : (("oldest" : Str) = "apart") = False := by decide
@[simp] theorem wd_oldest_squares : (("oldest" : Str) = "squares") = False := by decide
@[simp] theorem wd_oldest_more : (("oldest" : Str) = "more") = False := by decide
@[simp] theorem wd_oldest_crossed : (("oldest" : Str) = "crossed") = False := by decide
@[simp] theorem wd_oldest_less : (("oldest" : Str) = "less") = False := by decide
@[simp] theorem wd_newest_bill : (("newest" : Str) = "bill") = False := by decide
@[simp] theorem wd_newest_pay : (("newest" : Str) = "pay") = False := by decide
@[simp] theorem wd_newest_named : (("newest" : Str) = "named") = False := by decide
@[simp] theorem wd_newest_struck : (("newest" : Str) = "struck") = False := by decide
@[simp] theorem wd_newest_days : (("newest" : Str) = "days") = False := by decide
@[simp] theorem wd_newest_entered : (("newest" : Str) = "entered") = False := by decide
@[simp] theorem wd_newest_oldest : (("newest" : Str) = "oldest") = False := by decide
@[simp] theorem wd_newest_greatest : (("newest" : Str) = "greatest") = False := by decide
@[simp] theorem wd_newest_least : (("newest" : Str) = "least") = False := by decide
@[simp] theorem wd_newest_late : (("newest" : Str) = "late") = False := by decide
@[simp] theorem wd_newest_apart : (("newest" : Str) = "apart") = False := by decide
@[simp] theorem wd_newest_squares : (("newest" : Str) = "squares") = False := by decide
@[simp] theorem wd_newest_more : (("newest" : Str) = "more") = False := by decide
@[simp] theorem wd_newest_crossed : (("newest" : Str) = "crossed") = False := by decide
@[simp] theorem wd_newest_less : (("newest" : Str) = "less") = False := by decide
@[simp] theorem wd_greatest_bill : (("greatest" : Str) = "bill") = False := by decide
@[simp] theorem wd_greatest_pay : (("greatest" : Str) = "pay") = False := by decide
@[simp] theorem wd_greatest_named : (("greatest" : Str) = "named") = False := by decide
@[simp] theorem wd_greatest_struck : (("greatest" : Str) = "struck") = False := by decide
@[simp] theorem wd_greatest_days : (("greatest" : Str) = "days") = False := by decide
@[simp] theorem wd_greatest_entered : (("greatest" : Str) = "entered") = False := by decide
@[simp] theorem wd_greatest_oldest : (("greatest" : Str) = "oldest") = False := by decide
@[simp] theorem wd_greatest_newest : (("greatest" : Str) = "newest") = False := by decide
@[simp] theorem wd_greatest_least : (("greatest" : Str) = "least") = False := by decide
@[simp] theorem wd_greatest_late : (("greatest" : Str) = "late") = False := by decide
@[simp] theorem wd_greatest_apart : (("greatest" : Str) = "apart") = False := by decide
@[simp] theorem wd_greatest_squares : (("greatest" : Str) = "squares") = False := by decide
@[simp] theorem wd_greatest_more : (("greatest" : Str) = "more") = False := by decide
@[simp] theorem wd_greatest_crossed : (("greatest" : Str) = "crossed") = False := by decide
@[simp] theorem wd_greatest_less : (("greatest" : Str) = "less") = False := by decide
@[simp] theorem wd_least_bill : (("least" : Str) = "bill") = False := by decide
@[simp] theorem wd_least_pay : (("least" : Str) = "pay") = False := by decide
@[simp] theorem wd_least_named : (("least" : Str) = "named") = False := by decide
@[simp] theorem wd_least_struck : (("least" : Str) = "struck") = False := by decide
@[simp] theorem wd_least_days : (("least" : Str) = "days") = False := by decide
@[simp] theorem wd_least_entered : (("least" : Str) = "entered") = False := by decide
@[simp] theorem wd_least_oldest : (("least" : Str) = "oldest") = False := by decide
@[simp] theorem wd_least_newest : (("least" : Str) = "newest") = False := by decide
@[simp] theorem wd_least_greatest : (("least" : Str) = "greatest") = False := by decide
@[simp] theorem wd_least_late : (("least" : Str) = "late") = False := by decide
@[simp] theorem wd_least_apart : (("least" : Str) = "apart") = False := by decide
@[simp] theorem wd_least_squares : (("least" : Str) = "squares") = False := by decide
@[simp] theorem wd_least_more : (("least" : Str) = "more") = False := by decide
@[simp] theorem wd_least_crossed : (("least" : Str) = "crossed") = False := by decide
@[simp] theorem wd_least_less : (("least" : Str) = "less") = False := by decide
@[simp] theorem wd_late_bill : (("late" : Str) = "bill") = False := by decide
@[simp] theorem wd_late_pay : (("late" : Str) = "pay") = False := by decide
@[simp] theorem wd_late_named : (("late" : Str) = "named") = False := by decide
@[simp] theorem wd_late_struck : (("late" : Str) = "struck") = False := by decide
@[simp] theorem wd_late_days : (("late" : Str) = "days") = False := by decide
@[simp] theorem wd_late_entered : (("late" : Str) = "entered") = False := by decide
@[simp] theorem wd_late_oldest : (("late" : Str) = "oldest") = False := by decide
@[simp] theorem wd_late_newest : (("late" : Str) = "newest") = False := by decide
@[simp] theorem wd_late_greatest : (("late" : Str) = "greatest") = False := by decide
@[simp] theorem wd_late_least : (("late" : Str) = "least") = False := by decide
@[simp] theorem wd_late_apart : (("late" : Str) = "apart") = False := by decide
@[simp] theorem wd_late_squares : (("late" : Str) = "squares") = False := by decide
@[simp] theorem wd_late_more : (("late" : Str) = "more") = False := by decide
@[simp] theorem wd_late_crossed : (("late" : Str) = "crossed") = False := by decide
@[simp] theorem wd_late_less : (("late" : Str) = "less") = False := by decide
@[simp] theorem wd_apart_bill : (("apart" : Str) = "bill") = False := by decide
@[simp] theorem wd_apart_pay : (("apart" : Str) = "pay") = False := by decide
@[simp] theorem wd_apart_named : (("apart" : Str) = "named") = False := by decide
@[simp] theorem wd_apart_struck : (("apart" : Str) = "struck") = False := by decide
@[simp] theorem wd_apart_days : (("apart" : Str) = "days") = False := by decide
@[simp] theorem wd_apart_entered : (("apart" : Str) = "entered") = False := by decide
@[simp] theorem wd_apart_oldest : (("apart" : Str) = "oldest") = False := by decide
@[simp] theorem wd_apart_newest : (("apart" : Str) = "newest") = False := by decide
@[simp] theorem wd_apart_greatest : (("apart" : Str) = "greatest") = False := by decide
@[simp] theorem wd_apart_least : (("apart" : Str) = "least") = False := by decide
@[simp] theorem wd_apart_late : (("apart" : Str) = "late") = False := by decide
@[simp] theorem wd_apart_squares : (("apart" : Str) = "squares") = False := by decide
@[simp] theorem wd_apart_more : (("apart" : Str) = "more") = False := by decide
@[simp] theorem wd_apart_crossed : (("apart" : Str) = "crossed") = False := by decide
@[simp] theorem wd_apart_less : (("apart" : Str) = "less") = False := by decide
@[simp] theorem wd_squares_bill : (("squares" : Str) = "bill") = False := by decide
@[simp] theorem wd_squares_pay : (("squares" : Str) = "pay") = False := by decide
@[simp] theorem wd_squares_named : (("squares" : Str) = "named") = False := by decide
@[simp] theorem wd_squares_struck : (("squares" : Str) = "struck") = False := by decide
@[simp] theorem wd_squares_days : (("squares" : Str) = "days") = False := by decide
@[simp] theorem wd_squares_entered : (("squares" : Str) = "entered") = False := by decide
@[simp] theorem wd_squares_oldest : (("squares" : Str) = "oldest") = False := by decide
@[simp] theorem wd_squares_newest : (("squares" : Str) = "newest") = False := by decide
@[simp] theorem wd_squares_greatest : (("squares" : Str) = "greatest") = False := by decide
@[simp] theorem wd_squares_least : (("squares" : Str) = "least") = False := by decide
@[simp] theorem wd_squares_late : (("squares" : Str) = "late") = False := by decide
@[simp] theorem wd_squares_apart : (("squares" : Str) = "apart") = False := by decide
@[simp] theorem wd_squares_more : (("squares" : Str) = "more") = False := by decide
@[simp] theorem wd_squares_crossed : (("squares" : Str) = "crossed") = False := by decide
@[simp] theorem wd_squares_less : (("squares" : Str) = "less") = False := by decide
@[simp] theorem wd_more_bill : (("more" : Str) = "bill") = False := by decide
@[simp] theorem wd_more_pay : (("more" : Str) = "pay") = False := by decide
@[simp] theorem wd_more_named : (("more" : Str) = "named") = False := by decide
@[simp] theorem wd_more_struck : (("more" : Str) = "struck") = False := by decide
@[simp] theorem wd_more_days : (("more" : Str) = "days") = False := by decide
@[simp] theorem wd_more_entered : (("more" : Str) = "entered") = False := by decide
@[simp] theorem wd_more_oldest : (("more" : Str) = "oldest") = False := by decide
@[simp] theorem wd_more_newest : (("more" : Str) = "newest") = False := by decide
@[simp] theorem wd_more_greatest : (("more" : Str) = "greatest") = False := by decide
@[simp] theorem wd_more_least : (("more" : Str) = "least") = False := by decide
@[simp] theorem wd_more_late : (("more" : Str) = "late") = False := by decide
@[simp] theorem wd_more_apart : (("more" : Str) = "apart") = False := by decide
@[simp] theorem wd_more_squares : (("more" : Str) = "squares") = False := by decide
@[simp] theorem wd_more_crossed : (("more" : Str) = "crossed") = False := by decide
@[simp] theorem wd_more_less : (("more" : Str) = "less") = False := by decide
@[simp] theorem wd_crossed_bill : (("crossed" : Str) = "bill") = False := by decide
@[simp] theorem wd_crossed_pay : (("crossed" : Str) = "pay") = False := by decide
@[simp] theorem wd_crossed_named : (("crossed" : Str) = "named") = False := by decide
@[simp] theorem wd_crossed_struck : (("crossed" : Str) = "struck") = False := by decide
@[simp] theorem wd_crossed_days : (("crossed" : Str) = "days") = False := by decide
@[simp] theorem wd_crossed_entered : (("crossed" : Str) = "entered") = False := by decide
@[simp] theorem wd_crossed_oldest : (("crossed" : Str) = "oldest") = False := by decide
@[simp] theorem wd_crossed_newest : (("crossed" : Str) = "newest") = False := by decide
@[simp] theorem wd_crossed_greatest : (("crossed" : Str) = "greatest") = False := by decide
@[simp] theorem wd_crossed_least : (("crossed" : Str) = "least") = False := by decide
@[simp] theorem wd_crossed_late : (("crossed" : Str) = "late") = False := by decide
@[simp] theorem wd_crossed_apart : (("crossed" : Str) = "apart") = False := by decide
@[simp] theorem wd_crossed_squares : (("crossed" : Str) = "squares") = False := by decide
@[simp] theorem wd_crossed_more : (("crossed" : Str) = "more") = False := by decide
@[simp] theorem wd_crossed_less : (("crossed" : Str) = "less") = False := by decide
@[simp] theorem wd_less_bill : (("less" : Str) = "bill") = False := by decide
@[simp] theorem wd_less_pay : (("less" : Str) = "pay") = False := by decide
@[simp] theorem wd_less_named : (("less" : Str) = "named") = False := by decide
@[simp] theorem wd_less_struck : (("less" : Str) = "struck") = False := by decide
@[simp] theorem wd_less_days : (("less" : Str) = "days") = False := by decide
@[simp] theorem wd_less_entered : (("less" : Str) = "entered") = False := by decide
@[simp] theorem wd_less_oldest : (("less" : Str) = "oldest") = False := by decide
@[simp] theorem wd_less_newest : (("less" : Str) = "newest") = False := by decide
@[simp] theorem wd_less_greatest : (("less" : Str) = "greatest") = False := by decide
@[simp] theorem wd_less_least : (("less" : Str) = "least") = False := by decide
@[simp] theorem wd_less_late : (("less" : Str) = "late") = False := by decide
@[simp] theorem wd_less_apart : (("less" : Str) = "apart") = False := by decide
@[simp] theorem wd_less_squares : (("less" : Str) = "squares") = False := by decide
@[simp] theorem wd_less_more : (("less" : Str) = "more") = False := by decide
@[simp] theorem wd_less_crossed : (("less" : Str) = "crossed") = False := by decide
@[simp] theorem isi_int_non  : isiD "int" .non = .ok (.bl false) := rfl
@[simp] theorem isi_int_bl (b : Bool) : isiD "int" (.bl b) = .ok (.bl true) := rfl
@[simp] theorem isi_int_int (b : Int) : isiD "int" (.int b) = .ok (.bl true) := rfl
@[simp] theorem isi_int_str (b : Str) : isiD "int" (.str b) = .ok (.bl false) := rfl
@[simp] theorem isi_int_tup (b : List D) : isiD "int" (.tup b) = .ok (.bl false) := rfl
@[simp] theorem isi_int_lst (b : List D) : isiD "int" (.lst b) = .ok (.bl false) := rfl
@[simp] theorem isi_int_dic (b : List (Key × D)) : isiD "int" (.dic b) = .ok (.bl false) := rfl
@[simp] theorem isi_bool_non  : isiD "bool" .non = .ok (.bl false) := rfl
@[simp] theorem isi_bool_bl (b : Bool) : isiD "bool" (.bl b) = .ok (.bl true) := rfl
@[simp] theorem isi_bool_int (b : Int) : isiD "bool" (.int b) = .ok (.bl false) := rfl
@[simp] theorem isi_bool_str (b : Str) : isiD "bool" (.str b) = .ok (.bl false) := rfl
@[simp] theorem isi_bool_tup (b : List D) : isiD "bool" (.tup b) = .ok (.bl false) := rfl
@[simp] theorem isi_bool_lst (b : List D) : isiD "bool" (.lst b) = .ok (.bl false) := rfl
@[simp] theorem isi_bool_dic (b : List (Key × D)) : isiD "bool" (.dic b) = .ok (.bl false) := rfl
@[simp] theorem isi_str_non  : isiD "str" .non = .ok (.bl false) := rfl
@[simp] theorem isi_str_bl (b : Bool) : isiD "str" (.bl b) = .ok (.bl false) := rfl
@[simp] theorem isi_str_int (b : Int) : isiD "str" (.int b) = .ok (.bl false) := rfl
@[simp] theorem isi_str_str (b : Str) : isiD "str" (.str b) = .ok (.bl true) := rfl
@[simp] theorem isi_str_tup (b : List D) : isiD "str" (.tup b) = .ok (.bl false) := rfl
@[simp] theorem isi_str_lst (b : List D) : isiD "str" (.lst b) = .ok (.bl false) := rfl
@[simp] theorem isi_str_dic (b : List (Key × D)) : isiD "str" (.dic b) = .ok (.bl false) := rfl
@[simp] theorem isi_tuple_non  : isiD "tuple" .non = .ok (.bl false) := rfl
@[simp] theorem isi_tuple_bl (b : Bool) : isiD "tuple" (.bl b) = .ok (.bl false) := rfl
@[simp] theorem isi_tuple_int (b : Int) : isiD "tuple" (.int b) = .ok (.bl false) := rfl
@[simp] theorem isi_tuple_str (b : Str) : isiD "tuple" (.str b) = .ok (.bl false) := rfl
@[simp] theorem isi_tuple_tup (b : List D) : isiD "tuple" (.tup b) = .ok (.bl true) := rfl
@[simp] theorem isi_tuple_lst (b : List D) : isiD "tuple" (.lst b) = .ok (.bl false) := rfl
@[simp] theorem isi_tuple_dic (b : List (Key × D)) : isiD "tuple" (.dic b) = .ok (.bl false) := rfl
@[simp] theorem isi_list_non  : isiD "list" .non = .ok (.bl false) := rfl
@[simp] theorem isi_list_bl (b : Bool) : isiD "list" (.bl b) = .ok (.bl false) := rfl
@[simp] theorem isi_list_int (b : Int) : isiD "list" (.int b) = .ok (.bl false) := rfl
@[simp] theorem isi_list_str (b : Str) : isiD "list" (.str b) = .ok (.bl false) := rfl
@[simp] theorem isi_list_tup (b : List D) : isiD "list" (.tup b) = .ok (.bl false) := rfl
@[simp] theorem isi_list_lst (b : List D) : isiD "list" (.lst b) = .ok (.bl true) := rfl
@[simp] theorem isi_list_dic (b : List (Key × D)) : isiD "list" (.dic b) = .ok (.bl false) := rfl
@[simp] theorem isi_dict_non  : isiD "dict" .non = .ok (.bl false) := rfl
@[simp] theorem isi_dict_bl (b : Bool) : isiD "dict" (.bl b) = .ok (.bl false) := rfl
@[simp] theorem isi_dict_int (b : Int) : isiD "dict" (.int b) = .ok (.bl false) := rfl
@[simp] theorem isi_dict_str (b : Str) : isiD "dict" (.str b) = .ok (.bl false) := rfl
@[simp] theorem isi_dict_tup (b : List D) : isiD "dict" (.tup b) = .ok (.bl false) := rfl
@[simp] theorem isi_dict_lst (b : List D) : isiD "dict" (.lst b) = .ok (.bl false) := rfl
@[simp] theorem isi_dict_dic (b : List (Key × D)) : isiD "dict" (.dic b) = .ok (.bl true) := rfl
theorem in_strs (n : Bool) (x : Str) (xs : List Str) : inG n (.str x) (.tup (xs.map D.str)) = .ok (.bl (if n then !(xs.any fun a => decide (a = x)) else xs.any fun a => decide (a = x))) := by
  have h : flVs (xs.map D.str) = some (xs.map V.str) := by
    induction xs with
    | nil => rfl
    | cons a xs ih => simp [flVs, flV, ih]
  have e : inV (.str x) (xs.map V.str) = xs.any fun a => decide (a = x) := by
    unfold inV
    rw [List.any_map]
    congr 1
  simp only [inG, flV, itV, h, e]
@[simp] theorem in_s1 (n : Bool) (x a : Str) : inG n (.str x) (.tup [.str a]) = .ok (.bl (if n then !(decide (a = x)) else decide (a = x))) := by
  have := in_strs n x [a]
  simpa using this
@[simp] theorem in_s2 (n : Bool) (x a b : Str) : inG n (.str x) (.tup [.str a, .str b]) = .ok (.bl (if n then !(decide (a = x) || decide (b = x)) else (decide (a = x) || decide (b = x)))) := by
  have := in_strs n x [a, b]
  simpa using this
@[simp] theorem in_s3 (n : Bool) (x a b c : Str) : inG n (.str x) (.tup [.str a, .str b, .str c]) = .ok (.bl (if n then !(decide (a = x) || (decide (b = x) || decide (c = x))) else (decide (a = x) || (decide (b = x) || decide (c = x))))) := by
  have := in_strs n x [a, b, c]
  simpa using this
@[simp] theorem in_s4 (n : Bool) (x a b c d : Str) : inG n (.str x) (.tup [.str a, .str b, .str c, .str d]) = .ok (.bl (if n then !(decide (a = x) || (decide (b = x) || (decide (c = x) || decide (d = x)))) else (decide (a = x) || (decide (b = x) || (decide (c = x) || decide (d = x)))))) := by
  have := in_strs n x [a, b, c, d]
  simpa using this
theorem atI_nat {α : Type} (xs : List α) (i : Nat) (h : i < xs.length) : L2.atI xs (i : Int) = some xs[i] := by
  obtain ⟨q, e⟩ := atI_ok (xs := xs) (i := (i : Int)) (by omega) (by omega)
  simpa using e
theorem ixN_nat (n i : Nat) (h : i < n) : L2.ixN n (i : Int) = some i := by
  unfold L2.ixN
  rw [if_pos (by omega), if_pos (by omega)]
  simp
end Vm
end
section
/-! Vm, part ZF: comprehensions with one name. -/
namespace Vm
open PySem L2
theorem set_u {env : Sls} {i : Nat} {s : Sl} (hu : env[i]? = some .u) : (env.set i s).set i .u = env := by
  rw [List.set_set]
  have hi := (List.getElem?_eq_some_iff.mp hu)
  obtain ⟨h, e⟩ := hi
  rw [← e]
  exact List.set_getElem_self h
theorem gm1 {env : Sls} {i : Nat} (hp : notPar env i = true) (d : D) : gmN i d env = .ok (env.set i (.t d)) := by
  rw [z_gmN, if_pos hp]
/-- [f(d) for d in ds] -/
theorem lc1 {i : Nat} {m : Ev} {env : Sls} (f : D → D) (ds : List D) (h : ∀ d ∈ ds, m (env.set i (.t d)) = .ok (f d, env.set i (.t d)) ∧ kp (f d) = .ok (f d)) (hp : notPar env i = true := by simp) (hu : env[i]? = some .u := by rfl) : lcL [i] (gmN i) mYes m ds env = .ok (ds.map f, env) :=
  lcL_map f ds fun d hd => ⟨env.set i (.t d), _, env.set i (.t d), gm1 hp d, z_mYes _, (h d hd).1, (h d hd).2, by
    show (env.set i (.t d)).set i .u = env
    exact set_u hu⟩
/-- [f(d) for d in ds if p(d)] -/
theorem lf1 {i : Nat} {t : Ev1} {m : Ev} {env : Sls} (p : D → Bool) (f : D → D) (ds : List D) (ht : ∀ d ∈ ds, t (env.set i (.t d)) = .ok (p d, env.set i (.t d))) (h : ∀ d ∈ ds, p d = true → m (env.set i (.t d)) = .ok (f d, env.set i (.t d)) ∧ kp (f d) = .ok (f d)) (hp : notPar env i = true := by simp) (hu : env[i]? = some .u := by rfl) : lcL [i] (gmN i) t m ds env = .ok ((ds.filter p).map f, env) :=
  lcL_filt p f ds fun d hd => ⟨env.set i (.t d), env.set i (.t d), gm1 hp d, ht d hd, fun q => ⟨env.set i (.t d), (h d hd q).1, (h d hd q).2, by
    show (env.set i (.t d)).set i .u = env
    exact set_u hu⟩, fun _ => by
    show (env.set i (.t d)).set i .u = env
    exact set_u hu⟩
/-- with data of a type -/
theorem lc1m {α : Type} {i : Nat} {m : Ev} {env : Sls} (c : α → D) (f : α → D) (xs : List α) (h : ∀ x ∈ xs, m (env.set i (.t (c x))) = .ok (f x, env.set i (.t (c x))) ∧ kp (f x) = .ok (f x)) (hp : notPar env i = true := by simp) (hu : env[i]? = some .u := by rfl) : lcL [i] (gmN i) mYes m (xs.map c) env = .ok (xs.map f, env) := by
  induction xs with
  | nil => rfl
  | cons x xs ih =>
    have h1 := h x (.head _)
    have h2 := ih fun y hy => h y (.tail _ hy)
    have h3 : wipeE (env.set i (.t (c x))) [i] = env := by
      show (env.set i (.t (c x))).set i .u = env
      exact set_u hu
    simp only [List.map_cons, lcL, gm1 hp, noE_ok, z_mYes, y1, if_true, h1.1, h1.2, h3, h2, y4]
theorem lf1m {α : Type} {i : Nat} {t : Ev1} {m : Ev} {env : Sls} (c : α → D) (p : α → Bool) (f : α → D) (xs : List α) (ht : ∀ x ∈ xs, t (env.set i (.t (c x))) = .ok (p x, env.set i (.t (c x)))) (h : ∀ x ∈ xs, p x = true → m (env.set i (.t (c x))) = .ok (f x, env.set i (.t (c x))) ∧ kp (f x) = .ok (f x)) (hp : notPar env i = true := by simp) (hu : env[i]? = some .u := by rfl) :
    lcL [i] (gmN i) t m (xs.map c) env = .ok ((xs.filter p).map f, env) := by
  induction xs with
  | nil => rfl
  | cons x xs ih =>
    have h2 := ih (fun y hy => ht y (.tail _ hy)) fun y hy => h y (.tail _ hy)
    have h3 : wipeE (env.set i (.t (c x))) [i] = env := by
      show (env.set i (.t (c x))).set i .u = env
      exact set_u hu
    cases q : p x with
    | true =>
      have h1 := h x (.head _) q
      simp only [List.map_cons, lcL, gm1 hp, noE_ok, y1, ht x (.head _), q, if_true, h1.1, h1.2, h3, h2, y4, List.filter_cons]
    | false => simp only [List.map_cons, lcL, gm1 hp, noE_ok, y1, ht x (.head _), q, Bool.false_eq_true, if_false, h3, h2, y4, List.filter_cons]
theorem all_map {α : Type} (p : α → Bool) (xs : List α) : onB (fun ns => .ok (.bl (ns.all id))) (.lst (xs.map fun x => D.bl (p x))) = .ok (.bl (xs.all p)) := by
  have e : (xs.map fun x => D.bl (p x)) = (xs.map p).map D.bl := by rw [List.map_map]; rfl
  simp only [onB, e, bls_map]
  rw [List.all_map]
  rfl
theorem any_map {α : Type} (p : α → Bool) (xs : List α) : onB (fun ns => .ok (.bl (ns.any id))) (.lst (xs.map fun x => D.bl (p x))) = .ok (.bl (xs.any p)) := by
  have e : (xs.map fun x => D.bl (p x)) = (xs.map p).map D.bl := by rw [List.map_map]; rfl
  simp only [onB, e, bls_map]
  rw [List.any_map]
  rfl
theorem rangeD_map (n : Nat) : rangeD 0 n = (List.range n).map fun i : Nat => D.int (i : Int) := by
  unfold rangeD
  simp
end Vm
namespace Vm
open PySem L2
theorem lc2m {α : Type} {i j : Nat} {m : Ev} {env : Sls} (a b : α → D) (f : α → D) (xs : List α) (h : ∀ x ∈ xs, m ((env.set i (.t (a x))).set j (.t (b x))) = .ok (f x, (env.set i (.t (a x))).set j (.t (b x))) ∧ kp (f x) = .ok (f x)) (hij : i ≠ j := by decide) (hp : notPar env i = true := by simp) (hq : ∀ s, notPar (env.set i (.t s)) j = true := by intro s; simp) (hu : env[i]? = some .u := by rfl) (hv : env[j]? = some .u := by rfl) :
    lcL [i, j] (gmT 2 (gmCons (gmN i) (gmCons (gmN j) gmNil))) mYes m (xs.map fun x => .tup [a x, b x]) env = .ok (xs.map f, env) := by
  induction xs with
  | nil => rfl
  | cons x xs ih =>
    have h1 := h x (.head _)
    have h2 := ih fun y hy => h y (.tail _ hy)
    have h3 : wipeE ((env.set i (.t (a x))).set j (.t (b x))) [i, j] = env := by
      show ((((env.set i (.t (a x))).set j (.t (b x))).set j .u).set i .u) = env
      rw [List.set_set, List.set_comm _ _ hij, List.set_set, List.set_comm _ _ hij.symm]
      have e1 : env.set j .u = env := by
        obtain ⟨z, e⟩ := List.getElem?_eq_some_iff.mp hv
        rw [← e]
        exact List.set_getElem_self z
      have e2 : env.set i .u = env := by
        obtain ⟨z, e⟩ := List.getElem?_eq_some_iff.mp hu
        rw [← e]
        exact List.set_getElem_self z
      rw [e2, e1]
    have g1 : gmT 2 (gmCons (gmN i) (gmCons (gmN j) gmNil)) (.tup [a x, b x]) env = .ok ((env.set i (.t (a x))).set j (.t (b x))) := by
      simp [hp, hq]
    simp only [List.map_cons, lcL, g1, noE_ok, z_mYes, y1, if_true, h1.1, h1.2, h3, h2, y4]
end Vm
end
section
set_option maxRecDepth 100000
set_option maxHeartbeats 4000000
/-! Vm, part ZG: a comprehension over an own list, which stays own. -/
namespace Vm
open PySem PySem.Spec PyProof.Rows L2
open Classical in
noncomputable def lcO (io : Nat) (s : Sl) (vs : List Nat) (g : Gv) (tt : Ev1) (me : Ev) : List D → Sls → Res (List D × Sls)
  | [], env => if env[io]? = some s then .ok ([], env) else .bad
  | d :: ds, env => if env[io]? = some s then (do
    let e1 ← noE (g d env)
    let b ← noE (tt e1)
    if b.1 = true then do
      let r ← noE (me b.2)
      let y ← kp r.1
      let q ← lcO io s vs g tt me ds (wipeE r.2 vs)
      pure (y :: q.1, q.2)
    else lcO io s vs g tt me ds (wipeE b.2 vs)) else .bad
noncomputable def mLcO (io : Nat) (vs : List Nat) (g : Gv) (tt : Ev1) (me : Ev) : Ev := fun env => match env[io]? with
  | some s => (match s.con with
    | some (.lst ds) => if okWipe env vs = true then do
        let q ← lcO io s vs g tt me ds (wipeE env vs)
        pure (.lst q.1, backE env q.2 vs)
      else .bad
    | _ => .bad)
  | none => .bad
section
variable {X : Cx} {C : Cfg} {W : WX} {k j n : Nat} {a b e : Expr} {es rest : List Expr} {ta tb tc te : TE} {t : TA} {ma mb mc m me : Ev} {ms : Evs} {pos p : Pos} {x : Str} {tg iter elt : Expr}
theorem lcO_sn {g : TG} {gv : Gv} {tt : TT} {mt : Ev1} {vs : List Nat} {io : Nat} (hio : io ∉ vs)
    (hg : ∀ (M0 : Addr → Prop) (ad : Nat → Addr) (σ : L2.St) (H : Hp) (env : Sls) (d : D) (v : V) (Q : L2.St → Hp → Prop), RE (C.w M0) ad H σ env → Rp C.K H (Mo (C.w M0) env ad) d v →
      (gv d env).Wp (fun env' => ∀ σ', RE (C.w M0) ad H σ' env' → (∀ a, Ow env' ad a → Ow env ad a) → σ'.length = σ.length → (∀ j, j ∉ vs → σ'[j]? = σ[j]?) → Q σ' H) (fun _ => False) → g v σ H Q)
    (ht : ∀ (M0 : Addr → Prop) (ad : Nat → Addr) (σ : L2.St) (H : Hp) (env : Sls) (Q : Bool → Hp → Prop), RE (C.w M0) ad H σ env →
      (mt env).Wp (fun r => ∀ H', RE (C.w M0) ad H' σ r.2 → Stp (C.w M0) ad H env H' r.2 → Q r.1 H') (Er (C.w M0) ad σ W0) → tt σ H Q)
    (he : ∀ (M0 : Addr → Prop) (ad : Nat → Addr) (σ : L2.St) (H : Hp) (env : Sls) (Q : VK), RE (C.w M0) ad H σ env →
      (me env).Wp (fun r => ∀ v H', RE (C.w M0) ad H' σ r.2 → Stp (C.w M0) ad H env H' r.2 → VR (C.w M0) ad H' σ r.2 r.1 v → Q v H') (Er (C.w M0) ad σ W0) → te σ H Q)
    {M0 : Addr → Prop} {ad : Nat → Addr} {σ : L2.St} {H : Hp} {env : Sls} {Q : VK} (R : RE (C.w M0) ad H σ env)
    (w : (mLcO io vs gv mt me env).Wp (fun r => ∀ a H', H a = none → RE ((C.w M0).add a) ad H' σ r.2 → Stp (C.w M0) ad H env H' r.2 → CellOk C.K H' (Mo ((C.w M0).add a) r.2 ad) r.1 a → Q (.ref a) H') (Er (C.w M0) ad σ W)) : tLc (iList C.K (tVar io)) g tt te vs σ H Q := by
  unfold mLcO at w
  cases z0 : env[io]? with
  | none => rw [z0] at w; exact w.elim
  | some s0 =>
  rw [z0] at w
  simp only at w
  cases zc : s0.con with
  | none => rw [zc] at w; exact w.elim
  | some c0 =>
  rw [zc] at w
  cases c0 with
  | lst ds =>
  obtain ⟨hσ0, _, us0, hu0, _⟩ := R.con z0 zc
  refine ⟨.ref (ad io), hσ0, ad io, rfl, ⟨us0, .of hu0⟩, ?_⟩
  have Hz : ds.length ≤ sizeLine := by
    obtain ⟨_, cc⟩ := R.con z0 zc
    exact cc.1
  simp only at w
  have w1 := w
  clear w
  obtain ⟨H1, e1⟩ : ∃ H1, H1 = H := ⟨_, rfl⟩
  obtain ⟨env1, e2⟩ : ∃ env1, env1 = env := ⟨_, rfl⟩
  rw [← e2] at w1
  have R1 : RE (C.w M0) ad H1 σ env1 := by rw [e1, e2]; exact R
  have S1 : Stp (C.w M0) ad H env H1 env1 := by rw [e1, e2]; exact .refl
  rw [show H = H1 from e1.symm]
  have own : ∀ {H2 : Hp} {env2 : Sls} {L : Addr} {τ : L2.St}, RE ((C.w M0).add L) ad H2 τ env2 → env2[io]? = some s0 → ∃ us, H2 (ad io) = some (.lst us) ∧ RpL C.K H2 (Mo ((C.w M0).add L) env2 ad) ds us := fun R2 z => by
    obtain ⟨_, _, us, h1, h2⟩ := R2.con z zc
    exact ⟨us, h1, h2⟩
  split at w1
  · rename_i hw
    intro L hL
    rw [wp_bind] at w1
    have sL : Same H1 (upd H1 L (.lst [])) := same_new hL
    have HL0 : H L = none := by
      cases z : H L with
      | none => rfl
      | some o => exact absurd hL (S1.ext.trk L (by rw [z]; exact fun z => nomatch z))
    have h0L : C.H0 L = none := by
      cases z : C.H0 L with
      | none => rfl
      | some o => exact absurd hL (R1.trk L (by show C.H0 L ≠ none; rw [z]; exact fun z => nomatch z))
    have LnO : ¬ Ow env1 ad L := fun z => R1.mtrk (.inr z) hL
    have RA : RE ((C.w M0).add L) ad (upd H1 L (.lst [])) σ env1 := R1.growAdd sL hL (by rw [upd_same]; exact fun z => nomatch z)
    -- the word: at turn i
    refine ⟨fun i m H => m = ds.length - i ∧ i ≤ ds.length ∧ ∃ (env' : Sls) (acc : List D) (us : List V), RE ((C.w M0).add L) ad H (L2.wipe σ vs) env' ∧ Ext (Ow env1 ad) H1 H ∧ (∀ a, Ow env' ad a → Ow env1 ad a) ∧
        H L = some (.lst us) ∧ RpL C.K H (Mo ((C.w M0).add L) env' ad) acc us ∧ acc.length ≤ i ∧
        (lcO io s0 vs gv mt me (ds.drop i) env').Wp (fun q => ∀ H', RE ((C.w M0).add L) ad H' σ (backE env1 q.2 vs) → Ext (Ow env1 ad) H1 H' → (∀ a, Ow (backE env1 q.2 vs) ad a → Ow env1 ad a) →
          CellOk C.K H' (Mo ((C.w M0).add L) (backE env1 q.2 vs) ad) (.lst (acc ++ q.1)) L → Q (.ref L) H') (fun _ => True), ⟨ds.length, by simp, Nat.zero_le _, wipeE env1 vs, [], [], RA.wipe vs, .of_same sL, ow_wipe vs, upd_same, .nil, Nat.le_refl _, ?_⟩, ?_⟩
    · rw [List.drop_zero]
      cases q : lcO io s0 vs gv mt me ds (wipeE env1 vs) with
      | ok r =>
        rw [q] at w1
        intro H' R' x' mo' c'
        exact w1 L H' HL0 R' (by rw [← e1]; exact ⟨x', mo'⟩) c'
      | err c => exact True.intro
      | bad => rw [q] at w1; exact w1.elim
    · rintro i m H2 ⟨rfl, hil, env2, acc, us, R2, x2, ow2, hus, rac, hacc, w2⟩
      by_cases hlt : i < ds.length
      · have ed : ds[i]? = some ds[i] := List.getElem?_eq_getElem hlt
        have edr : ds.drop i = ds[i] :: ds.drop (i + 1) := List.drop_eq_getElem_cons hlt
        rw [edr] at w2
        unfold lcO at w2
        have z2 : env2[io]? = some s0 := by
          by_cases z : env2[io]? = some s0
          · exact z
          · rw [if_neg z] at w2; exact w2.elim
        rw [if_pos z2] at w2
        obtain ⟨us2, hu2, ru2⟩ := own R2 z2
        have hil2 : i < us2.length := by rw [ru2.len]; exact hlt
        have eu2 : us2[i]? = some us2[i] := List.getElem?_eq_getElem hil2
        have hgo : (Itl C.K (ad io)).go i H2 := ⟨us2, us2[i], .of hu2, eu2⟩
        have hy : ∀ x H', (Itl C.K (ad io)).yld i H2 x H' → Same H2 H' ∧ Rp C.K H' (Mo ((C.w M0).add L) env2 ad) ds[i] x := fun x H' y => by
          obtain ⟨e1, y⟩ := y
          subst e1
          have e2 := y us2 (.of hu2)
          rw [eu2] at e2
          cases e2
          exact ⟨.refl _, ru2.item i _ _ ed eu2⟩
        refine .inr ⟨hgo, fun H' => ∃ (env' : Sls) (acc : List D) (us : List V), RE ((C.w M0).add L) ad H' (L2.wipe σ vs) env' ∧ Ext (Ow env1 ad) H1 H' ∧ (∀ a, Ow env' ad a → Ow env1 ad a) ∧
          H' L = some (.lst us) ∧ RpL C.K H' (Mo ((C.w M0).add L) env' ad) acc us ∧ acc.length ≤ i + 1 ∧
          (lcO io s0 vs gv mt me (ds.drop (i + 1)) env').Wp (fun q => ∀ H', RE ((C.w M0).add L) ad H' σ (backE env1 q.2 vs) → Ext (Ow env1 ad) H1 H' → (∀ a, Ow (backE env1 q.2 vs) ad a → Ow env1 ad a) →
            CellOk C.K H' (Mo ((C.w M0).add L) (backE env1 q.2 vs) ad) (.lst (acc ++ q.1)) L → Q (.ref L) H') (fun _ => True), fun H' h' => ⟨ds.length - (i + 1), by omega, rfl, hlt, h'⟩, fun x H3 y => ?_⟩
        obtain ⟨s3, rx⟩ := hy x H3 y
        have R3 : RE ((C.w M0).add L) ad H3 (L2.wipe σ vs) env2 := R2.grow s3
        rw [wp_bind] at w2
        refine hg _ ad (L2.wipe σ vs) H3 env2 ds[i] x _ R3 rx ((noE_wp (E' := fun _ => False) w2).imp (fun env3 w3 σ3 R3' ow3 l3 o3 => ?_) fun _ z => z)
        have ew : L2.wipe σ3 vs = L2.wipe σ vs := by
          rw [st_wipe_eq l3 o3]
          exact st_wipe_eq (wipe_length _ _) fun j hj => wipe_out hj
        refine ⟨ew, ?_⟩
        rw [wp_bind] at w3
        refine ht _ ad σ3 H3 env3 _ R3' ((noE_wp (E' := Er ((C.w M0).add L) ad σ3 W0) w3).imp (fun b w4 H4 R4 S4 => ?_) fun _ z => z)
        have x4 : Ext (Ow env1 ad) H2 H4 := (Ext.of_same s3).trans (S4.ext.mono fun a z => ow2 a (ow3 a z))
        have ow4 : ∀ a, Ow b.2 ad a → Ow env1 ad a := fun a z => ow2 a (ow3 a (S4.ow a z))
        have lowM : ∀ {e1 e2 : Sls}, (∀ a, Ow e2 ad a → Ow e1 ad a) → ∀ a, Mo ((C.w M0).add L) e2 ad a → Mo ((C.w M0).add L) e1 ad a := fun h a z => z.imp id (h a)
        split
        · rename_i hb
          rw [if_pos hb, wp_bind] at w4
          refine he _ ad σ3 H4 b.2 _ R4 ((noE_wp (E' := Er ((C.w M0).add L) ad σ3 W0) w4).imp (fun r w5 v H5 R5 S5 V5 => ?_) fun _ z => z)
          rw [wp_bind] at w5
          obtain ⟨_, w6, rv⟩ := kp_rp V5 w5
          have x5 : Ext (Ow env1 ad) H2 H5 := x4.trans (S5.ext.mono ow4)
          have ow5 : ∀ a, Ow r.2 ad a → Ow env1 ad a := fun a z => ow4 a (S5.ow a z)
          have hL5 : H5 L = some (.lst us) := x5.stay L _ hus LnO fun _ z => nomatch z
          obtain ⟨R6, x6⟩ := R5.other (us' := us ++ [v]) (.inr rfl) (fun z => LnO (ow5 L z)) h0L hL5
          have rac5 : RpL C.K H5 (Mo ((C.w M0).add L) r.2 ad) acc us := rac.ext ((Ext.of_same s3).trans ((S4.ext.trans (S5.ext.mono S4.ow)).mono fun a z => .inr (ow3 a z))) fun a z => .inl (z.imp id fun z => ow3 a (S4.ow a (S5.ow a z)))
          refine ⟨us, hL5, by rw [rac5.len]; omega, wipeE r.2 vs, acc ++ [r.1], us ++ [v], by rw [← ew]; exact R6.wipe vs, ?_, fun a z => ow5 a (ow_wipe vs a z), upd_same, ?_, by rw [List.length_append]; exact Nat.succ_le_succ hacc, ?_⟩
          · refine ⟨fun b o e n nt => ?_, fun b xs e => ?_, fun b o u e => ?_, fun b e => ?_⟩
            · rw [upd_ne fun q => by rw [q, hL] at e; cases e]
              exact x5.stay b o (x2.stay b o e n nt) n nt
            · rw [upd_ne fun q => by rw [q, hL] at e; cases e]
              exact x5.tups b xs (x2.tups b xs e)
            · rw [upd_ne fun q => by rw [q, hL] at e; cases e]
              exact x5.frzs b o u (x2.frzs b o u e)
            · rw [upd_ne fun q => by rw [q] at e; exact e hL]
              exact x5.trk b (x2.trk b e)
          · refine ((rac5.append (.one rv)).ext (x6.mono fun b e => ?_) fun a z => .inl (lowM (fun a z => ow_wipe vs a z) a z))
            rw [e]
            exact .inl (.inr rfl)
          · cases q : lcO io s0 vs gv mt me (ds.drop (i + 1)) (wipeE r.2 vs) with
            | ok z =>
              rw [q] at w6
              intro H' R' x' m' c'
              exact w6 H' R' x' m' (by rw [List.append_assoc] at c'; exact c')
            | err c => exact True.intro
            | bad => rw [q] at w6; exact w6.elim
        · rename_i hb
          rw [if_neg hb] at w4
          have hL4 : H4 L = some (.lst us) := x4.stay L _ hus LnO fun _ z => nomatch z
          refine ⟨wipeE b.2 vs, acc, us, by rw [← ew]; exact R4.wipe vs, x2.trans x4, fun a z => ow4 a (ow_wipe vs a z), hL4, ?_, Nat.le_succ_of_le hacc, w4⟩
          exact rac.ext ((Ext.of_same s3).trans (S4.ext.mono fun a z => .inr (ow3 a z))) fun a z => .inl (z.imp id fun z => ow3 a (S4.ow a (ow_wipe vs a z)))
      · have ei : i = ds.length := by omega
        subst ei
        rw [List.drop_length] at w2
        unfold lcO at w2
        have z2 : env2[io]? = some s0 := by
          by_cases z : env2[io]? = some s0
          · exact z
          · rw [if_neg z] at w2; exact w2.elim
        rw [if_pos z2] at w2
        obtain ⟨us2, hu2, ru2⟩ := own R2 z2
        refine .inl ⟨⟨us2, .of hu2, by rw [ru2.len]; exact Nat.le_refl _⟩, ?_⟩
        have xb : Ext (Mo ((C.w M0).add L) env1 ad) (upd H1 L (.lst [])) H2 := by
          refine ⟨fun b o e n nt => ?_, fun b xs e => ?_, fun b o u e => ?_, fun b e => ?_⟩
          · rw [upd_ne fun q => n (.inl (.inr q))] at e
            exact x2.stay b o e (fun z => n (.inr z)) nt
          · by_cases q : b = L
            · rw [q, upd_same] at e; cases e
            · rw [upd_ne q] at e; exact x2.tups b xs e
          · by_cases q : b = L
            · rw [q, upd_same] at e; cases e
            · rw [upd_ne q] at e; exact x2.frzs b o u e
          · by_cases q : b = L
            · rw [q, hus]; exact fun z => nomatch z
            · rw [upd_ne q] at e; exact x2.trk b e
        obtain ⟨RB, mb⟩ := RE.back RA xb R2 ow2 hw
        rw [backS_wipe] at RB
        refine w2 H2 RB x2 (fun a z => ow2 a (mb a z)) ⟨?_, us, hus, ?_⟩
        · rw [List.append_nil]; exact Nat.le_trans hacc Hz
        · rw [List.append_nil]
          exact rac.less fun a z => z.imp id (mb a)
  · exact w1.elim
  | _ => exact w.elim
theorem ef_lcO (io : Nat) {y : Str} {py : Pos} {ifs : List Expr} {scope : Scope} {own : List (Str × Nat)} {gt : TG} {tt : TT} {gv : Gv} {mt : Ev1} (g : Gd X C W k) (ok : BlkOk X.N X.env.scope scope own)
    (hg : ∀ (s : Shared) (H : Hp) (L : Addr) (cl : List (Str × Addr)) (fp : List Addr), Gd (X.blk s H scope (compEnvC scope cl L X.env) fp) C W0 k → GM (X.blk s H scope (compEnvC scope cl L X.env) fp) C tg gt (own.map (·.2)) gv)
    (ht : ∀ (s : Shared) (H : Hp) (L : Addr) (cl : List (Str × Addr)) (fp : List Addr), Gd (X.blk s H scope (compEnvC scope cl L X.env) fp) C W0 k → TMs (X.blk s H scope (compEnvC scope cl L X.env) fp) C W0 ifs tt mt)
    (he : ∀ (s : Shared) (H : Hp) (L : Addr) (cl : List (Str × Addr)) (fp : List Addr), Gd (X.blk s H scope (compEnvC scope cl L X.env) fp) C W0 k → EM (X.blk s H scope (compEnvC scope cl L X.env) fp) C W0 elt te me)
    (hio : io ∉ own.map (·.2) := by decide) (hN : X.N[io]? = some y := by rfl) (hv : Vis X.env.scope y := by first | exact Or.inl rfl | exact Or.inr (Or.inl rfl) | exact Or.inr (Or.inr rfl)) (hd : (y == ("__debug__" : Str)) = false := by decide) (hcd : (y == ("__classdict__" : Str)) = false := by decide)
    (hs : ∀ x, foldedSetIterable (.Name y py) X.env x = pure x := by intro _; rfl) :
    EF X C W (.ListComp elt [⟨tg, .Name y py, ifs, 0⟩] scope pos) (tLc (iList C.K (tVar io)) gt tt te (own.map (·.2))) (mLcO io (own.map (·.2)) gv mt me) :=
  ⟨g.kE ▸ pe_lc g.calm g.nd (pi_list (pe_var hN hv hd hcd)) ok (fun s H L cl fp => (hg s H L cl fp g.blk).pe) (fun s H L cl fp => (ht s H L cl fp g.blk).pe) (fun s H L cl fp => (he s H L cl fp g.blk).pe) hs,
    fun M0 ad σ H env Q R w => lcO_sn hio (hg X.s_0 X.H_0 0 [] [] g.blk).sn (ht X.s_0 X.H_0 0 [] [] g.blk).sn (he X.s_0 X.H_0 0 [] [] g.blk).sn R w⟩
theorem sm_lcAO (io : Nat) {fresh : Bool} {i : Nat} {y z : Str} {py pz spos : Pos} {ifs : List Expr} {scope : Scope} {own : List (Str × Nat)} {gt : TG} {tt : TT} {gv : Gv} {mt : Ev1} (g : Gd X C W k) (ok : BlkOk X.N X.env.scope scope own)
    (hg : ∀ (s : Shared) (H : Hp) (L : Addr) (cl : List (Str × Addr)) (fp : List Addr), Gd (X.blk s H scope (compEnvC scope cl L X.env) fp) C W0 k → GM (X.blk s H scope (compEnvC scope cl L X.env) fp) C tg gt (own.map (·.2)) gv)
    (ht : ∀ (s : Shared) (H : Hp) (L : Addr) (cl : List (Str × Addr)) (fp : List Addr), Gd (X.blk s H scope (compEnvC scope cl L X.env) fp) C W0 k → TMs (X.blk s H scope (compEnvC scope cl L X.env) fp) C W0 ifs tt mt)
    (he : ∀ (s : Shared) (H : Hp) (L : Addr) (cl : List (Str × Addr)) (fp : List Addr), Gd (X.blk s H scope (compEnvC scope cl L X.env) fp) C W0 k → EM (X.blk s H scope (compEnvC scope cl L X.env) fp) C W0 elt te me)
    (hio : io ∉ own.map (·.2) := by decide) (hN : X.N[io]? = some z := by rfl) (hv : Vis X.env.scope z := by first | exact Or.inl rfl | exact Or.inr (Or.inl rfl) | exact Or.inr (Or.inr rfl)) (hd : (z == ("__debug__" : Str)) = false := by decide) (hcd : (z == ("__classdict__" : Str)) = false := by decide)
    (hy : X.N[i]? = some y := by rfl) (hyl : X.env.scope.names.lookup y = some .local := by rfl) (hsw : swapsWith (.ListComp elt [⟨tg, .Name z pz, ifs, 0⟩] scope pos) (some (.Name y py)) spos.line X.env = pure true := by exact sw_true rfl rfl rfl (by decide +kernel)) (hs : ∀ x, foldedSetIterable (.Name z pz) X.env x = pure x := by intro _; rfl) :
    SM X C W (.Assign [.Name y py] (.ListComp elt [⟨tg, .Name z pz, ifs, 0⟩] scope pos) spos) (tAsg (tLc (iList C.K (tVar io)) gt tt te (own.map (·.2))) (gName i)) (match fresh with | true => mSetL i (mLcO io (own.map (·.2)) gv mt me) | false => mSet i (mLcO io (own.map (·.2)) gv mt me)) := by
  have hp : PS X (.Assign [.Name y py] (.ListComp elt [⟨tg, .Name z pz, ifs, 0⟩] scope pos) spos) (tAsg (tLc (iList C.K (tVar io)) gt tt te (own.map (·.2))) (gName i)) := g.kE ▸ ps_setLc g.calm g.nd hy hyl hsw (pi_list (pe_var hN hv hd hcd)) ok (fun s H L cl fp => (hg s H L cl fp g.blk).pe) (fun s H L cl fp => (ht s H L cl fp g.blk).pe) (fun s H L cl fp => (he s H L cl fp g.blk).pe) hs
  have he2 := ef_lcO (pos := pos) (py := pz) io g ok hg ht he hio hN hv hd hcd hs
  cases fresh with
  | true => exact sm_lcL hp he2
  | false => exact sm_lc hp (em_of_ef he2)
end
/-! ### plainly -/
@[simp] theorem z_mLcO (io : Nat) (vs : List Nat) (g : Gv) (tt : Ev1) (me : Ev) (env : Sls) : mLcO io vs g tt me env = (match env[io]? with
  | some s => (match s.con with
    | some (.lst ds) => if okWipe env vs = true then do
        let q ← lcO io s vs g tt me ds (wipeE env vs)
        pure (.lst q.1, backE env q.2 vs)
      else .bad
    | _ => .bad)
  | none => .bad) := rfl
theorem lf1O {io i : Nat} {s : Sl} {t : Ev1} {m : Ev} {env : Sls} {α : Type} (c : α → D) (p : α → Bool) (f : α → D) (xs : List α) (ht : ∀ x ∈ xs, t (env.set i (.t (c x))) = .ok (p x, env.set i (.t (c x)))) (h : ∀ x ∈ xs, p x = true → m (env.set i (.t (c x))) = .ok (f x, env.set i (.t (c x))) ∧ kp (f x) = .ok (f x)) (hp : notPar env i = true := by simp) (hu : env[i]? = some .u := by rfl) (hs : env[io]? = some s := by rfl) :
    lcO io s [i] (gmN i) t m (xs.map c) env = .ok ((xs.filter p).map f, env) := by
  induction xs with
  | nil => simp only [List.map_nil, lcO, if_pos hs, List.filter_nil]
  | cons x xs ih =>
    have h2 := ih (fun y hy => ht y (.tail _ hy)) fun y hy => h y (.tail _ hy)
    have h3 : wipeE (env.set i (.t (c x))) [i] = env := by
      show (env.set i (.t (c x))).set i .u = env
      exact set_u hu
    cases q : p x with
    | true =>
      have h1 := h x (.head _) q
      simp only [List.map_cons, lcO, if_pos hs, gm1 hp, noE_ok, y1, ht x (.head _), q, if_true, h1.1, h1.2, h3, h2, y4, List.filter_cons]
    | false => simp only [List.map_cons, lcO, if_pos hs, gm1 hp, noE_ok, y1, ht x (.head _), q, Bool.false_eq_true, if_false, h3, h2, y4, List.filter_cons]
theorem lc1O {io i : Nat} {s : Sl} {m : Ev} {env : Sls} {α : Type} (c : α → D) (f : α → D) (xs : List α) (h : ∀ x ∈ xs, m (env.set i (.t (c x))) = .ok (f x, env.set i (.t (c x))) ∧ kp (f x) = .ok (f x)) (hp : notPar env i = true := by simp) (hu : env[i]? = some .u := by rfl) (hs : env[io]? = some s := by rfl) :
    lcO io s [i] (gmN i) mYes m (xs.map c) env = .ok (xs.map f, env) := by
  have := lf1O (t := mYes) (m := m) (io := io) (i := i) (s := s) (env := env) c (fun _ => true) f xs (fun x _ => z_mYes _) (fun x hx _ => h x hx) hp hu hs
  rwa [List.filter_eq_self.mpr fun _ _ => rfl] at this
end Vm
end
section
/-! Vm, part ZH: statement by statement. -/
namespace Vm
open PySem L2
/-- it hands back d -/
def Ends (m : Sv) (env : Sls) (d : D) : Prop := ∃ e', m env = .ok (.ret d, e')
theorem ends_sq {m1 m2 : Sv} {env e2 : Sls} {d : D} (h : m1 env = .ok (.next, e2)) (h2 : Ends m2 e2 d) : Ends (mSq m1 m2) env d := by
  obtain ⟨e', q⟩ := h2
  exact ⟨e', by rw [z_mSq, h]; simpa using q⟩
theorem ends_now {m1 m2 : Sv} {env e2 : Sls} {d : D} (h : m1 env = .ok (.ret d, e2)) : Ends (mSq m1 m2) env d := ⟨e2, by rw [z_mSq, h]; rfl⟩
theorem ends_is {m : Sv} {env e2 : Sls} {d : D} (h : m env = .ok (.ret d, e2)) : Ends m env d := ⟨e2, h⟩
theorem run_ends {n : Nat} {m : Sv} {ds : List D} {d : D} (h : Ends m (envOf n ds) d) : run n m ds = .ok d := by
  obtain ⟨e', q⟩ := h
  rw [z_run, q]
end Vm
end
section
set_option maxRecDepth 100000
set_option maxHeartbeats 4000000
/-! Vm, part ZI: len(set(xs)) of a list of ints. -/
namespace Vm
open PySem PySem.Spec PyProof.Rows L2
def tLenSet (K : PySem.W.Frag) (ta : TE) : TE := fun σ H Q => ta σ H fun x H1 => ∃ (l : Addr) (ns : List Int), x = .ref l ∧ SqL K H1 l (ns.map V.int) ∧ ns.length ≤ 4000 ∧ Q (.int ((ded ns).length : Nat)) H1
theorem perm_of {xs ys : List Int} (hx : xs.Nodup) (hy : ys.Nodup) (h : ∀ j, j ∈ xs ↔ j ∈ ys) : xs.length = ys.length := by
  refine Nat.le_antisymm ?_ ?_
  · exact (List.subset_of_nodup hx fun j hj => (h j).mp hj)
  · exact (List.subset_of_nodup hy fun j hj => (h j).mpr hj)
where List.subset_of_nodup : ∀ {xs ys : List Int}, xs.Nodup → (∀ j ∈ xs, j ∈ ys) → xs.length ≤ ys.length
  | [], ys, _, _ => Nat.zero_le _
  | x :: xs, ys, hn, hs => by
    have hn' := List.nodup_cons.mp hn
    have hx := hs x (.head _)
    have h1 : xs.length ≤ (ys.erase x).length := List.subset_of_nodup hn'.2 fun j hj => by
      have hj2 := hs j (.tail _ hj)
      have ne : j ≠ x := fun e => hn'.1 (e ▸ hj)
      exact (List.mem_erase_of_ne ne).mpr hj2
    rw [List.length_erase_of_mem hx] at h1
    have h2 : 0 < ys.length := List.length_pos_of_mem hx
    simp only [List.length_cons]
    omega
theorem pe_lenSet {X : Cx} {a : Expr} {ta : TE} {p p2 q pos : Pos} (hg : Gl X "len") (hm : X.mg "len" = none) (hg2 : Gl X "set") (hm2 : X.mg "set" = none) (hv : bootBuiltins "len" = some (.builtin "len")) (hv2 : bootBuiltins "set" = some (.type "set")) (ha : PE X a ta) (hc : X.calm = true)
    (st : starEach [a] X.env = (false, eval a X.env) :: starEach [] X.env := by rfl) : PE X (.Call (.Name "len" p) [.Call (.Name "set" p2) [a] [] q] [] pos) (tLenSet X.K ta) := by
  refine ⟨fun pins s σ H Q I h => ?_⟩
  refine Call_ (ld_blt I hg hm hv ?_)
  refine callWith_builtin1 (args_cons ?_ rfl) rfl rfl
  refine Call_ (ld_blt I hg2 hm2 hv2 ?_)
  refine callWith_type1 (args_cons (thn (ha.run pins s σ H _ I h) fun v s1 ⟨x, H1, I1, r1, q1⟩ => args_nil ?_) st) st rfl
  obtain ⟨l, ks, rfl, hq, few, q1⟩ := q1
  cases r1
  obtain ⟨its, rv, pl, hz⟩ := I1.list hq
  have ii : IntsAre its.toArray.toList ks := ints_of_vals rv
  refine set_of_list ks (I1.ok.hd hc) pl.isList ii (by unfold scanBound; omega) fun g tk n R hn up => ?_
  refine args_nil ?_
  obtain ⟨o, es, ep, t, ho, hex, hd, _, hnd, hmem, _, hf, he, _⟩ := R
  have hl : es.size = (ded ks).length := by
    have h1 := perm_of hnd (ded_nodup ks) fun j => by rw [← hmem j, decide_eq_true_eq, ded_mem]
    simpa using h1
  have I2 : Inv X pins σ H1 { s1 with heap := g, toks := tk } := I1.kept fun b o e => up b o e
  refine call_len_set ho hex hd hf (by omega) ⟨.int ((ded ks).length : Nat), H1, I2.tok _, ⟨_, by rw [hl]⟩, q1⟩
def lenSetD (x : D) : Res D := match x with
  | .lst ds => (match intsD ds with
    | some ns => if ns.length ≤ 4000 then .ok (.int ((ded ns).length : Nat)) else .bad
    | none => .bad)
  | _ => .bad
section
variable {X : Cx} {C : Cfg} {W : WX} {k : Nat} {a : Expr} {ta : TE} {ma : Ev}
theorem em_lenSet {p p2 q pos : Pos} (g : Gd X C W k) (hg : Gl X "len") (hm : X.mg "len" = none) (hv : bootBuiltins "len" = some (.builtin "len")) (hg2 : Gl X "set") (hm2 : X.mg "set" = none) (hv2 : bootBuiltins "set" = some (.type "set")) (ha : EM X C W a ta ma)
    (st : starEach [a] X.env = (false, eval a X.env) :: starEach [] X.env := by rfl) : EM X C W (.Call (.Name "len" p) [.Call (.Name "set" p2) [a] [] q] [] pos) (tLenSet C.K ta) (mUn1 lenSetD ma) := by
  refine ⟨g.kE ▸ pe_lenSet hg hm hg2 hm2 hv hv2 ha.pe g.calm st, fun M0 ad σ H env Q R w => ?_⟩
  unfold mUn1 at w
  refine ha.sn' R w fun r v H1 R1 S1 V1 w1 => ?_
  rw [wp_bind] at w1
  obtain ⟨z, _, w2, rz⟩ := R1.rs V1 w1
  cases z with
  | lst ds =>
    simp only [lenSetD] at w2
    cases qi : intsD ds with
    | none => rw [qi] at w2; exact w2.elim
    | some ns =>
      rw [qi] at w2
      simp only at w2
      by_cases hz : ns.length ≤ 4000
      · rw [if_pos hz] at w2
        obtain ⟨l, us, rfl, hl, _, ru⟩ := rz.lst_inv
        have ed : ds = ns.map D.int := ints_eq qi
        subst ed
        rw [ru.ints] at hl
        exact ⟨l, ns, rfl, .of hl, hz, w2 _ H1 R1 S1 (.of (.int _))⟩
      · rw [if_neg hz] at w2; exact w2.elim
  | _ => exact w2.elim
end
@[simp] theorem lenSet_ints (ns : List Int) (h : ns.length ≤ 4000) : lenSetD (.lst (ns.map D.int)) = .ok (.int ((ded ns).length : Nat)) := by
  simp only [lenSetD, ints_map, if_pos h]
end Vm
end
section
set_option maxRecDepth 100000
set_option maxHeartbeats 4000000
/-! Vm, part ZJ: d.get(k, z). -/
namespace Vm
open PySem PySem.Spec PyProof.Rows L2
def mGet2 (mo me mf : Ev) : Ev := fun env => do
  let r1 ← mo env
  let x1 ← rs r1.2 r1.1
  match x1 with
  | .dic _ => do
    let r2 ← me r1.2
    let r3 ← mf r2.2
    let x ← rs r3.2 r1.1
    let y ← rs r3.2 r2.1
    match x with
    | .dic ds => (match dkey y with
      | some k => pure ((valD ds k).getD r3.1, r3.2)
      | none => .bad)
    | _ => .bad
  | _ => .bad
section
variable {X : Cx} {C : Cfg} {W : WX} {k : Nat} {o e f : Expr} {td ty tx : TE} {mo me mf : Ev} {apos cpos : Pos}
theorem em_get2 (g : Gd X C W k) (ho : EM X C W o td mo) (he : EM X C W e ty me) (hf : EM X C W f tx mf) (m : M2 X o "get" apos e f cpos) :
    EM X C W (.Call (.Attribute o "get" apos) [e, f] [] cpos) (tDGet2 td ty tx) (mGet2 mo me mf) := by
  refine ⟨pe_dget2 (hu_of g.room) ho.pe he.pe hf.pe m, fun M0 ad σ H env Q R w => ?_⟩
  unfold mGet2 at w
  refine ho.sn' R w fun r1 v1 H1 R1 S1 V1 w1 => ?_
  rw [wp_bind] at w1
  obtain ⟨x1, _, w2, rx1⟩ := R1.rs V1 w1
  cases x1 with
  | dic ds1 =>
    simp only at w2
    obtain ⟨a, us, rfl, hu1, _, _⟩ := rx1.dic_inv
    refine ⟨a, rfl, .inl ⟨us, hu1⟩, ?_⟩
    refine he.sn' R1 w2 fun r2 v2 H2 R2 S2 V2 w3 => ?_
    refine hf.sn' R2 w3 fun r3 v3 H3 R3 S3 V3 w4 => ?_
    rw [wp_bind] at w4
    obtain ⟨x, _, w5, rx⟩ := R3.rs ((V1.stp S2).stp S3) w4
    rw [wp_bind] at w5
    obtain ⟨y, _, w6, ry⟩ := R3.rs (V2.stp S3) w5
    cases x with
    | dic ds =>
      simp only at w6
      cases hk : dkey y with
      | none => rw [hk] at w6; exact w6.elim
      | some kk =>
        rw [hk] at w6
        simp only at w6
        obtain ⟨a', us', e', hu', _, q⟩ := rx.dic_inv
        cases e'
        have ey := dkey_v hk ry
        obtain ⟨q1, q2⟩ := RpK.val q (k := kk)
        refine ⟨valV us' kk, .inl ⟨us', kk, hu', ey, rfl⟩, ?_⟩
        cases hv : valD ds kk with
        | none =>
          rw [hv] at w6
          rw [q2 hv]
          exact w6 v3 H3 R3 ((S1.trans S2).trans S3) V3
        | some d =>
          rw [hv] at w6
          obtain ⟨v, e1, rv⟩ := q1 d hv
          rw [e1]
          exact w6 v H3 R3 ((S1.trans S2).trans S3) (.of rv)
    | _ => exact w6.elim
  | _ => exact w2.elim
end
@[simp] theorem z_mGet2 (mo me mf : Ev) (env : Sls) : mGet2 mo me mf env = (do
  let r1 ← mo env
  let x1 ← rs r1.2 r1.1
  match x1 with
  | .dic _ => do
    let r2 ← me r1.2
    let r3 ← mf r2.2
    let x ← rs r3.2 r1.1
    let y ← rs r3.2 r2.1
    match x with
    | .dic ds => (match dkey y with
      | some k => pure ((valD ds k).getD r3.1, r3.2)
      | none => .bad)
    | _ => .bad
  | _ => .bad) := rfl
end Vm
end
section
set_option maxRecDepth 100000
set_option maxHeartbeats 4000000
/-! Vm, part ZK: try: f(..) / except A: x = '..' / .. -/
namespace Vm
open PySem PySem.Spec PyProof.Rows L2
def FactL (K : PySem.W.Frag) (mg : Str → Option Value) (cv : Value) : List (Str × Bool) → Prop
  | [] => True
  | (c, b) :: r => (∀ u, mg c = some u → PySem.W.exmOne K u cv = some b) ∧ FactL K mg cv r
theorem fact1 {K : PySem.W.Frag} {mg : Str → Option Value} {c : Str} {v cv : Value} {b : Bool} (h : mg c = some v) (e : PySem.W.exmOne K v cv = some b) : ∀ u, mg c = some u → PySem.W.exmOne K u cv = some b := fun u q => by
  rw [h] at q
  cases q
  exact e
/-- a class that a clause names, and which errors it takes -/
structure HdF (K : PySem.W.Frag) (mg : Str → Option Value) (x : Str) (ps : List (Str × Bool)) : Prop where
  ex : ∃ cv, mg x = some cv ∧ FactL K mg cv ps
def lookB : List (Str × Bool) → Str → Option Bool
  | [], _ => none
  | (c, b) :: r, d => if c = d then some b else lookB r d
theorem lookB_fact {K : PySem.W.Frag} {mg : Str → Option Value} {cv : Value} {c : Str} {b : Bool} : ∀ {ps : List (Str × Bool)}, FactL K mg cv ps → lookB ps c = some b → ∀ u, mg c = some u → PySem.W.exmOne K u cv = some b
  | [], _, h => by cases h
  | (d, b') :: r, f, h => by
    unfold lookB at h
    split at h
    · rename_i e
      subst e
      cases h
      exact f.1
    · exact lookB_fact f.2 h
abbrev Sel := List (List (Str × Bool) × Nat × Str)
inductive HdM (X : Cx) : List ExceptHandler → List (Value × (Addr → Value → Option Addr → TS)) → Sel → Prop
  | nil : HdM X [] [] []
  | cons {x y s : Str} {cv : Value} {i j : Nat} {np pos' p1 p2 p3 : Pos} {ps : List (Str × Bool)} {hds : List ExceptHandler} {l : List (Value × (Addr → Value → Option Addr → TS))} {sel : Sel}
      (hc : Names X x cv) (facts : FactL X.K X.mg cv ps) (hN : X.N.Nodup) (hi : X.N[i]? = some y) (hx : Loc X.env.scope y) (hs : swapsWith (.Constant (.str s) j p2) (some (.Name y p1)) p3.line X.env = pure false)
      (hf : X.fn y = true ∨ X.env.scope.names.lookup y = some .local) (r : HdM X hds l sel) :
      HdM X (.ExceptHandler (some (.Name x np)) none [.Assign [.Name y p1] (.Constant (.str s) j p2) p3] pos' :: hds) ((cv, fun _ _ _ => tAsg (tC (.str s)) (gName i)) :: l) ((ps, i, s) :: sel)
theorem HdM.ok {X : Cx} {hds : List ExceptHandler} {l : List (Value × (Addr → Value → Option Addr → TS))} {sel : Sel} (h : HdM X hds l sel) : HdsOk X hds l := by
  induction h with
  | nil => exact .nil
  | cons hc facts hN hi hx hs hf r ih => exact .cons hc (fun a oe cls d pn _ _ => pss_one (ps_set (X := X.suite a _) hN hi hx pe_str hs hf)) ih
theorem hdm_cons (i : Nat) {X : Cx} {x y s : Str} {j : Nat} {np pos' p1 p2 p3 : Pos} {ps : List (Str × Bool)} {hds : List ExceptHandler} {l : List (Value × (Addr → Value → Option Addr → TS))} {sel : Sel}
    (nd : X.N.Nodup) (F : HdF X.K X.mg x ps) (r : HdM X hds l sel) (hg : Gl X x := by rfl) (hdb : (x == ("__debug__" : Str)) = false := by decide) (hi : X.N[i]? = some y := by rfl)
    (hx : Loc X.env.scope y := by first | exact .inl rfl | exact .inr rfl) (hs : swapsWith (.Constant (.str s) j p2) (some (.Name y p1)) p3.line X.env = pure false := by rfl) (hf : X.fn y = true ∨ X.env.scope.names.lookup y = some .local := by exact .inl rfl) :
    HdM X (.ExceptHandler (some (.Name x np)) none [.Assign [.Name y p1] (.Constant (.str s) j p2) p3] pos' :: hds) ((Classical.choose F.ex, fun _ _ _ => tAsg (tC (.str s)) (gName i)) :: l) ((ps, i, s) :: sel) :=
  .cons ⟨hg, hdb, .inl (Classical.choose_spec F.ex).1⟩ (Classical.choose_spec F.ex).2 nd hi hx hs hf r
def mHd : Sel → Str → Sv
  | [], _ => fun _ => .bad
  | (ps, i, s) :: r, c => match lookB ps c with
    | some true => mSet i (mK (.str s))
    | some false => mHd r c
    | none => fun _ => .bad
def mTryC (n : Nat) (fm : List D → Res D) (ms : Evs) (sel : Sel) : Sv := fun env => do
  let r ← noE (ms env)
  if r.1.length = n then
    if allKp r.1 = true then
      match fm r.1 with
      | .ok _ => pure (.next, r.2)
      | .err c => mHd sel c r.2
      | .bad => .bad
    else .bad
  else .bad
section
variable {X : Cx} {C : Cfg} {W : WX} {k j n : Nat} {e : Expr} {es : List Expr} {t : TA} {ms : Evs} {x : Str} {p p1 pos pos2 : Pos} {h₀ : ExceptHandler} {hds : List ExceptHandler} {l : List (Value × (Addr → Value → Option Addr → TS))} {sel : Sel}
theorem hd_sn {Dn : L2.Ends} {ad : Nat → Addr} {H H' : Hp} {σ : L2.St} {env env' : Sls} {c : Str} {cls : Value} {dd : Option Addr} (kE : X.K = C.K) (h : HdM X hds l sel) (w : (mHd sel c env').Wp (Fin C Dn ad H env) (ErS C W)) (R : RE C ad H' σ env') (Kp : Keep C ad H env ad H' env') (hm : X.mg c = some cls) : wMany X.K W Dn l cls dd σ H' := by
  induction h with
  | nil => exact w.elim
  | cons hc facts hN hi hx hs hf r ih =>
    rename_i x y s cv i j np pos' p1 p2 p3 ps hds l sel
    unfold mHd at w
    cases q : lookB ps c with
    | none => rw [q] at w; exact w.elim
    | some b =>
      rw [q] at w
      refine ⟨b, lookB_fact facts q _ hm, fun hb a hn => ?_, fun hb => ?_⟩
      · subst hb
        exact set_sn (em_str (X := X) (C := C) (W := W) (i := s) (j := j) (pos := p2)).sn R (w.imp (fun r z => z.mid Kp) fun _ z => z)
      · subst hb
        exact ih w
theorem sm_tryC {fm : List D → Res D} (g : Gd X C W k) (F : Fn X.prog X.w X.K X.mg X.base j x (spP C.K C.T C.mg n fm))
    (ha : ∀ (W' : WX) (pn : List (Addr × Obj)) (xe : Value → Shared → Prop), Gd (X.tr pn xe) C W' k → AM (X.tr pn xe) C W' (e :: es) t ms) (hh : HdM X (h₀ :: hds) l sel)
    (hst : X.stack = X.env :: X.outer := by rfl) (hfr : X.env.frame = some X.env.locals := by rfl)
    (hj : j ≤ k := by decide) (hg : Gl X x := by rfl)
    (hdb : (x == ("__debug__" : Str)) = false := by decide) (he : starEach (e :: es) X.env = (false, eval e X.env) :: starEach es X.env := by rfl) (hpl : (backTo p (starEach es X.env)).any (·.1) = false := by rfl)
    (hsw : swapsWith (.Call (.Name x p1) (e :: es) [] p) none pos2.line X.env = pure false := by rfl) :
    SM X C W (.Try [.Expr (.Call (.Name x p1) (e :: es) [] p) pos2] (h₀ :: hds) [] [] pos) (fun D σ H => tDrop (tCallS (spP C.K C.T C.mg n fm) (WE (wMany X.K W D l)) t) D σ H) (mTryC n fm ms sel) := by
  obtain ⟨f, fd, ps, F, hm, hk, hb⟩ := (F.mono hj).ex
  refine ⟨ps_try_many hst hfr g.tk (tb := fun W' => tDrop (tCallS (spP C.K C.T C.mg n fm) (WE W') t)) (fun W' pn xe tk po => pss_one (ps_expr (pe_callS (X := X.tr pn xe) F g.room hg hm hk hb (fun σ => passAt tk σ) (ha W' pn xe ⟨g.kE, g.mE, g.calm, tk, g.room, g.nd⟩).pe hdb he hpl) hsw)) hh.ok, fun ad σ H env Dn R w => ?_⟩
  show t σ H _
  refine (ha (wMany X.K W Dn l) [] (fun _ _ => True) ⟨g.kE, g.mE, g.calm, fun _ _ _ => True.intro, g.room, g.nd⟩).sn C.M0 ad σ H env _ R ?_
  unfold mTryC at w
  cases q : ms env with
  | err c => rw [q] at w; exact w.elim
  | bad => rw [q] at w; exact w.elim
  | ok r =>
    rw [q] at w
    change Res.Wp (if r.1.length = n then _ else _) _ _ at w
    intro vs H1 R1 S1 V1
    split at w
    · rename_i hl
      split at w
      · rename_i hkp
        refine ⟨by rw [V1.len]; exact hl, R1.tabs, Mo C r.2 ad, r.1, fun a z => R1.mtrk z, allKp_rp V1 hkp, ?_⟩
        cases z : fm r.1 with
        | ok d =>
          rw [z] at w
          exact fun v H' e rp => w ad σ H' (R1.growS e) ((S1.trans (.growS e)).keep)
        | err c =>
          rw [z] at w
          exact fun cls dd H' hm e => hd_sn g.kE hh w (R1.growS e) ((S1.trans (.growS e)).keep) (by rw [g.mE]; exact hm)
        | bad => rw [z] at w; exact w.elim
      · exact w.elim
    · exact w.elim
end
end Vm
end
section
set_option maxRecDepth 100000
set_option maxHeartbeats 4000000
/-! Vm, part ZL: a tuple times an int. -/
namespace Vm
open PySem PySem.Spec PyProof.Rows L2
theorem tuple_mul1 (l : Addr) (items : Array Value) (n : Nat) (dd : Option Addr) (sl : Array (Option Value)) (u : Tok) :
    Meets (Builtin.«tuple.__mul__» ⟨[.ref l, .int 1 u], []⟩) (fun _ R s => s.heap.get? l = some { cls := .type "tuple", dict := dd, data := .seq items n, slots := sl } ∧
      R (.ok (.ret (Value.ref l))) { s with toks := s.toks }) :=
  .of_wp fun prog w A R s h => by
    obtain ⟨hp, g, d, tk, os⟩ := s
    obtain ⟨hl, h⟩ := h
    have f1 := AutoSeq1.idx_int
    have c1 : (items.isEmpty || (1 : Int) == 1) = true := by cases items.isEmpty <;> rfl
    wp_walk using wpAny_loadPart' hl
    repeat (first
      | (refine wpAny_ite_true (decide_eq_true c1) ?_; wp_walk using wpAny_loadPart' hl)
      | (refine wpAny_ite_false (decide_eq_false (by decide)) ?_; wp_walk using wpAny_loadPart' hl))
    all_goals first | exact ⟨_, rfl, h⟩ | skip
def rRep1 (K : PySem.W.Frag) : R2 := fun x y H Q => ∃ l xs, x = .ref l ∧ y = .int 1 ∧ SqT K H l xs ∧ Q x H
section
variable {X : Cx}
theorem op_rep1 : OpR X (binaryOp .Mult) (rRep1 X.K) := by
  intro pins s σ H x y v u Q I rx ry h
  obtain ⟨l, xs, rfl, rfl, hT, q⟩ := h
  cases rx
  obtain ⟨t, rfl⟩ := ry
  obtain ⟨its, r, ⟨⟨cls, dd, data, sl⟩, ho, hc, n, hd⟩, hs⟩ := I.tuple hT
  simp only at hc hd
  subst hc hd
  refine wpAny_binaryOp_repeat_ref (T := "tuple") (U := "int") (by decide) ⟨_, ho, rfl⟩ (fun s' => typeIs_int s' 1 t) noFill_tuple_mul F.fills_int_mul F.slot_int_rmul repeat_tuple F.slot_int_index.lookup
    (call_meets F.slot_int_rmul (typeIs_int s 1 t) F.entry_int_rmul (F.args_int_rmul_2 _ _) (int_rmul_tuple 1 t l its.toArray n dd sl)
      ⟨ho, rfl, ⟨_, ho, rfl⟩, call_meets F.slot_tuple_mul ⟨_, ho, rfl⟩ F.entry_tuple_mul (F.args_tuple_mul_2 _ _) (tuple_mul1 l its.toArray n dd sl t) ⟨ho, ?_⟩⟩)
  exact ⟨.ref l, H, I.tok _, rfl, q⟩
end
def repT (x y : D) : Res D := match x, y with
  | .tup ds, .int k => if k = 1 then .ok (.tup ds) else if ds ≠ [] ∧ 2 ≤ k ∧ k ≤ 1000 ∧ ds.length ≤ 1000 then .ok (.tup (List.replicate k.toNat ds).flatten) else .bad
  | _, _ => .bad
def rMulT (K : PySem.W.Frag) : R2 := fun x y H Q => rRep1 K x y H Q ∨ rRepT K x y H Q
theorem os_repT {K : PySem.W.Frag} : OpS K (rMulT K) repT := by
  intro H M x y dx dy Q tk rx ry w
  cases dx with
  | tup ds =>
    cases dy with
    | int k =>
      obtain ⟨p, vs, rfl, h1, z1, q1⟩ := rx.tup_inv
      rw [ry.int_inv]
      simp only [repT] at w
      split at w
      · rename_i h
        subst h
        exact .inl ⟨p, vs, rfl, rfl, h1, w _ _ (.refl _) (.tup' h1 z1 q1)⟩
      · split at w
        · rename_i hc
          refine .inr ⟨p, k, vs, rfl, rfl, h1, ?_, hc.2.1, hc.2.2.1, by rw [q1.len]; exact hc.2.2.2, fun o hn => w _ _ (same_new hn) (.tup' (.of upd_same) ?_ ((rp_rep q1 _).same (same_new hn)))⟩
          · intro e
            have := q1.len
            rw [e] at this
            exact hc.1 (List.length_eq_zero_iff.mp this.symm)
          · rw [rep_len, sizeLine_eq]
            have a1 : ds.length * k.toNat ≤ 1000 * 1000 := Nat.mul_le_mul hc.2.2.2 (by omega)
            omega
        · exact w.elim
    | _ => exact w.elim
  | _ => cases dy <;> exact w.elim
theorem oMulT {X : Cx} {C : Cfg} {W : WX} {k : Nat} (g : Gd X C W k) : OpR X (binaryOp .Mult) (rMulT C.K) := g.kE ▸ op_rep1.or op_repT
end Vm
end
section
set_option maxRecDepth 100000
set_option maxHeartbeats 4000000
/-! Vm, part ZM: dicts whose keys are tuples. -/
namespace Vm
open PySem PySem.Spec PyProof.Rows L2
def keysL : List D → Option (List Key)
  | [] => some []
  | d :: ds => match dkey d, keysL ds with
    | some k, some ks => some (k :: ks)
    | _, _ => none
def tkey (y : D) : Option (List Key) := match y with
  | .tup ds => keysL ds
  | _ => none
def keyD : Key → D
  | .inl i => .int i
  | .inr x => .str x
def tupK (k : List Key) : D := .tup (k.map keyD)
section
variable {K : PySem.W.Frag} {H : Hp} {M : Addr → Prop}
theorem keysL_vs : ∀ {ds : List D} {vs : List V} {ks : List Key}, keysL ds = some ks → RpL K H M ds vs → vs = ks.map kV
  | [], vs, ks, h, r => by
    cases h
    rw [r.nil_inv]
    rfl
  | d :: ds, vs, ks, h, r => by
    obtain ⟨v, ws, rfl, rv, q⟩ := r.cons_inv
    unfold keysL at h
    cases h1 : dkey d with
    | none => rw [h1] at h; simp at h
    | some k =>
      cases h2 : keysL ds with
      | none => rw [h1, h2] at h; simp at h
      | some ks' =>
        rw [h1, h2] at h
        cases h
        rw [dkey_v h1 rv.ro, keysL_vs h2 q]
        rfl
theorem tkey_v {y : D} {v : V} {k : List Key} (h : tkey y = some k) (r : Ro K H M y v) : ∃ b, v = .ref b ∧ SqT K H b (k.map kV) ∧ k.length ≤ sizeLine := by
  cases y with
  | tup ds =>
    obtain ⟨b, vs, rfl, h1, hz, q⟩ := r.tup_inv
    have e := keysL_vs h q
    subst e
    refine ⟨b, rfl, h1, ?_⟩
    have := q.len
    rw [List.length_map] at this
    omega
  | _ => cases h
theorem rp_key {H : Hp} {b : Addr} {k : List Key} (h : H b = some (.tup (k.map kV))) (hz : k.length ≤ sizeLine) : Rp K H M (tupK k) (.ref b) := by
  refine .tup' (.of h) (by rw [List.length_map]; exact hz) ⟨by rw [List.length_map, List.length_map], fun i d v h1 h2 => ?_⟩
  rw [List.getElem?_map] at h1 h2
  cases q : k[i]? with
  | none => rw [q] at h1; cases h1
  | some x =>
    rw [q] at h1 h2
    cases h1
    cases h2
    cases x with
    | inl i => exact .int i
    | inr x => exact .str x
end
section
variable {X : Cx} {pins : List (Addr × Obj)} {σ : L2.St} {H : Hp} {s : Shared} {a b : Addr} {kvs : List (List Key × V)} {k : List Key} {v d : V} {u r : Value} {A : Around} {E : Value → Shared → Prop}
theorem key_is (I : Inv X pins σ H s) (h : SqT X.K H b (k.map kV)) : (tupleKind (mixKind X.prog X.w)).is s.heap k b := by
  obtain ⟨its, r, ⟨o, ho, hc, n, hd⟩, _⟩ := I.tuple h
  exact ⟨o, its.toArray, n, ho, hc, hd, by simpa using items_are r⟩
/-- d[y], d.get(y, z), the key any tuple -/
theorem d_getItemS {Q : Value → Shared → Prop} (hu : A.units + 1 < cLine) (I : Inv X pins σ H s) (e : Rd H a (.dT kvs)) (eb : SqT X.K H b (k.map kV)) (l : valV kvs k = some v) (h : ∀ w' s', Inv X pins σ H s' → RelV v w' → Q w' s') :
    wpAny (model X.prog X.w) A (getItem (.ref a) (.ref b)) Q E s := by
  obtain ⟨z, hd, xs, rel, dd⟩ := dt_rd I.hok e
  obtain ⟨w', hw, rw'⟩ := RelO.some_of (v := v) (o := (atKey xs k).map (·.2)) (by rw [← l]; exact rel.val k)
  obtain ⟨p, hp, hp2⟩ := Option.map_eq_some_iff.mp hw
  refine wpAny_getItem_heap (tupleKind_room_in1 hu) (key_is I eb) dd hp ?_
  rw [hp2]
  exact h w' _ (I.tok _) rw'
theorem d_get2S {Q : Value → Shared → Prop} (hu : A.units + 1 < cLine) (I : Inv X pins σ H s) (e : Rd H a (.dT kvs)) (eb : SqT X.K H b (k.map kV)) (rd : RelV d r) (h : ∀ w' s', Inv X pins σ H s' → RelV ((valV kvs k).getD d) w' → Q w' s') :
    wpAny (model X.prog X.w) A (call (.builtin "dict.get") [.ref a, .ref b, r]) Q E s := by
  obtain ⟨z, hd, xs, rel, dd⟩ := dt_rd I.hok e
  refine call_meetsIn PySem.F.slot_dict_get dd.typeIs PySem.F.entry_dict_get (PySem.F.args_dict_get_3 _ _ _) (meetsH_dict_get_default (tupleKind (mixKind X.prog X.w)) a b hd r) ⟨tupleKind_room_in1 hu, k, xs, key_is I eb, dd, h _ _ (I.tok _) ?_⟩
  exact (rel.val k).getD rd
end
/-- d.get(y, z), of either kind of dict -/
def DGetS (K : PySem.W.Frag) (H : Hp) (a : Addr) (y : V) (r : Option V) : Prop := ∃ kvs k b, Rd H a (.dT kvs) ∧ y = .ref b ∧ SqT K H b (k.map kV) ∧ r = valV kvs k
def tDGetA (K : PySem.W.Frag) (td ty tx : TE) : TE := fun σ H Q => td σ H fun x H1 => ∃ a, x = .ref a ∧ IsD H1 a ∧ ty σ H1 fun y H2 => tx σ H2 fun z H3 => ∃ o, (DGet H3 a y o ∨ DGetS K H3 a y o) ∧ Q (o.getD z) H3
section
variable {X : Cx} {o e f : Expr} {apos cpos : Pos} {td ty tx : TE}
theorem pe_dgetA (hu : X.A.units + 1 < cLine) (ho : PE X o td) (he : PE X e ty) (hf : PE X f tx) (m : M2 X o "get" apos e f cpos) : PE X (.Call (.Attribute o "get" apos) [e, f] [] cpos) (tDGetA X.K td ty tx) := by
  refine ⟨fun pins s σ H Q I h => ?_⟩
  refine wpAny_Call_method m.base m.few m.line PySem.F.plainAttrs_dict PySem.F.slot_dict_get PySem.F.type_dict_get (thn (ho.run pins s σ H _ I h) fun u s1 ⟨x, H1, I1, rx, a, ex, d, q1⟩ => ?_)
  subst ex
  obtain rfl : u = Value.ref a := rx
  obtain ⟨t1, t2, _⟩ := isD_at I1 d
  refine ⟨t1, t2, ?_⟩
  rw [m.trees]
  refine Calls.callWith_builtin rfl (Calls.evalArgs_plain (Calls.spliced_cons (thn (he.run pins s1 σ H1 _ I1 q1) fun iv s2 ⟨y, H2, I2, ry, q2⟩ =>
    Calls.spliced_cons (thn (hf.run pins s2 σ H2 _ I2 q2) fun fv s3 ⟨z, H3, I3, rz, ov, g, q3⟩ => Calls.spliced_nil ?_))))
  rcases g with g | ⟨kvs, k, b, hr, rfl, hb, rfl⟩
  · exact d_get2 hu I3 g ry rz fun w' s4 I4 rw' => ⟨_, H3, I4, rw', q3⟩
  · obtain rfl : iv = Value.ref b := ry
    exact d_get2S hu I3 hr hb rz fun w' s4 I4 rw' => ⟨_, H3, I4, rw', q3⟩
end
section
variable {K : PySem.W.Frag}
theorem Ro.dct_inv' {H : Hp} {M : Addr → Prop} {ds : List (List Key × D)} {v : V} (h : Ro K H M (.dct ds) v) : ∃ a vs, v = .ref a ∧ Rd H a (.dT vs) ∧ ds.length ≤ sizeLine ∧ RpK K H M ds vs := by cases h; exact ⟨_, _, rfl, by assumption, by assumption, by assumption⟩
end
def getA (x y z : D) : Res D := match x with
  | .dic ds => (match dkey y with
    | some k => .ok ((valD ds k).getD z)
    | none => .bad)
  | .dct ds => (match tkey y with
    | some k => .ok ((valD ds k).getD z)
    | none => .bad)
  | _ => .bad
def isDct (x : D) : Bool := match x with
  | .dic _ => true
  | .dct _ => true
  | _ => false
def mGetA (mo me mf : Ev) : Ev := fun env => do
  let r1 ← mo env
  let x1 ← rs r1.2 r1.1
  if isDct x1 = true then do
    let r2 ← me r1.2
    let r3 ← mf r2.2
    let x ← rs r3.2 r1.1
    let y ← rs r3.2 r2.1
    match getA x y r3.1 with
    | .ok d => pure (d, r3.2)
    | _ => .bad
  else .bad
section
variable {X : Cx} {C : Cfg} {W : WX} {k : Nat} {o e f : Expr} {td ty tx : TE} {mo me mf : Ev} {apos cpos : Pos}
theorem em_getA (g : Gd X C W k) (ho : EM X C W o td mo) (he : EM X C W e ty me) (hf : EM X C W f tx mf) (m : M2 X o "get" apos e f cpos) :
    EM X C W (.Call (.Attribute o "get" apos) [e, f] [] cpos) (tDGetA C.K td ty tx) (mGetA mo me mf) := by
  refine ⟨g.kE ▸ pe_dgetA (hu_of g.room) ho.pe he.pe hf.pe m, fun M0 ad σ H env Q R w => ?_⟩
  unfold mGetA at w
  refine ho.sn' R w fun r1 v1 H1 R1 S1 V1 w1 => ?_
  rw [wp_bind] at w1
  obtain ⟨x1, _, w2, rx1⟩ := R1.rs V1 w1
  split at w2
  · rename_i hd
    have hisd : ∃ a, v1 = .ref a ∧ IsD H1 a := by
      cases x1 with
      | dic ds1 => obtain ⟨a, us, rfl, hu1, _, _⟩ := rx1.dic_inv; exact ⟨a, rfl, .inl ⟨us, hu1⟩⟩
      | dct ds1 => obtain ⟨a, us, rfl, hu1, _, _⟩ := rx1.dct_inv; exact ⟨a, rfl, .inr ⟨us, hu1⟩⟩
      | _ => cases hd
    obtain ⟨a, rfl, isd⟩ := hisd
    refine ⟨a, rfl, isd, ?_⟩
    refine he.sn' R1 w2 fun r2 v2 H2 R2 S2 V2 w3 => ?_
    refine hf.sn' R2 w3 fun r3 v3 H3 R3 S3 V3 w4 => ?_
    rw [wp_bind] at w4
    obtain ⟨x, _, w5, rx⟩ := R3.rs ((V1.stp S2).stp S3) w4
    rw [wp_bind] at w5
    obtain ⟨y, _, w6, ry⟩ := R3.rs (V2.stp S3) w5
    cases x with
    | dic ds =>
      simp only [getA] at w6
      cases hk : dkey y with
      | none => rw [hk] at w6; exact w6.elim
      | some kk =>
        rw [hk] at w6
        simp only at w6
        obtain ⟨a', us', e', hu', _, q⟩ := rx.dic_inv
        cases e'
        have ey := dkey_v hk ry
        obtain ⟨q1, q2⟩ := RpK.val q (k := kk)
        refine ⟨valV us' kk, .inl (.inl ⟨us', kk, hu', ey, rfl⟩), ?_⟩
        cases hv : valD ds kk with
        | none =>
          rw [hv] at w6
          rw [q2 hv]
          exact w6 v3 H3 R3 ((S1.trans S2).trans S3) V3
        | some d =>
          rw [hv] at w6
          obtain ⟨v, e1, rv⟩ := q1 d hv
          rw [e1]
          exact w6 v H3 R3 ((S1.trans S2).trans S3) (.of rv)
    | dct ds =>
      simp only [getA] at w6
      cases hk : tkey y with
      | none => rw [hk] at w6; exact w6.elim
      | some kk =>
        rw [hk] at w6
        simp only at w6
        obtain ⟨a', us', e', hu', _, q⟩ := rx.dct_inv
        cases e'
        obtain ⟨b, ey, hb, _⟩ := tkey_v hk ry
        obtain ⟨q1, q2⟩ := RpK.val q (k := kk)
        refine ⟨valV us' kk, .inr ⟨us', kk, b, hu', ey, hb, rfl⟩, ?_⟩
        cases hv : valD ds kk with
        | none =>
          rw [hv] at w6
          rw [q2 hv]
          exact w6 v3 H3 R3 ((S1.trans S2).trans S3) V3
        | some d =>
          rw [hv] at w6
          obtain ⟨v, e1, rv⟩ := q1 d hv
          rw [e1]
          exact w6 v H3 R3 ((S1.trans S2).trans S3) (.of rv)
    | _ => exact w6.elim
  · exact w2.elim
end
/-! ### d[y] -/
def rIxS (K : PySem.W.Frag) : R2 := fun x y H Q => ∃ a v, x = .ref a ∧ DGetS K H a y (some v) ∧ Q v H
theorem ix_dct {X : Cx} (hu : X.A.units + 1 < cLine) : IxR X (rIxS X.K) := by
  intro value slice pins s σ H x y v u Q I rx ry h hs
  obtain ⟨a, r, rfl, ⟨kvs, k, b, hr, rfl, hb, l⟩, q⟩ := h
  obtain rfl : v = Value.ref a := rx
  obtain rfl : u = Value.ref b := ry
  obtain ⟨_, _, xs, _, dd⟩ := dt_rd I.hok hr
  refine tail_any dd.typeIs slot_dict_getitem.lookup ?_ hs
  exact d_getItemS hu I hr hb l.symm fun w' s' I' rw' => ⟨r, H, I', rw', q⟩
def ixT (x y : D) : Res D := match x with
  | .dct ds => (match tkey y with
    | some k => (match valD ds k with | some d => .ok d | none => .bad)
    | none => .bad)
  | x => ixA x y
def rIxT (K : PySem.W.Frag) : R2 := fun x y H Q => rIxS K x y H Q ∨ rIxA K x y H Q
theorem iIxT {X : Cx} {C : Cfg} {W : WX} {k : Nat} (g : Gd X C W k) : IxR X (rIxT C.K) := g.kE ▸ (ix_dct (hu_of g.room)).or (ir_ixA g.room)
theorem os_ixT {K : PySem.W.Frag} : OpS K (rIxT K) ixT := by
  intro H M x y dx dy Q tk rx ry w
  cases dx with
  | dct ds =>
    obtain ⟨a, us, rfl, h, z, q⟩ := rx.dct_inv
    simp only [ixT] at w
    cases e : tkey dy with
    | none => rw [e] at w; exact w.elim
    | some k =>
      rw [e] at w
      simp only at w
      cases e2 : valD ds k with
      | none => rw [e2] at w; exact w.elim
      | some d =>
        rw [e2] at w
        obtain ⟨v, e3, r⟩ := (q.val (k := k)).1 d e2
        obtain ⟨b, ey, hb, _⟩ := tkey_v e ry
        exact .inl ⟨a, v, rfl, ⟨us, k, b, h, ey, hb, e3.symm⟩, w _ _ (.refl _) r⟩
  | _ => exact .inr (os_ixA H M x y _ dy Q tk rx ry w)
/-! ### {} -/
def mDicT0 : Ev := fun env => .ok (.dct [], env)
theorem ef_dicT0 {X : Cx} {C : Cfg} {W : WX} {pos : Pos} : EF X C W (.Dict [] [] pos) tDNewT mDicT0 := by
  refine ⟨pe_dnewT, fun M0 ad σ H env Q R w => ?_⟩
  refine fun p hn => w p _ hn (R.growAdd (same_new hn) hn (by rw [upd_same]; exact fun z => nomatch z)) (.grow (same_new hn)) ⟨Nat.zero_le _, [], upd_same, rfl, fun i p q e _ => by simp at e, fun i p q e _ => by simp at e⟩
/-! ### list(d) -/
def lstT (x : D) : Res D := match x with
  | .dct ds => if (ds.all fun p => decide (p.1.length ≤ 1000)) = true then .ok (.lst (ds.map fun p => tupK p.1)) else .bad
  | x => lstD x
theorem paired_at {α β : Type} {R : α → β → Prop} {xs : List α} {ys : List β} (h : Paired R xs ys) : ∀ {i : Nat} {x : α} {y : β}, xs[i]? = some x → ys[i]? = some y → R x y := by
  induction h with
  | nil => intro i x y h1; cases i <;> cases h1
  | cons r t ih =>
    intro i x y h1 h2
    cases i with
    | zero => simp at h1 h2; subst h1 h2; exact r
    | succ i => exact ih (by simpa using h1) (by simpa using h2)
theorem cListT {X : Cx} {C : Cfg} {W : WX} {k : Nat} (g : Gd X C W k) : CallR X (.type "list") (fun xs H Q => (∃ d kvs, xs = [V.ref d] ∧ Rd H d (.dT kvs) ∧ ∀ p bs, H p = none → IsKeys H kvs bs → Q (.ref p) (upd H p (.lst (bs.map V.ref)))) ∨
    ∃ p ys, xs = [.ref p] ∧ (SqL C.K H p ys ∨ SqT C.K H p ys) ∧ ∀ l, H l = none → Q (.ref l) (upd H l (.lst ys))) := (call_list_dT g.calm).or (cList g)
theorem cf_listT {K : PySem.W.Frag} : CallF K (fun xs H Q => (∃ d kvs, xs = [V.ref d] ∧ Rd H d (.dT kvs) ∧ ∀ p bs, H p = none → IsKeys H kvs bs → Q (.ref p) (upd H p (.lst (bs.map V.ref)))) ∨
    ∃ p ys, xs = [.ref p] ∧ (SqL K H p ys ∨ SqT K H p ys) ∧ ∀ l, H l = none → Q (.ref l) (upd H l (.lst ys))) (one lstT) := by
  intro H M vs ds Q tk r w
  obtain ⟨d, rfl, w1⟩ := one_inv w
  cases d with
  | dct xs =>
    obtain ⟨v, rfl, rv⟩ := r.one
    obtain ⟨a, us, rfl, h, z, q⟩ := rv.dct_inv
    simp only [lstT] at w1
    split at w1
    rotate_left
    · exact w1.elim
    rename_i hall
    refine .inl ⟨a, us, rfl, h, fun p bs hn hk => w1 _ _ hn (same_new hn) ?_⟩
    refine cell_new ⟨by rw [List.length_map, List.length_map, ← q.len]; exact (Paired.length hk).symm, fun i d v h1 h2 => ?_⟩ hn (by rw [List.length_map]; exact z)
    rw [List.getElem?_map] at h1 h2
    cases e1 : xs[i]? with
    | none => rw [e1] at h1; cases h1
    | some x =>
      cases e2 : bs[i]? with
      | none => rw [e2] at h2; cases h2
      | some b =>
        rw [e1] at h1
        rw [e2] at h2
        cases h1
        cases h2
        have hl : i < us.length := by rw [q.len]; exact (List.getElem?_eq_some_iff.mp e1).1
        have e3 : us[i]? = some us[i] := List.getElem?_eq_getElem hl
        have e4 := paired_at hk e3 e2
        rw [q.key i x _ e1 e3] at e4
        have := of_decide_eq_true (List.all_eq_true.mp hall _ (List.mem_of_getElem? e1))
        exact rp_key e4 (Nat.le_trans this (by decide))
  | _ => exact .inr (cf_list H M vs _ Q tk r w)
/-! ### d[a, b] = v -/
def mPutT (i : Nat) (ms : Evs) (mv : Ev) : Sv := fun env => do
  let r1 ← mv env
  let d ← kp r1.1
  match r1.2[i]?.bind Sl.con with
  | some _ => do
    let r2 ← ms r1.2
    let ys ← kpL r2.1
    match keysL ys with
    | some kk => (match r2.2[i]? with
      | some s => (match s.con with
        | some (.dct ds) => if ds.length < sizeLine ∧ ys.length ≤ 1000 then pure (.next, r2.2.set i (s.put (.dct (putD ds kk d)))) else .bad
        | _ => .bad)
      | none => .bad)
    | none => .bad
  | none => .bad
section
variable {X : Cx} {C : Cfg} {W : WX} {k : Nat} {pos : Pos}
theorem sm_putT (i : Nat) {y : Str} {py p2 tp : Pos} {es : List Expr} {x1} {ev : Expr} {ti : TA} {tv : TE} {ms : Evs} {mv : Ev} (g : Gd X C W k) (hi : AM X C W es ti ms) (hv : EM X C W ev tv mv) (hN : X.N[i]? = some y := by rfl) (hvi : Vis X.env.scope y := by first | exact Or.inl rfl | exact Or.inr (Or.inl rfl) | exact Or.inr (Or.inr rfl)) (hd : (y == ("__debug__" : Str)) = false := by decide)
    (hcd : (y == ("__classdict__" : Str)) = false := by decide)
    (ha : ∀ v, assign (.Subscript (.Name y py) (.Tuple es x1 tp) p2) X.env v = (do
      let ov ← holding [v] (eval (.Name y py) X.env)
      let iv ← holding [v, ov] (eval (.Tuple es x1 tp) X.env)
      standAt p2
      holding [v, ov, iv] (setItem ov iv v)
      release [v, ov, iv] []) := by intro _; rfl)
    (hs : swapsWithSole [.Subscript (.Name y py) (.Tuple es x1 tp) p2] ev pos.line X.env = pure false := by rfl) (hw : swappedStores [.Subscript (.Name y py) (.Tuple es x1 tp) p2] ev X.env = pure none := by rfl)
    (h1 : (assignEach [.Subscript (.Name y py) (.Tuple es x1 tp) p2] X.env).map (·.2) = [assign (.Subscript (.Name y py) (.Tuple es x1 tp) p2) X.env] := by rfl) :
    SM X C W (.Assign [.Subscript (.Name y py) (.Tuple es x1 tp) p2] ev pos) (tAsg tv (gSub (tVar i) (tTup ti) rSetA)) (mPutT i ms mv) := by
  refine ⟨ps_asg hv.pe (pg_sub (pe_var hN hvi hd hcd) (pe_tup hi.pe) (set_any g.room) ha) hs hw h1, fun ad σ H env Dn R w => ?_⟩
  unfold mPutT at w
  refine hv.st R w fun r1 v H1 R1 S1 V1 w1 => ?_
  rw [wp_bind] at w1
  obtain ⟨_, w2, rv⟩ := kp_rp V1 w1
  cases z : r1.2[i]? with
  | none => rw [z] at w2; exact w2.elim
  | some s0 =>
    rw [z] at w2
    simp only [Option.bind_some] at w2
    cases zc : s0.con with
    | none => rw [zc] at w2; exact w2.elim
    | some c0 =>
      rw [zc] at w2
      obtain ⟨hσ, _⟩ := R1.con z zc
      refine ⟨.ref (ad i), hσ, ?_⟩
      rw [wp_bind] at w2
      refine hi.sn C.M0 ad σ H1 _ _ R1 (w2.imp (fun r2 w3 vs H2 R2 S2 V2 => ?_) fun _ z => z.er)
      rw [wp_bind] at w3
      obtain ⟨w4, rx⟩ := kpL_rp V2 w3
      cases hk : keysL r2.1 with
      | none => rw [hk] at w4; exact w4.elim
      | some kk =>
        rw [hk] at w4
        simp only at w4
        cases z2 : r2.2[i]? with
        | none => rw [z2] at w4; exact w4.elim
        | some s =>
          rw [z2] at w4
          simp only at w4
          cases zc2 : s.con with
          | none => rw [zc2] at w4; exact w4.elim
          | some c =>
            rw [zc2] at w4
            cases c with
            | dct ds =>
              simp only at w4
              by_cases hz : ds.length < sizeLine ∧ r2.1.length ≤ 1000
              · rw [if_pos hz] at w4
                have ev := keysL_vs hk rx
                refine ⟨by rw [rx.len]; exact Nat.le_trans hz.2 (by decide), fun p hn => ?_⟩
                have R3 := R2.grow (same_new hn (o := .tup vs))
                have S3 : Stp C ad H1 r1.2 (upd H2 p (.tup vs)) r2.2 := S2.trans (.grow (same_new hn))
                obtain ⟨_, hc⟩ := R3.con z2 zc2
                have rv2 : Rp C.K (upd H2 p (.tup vs)) (Mo C r2.2 ad) r1.1 v := S3.rp rv
                have hM : Ow r2.2 ad (ad i) := ⟨i, s, z2, Sl.isMut.own (Sl.con_mut zc2), rfl⟩
                have ck := hc.kind
                generalize hH3 : upd H2 p (.tup vs) = H3 at *
                have hp : H3 p = some (.tup (kk.map kV)) := by rw [← hH3, upd_same, ev]
                have xt : ∀ o, Ext (Mo C r2.2 ad) H3 (upd H3 (ad i) o) := fun o => by
                  refine ⟨fun b o e hn _ => by rw [upd_ne (fun q : b = ad i => hn (.inr (q ▸ hM)))]; exact e, fun b xs e => ?_, fun b o u e => ?_, fun b e => ?_⟩
                  · by_cases q : b = ad i
                    · rw [q] at e; exact absurd e (ck.1 xs)
                    · rw [upd_ne q]; exact e
                  · by_cases q : b = ad i
                    · rw [q] at e; exact absurd e (ck.2 _ _)
                    · rw [upd_ne q]; exact e
                  · by_cases q : b = ad i
                    · rw [q, upd_same]; exact fun z => nomatch z
                    · rw [upd_ne q]; exact e
                have kk' : ∀ o' b o, H3 b = some o → b ≠ ad i → upd H3 (ad i) o' b = some o := fun o' b o e hb => by rw [upd_ne hb]; exact e
                obtain ⟨z3, us, hu, ru⟩ := hc
                refine .inr ⟨ad i, _, rfl, DPut.t hu hp (by rw [ru.len]; exact hz.1), ?_⟩
                obtain ⟨R4, S4⟩ := R3.put (d := .dct (putD ds kk r1.1)) (H' := upd H3 (ad i) (.dT (putK us kk v))) z2 (Sl.con_mut zc2) (kk' _) ⟨Nat.le_trans (length_putD _ _ _) hz.1, _, upd_same, (ru.put rv2).ext (xt _) fun b q => .inl q⟩
                exact w4 ad σ _ R4 ((S1.trans S3).trans S4).keep
              · rw [if_neg hz] at w4
                exact w4.elim
            | _ => exact w4.elim
end
end Vm
end
section
set_option maxRecDepth 100000
set_option maxHeartbeats 4000000
/-! Vm, part ZN: sorted(set(xs)), xs a list of pairs of ints from 0 to 63. -/
namespace Vm
open PySem PySem.Spec PyProof.Rows L2
def dedR : List (List Int) → List (List Int)
  | [] => []
  | x :: xs => if x ∈ xs then dedR xs else x :: dedR xs
theorem dedR_mem (j : List Int) : ∀ ns : List (List Int), j ∈ dedR ns ↔ j ∈ ns
  | [] => Iff.rfl
  | x :: xs => by
    unfold dedR
    split
    · rename_i h
      rw [dedR_mem j xs, List.mem_cons]
      exact ⟨.inr, fun z => z.elim (fun z => z ▸ h) id⟩
    · rw [List.mem_cons, List.mem_cons, dedR_mem j xs]
theorem dedR_nodup : ∀ ns : List (List Int), (dedR ns).Nodup
  | [] => List.nodup_nil
  | x :: xs => by
    unfold dedR
    split
    · exact dedR_nodup xs
    · rename_i h
      exact List.nodup_cons.mpr ⟨fun z => h ((dedR_mem x xs).mp z), dedR_nodup xs⟩
theorem dedR_len : ∀ ns : List (List Int), (dedR ns).length ≤ ns.length
  | [] => Nat.le_refl _
  | x :: xs => by
    have := dedR_len xs
    unfold dedR
    split
    · rw [List.length_cons]; omega
    · rw [List.length_cons, List.length_cons]; omega
def usR (bs : List (List Int)) : List (List Int) := sortR (dedR bs)
theorem usR_mem (bs : List (List Int)) (j : List Int) : j ∈ usR bs ↔ j ∈ bs := by
  unfold usR
  rw [(sortR_perm _).mem_iff, dedR_mem]
theorem usR_nodup (bs : List (List Int)) : (usR bs).Nodup := (sortR_perm _).nodup_iff.mpr (dedR_nodup bs)
def ok2 (b : List Int) : Bool := match b with
  | [x, y] => decide (0 ≤ x ∧ x < 64 ∧ 0 ≤ y ∧ y < 64)
  | _ => false
theorem ok2_inv {b : List Int} (h : ok2 b = true) : ∃ x y, b = [x, y] ∧ 0 ≤ x ∧ x < 64 ∧ 0 ≤ y ∧ y < 64 := by
  match b, h with
  | [x, y], h => exact ⟨x, y, rfl, of_decide_eq_true h⟩
def soSetT (x : D) : Res D := match x with
  | .lst ds => (match rowsD ds with
    | some bs => if bs.length < 64 ∧ bs.all ok2 = true then .ok (.lst ((usR bs).map rowD)) else .bad
    | none => .bad)
  | _ => .bad
theorem leR2 (a b c d : Int) : leR [a, b] [c, d] = decide (a < c ∨ (a = c ∧ b ≤ d)) := by
  unfold leR
  congr 1
  rw [List.cons_le_cons_iff, List.cons_le_cons_iff]
  apply propext
  constructor
  · rintro (h | ⟨h, h2 | ⟨h2, h3⟩⟩)
    · exact .inl h
    · exact .inr ⟨h, by omega⟩
    · exact .inr ⟨h, by omega⟩
  · rintro (h | ⟨h, h2⟩)
    · exact .inl h
    · refine .inr ⟨h, ?_⟩
      by_cases e : b = d
      · exact .inr ⟨e, List.le_refl _⟩
      · exact .inl (by omega)
theorem leR_total (a b : List Int) : (leR a b || leR b a) = true := by
  unfold leR
  rw [Bool.or_eq_true, decide_eq_true_eq, decide_eq_true_eq]
  exact List.le_total a b
theorem leR_trans (a b c : List Int) (h1 : leR a b = true) (h2 : leR b c = true) : leR a c = true := by
  unfold leR at *
  rw [decide_eq_true_eq] at *
  exact List.le_trans h1 h2
theorem leR_anti {a b : List Int} (h1 : leR a b = true) (h2 : leR b a = true) : a = b := by
  unfold leR at *
  rw [decide_eq_true_eq] at *
  exact List.le_antisymm h1 h2
theorem sortR_sorted (bs : List (List Int)) : (sortR bs).Pairwise fun a b => leR a b = true := List.pairwise_mergeSort leR_trans leR_total _
theorem usR_uniq {bs cs : List (List Int)} (hn : cs.Nodup) (hm : ∀ j, j ∈ cs ↔ j ∈ bs) (hs : cs.Pairwise fun a b => leR a b = true) : cs = usR bs := by
  have hp : cs.Perm (usR bs) := (List.perm_ext_iff_of_nodup hn (usR_nodup bs)).mpr fun j => (hm j).trans (usR_mem bs j).symm
  exact hp.eq_of_pairwise (fun a b _ _ h1 h2 => leR_anti h1 h2) hs (sortR_sorted _)
section
variable {K : PySem.W.Frag}
theorem rows_addr {H : Hp} {M : Addr → Prop} : ∀ {bs : List (List Int)} {us : List V}, RpL K H M (bs.map rowD) us → ∃ ks : List (Addr × List Int), us = ks.map (fun p => V.ref p.1) ∧ ks.map (·.2) = bs ∧ ∀ p ∈ ks, SqT K H p.1 (p.2.map V.int)
  | [], us, r => ⟨[], r.nil_inv, rfl, fun p hp => by cases hp⟩
  | b :: bs, us, r => by
    obtain ⟨v, ws, rfl, rv, q⟩ := r.cons_inv
    obtain ⟨ks, rfl, e2, h⟩ := rows_addr q
    obtain ⟨t, rfl, ht⟩ := row_is rv
    exact ⟨(t, b) :: ks, rfl, by rw [List.map_cons, e2], fun p hp => by
      rcases List.mem_cons.mp hp with rfl | hp
      · exact ht
      · exact h p hp⟩
end
section
variable {X : Cx} {C : Cfg} {W : WX} {k : Nat} {a : Expr} {ta : TE} {ma : Ev}
def tSoSetT (K : PySem.W.Frag) (P : Program) (w : World) (ta : TE) : TE := tCB (rSortedT K P w) (tCons (tCB (rSetOfT K P w) (tCons ta tNil)) tNil)
theorem ef_soSetT {p p2 q pos : Pos} (g : Gd X C W k) (hg : Gl X "sorted") (hm : X.mg "sorted" = none) (hv : bootBuiltins "sorted" = some (.builtin "sorted")) (hg2 : Gl X "set") (hm2 : X.mg "set" = none) (hv2 : bootBuiltins "set" = some (.type "set")) (ha : EM X C W a ta ma)
    (st1 : starEach [a] X.env = (false, eval a X.env) :: starEach [] X.env := by rfl) (st2 : starEach [.Call (.Name "set" p2) [a] [] q] X.env = (false, eval (.Call (.Name "set" p2) [a] [] q) X.env) :: starEach [] X.env := by rfl)
    (pl1 : (backTo q (starEach [] X.env)).any (·.1) = false := by rfl) (pl2 : (backTo pos (starEach [] X.env)).any (·.1) = false := by rfl) :
    EF X C W (.Call (.Name "sorted" p) [.Call (.Name "set" p2) [a] [] q] [] pos) (tSoSetT C.K X.prog X.w ta) (mUn1 soSetT ma) := by
  refine ⟨g.kE ▸ pe_callB (cr_sortedT g.calm) hg hm hv (pa_cons (pe_callTy (cr_setOfT g.calm (by have := g.room.un; omega)) hg2 hm2 hv2 (pa_cons ha.pe pa_nil st1) (by decide) (by decide) st1 pl1) pa_nil st2) (by decide) (by decide) st2 pl2, fun M0 ad σ H env Q R w => ?_⟩
  unfold mUn1 at w
  show ta σ H _
  refine ha.sn' R w fun r v H1 R1 S1 V1 w1 => ?_
  rw [wp_bind] at w1
  obtain ⟨y, _, w2, ry⟩ := R1.rs V1 w1
  cases y with
  | lst ds =>
    obtain ⟨l, us, rfl, hl, hz, qr⟩ := ry.lst_inv
    simp only [soSetT] at w2
    cases hn : rowsD ds with
    | none => rw [hn] at w2; exact w2.elim
    | some bs =>
      rw [hn] at w2
      obtain ⟨e1, _⟩ := rows_eq hn
      subst e1
      simp only at w2
      split at w2
      · rename_i w3 hd
        split at hd
        · rename_i hc
          cases hd
          obtain ⟨ks, rfl, eb, hk⟩ := rows_addr qr
          have kb : ∀ p ∈ ks, ok2 p.2 = true := fun p hp => List.all_eq_true.mp hc.2 _ (by rw [← eb]; exact List.mem_map_of_mem hp)
          have kl : ks.length < 64 := by
            have := congrArg List.length eb
            rw [List.length_map] at this
            omega
          refine ⟨l, ks, rfl, .of hl, hk, kl, fun b L hbn hsub hall => ?_⟩
          have hk2 : ∀ p ∈ L, SqT C.K (upd H1 b (SetTO X.prog X.w b L)) p.1 (p.2.map V.int) := fun p hp => (Ext.of_same (M := fun _ => False) (same_new hbn)).sq (hk p (hsub p hp))
          refine ⟨b, L, 2, 64, rfl, upd_same, hk2, by decide, fun p hp => ?_, fun L' p pm nd few pw hpn => ?_⟩
          · obtain ⟨x, y, e, h0, h1, h2, h3⟩ := ok2_inv (kb p (hsub p hp))
            rw [e]
            refine ⟨rfl, ?_⟩
            intro z hz
            simp at hz
            rcases hz with rfl | rfl
            · exact ⟨h0, h1⟩
            · exact ⟨h2, h3⟩
          have memL : ∀ q ∈ L', q ∈ L := fun q hq => pm.mem_iff.mp hq
          have e : L'.map (·.2) = usR bs := by
            refine usR_uniq nd (fun j => ?_) ?_
            · constructor
              · intro hj
                obtain ⟨q, hq, rfl⟩ := List.mem_map.mp hj
                rw [← eb]
                exact List.mem_map_of_mem (hsub q (memL q hq))
              · intro hj
                rw [← eb] at hj
                obtain ⟨q, hq, rfl⟩ := List.mem_map.mp hj
                have := hall q hq
                obtain ⟨t, ht, e⟩ := List.mem_map.mp this
                rw [← e]
                exact List.mem_map_of_mem (pm.mem_iff.mpr ht)
            · refine List.pairwise_map.mpr (List.Pairwise.imp_of_mem (fun {q t} hq ht h => ?_) ((List.pairwise_map.mp nd).and pw))
              obtain ⟨x, y, e1, a0, a1, a2, a3⟩ := ok2_inv (kb q (hsub q (memL q hq)))
              obtain ⟨x', y', e2, b0, b1, b2, b3⟩ := ok2_inv (kb t (hsub t (memL t ht)))
              obtain ⟨hne, hle⟩ := h
              rw [e1, e2] at hne hle
              have := pair_lt hle hne ⟨a0, a1⟩ ⟨a2, a3⟩ ⟨b0, b1⟩ ⟨b2, b3⟩
              rw [e1, e2, leR2, decide_eq_true_eq]
              omega
          have sm1 := same_new hbn (o := SetTO X.prog X.w b L)
          have R2 := R1.grow sm1
          have S2 := S1.trans (.grow sm1)
          have RpI : RpL C.K (upd H1 b (SetTO X.prog X.w b L)) (Mo (C.w M0) r.2 ad) ((usR bs).map rowD) (L'.map fun q => V.ref q.1) := by
            rw [← e]
            refine ⟨by rw [List.length_map, List.length_map, List.length_map], fun i d v h1 h2 => ?_⟩
            rw [List.getElem?_map] at h1 h2
            rw [List.getElem?_map] at h1
            cases q : L'[i]? with
            | none => rw [q] at h1; cases h1
            | some z =>
              rw [q] at h1 h2
              cases h1
              cases h2
              have hz := memL z (List.mem_of_getElem? q)
              have hlen : (z.2.map D.int).length ≤ sizeLine := by
                obtain ⟨x, y, e1, _⟩ := ok2_inv (kb z (hsub z hz))
                rw [e1, sizeLine_eq]
                show 2 ≤ _
                omega
              exact .tup' (hk2 z hz) hlen .of_ints
          generalize upd H1 b (SetTO X.prog X.w b L) = H2 at *
          refine w2 p _ ?_ (R2.growAdd (same_new hpn) hpn (by rw [upd_same]; exact fun z => nomatch z)) (S2.trans (.grow (same_new hpn))) ?_
          · cases z : H p with
            | none => rfl
            | some o => exact absurd hpn (S2.ext.trk p (by rw [z]; exact fun z => nomatch z))
          · refine (cell_new (M := Mo (C.w M0) r.2 ad) RpI hpn ?_).ext rfl .refl fun b z => .inl (mo_add.mp z)
            rw [List.length_map]
            have h1 : (usR bs).length ≤ bs.length := by
              unfold usR
              rw [sortR_len]
              exact dedR_len bs
            exact Nat.le_trans h1 (Nat.le_trans (Nat.le_of_lt hc.1) (by decide))
        · cases hd
      · exact w2.elim
  | _ => exact w2.elim
end
end Vm
end
section
set_option maxRecDepth 100000
set_option maxHeartbeats 4000000
/-! Vm, part ZO: xs.index(i), a list of ints; xs.insert(i, v), an own list. -/
namespace Vm
open PySem PySem.Spec PyProof.Rows L2
def idxI : List Int → Int → Option Nat
  | [], _ => none
  | n :: ns, i => if n = i then some 0 else (idxI ns i).map (· + 1)
theorem idxI_at : ∀ {ns : List Int} {i : Int} {j : Nat}, idxI ns i = some j → ns[j]? = some i ∧ ∀ m z, m < j → ns[m]? = some z → z ≠ i
  | [], i, j, h => by cases h
  | n :: ns, i, j, h => by
    unfold idxI at h
    split at h
    · rename_i e
      cases h
      exact ⟨by simp [e], fun m z hm => absurd hm (Nat.not_lt_zero _)⟩
    · rename_i hne
      cases q : idxI ns i with
      | none => rw [q] at h; cases h
      | some k =>
        rw [q] at h
        cases h
        obtain ⟨a, b⟩ := idxI_at q
        refine ⟨by simpa using a, fun m z hm hz => ?_⟩
        cases m with
        | zero => simp at hz; rw [← hz]; exact hne
        | succ m => exact b m z (Nat.lt_of_succ_lt_succ hm) (by simpa using hz)
def mIndex (mo me : Ev) : Ev := fun env => do
  let r1 ← mo env
  let x1 ← rs r1.2 r1.1
  match x1 with
  | .lst _ => do
    let r2 ← me r1.2
    let x ← rs r2.2 r1.1
    match x, r2.1 with
    | .lst ds, .int i => (match intsD ds with
      | some ns => (match idxI ns i with
        | some j => pure (.int j, r2.2)
        | none => .bad)
      | none => .bad)
    | _, _ => .bad
  | _ => .bad
section
variable {X : Cx} {C : Cfg} {W : WX} {k : Nat} {o e : Expr} {td ty : TE} {mo me : Ev} {apos cpos : Pos}
theorem em_index (g : Gd X C W k) (ho : EM X C W o td mo) (he : EM X C W e ty me) (hbase : attributeBase o "index" X.env (eval o X.env) = eval o X.env := by rfl)
    (hfew : ((backTo cpos (starEach [e] X.env)).all (fun x => !x.1) && (backToKw cpos (keywordEach [] X.env)).all (fun x => x.1.isSome)
      && decide ([e].length + ([] : List Keyword).length + (if ([] : List Keyword).isEmpty then 0 else 1) < 30)) = true := by rfl)
    (hline : (apos.endLine == cpos.line) = true := by rfl) (hs : starEach [e] X.env = (false, eval e X.env) :: starEach [] X.env := by rfl) (hplain : (backTo cpos (starEach [] X.env)).any (·.1) = false := by rfl) :
    EM X C W (.Call (.Attribute o "index" apos) [e] [] cpos) (tBM C.K "list" (rIndex C.K) td (tCons ty tNil)) (mIndex mo me) := by
  refine ⟨g.kE ▸ pe_bm PySem.F.plainAttrs_list PySem.F.slot_list_index PySem.F.type_list_index mt_index ho.pe (pa_cons he.pe pa_nil hs) hbase hfew hline hs hplain, fun M0 ad σ H env Q R w => ?_⟩
  unfold mIndex at w
  refine ho.sn' R w fun r1 v1 H1 R1 S1 V1 w1 => ?_
  rw [wp_bind] at w1
  obtain ⟨x1, _, w2, rx1⟩ := R1.rs V1 w1
  cases x1 with
  | lst ds1 =>
    simp only at w2
    obtain ⟨a, us, rfl, hu1, _, _⟩ := rx1.lst_inv
    refine ⟨.inl ⟨rfl, us, .of hu1⟩, ?_⟩
    refine he.sn' R1 w2 fun r2 v2 H2 R2 S2 V2 w3 => ?_
    rw [wp_bind] at w3
    obtain ⟨x, _, w4, rx⟩ := R2.rs (V1.stp S2) w3
    cases hr : r2.1 with
    | int i =>
      rw [hr] at w4 V2
      cases x with
      | lst ds =>
        simp only at w4
        cases hn : intsD ds with
        | none => rw [hn] at w4; exact w4.elim
        | some ns =>
          rw [hn] at w4
          simp only at w4
          cases hj : idxI ns i with
          | none => rw [hj] at w4; exact w4.elim
          | some j =>
            rw [hj] at w4
            simp only at w4
            obtain ⟨a', us', e', hu', _, q⟩ := rx.lst_inv
            cases e'
            cases ints_eq hn
            have eu := q.ints
            subst eu
            have hv2 : v2 = .int i := by cases V2; rfl
            subst hv2
            obtain ⟨h1, h2⟩ := idxI_at hj
            refine ⟨a, ns.map V.int, .int i, j, .int i, rfl, rfl, .of hu', rfl, ?_, by rw [List.getElem?_map, h1]; rfl, by simp [eqV], fun m z hm hz => ?_, w4 _ H2 R2 (S1.trans S2) (.of (.int _))⟩
            · rw [List.all_eq_true]
              intro x hx
              obtain ⟨n, _, rfl⟩ := List.mem_map.mp hx
              rfl
            · rw [List.getElem?_map] at hz
              cases q2 : ns[m]? with
              | none => rw [q2] at hz; cases hz
              | some n =>
                rw [q2] at hz
                cases hz
                have := h2 m n hm q2
                show (n == i) = false
                exact beq_eq_false_iff_ne.mpr this
      | _ => exact w4.elim
    | _ =>
      rw [hr] at w4
      cases x <;> exact w4.elim
  | _ => exact w2.elim
end
@[simp] theorem z_mIndex (mo me : Ev) (env : Sls) : mIndex mo me env = (do
  let r1 ← mo env
  let x1 ← rs r1.2 r1.1
  match x1 with
  | .lst _ => do
    let r2 ← me r1.2
    let x ← rs r2.2 r1.1
    match x, r2.1 with
    | .lst ds, .int i => (match intsD ds with
      | some ns => (match idxI ns i with
        | some j => pure (.int j, r2.2)
        | none => .bad)
      | none => .bad)
    | _, _ => .bad
  | _ => .bad) := rfl
/-! ### insert -/
def mIns (i : Nat) (m mv : Ev) : Ev := fun env =>
  match env[i]?.bind Sl.con with
  | some (.lst _) => do
    let r ← m env
    let q ← mv r.2
    let d ← kp q.1
    match q.2[i]? with
    | some s => (match s.con, r.1 with
      | some (.lst ds), .int j => if ds.length < sizeLine ∧ 0 ≤ j ∧ j < 2 ^ 63 then pure (.non, q.2.set i (s.put (.lst (ds.take j.toNat ++ [d] ++ ds.drop j.toNat)))) else .bad
      | _, _ => .bad)
    | _ => .bad
  | _ => .bad
section
variable {X : Cx} {C : Cfg} {W : WX} {k : Nat} {e f : Expr} {ta tf : TE} {m mf : Ev} {pos : Pos}
theorem em_insert (i : Nat) {y : Str} {py apos : Pos} (g : Gd X C W k) (he : EM X C W e ta m) (hf : EM X C W f tf mf) (hN : X.N[i]? = some y := by rfl) (hv : Vis X.env.scope y := by first | exact Or.inl rfl | exact Or.inr (Or.inl rfl) | exact Or.inr (Or.inr rfl)) (hd : (y == ("__debug__" : Str)) = false := by decide)
    (hcd : (y == ("__classdict__" : Str)) = false := by decide) (hbase : attributeBase (.Name y py) "insert" X.env (eval (.Name y py) X.env) = eval (.Name y py) X.env := by rfl)
    (hfew : ((backTo pos (starEach [e, f] X.env)).all (fun x => !x.1) && (backToKw pos (keywordEach [] X.env)).all (fun x => x.1.isSome)
      && decide ([e, f].length + ([] : List Keyword).length + (if ([] : List Keyword).isEmpty then 0 else 1) < 30)) = true := by rfl)
    (hline : (apos.endLine == pos.line) = true := by rfl) (hs : starEach [e, f] X.env = (false, eval e X.env) :: starEach [f] X.env := by rfl) (hs2 : starEach [f] X.env = (false, eval f X.env) :: starEach [] X.env := by rfl) (hplain : (backTo pos (starEach [f] X.env)).any (·.1) = false := by rfl) :
    EM X C W (.Call (.Attribute (.Name y py) "insert" apos) [e, f] [] pos) (tBM C.K "list" (fun x vs H Q => ∃ (l : Addr) (xs : List V) (i : Int) (y : V), x = .ref l ∧ vs = [.int i, y] ∧ H l = some (.lst xs) ∧ xs.length < sizeLine ∧ 0 ≤ i ∧ i < 2 ^ 63 ∧
      Q .non (upd H l (.lst (xs.take i.toNat ++ [y] ++ xs.drop i.toNat)))) (tVar i) (tCons ta (tCons tf tNil))) (mIns i m mf) := by
  refine ⟨g.kE ▸ pe_bm PySem.F.plainAttrs_list PySem.F.slot_list_insert PySem.F.type_list_insert mt_insert (pe_var hN hv hd hcd) (pa_cons he.pe (pa_cons hf.pe pa_nil hs2) hs) hbase hfew hline hs hplain, fun M0 ad σ H env Q R w => ?_⟩
  unfold mIns at w
  cases z : env[i]? with
  | none => rw [z] at w; exact w.elim
  | some s0 =>
    rw [z] at w
    simp only [Option.bind_some] at w
    cases zc : s0.con with
    | none => rw [zc] at w; exact w.elim
    | some c0 =>
      rw [zc] at w
      cases c0 with
      | lst ds0 =>
        obtain ⟨hσ, _, us0, hu0, _⟩ := R.con z zc
        refine ⟨.ref (ad i), hσ, .inl ⟨rfl, us0, .of hu0⟩, ?_⟩
        refine he.sn' R w fun r v H1 R1 S1 V1 w1 => ?_
        refine hf.sn' R1 w1 fun q v2 H2 R2 S2 V2 w2 => ?_
        rw [wp_bind] at w2
        obtain ⟨_, w3, rd⟩ := kp_rp V2 w2
        cases z2 : q.2[i]? with
        | none => rw [z2] at w3; exact w3.elim
        | some s =>
          rw [z2] at w3
          simp only at w3
          cases zc2 : s.con with
          | none => rw [zc2] at w3; exact w3.elim
          | some c =>
            rw [zc2] at w3
            cases hr : r.1 with
            | int j =>
              rw [hr] at w3 V1
              cases c with
              | lst ds =>
                simp only at w3
                by_cases hz : ds.length < sizeLine ∧ 0 ≤ j ∧ j < 2 ^ 63
                · rw [if_pos hz] at w3
                  have hv1 : v = .int j := by cases V1; rfl
                  subst hv1
                  obtain ⟨_, _, us, hu, ru⟩ := R2.con z2 zc2
                  refine ⟨ad i, us, j, v2, rfl, rfl, hu, by rw [ru.len]; exact hz.1, hz.2.1, hz.2.2, ?_⟩
                  have rn := ((ru.take j.toNat).append (.one rd)).append (ru.drop j.toNat)
                  obtain ⟨R3, S3, _⟩ := RE.lay (C := C) R2 z2 zc2 hu (ds' := ds.take j.toNat ++ [q.1] ++ ds.drop j.toNat) (by
                    simp only [List.length_append, List.length_take, List.length_drop, List.length_cons, List.length_nil]
                    omega) rn
                  exact w3 .non _ R3 ((S1.trans S2).trans S3) (.of .non)
                · rw [if_neg hz] at w3
                  exact w3.elim
              | _ => exact w3.elim
            | _ =>
              rw [hr] at w3
              cases c <;> exact w3.elim
      | _ => exact w.elim
end
@[simp] theorem z_mIns (i : Nat) (m mv : Ev) (env : Sls) : mIns i m mv env = (match env[i]?.bind Sl.con with
  | some (.lst _) => do
    let r ← m env
    let q ← mv r.2
    let d ← kp q.1
    match q.2[i]? with
    | some s => (match s.con, r.1 with
      | some (.lst ds), .int j => if ds.length < sizeLine ∧ 0 ≤ j ∧ j < 2 ^ 63 then pure (.non, q.2.set i (s.put (.lst (ds.take j.toNat ++ [d] ++ ds.drop j.toNat)))) else .bad
      | _, _ => .bad)
    | _ => .bad
  | _ => .bad) := rfl
end Vm
end
section
set_option maxRecDepth 100000
set_option maxHeartbeats 4000000
/-! Vm, part ZP: a comprehension over the keys of an own dict, which is locked meanwhile. -/
namespace Vm
open PySem PySem.Spec PyProof.Rows L2
/-- owned things are lent: they may be read alone -/
def lendS : Sl → Sl
  | .l d => .t d
  | .r d => .t d
  | .p _ => .u
  | s => s
def lendE (env : Sls) : Sls := env.map lendS
def fl1 : D → Bool
  | .int _ => true
  | .bl _ => true
  | .str _ => true
  | .non => true
  | _ => false
theorem lend_own {s : Sl} : (lendS s).isOwn = false := by cases s <;> rfl
theorem lend_at {env : Sls} {i : Nat} {s : Sl} (h : (lendE env)[i]? = some s) : ∃ s0, env[i]? = some s0 ∧ s = lendS s0 := by
  unfold lendE at h
  rw [List.getElem?_map] at h
  cases e : env[i]? with
  | none => rw [e] at h; cases h
  | some s0 => rw [e] at h; cases h; exact ⟨s0, rfl, rfl⟩
theorem ow_lend {env : Sls} {ad : Nat → Addr} {a : Addr} : ¬ Ow (lendE env) ad a := by
  rintro ⟨i, s, h, o, _⟩
  obtain ⟨s0, _, rfl⟩ := lend_at h
  rw [lend_own] at o
  cases o
section
variable {X : Cx} {C : Cfg} {W : WX} {k : Nat}
theorem ext_lock {M : Addr → Prop} {H : Hp} {d : Addr} {us : List (Key × V)} {od : Obj} (hu : H d = some (.dK us)) (hm : M d) : Ext M H (upd H d (.frz od (.dK us))) := by
  refine ⟨fun b o hb n t => ?_, fun b xs hb => ?_, fun b o u hb => ?_, fun b hb => ?_⟩
  · rw [upd_ne fun e => n (by rw [e]; exact hm)]; exact hb
  · rw [upd_ne fun e => by rw [e, hu] at hb; cases hb]; exact hb
  · rw [upd_ne fun e => by rw [e, hu] at hb; cases hb]; exact hb
  · by_cases e : b = d
    · rw [e, upd_same]; exact fun z => nomatch z
    · rw [upd_ne e]; exact hb
theorem tabs_off {T : List (Addr × Str)} {H : Hp} {d : Addr} {o u : HO} (hd : H d = some o) (h1 : ∀ ps, o ≠ .tbl ps) (h2 : ∀ x y, o ≠ LamX.CodeO x y) (t : LamX.Tabs T H) : LamX.Tabs T (upd H d u) := by
  intro p hp
  obtain ⟨ps, e1, e2, e3⟩ := t p hp
  refine ⟨ps, ?_, e2, fun pos cv hc => ?_⟩
  · rw [upd_ne fun e => by rw [e, hd] at e1; cases e1; exact h1 _ rfl]; exact e1
  · obtain ⟨c', q1, q2⟩ := e3 pos cv hc
    refine ⟨c', q1, ?_⟩
    rw [upd_ne fun e => by rw [e, hd] at q2; cases q2; exact h2 _ _ rfl]
    exact q2
theorem RE.lend {ad : Nat → Addr} {H : Hp} {σ : L2.St} {env : Sls} (R : RE C ad H σ env) {io : Nat} {ds : List (Key × D)} {us : List (Key × V)} {od : Obj} (h : env[io]? = some (.l (.dic ds))) (hu : H (ad io) = some (.dK us)) :
    RE C ad (upd H (ad io) (.frz od (.dK us))) σ (lendE env) := by
  obtain ⟨hσ, hz, us', hu', rk⟩ := R.sl io _ h
  rw [hu] at hu'
  cases hu'
  have hMo : Mo C env ad (ad io) := .inr ⟨io, _, h, rfl, rfl⟩
  have x : Ext (Mo C env ad) H (upd H (ad io) (.frz od (.dK us))) := ext_lock hu hMo
  have mo : ∀ b, Mo C (lendE env) ad b → Mo C env ad b ∨ H b = none := fun b z => z.elim (fun z => .inl (.inl z)) fun z => absurd z ow_lend
  have no : ∀ (i : Nat) (s : Sl), (lendE env)[i]? = some s → s.isOwn = true → False := fun i s e o => by
    obtain ⟨s0, _, rfl⟩ := lend_at e
    rw [lend_own] at o
    cases o
  have tk : ∀ b, H b ≠ none → upd H (ad io) (.frz od (.dK us)) b ≠ none := x.trk
  have cel : ∀ (i : Nat) (d0 : D) (s : Sl), env[i]? = some s → (s = .l d0 ∨ s = .r d0) → CellOk C.K H (Mo C env ad) d0 (ad i) → σ[i]?.join = some (.ref (ad i)) → SlOk C (upd H (ad io) (.frz od (.dK us))) (Mo C (lendE env) ad) (σ[i]?.join) (.t d0) (ad i) := fun i d0 s e hs c hv => by
    have hno : ¬ Mo C (lendE env) ad (ad i) := fun z => z.elim (R.loc i d0 (hs.imp (fun q => by rw [e, q]) fun q => by rw [e, q])).2 ow_lend
    refine ⟨.ref (ad i), hv, ?_⟩
    by_cases hi : i = io
    · subst hi
      rw [h] at e
      cases e
      have ed : d0 = .dic ds := by rcases hs with q | q <;> cases q; rfl
      subst ed
      exact .dic (.inr ⟨od, upd_same⟩) hno rk.len hz rk.key fun j p q e f => (rk.item j p q e f).ext x mo
    · have o : s.isOwn = true := by rcases hs with rfl | rfl <;> rfl
      have ne : ad i ≠ ad io := fun q => hi (R.inj _ _ _ _ e h o rfl q)
      exact cell_rp (c.ext (upd_ne ne) x mo) hno fun _ z => z
  refine ⟨by unfold lendE; rw [List.length_map]; exact R.len, fun i s e => ?_, fun i j s t e1 e2 o => (no _ _ e1 o).elim, fun i d e => (e.elim (fun e => no _ _ e rfl) fun e => no _ _ e rfl).elim, fun i d e => (no _ _ e rfl).elim, fun b o e n t => ?_, R.frk, fun b e => tk b (R.trk b e), fun b e => tk b (R.m0 b e), ?_⟩
  · obtain ⟨s0, e0, rfl⟩ := lend_at e
    have q := R.sl i s0 e0
    cases s0 with
    | u => trivial
    | p _ => trivial
    | t d0 =>
      obtain ⟨y, h1, h2⟩ := q
      exact ⟨y, h1, h2.ext x mo⟩
    | l d0 => exact cel i d0 _ e0 (.inl rfl) q.2 q.1
    | r d0 => exact cel i d0 _ e0 (.inr rfl) q.2 q.1
  · rw [upd_ne fun z => by rw [z, (R.loc io _ (.inl h)).1] at e; cases e]
    exact R.same b o e n t
  · exact tabs_off hu (fun _ z => nomatch z) (fun _ _ z => by unfold LamX.CodeO at z; cases z) R.tabs
theorem rp_keyV {K : PySem.W.Frag} {H : Hp} {M : Addr → Prop} (k : Key) : Rp K H M (keyD k) (kV k) := by
  cases k with
  | inl i => exact .int i
  | inr x => exact .str x
theorem lcK_sn {g : TG} {gv : Gv} {tt : TT} {mt : Ev1} {vs : List Nat} {io : Nat}
    (hg : ∀ (M0 : Addr → Prop) (ad : Nat → Addr) (σ : L2.St) (H : Hp) (env : Sls) (d : D) (v : V) (Q : L2.St → Hp → Prop), RE (C.w M0) ad H σ env → Rp C.K H (Mo (C.w M0) env ad) d v →
      (gv d env).Wp (fun env' => ∀ σ', RE (C.w M0) ad H σ' env' → (∀ a, Ow env' ad a → Ow env ad a) → σ'.length = σ.length → (∀ j, j ∉ vs → σ'[j]? = σ[j]?) → Q σ' H) (fun _ => False) → g v σ H Q)
    (ht : ∀ (M0 : Addr → Prop) (ad : Nat → Addr) (σ : L2.St) (H : Hp) (env : Sls) (Q : Bool → Hp → Prop), RE (C.w M0) ad H σ env →
      (mt env).Wp (fun r => ∀ H', RE (C.w M0) ad H' σ r.2 → Stp (C.w M0) ad H env H' r.2 → Q r.1 H') (Er (C.w M0) ad σ W0) → tt σ H Q)
    (he : ∀ (M0 : Addr → Prop) (ad : Nat → Addr) (σ : L2.St) (H : Hp) (env : Sls) (Q : VK), RE (C.w M0) ad H σ env →
      (me env).Wp (fun r => ∀ v H', RE (C.w M0) ad H' σ r.2 → Stp (C.w M0) ad H env H' r.2 → VR (C.w M0) ad H' σ r.2 r.1 v → Q v H') (Er (C.w M0) ad σ W0) → te σ H Q)
    {M0 : Addr → Prop} {ad : Nat → Addr} {σ : L2.St} {H : Hp} {env : Sls} {Q : VK} {ds : List (Key × D)} {us0 : List (Key × V)} {d : Addr} {od : Obj} (R : RE (C.w M0) ad H σ env)
    (hd : σ[io]? = some (some (.ref d))) (hf : H d = some (.frz od (.dK us0))) (hl : us0.length = ds.length) (hk : ∀ (i : Nat) (p : Key × D) (q : Key × V), ds[i]? = some p → us0[i]? = some q → q.1 = p.1) (Hz : ds.length ≤ sizeLine) (hw : okWipe env vs = true)
    (w : (lcL vs gv mt me (ds.map fun p => keyD p.1) (wipeE env vs)).Wp (fun q => ∀ L H', H L = none → RE ((C.w M0).add L) ad H' σ (backE env q.2 vs) → Ext (Ow env ad) H H' → (∀ a, Ow (backE env q.2 vs) ad a → Ow env ad a) →
      CellOk C.K H' (Mo ((C.w M0).add L) (backE env q.2 vs) ad) (.lst q.1) L → Q (.ref L) H') (fun _ => True)) : tLc (iKeys (tVar io)) g tt te vs σ H Q := by
  refine ⟨.ref d, hd, d, od, rfl, .inl ⟨us0, hf, ?_⟩⟩
  obtain ⟨H1, e1⟩ : ∃ H1, H1 = H := ⟨_, rfl⟩
  obtain ⟨env1, e2⟩ : ∃ env1, env1 = env := ⟨_, rfl⟩
  rw [← e2] at w hw
  have R1 : RE (C.w M0) ad H1 σ env1 := by rw [e1, e2]; exact R
  have S1 : Stp (C.w M0) ad H env H1 env1 := by rw [e1, e2]; exact .refl
  rw [show H = H1 from e1.symm] at hf w ⊢
  intro L hL
  have sL : Same H1 (upd H1 L (.lst [])) := same_new hL
  have HL0 : H1 L = none := hL
  have h0L : C.H0 L = none := by
    cases z : C.H0 L with
    | none => rfl
    | some o => exact absurd hL (R1.trk L (by show C.H0 L ≠ none; rw [z]; exact fun z => nomatch z))
  have LnO : ¬ Ow env1 ad L := fun z => R1.mtrk (.inr z) hL
  have RA : RE ((C.w M0).add L) ad (upd H1 L (.lst [])) σ env1 := R1.growAdd sL hL (by rw [upd_same]; exact fun z => nomatch z)
  -- the word: at turn i
  refine ⟨fun i m H => m = ds.length - i ∧ i ≤ ds.length ∧ ∃ (env' : Sls) (acc : List D) (us : List V), RE ((C.w M0).add L) ad H (L2.wipe σ vs) env' ∧ Ext (Ow env1 ad) H1 H ∧ (∀ a, Ow env' ad a → Ow env1 ad a) ∧
      H L = some (.lst us) ∧ RpL C.K H (Mo ((C.w M0).add L) env' ad) acc us ∧ acc.length ≤ i ∧
      (lcL vs gv mt me ((ds.drop i).map fun p => keyD p.1) env').Wp (fun q => ∀ H', RE ((C.w M0).add L) ad H' σ (backE env1 q.2 vs) → Ext (Ow env1 ad) H1 H' → (∀ a, Ow (backE env1 q.2 vs) ad a → Ow env1 ad a) →
        CellOk C.K H' (Mo ((C.w M0).add L) (backE env1 q.2 vs) ad) (.lst (acc ++ q.1)) L → Q (.ref L) H') (fun _ => True), ⟨ds.length, by simp, Nat.zero_le _, wipeE env1 vs, [], [], RA.wipe vs, .of_same sL, ow_wipe vs, upd_same, .nil, Nat.le_refl _, ?_⟩, ?_⟩
  · rw [List.drop_zero]
    cases q : lcL vs gv mt me (ds.map fun p => keyD p.1) (wipeE env1 vs) with
    | ok r =>
      rw [q] at w
      intro H' R' x' mo' c'
      exact w L H' HL0 R' x' mo' c'
    | err c => exact True.intro
    | bad => rw [q] at w; exact w.elim
  · rintro i m H2 ⟨rfl, hil, env2, acc, us, R2, x2, ow2, hus, rac, hacc, w2⟩
    by_cases hlt : i < ds.length
    · have ed : ds[i]? = some ds[i] := List.getElem?_eq_getElem hlt
      have edr : ds.drop i = ds[i] :: ds.drop (i + 1) := List.drop_eq_getElem_cons hlt
      rw [edr] at w2
      rw [List.map_cons] at w2
      unfold lcL at w2
      have f2 : H2 d = some (.frz od (.dK us0)) := x2.frzs _ _ _ hf
      have hil2 : i < us0.length := by rw [hl]; exact hlt
      have eu2 : us0[i]? = some us0[i] := List.getElem?_eq_getElem hil2
      have hgo : (Itk d od us0).go i H2 := ⟨f2, hil2⟩
      have hy : ∀ x H', (Itk d od us0).yld i H2 x H' → Same H2 H' ∧ Rp C.K H' (Mo ((C.w M0).add L) env2 ad) (keyD ds[i].1) x := fun x H' y => by
        obtain ⟨e1, k, v, e3, e4⟩ := y
        subst e1 e4
        have ek := hk i _ _ ed eu2
        rw [eu2] at e3
        rw [Option.some.inj e3] at ek
        rw [← ek]
        exact ⟨fun _ _ h => h, rp_keyV k⟩
      refine .inr ⟨hgo, fun H' => ∃ (env' : Sls) (acc : List D) (us : List V), RE ((C.w M0).add L) ad H' (L2.wipe σ vs) env' ∧ Ext (Ow env1 ad) H1 H' ∧ (∀ a, Ow env' ad a → Ow env1 ad a) ∧
        H' L = some (.lst us) ∧ RpL C.K H' (Mo ((C.w M0).add L) env' ad) acc us ∧ acc.length ≤ i + 1 ∧
        (lcL vs gv mt me ((ds.drop (i + 1)).map fun p => keyD p.1) env').Wp (fun q => ∀ H', RE ((C.w M0).add L) ad H' σ (backE env1 q.2 vs) → Ext (Ow env1 ad) H1 H' → (∀ a, Ow (backE env1 q.2 vs) ad a → Ow env1 ad a) →
          CellOk C.K H' (Mo ((C.w M0).add L) (backE env1 q.2 vs) ad) (.lst (acc ++ q.1)) L → Q (.ref L) H') (fun _ => True), fun H' h' => ⟨ds.length - (i + 1), by omega, rfl, hlt, h'⟩, fun x H3 y => ?_⟩
      obtain ⟨s3, rx⟩ := hy x H3 y
      have R3 : RE ((C.w M0).add L) ad H3 (L2.wipe σ vs) env2 := R2.grow s3
      rw [wp_bind] at w2
      refine hg _ ad (L2.wipe σ vs) H3 env2 (keyD ds[i].1) x _ R3 rx ((noE_wp (E' := fun _ => False) w2).imp (fun env3 w3 σ3 R3' ow3 l3 o3 => ?_) fun _ z => z)
      have ew : L2.wipe σ3 vs = L2.wipe σ vs := by
        rw [st_wipe_eq l3 o3]
        exact st_wipe_eq (wipe_length _ _) fun j hj => wipe_out hj
      refine ⟨ew, ?_⟩
      rw [wp_bind] at w3
      refine ht _ ad σ3 H3 env3 _ R3' ((noE_wp (E' := Er ((C.w M0).add L) ad σ3 W0) w3).imp (fun b w4 H4 R4 S4 => ?_) fun _ z => z)
      have x4 : Ext (Ow env1 ad) H2 H4 := (Ext.of_same s3).trans (S4.ext.mono fun a z => ow2 a (ow3 a z))
      have ow4 : ∀ a, Ow b.2 ad a → Ow env1 ad a := fun a z => ow2 a (ow3 a (S4.ow a z))
      have lowM : ∀ {e1 e2 : Sls}, (∀ a, Ow e2 ad a → Ow e1 ad a) → ∀ a, Mo ((C.w M0).add L) e2 ad a → Mo ((C.w M0).add L) e1 ad a := fun h a z => z.imp id (h a)
      split
      · rename_i hb
        rw [if_pos hb, wp_bind] at w4
        refine he _ ad σ3 H4 b.2 _ R4 ((noE_wp (E' := Er ((C.w M0).add L) ad σ3 W0) w4).imp (fun r w5 v H5 R5 S5 V5 => ?_) fun _ z => z)
        rw [wp_bind] at w5
        obtain ⟨_, w6, rv⟩ := kp_rp V5 w5
        have x5 : Ext (Ow env1 ad) H2 H5 := x4.trans (S5.ext.mono ow4)
        have ow5 : ∀ a, Ow r.2 ad a → Ow env1 ad a := fun a z => ow4 a (S5.ow a z)
        have hL5 : H5 L = some (.lst us) := x5.stay L _ hus LnO fun _ z => nomatch z
        obtain ⟨R6, x6⟩ := R5.other (us' := us ++ [v]) (.inr rfl) (fun z => LnO (ow5 L z)) h0L hL5
        have rac5 : RpL C.K H5 (Mo ((C.w M0).add L) r.2 ad) acc us := rac.ext ((Ext.of_same s3).trans ((S4.ext.trans (S5.ext.mono S4.ow)).mono fun a z => .inr (ow3 a z))) fun a z => .inl (z.imp id fun z => ow3 a (S4.ow a (S5.ow a z)))
        refine ⟨us, hL5, by rw [rac5.len]; omega, wipeE r.2 vs, acc ++ [r.1], us ++ [v], by rw [← ew]; exact R6.wipe vs, ?_, fun a z => ow5 a (ow_wipe vs a z), upd_same, ?_, by rw [List.length_append]; exact Nat.succ_le_succ hacc, ?_⟩
        · refine ⟨fun b o e n nt => ?_, fun b xs e => ?_, fun b o u e => ?_, fun b e => ?_⟩
          · rw [upd_ne fun q => by rw [q, hL] at e; cases e]
            exact x5.stay b o (x2.stay b o e n nt) n nt
          · rw [upd_ne fun q => by rw [q, hL] at e; cases e]
            exact x5.tups b xs (x2.tups b xs e)
          · rw [upd_ne fun q => by rw [q, hL] at e; cases e]
            exact x5.frzs b o u (x2.frzs b o u e)
          · rw [upd_ne fun q => by rw [q] at e; exact e hL]
            exact x5.trk b (x2.trk b e)
        · refine ((rac5.append (.one rv)).ext (x6.mono fun b e => ?_) fun a z => .inl (lowM (fun a z => ow_wipe vs a z) a z))
          rw [e]
          exact .inl (.inr rfl)
        · cases q : lcL vs gv mt me ((ds.drop (i + 1)).map fun p => keyD p.1) (wipeE r.2 vs) with
          | ok z =>
            rw [q] at w6
            intro H' R' x' m' c'
            exact w6 H' R' x' m' (by rw [List.append_assoc] at c'; exact c')
          | err c => exact True.intro
          | bad => rw [q] at w6; exact w6.elim
      · rename_i hb
        rw [if_neg hb] at w4
        have hL4 : H4 L = some (.lst us) := x4.stay L _ hus LnO fun _ z => nomatch z
        refine ⟨wipeE b.2 vs, acc, us, by rw [← ew]; exact R4.wipe vs, x2.trans x4, fun a z => ow4 a (ow_wipe vs a z), hL4, ?_, Nat.le_succ_of_le hacc, w4⟩
        exact rac.ext ((Ext.of_same s3).trans (S4.ext.mono fun a z => .inr (ow3 a z))) fun a z => .inl (z.imp id fun z => ow3 a (S4.ow a (ow_wipe vs a z)))
    · have ei : i = ds.length := by omega
      subst ei
      rw [List.drop_length, List.map_nil] at w2
      unfold lcL at w2
      refine .inl ⟨⟨x2.frzs _ _ _ hf, by rw [hl]; exact Nat.le_refl _⟩, ?_⟩
      have xb : Ext (Mo ((C.w M0).add L) env1 ad) (upd H1 L (.lst [])) H2 := by
        refine ⟨fun b o e n nt => ?_, fun b xs e => ?_, fun b o u e => ?_, fun b e => ?_⟩
        · rw [upd_ne fun q => n (.inl (.inr q))] at e
          exact x2.stay b o e (fun z => n (.inr z)) nt
        · by_cases q : b = L
          · rw [q, upd_same] at e; cases e
          · rw [upd_ne q] at e; exact x2.tups b xs e
        · by_cases q : b = L
          · rw [q, upd_same] at e; cases e
          · rw [upd_ne q] at e; exact x2.frzs b o u e
        · by_cases q : b = L
          · rw [q, hus]; exact fun z => nomatch z
          · rw [upd_ne q] at e; exact x2.trk b e
      obtain ⟨RB, mb⟩ := RE.back RA xb R2 ow2 hw
      rw [backS_wipe] at RB
      refine w2 H2 RB x2 (fun a z => ow2 a (mb a z)) ⟨?_, us, hus, ?_⟩
      · rw [List.append_nil]; exact Nat.le_trans hacc Hz
      · rw [List.append_nil]
        exact rac.less fun a z => z.imp id (mb a)

open Classical in
noncomputable def mLcD (io : Nat) (vs : List Nat) (g : Gv) (tt : Ev1) (me : Ev) : Ev := fun env => match env[io]? with
  | some (.l (.dic ds)) => if okWipe (lendE env) vs = true then do
      let q ← lcL vs g tt me (ds.map fun p => keyD p.1) (wipeE (lendE env) vs)
      if q.1.all fl1 = true then pure (.lst q.1, env) else .bad
    else .bad
  | _ => .bad
theorem rp_flat {K : PySem.W.Frag} {H H' : Hp} {M M' : Addr → Prop} {d : D} {v : V} (h : Rp K H M d v) (f : fl1 d = true) : Rp K H' M' d v := by
  cases h with
  | non => exact .non
  | bl b => exact .bl b
  | int i => exact .int i
  | str y => exact .str y
  | _ => cases f
theorem lcD_sn {g : TG} {gv : Gv} {tt : TT} {mt : Ev1} {vs : List Nat} {io : Nat}
    (hg : ∀ (M0 : Addr → Prop) (ad : Nat → Addr) (σ : L2.St) (H : Hp) (env : Sls) (d : D) (v : V) (Q : L2.St → Hp → Prop), RE (C.w M0) ad H σ env → Rp C.K H (Mo (C.w M0) env ad) d v →
      (gv d env).Wp (fun env' => ∀ σ', RE (C.w M0) ad H σ' env' → (∀ a, Ow env' ad a → Ow env ad a) → σ'.length = σ.length → (∀ j, j ∉ vs → σ'[j]? = σ[j]?) → Q σ' H) (fun _ => False) → g v σ H Q)
    (ht : ∀ (M0 : Addr → Prop) (ad : Nat → Addr) (σ : L2.St) (H : Hp) (env : Sls) (Q : Bool → Hp → Prop), RE (C.w M0) ad H σ env →
      (mt env).Wp (fun r => ∀ H', RE (C.w M0) ad H' σ r.2 → Stp (C.w M0) ad H env H' r.2 → Q r.1 H') (Er (C.w M0) ad σ W0) → tt σ H Q)
    (he : ∀ (M0 : Addr → Prop) (ad : Nat → Addr) (σ : L2.St) (H : Hp) (env : Sls) (Q : VK), RE (C.w M0) ad H σ env →
      (me env).Wp (fun r => ∀ v H', RE (C.w M0) ad H' σ r.2 → Stp (C.w M0) ad H env H' r.2 → VR (C.w M0) ad H' σ r.2 r.1 v → Q v H') (Er (C.w M0) ad σ W0) → te σ H Q)
    {M0 : Addr → Prop} {ad : Nat → Addr} {σ : L2.St} {H : Hp} {env : Sls} {Q : VK} (R : RE (C.w M0) ad H σ env)
    (w : (mLcD io vs gv mt me env).Wp (fun r => ∀ a H', H a = none → RE ((C.w M0).add a) ad H' σ r.2 → Stp (C.w M0) ad H env H' r.2 → CellOk C.K H' (Mo ((C.w M0).add a) r.2 ad) r.1 a → Q (.ref a) H') (Er (C.w M0) ad σ W)) : tLockE (tLc (iKeys (tVar io)) g tt te vs) σ H Q := by
  unfold mLcD at w
  split at w
  · rename_i ds h
    obtain ⟨_, hz, us, hu, rk⟩ := R.sl io _ h
    obtain ⟨hσ, _⟩ := R.con h rfl
    split at w
    · rename_i hw
      refine ⟨ad io, .dK us, hu, True.intro, fun od => ?_⟩
      have RL := R.lend (od := od) h hu
      refine lcK_sn hg ht he RL hσ upd_same rk.len rk.key hz hw ?_
      rw [wp_bind] at w
      cases q : lcL vs gv mt me (ds.map fun p => keyD p.1) (wipeE (lendE env) vs) with
      | err c => exact True.intro
      | bad => rw [q] at w; exact w.elim
      | ok r =>
        rw [q, wp_ok] at w
        split at w
        · rename_i hf
          intro L H2 hL R2 x2 m2 c2
          have f2 : H2 (ad io) = some (.frz od (.dK us)) := x2.frzs _ _ _ upd_same
          have nL : L ≠ ad io := fun e => by rw [e, upd_same] at hL; cases hL
          have hL' : H L = none := by rw [upd_ne nL] at hL; exact hL
          have sme : Sme C.T H (upd H2 (ad io) (.dK us)) := by
            refine ⟨fun b o e nt => ?_, fun b e => ?_, fun _ => tabs_off f2 (fun _ z => nomatch z) (fun _ _ z => by unfold LamX.CodeO at z; cases z) R2.tabs⟩
            · by_cases q : b = ad io
              · rw [q, upd_same, ← hu, ← q, e]
              · rw [upd_ne q]
                exact x2.stay b o (by rw [upd_ne q]; exact e) ow_lend nt
            · by_cases q : b = ad io
              · rw [q, upd_same]; exact fun z => nomatch z
              · rw [upd_ne q]
                exact x2.trk b (by rw [upd_ne q]; exact e)
          refine ⟨f2, w L _ hL' (R.growAddS sme hL' (by rw [upd_ne nL]; exact c2.trk)) (.growS sme) ?_⟩
          obtain ⟨z, vs', hv, rr⟩ := c2
          refine ⟨z, vs', by rw [upd_ne nL]; exact hv, rr.len, fun i d v e f => rp_flat (rr.item i d v e f) ?_⟩
          exact List.all_eq_true.mp hf d (List.mem_of_getElem? e)
        · exact w.elim
    · exact w.elim
  · exact w.elim
theorem ef_lcD (io : Nat) {y : Str} {py : Pos} {ifs : List Expr} {scope : Scope} {own : List (Str × Nat)} {gt : TG} {tt : TT} {gv : Gv} {mt : Ev1} (g : Gd X C W k) (ok : BlkOk X.N X.env.scope scope own)
    (hg : ∀ (s : Shared) (H : Hp) (L : Addr) (cl : List (Str × Addr)) (fp : List Addr), Gd (X.blk s H scope (compEnvC scope cl L X.env) fp) C W0 k → GM (X.blk s H scope (compEnvC scope cl L X.env) fp) C tg gt (own.map (·.2)) gv)
    (ht : ∀ (s : Shared) (H : Hp) (L : Addr) (cl : List (Str × Addr)) (fp : List Addr), Gd (X.blk s H scope (compEnvC scope cl L X.env) fp) C W0 k → TMs (X.blk s H scope (compEnvC scope cl L X.env) fp) C W0 ifs tt mt)
    (he : ∀ (s : Shared) (H : Hp) (L : Addr) (cl : List (Str × Addr)) (fp : List Addr), Gd (X.blk s H scope (compEnvC scope cl L X.env) fp) C W0 k → EM (X.blk s H scope (compEnvC scope cl L X.env) fp) C W0 elt te me)
    (hN : X.N[io]? = some y := by rfl) (hv : Vis X.env.scope y := by first | exact Or.inl rfl | exact Or.inr (Or.inl rfl) | exact Or.inr (Or.inr rfl)) (hd : (y == ("__debug__" : Str)) = false := by decide) (hcd : (y == ("__classdict__" : Str)) = false := by decide)
    (hs : ∀ x, foldedSetIterable (.Name y py) X.env x = pure x := by intro _; rfl) :
    EF X C W (.ListComp elt [⟨tg, .Name y py, ifs, 0⟩] scope pos) (tLockE (tLc (iKeys (tVar io)) gt tt te (own.map (·.2)))) (mLcD io (own.map (·.2)) gv mt me) :=
  ⟨pe_lock (pe_lc g.calm g.nd (pi_keys (pe_var hN hv hd hcd)) ok (fun s H L cl fp => (hg s H L cl fp g.blk).pe) (fun s H L cl fp => (ht s H L cl fp g.blk).pe) (fun s H L cl fp => (he s H L cl fp g.blk).pe) hs),
    fun M0 ad σ H env Q R w => lcD_sn (hg X.s_0 X.H_0 0 [] [] g.blk).sn (ht X.s_0 X.H_0 0 [] [] g.blk).sn (he X.s_0 X.H_0 0 [] [] g.blk).sn R w⟩
end
@[simp] theorem lend_t (d : D) : lendS (.t d) = .t d := rfl
@[simp] theorem lend_l (d : D) : lendS (.l d) = .t d := rfl
@[simp] theorem lend_p (d : D) : lendS (.p d) = .u := rfl
@[simp] theorem lend_u : lendS .u = .u := rfl
@[simp] theorem lend_nil : lendE [] = [] := rfl
@[simp] theorem lend_cons (s : Sl) (env : Sls) : lendE (s :: env) = lendS s :: lendE env := rfl
@[simp] theorem z_mLcD (io : Nat) (vs : List Nat) (g : Gv) (tt : Ev1) (me : Ev) (env : Sls) : mLcD io vs g tt me env = (match env[io]? with
  | some (.l (.dic ds)) => if okWipe (lendE env) vs = true then do
      let q ← lcL vs g tt me (ds.map fun p => keyD p.1) (wipeE (lendE env) vs)
      if q.1.all fl1 = true then pure (.lst q.1, env) else .bad
    else .bad
  | _ => .bad) := by
  unfold mLcD
  congr
end Vm
end
section
set_option maxRecDepth 100000
set_option maxHeartbeats 4000000
/-! Vm, part ZQ: a dict comprehension whose keys are tuple displays. -/
namespace Vm
open PySem PySem.Spec PyProof.Rows L2
section
variable {X : Cx} {pins : List (Addr × Obj)} {σ : L2.St} {H : Hp} {s : Shared}
/-- the store of a comprehension's turn -/
theorem storeT {E : Value → Shared → Prop} {Q : Unit → Shared → Prop} {T b : Addr} {kvs : List (List Key × V)} {k : List Key} {v : V} {r : Value} (hu : X.A.units + 1 < cLine) (I : Inv X pins σ H s) (e : H T = some (.dT kvs)) (hz : kvs.length < sizeLine)
    (eb : H b = some (.tup (k.map kV))) (rv : RelV v r) (h : ∀ s', Inv X pins σ (upd H T (.dT (putK kvs k v))) s' → Q () s') : wpAny (model X.prog X.w) X.A (dictSet T (.ref b) r) Q E s := by
  obtain ⟨z, ns, xs, rel, dd⟩ := dt_of I.hok e
  have lx : xs.length ≤ sizeLine := by rw [← Paired.length rel]; exact z
  have lk : (putK kvs k v).length ≤ sizeLine := Nat.le_trans (length_putK kvs k v) hz
  refine wpAny_dictSet_heap (hsz := lx) (Nat.lt_of_succ_lt hu) (key_of I.hok eb) dd fun h' d2 sb => h _ ?_
  obtain ⟨o2, e2, p2, g2, c2, a2, n2, i2, u2⟩ := d2
  refine d_write I (by rw [e]; exact True.intro) sb ⟨o2, g2⟩ ⟨lk, ns, _, (rel.put k eb rv).keeps fun c ys ec => ?_, o2, e2, p2, g2, c2, a2, n2, u2⟩
  rw [upd_ne (ne_of ec e (fun z => nomatch z))]
  exact ec
/-- {(a, b): v for tg in iter if ..}: S i holds ahead of turn i, of at most N turns; T the new dict -/
def tDcT (wi : TI) (g : TG) (tt : TT) (tk tv : TE) (vs : List Nat) : TE := fun σ H Q => wi σ H fun J H1 => ∀ T, H1 T = none → ∃ (N : Nat) (S : Nat → Hp → Prop), S 0 (upd H1 T (.dT [])) ∧
  ∀ i H2, S i H2 → (J.stop i H2 ∧ Q (.ref T) H2) ∨ (i < N ∧ J.go i H2 ∧ ∀ x H3, J.yld i H2 x H3 → g x (wipe σ vs) H3 fun τ H4 => wipe τ vs = wipe σ vs ∧ tt τ H4 fun b H5 =>
    if b = true then tk τ H5 fun y H6 => tv τ H6 fun z H7 => ∃ kvs k c, y = .ref c ∧ H7 c = some (.tup (k.map kV)) ∧ H7 T = some (.dT kvs) ∧ kvs.length < sizeLine ∧ S (i + 1) (upd H7 T (.dT (putK kvs k z))) else S (i + 1) H5)
end
section
variable {X : Cx}
/-- what one turn starts from, in the block's surroundings B -/
structure AtTurn (B : Cx) (τ : L2.St) (fp : List Addr) (tn : Nat → Heap → Prop) (N : Nat) (S : Nat → Hp → Prop) (n i : Nat) (H : Hp) (s : Shared) : Prop where
  inv : Inv B [] τ H s
  it : tn i s.heap
  off : ∀ b ∈ fp, H b = none
  on : S i H
  left : n = N - i
theorem turnT {B : Cx} {τ0 : L2.St} {vs : List Nat} {kx vx tg : Expr} {ifs : List Expr} {g : TG} {tt : TT} {tk tv : TE} {fp : List Addr} {it T : Addr} {tn : Nat → Heap → Prop} {J : It} {N : Nat} {S : Nat → Hp → Prop} {Qd : Hp → Prop} {R : Result → Shared → Prop}
    (hu : B.A.units + 1 < cLine) (hx : B.xe = fun _ _ => False) (hc : B.calm = true) (pg : PG B tg g) (pt : PTs B ifs tt) (pk : PE B kx tk) (pv : PE B vx tv) (Tn : Turn B.prog B.w B.K tg J fp it tn)
    (stat : ∀ {τ : L2.St} {H : Hp} {s : Shared}, Inv B [] τ H s → (∀ b ∈ fp, H b = none) → ∀ b ∈ fp, FpOk B [] H b)
    (word : ∀ i H2, S i H2 → (J.stop i H2 ∧ Qd H2) ∨ (i < N ∧ J.go i H2 ∧ ∀ x H3, J.yld i H2 x H3 → g x (wipe τ0 vs) H3 fun τ H4 => wipe τ vs = wipe τ0 vs ∧ tt τ H4 fun b H5 =>
      if b = true then tk τ H5 fun y H6 => tv τ H6 fun z H7 => ∃ kvs k c, y = .ref c ∧ H7 c = some (.tup (k.map kV)) ∧ H7 T = some (.dT kvs) ∧ kvs.length < sizeLine ∧ S (i + 1) (upd H7 T (.dT (putK kvs k z))) else S (i + 1) H5))
    (fin : ∀ H s, Inv B [] (wipe τ0 vs) H s → Qd H → R (.ok .next) s) (n : Nat) (s : Shared) (hI : ∃ i H, AtTurn B (wipe τ0 vs) fp tn N S n i H s) :
    wpAny (model B.prog B.w) B.A (pyNext (.ref it)) (fun r s1 => match r with
      | none => R (.ok .next) s1
      | some v => wpAny (model B.prog B.w) B.A (letOwnedTupleGo tg (.ref it) v) (fun _ s2 => wpAny (model B.prog B.w) B.A (assign tg B.env v) (fun _ s3 =>
          wpAny (model B.prog B.w) B.A (forIn ifs true fun c r => if r = true then do let ok ← isTrue c B.env (eval c B.env); pure (ForInStep.yield ok) else pure (ForInStep.yield r)) (fun ok s4 =>
            if ok = true then wpAny (model B.prog B.w) B.A (eval kx B.env) (fun kv s5 => wpAny (model B.prog B.w) B.A (eval vx B.env) (fun vv s6 =>
              wpAny (model B.prog B.w) B.A (dictSet T kv vv) (fun _ s7 => ∃ m, m < n ∧ ∃ i H, AtTurn B (wipe τ0 vs) fp tn N S m i H s7) (notedBy (model B.prog B.w) B.A B.env fun e s' => R (.error e) s') s6) (notedBy (model B.prog B.w) B.A B.env fun e s' => R (.error e) s') s5) (notedBy (model B.prog B.w) B.A B.env fun e s' => R (.error e) s') s4
            else ∃ m, m < n ∧ ∃ i H, AtTurn B (wipe τ0 vs) fp tn N S m i H s4) (notedBy (model B.prog B.w) B.A B.env fun e s' => R (.error e) s') s3) (notedBy (model B.prog B.w) B.A B.env fun e s' => R (.error e) s') s2) (notedBy (model B.prog B.w) B.A B.env fun e s' => R (.error e) s') s1) (notedBy (model B.prog B.w) B.A B.env fun e s' => R (.error e) s') s := by
  have cl : ∀ {α : Type} {f : Sem α} {Q : α → Shared → Prop} {s : Shared}, wpAny (model B.prog B.w) B.A f Q B.xe s → wpAny (model B.prog B.w) B.A f Q (fun _ _ => False) s := fun h => by
    rw [hx] at h
    exact h
  obtain ⟨i, H, a⟩ := hI
  rcases word i H a.on with ⟨hstop, hq⟩ | ⟨hi, hgo, hy⟩
  · refine thnF (Tn.done B rfl rfl rfl hc i [] s _ H (fun _ _ => False) a.inv (stat a.inv a.off) a.it hstop) fun r s1 ⟨e, I1⟩ => ?_
    subst e
    exact fin H s1 I1 hq
  · refine thnF (Tn.item B rfl rfl rfl hc i [] s _ H (fun _ _ => False) a.inv (stat a.inv a.off) a.it hgo) fun r s1 ⟨u, e, w1⟩ => ?_
    subst e
    refine thnF w1 fun _ s2 ⟨x, H2, I2, rx, yx, t2, o2⟩ => ?_
    have P2 := I2.pinned (stat I2 o2) (Tn.obj _ _ t2)
    refine thnF (cl (pg.run _ s2 _ H2 x u _ P2 rx (hy x H2 yx))) fun _ s3 ⟨τ, H3, I3, hw, w3⟩ => ?_
    have next : ∀ {s' : Shared} {H' : Hp}, Inv B ([] ++ pinsAt fp s2.heap) τ H' s' → S (i + 1) H' → ∃ m, m < n ∧ ∃ i H, AtTurn B (wipe τ0 vs) fp tn N S m i H s' := fun {s' H'} I' on => by
      have held : ∀ b ∈ fp, ∀ o, s2.heap.get? b = some o → s'.heap.get? b = some o ∧ H' b = none := fun b hb o e => by
        obtain ⟨z1, z2, _⟩ := I'.pin (b, o) (List.mem_append_right _ (List.mem_append_right _ (mem_pinsAt hb e)))
        exact ⟨z1, z2⟩
      have len : (wipe τ0 vs).length = τ.length := by rw [← hw, wipe_length]
      refine ⟨N - (i + 1), by rw [a.left]; omega, i + 1, H', ⟨(I'.unpinned (pins := [])).weak len fun j v e => ?_, Tn.keep _ _ _ t2 fun b hb o e => (held b hb o e).1, fun b hb => ?_, on, rfl⟩⟩
      · rw [← hw] at e
        exact (wipe_some e).1
      · obtain ⟨o, e, _⟩ := Tn.obj _ _ t2 b hb
        exact (held b hb o e).2
    refine thnF (cl (pt.run _ s3 τ H3 _ I3 w3)) fun b s4 ⟨H4, I4, w4⟩ => ?_
    cases b with
    | false =>
      rw [if_neg (by simp)] at w4
      rw [if_neg (by simp)]
      exact next I4 w4
    | true =>
      rw [if_pos rfl] at w4
      rw [if_pos rfl]
      refine thnF (cl (pk.run _ s4 τ H4 _ I4 w4)) fun kv s5 ⟨y, H5, I5, r5, w5⟩ => ?_
      refine thnF (cl (pv.run _ s5 τ H5 _ I5 w5)) fun vv s6 ⟨z, H6, I6, r6, kvs, k, c, ey, hc6, hT, hz, on⟩ => ?_
      subst ey
      obtain rfl : kv = Value.ref c := r5
      exact storeT hu I6 hT hz hc6 r6 fun s7 I7 => next I7 on
theorem dcT_core {pins : List (Addr × Obj)} {s : Shared} {σ : L2.St} {H : Hp} {Q : VK} {use : Option (Value → Sem Unit)} {Qf : Value → Shared → Prop} {kx vx tg iter : Expr} {ifs : List Expr} {scope : Scope} {own : List (Str × Nat)} {pos pos' : Pos} {wi : TI} {g : TG} {tt : TT} {tk tv : TE} (hu : X.A.units + 1 < cLine) (hc : X.calm = true) (hN : X.N.Nodup) (hi : PI X tg iter wi) (ok : BlkOk X.N X.env.scope scope own)
    (hg : ∀ (s : Shared) (H : Hp) (L : Addr) (cl : List (Str × Addr)) (fp : List Addr), PG (X.blk s H scope (compEnvC scope cl L X.env) fp) tg g) (ht : ∀ (s : Shared) (H : Hp) (L : Addr) (cl : List (Str × Addr)) (fp : List Addr), PTs (X.blk s H scope (compEnvC scope cl L X.env) fp) ifs tt)
    (hk : ∀ (s : Shared) (H : Hp) (L : Addr) (cl : List (Str × Addr)) (fp : List Addr), PE (X.blk s H scope (compEnvC scope cl L X.env) fp) kx tk)
    (hv : ∀ (s : Shared) (H : Hp) (L : Addr) (cl : List (Str × Addr)) (fp : List Addr), PE (X.blk s H scope (compEnvC scope cl L X.env) fp) vx tv) (hs : ∀ x, foldedSetIterable iter X.env x = pure x)
    (I : Inv X pins σ H s) (h : tDcT wi g tt tk tv (own.map (·.2)) σ H Q)
    (back : ∀ T L s' m H', Inv X pins σ H' s' → Q (.ref T) H' → s'.heap.Ns L m → FpOk X pins H' L → compPost (model X.prog X.w) X.A X.xe use Qf (.ref T) L (.ok .next) s') :
    wpAny (model X.prog X.w) X.A (comprehension (.DictComp kx vx [⟨tg, iter, ifs, 0⟩] scope pos) scope X.env pos' newDict false (eval iter X.env) use) Qf X.xe s := by
  refine wpAny_comprehension_free (use := use) rfl hs (closure_ok fun y hy e => (ok.free y hy e).elim (fun z => I.ok.has _ (.inl z)) fun z => I.ok.has _ (.inr z)) ok.kind (fun y hy e => by rw [ok.uniq y hy, e])
    (thn (hi.run pins s σ H _ I h) fun _ s1 a1 => thn a1 fun _ s2 ⟨it, fp, tn, J, H2, e2, I2, Tn, t2, f2, q2⟩ => ?_)
  subst e2
  refine wpAny_newObj_type (newEnv_comp ?_)
  -- T: the new dict
  obtain ⟨T, eT⟩ : ∃ T, T = s2.heap.objs.size := ⟨_, rfl⟩
  rw [← eT]
  obtain ⟨N, S, S0, word⟩ := q2 T (I2.hok.fresh (Nat.le_of_eq eT.symm))
  obtain ⟨s3, e3⟩ : ∃ s3 : Shared, s3 = { s2 with heap := s2.heap.push { cls := .type "dict", data := .dict #[] } } := ⟨_, rfl⟩
  rw [← e3]
  have h3 : s3.heap = s2.heap.push { cls := .type "dict", data := .dict #[] } := by rw [e3]
  have I3 : Inv X pins σ (upd H2 T (.dT [])) s3 := by
    rw [e3, eT]
    exact I2.laid (t' := s2.toks) (fun b o e => Heap.get?_push_of_some _ e) (Nat.le_refl _) (dt_empty s2.heap I2.big)
  obtain ⟨H3, eH⟩ : ∃ H3, H3 = upd H2 T (.dT []) := ⟨_, rfl⟩
  rw [← eH] at I3 S0
  have f3 : ∀ b ∈ fp, FpOk X pins H3 b ∧ b < s3.heap.objs.size := fun b hb => by
    obtain ⟨o, e, _⟩ := Tn.obj _ _ t2 b hb
    have lt := Heap.lt_size e
    refine ⟨⟨?_, (f2 b hb).2⟩, by rw [h3, Heap.size_push]; exact Nat.lt_succ_of_lt lt⟩
    rw [eH, upd_ne (by rw [eT]; exact Nat.ne_of_lt lt)]
    exact (f2 b hb).1
  have t3 : tn 0 s3.heap := Tn.keep _ _ _ t2 fun b _ o e => by rw [h3]; exact Heap.get?_push_of_some _ e
  have I4 := block_start I3 ok hN f3
  obtain ⟨cl, ecl⟩ : ∃ cl, cl = cellsFrom (s3.heap.objs.size + 1) scope.names (cloFrom X.env.cells scope.names []) := ⟨_, rfl⟩
  rw [← ecl] at I4
  have pg := hg s3 H3 s3.heap.objs.size cl fp
  have pt := ht s3 H3 s3.heap.objs.size cl fp
  have pk := hk s3 H3 s3.heap.objs.size cl fp
  have pv := hv s3 H3 s3.heap.objs.size cl fp
  show codeAny _ _ (.compStart (.DictComp kx vx [⟨tg, iter, ifs, 0⟩] scope pos) 0 (.ref it) (.ref T) (compEnvC scope (cellsFrom (s3.heap.objs.size + 1) scope.names (cloFrom X.env.cells scope.names [])) s3.heap.objs.size X.env)) _ { s3 with heap := pushCells (s3.heap.push { cls := .type "dict", data := .dict #[] }) scope.names }
  rw [← ecl]
  obtain ⟨ce, ece⟩ : ∃ ce, ce = compEnvC scope cl s3.heap.objs.size X.env := ⟨_, rfl⟩
  have cL : ce.locals = s3.heap.objs.size := by rw [ece]; rfl
  rw [← ece] at I4 pg pt pk pv ⊢
  obtain ⟨s4, e4⟩ : ∃ s4 : Shared, s4 = { s3 with heap := pushCells (s3.heap.push { cls := .type "dict", data := .dict #[] }) scope.names } := ⟨_, rfl⟩
  rw [← e4] at I4 ⊢
  have t4 : tn 0 s4.heap := Tn.keep _ _ _ t3 fun b _ o e => by rw [e4]; exact pushCells_keeps _ _ _ _ (Heap.get?_push_of_some _ e)
  have stat : ∀ {τ : L2.St} {H' : Hp} {s' : Shared}, Inv (X.blk s3 H3 scope ce fp) [] τ H' s' → (∀ b ∈ fp, H' b = none) → ∀ b ∈ fp, FpOk (X.blk s3 H3 scope ce fp) [] H' b := fun {τ H' s'} I' o b hb =>
    ⟨o b hb, (I'.ok.exf b hb).1, I'.ok.exfs b hb, .inl hb, fun x c e => (I'.ok.exf b hb).2 x c e, fun p hp => by cases hp⟩
  have lp := turnT (B := X.blk s3 H3 scope ce fp) (τ0 := σ) (vs := own.map (·.2)) (kx := kx) (vx := vx) (T := T) (N := N) (S := S) (Qd := fun H => Q (.ref T) H) (R := compPost (model X.prog X.w) X.A X.xe use Qf (.ref T) s3.heap.objs.size) hu rfl hc pg pt pk pv Tn stat word
    (fun H' s' I' hq => by
      have I7 : Inv X pins σ H' s' := I3.call' (ch := fp) I'.os I'.base I'.hok I'.bare fun b hb => ⟨(f3 b hb).1.2.2.2.1, (f3 b hb).1.2.1, (f3 b hb).1.2.2.2.2.1, (f3 b hb).1.2.2.2.2.2⟩
      have nC : H' s3.heap.objs.size = none := by rw [← cL]; exact I'.free
      obtain ⟨m, hn, _⟩ := I'.loc
      have hn : s'.heap.Ns ce.locals m := hn
      rw [cL] at hn
      exact back T s3.heap.objs.size s' m H' I7 hq hn (I3.fpOk (Nat.le_refl _) nC))
  have loop : codeAny (model X.prog X.w) X.A (.compLoop (.DictComp kx vx [⟨tg, iter, ifs, 0⟩] scope pos) 0 (.ref it) (.ref T) ce) (compPost (model X.prog X.w) X.A X.xe use Qf (.ref T) s3.heap.objs.size) s4 :=
    compLoop_anyD _ lp N ⟨0, H3, ⟨I4, t4, fun b hb => (f3 b hb).1.1, S0, by omega⟩⟩
  exact codeAny_compStart_dict loop (Tn.self X.A 0 _ _ _ t4 loop)
theorem pe_dcT {kx vx tg iter : Expr} {ifs : List Expr} {scope : Scope} {own : List (Str × Nat)} {pos : Pos} {wi : TI} {g : TG} {tt : TT} {tk tv : TE} (hu : X.A.units + 1 < cLine) (hc : X.calm = true) (hN : X.N.Nodup) (hi : PI X tg iter wi) (ok : BlkOk X.N X.env.scope scope own)
    (hg : ∀ (s : Shared) (H : Hp) (L : Addr) (cl : List (Str × Addr)) (fp : List Addr), PG (X.blk s H scope (compEnvC scope cl L X.env) fp) tg g) (ht : ∀ (s : Shared) (H : Hp) (L : Addr) (cl : List (Str × Addr)) (fp : List Addr), PTs (X.blk s H scope (compEnvC scope cl L X.env) fp) ifs tt)
    (hk : ∀ (s : Shared) (H : Hp) (L : Addr) (cl : List (Str × Addr)) (fp : List Addr), PE (X.blk s H scope (compEnvC scope cl L X.env) fp) kx tk)
    (hv : ∀ (s : Shared) (H : Hp) (L : Addr) (cl : List (Str × Addr)) (fp : List Addr), PE (X.blk s H scope (compEnvC scope cl L X.env) fp) vx tv) (hs : ∀ x, foldedSetIterable iter X.env x = pure x := by intro _; rfl) :
    PE X (.DictComp kx vx [⟨tg, iter, ifs, 0⟩] scope pos) (tDcT wi g tt tk tv (own.map (·.2))) := by
  refine ⟨fun pins s σ H Q I h => ?_⟩
  rw [arm_eval_DictComp]
  refine dcT_core hu hc hN hi ok hg ht hk hv hs I h fun T L s' m H' I' q hn f => ⟨m, hn, fun h2 sb => ?_⟩
  obtain ⟨c0, c1, c2, c3, c4, c5⟩ := f
  exact ⟨.ref T, H', I'.turned (t' := s'.toks) (fun b o hb e => (sb.2 b hb).trans e) c0 c1 c3 c4 c5, rfl, q⟩
theorem ps_setDcT {i : Nat} {y : Str} {py spos : Pos} {kx vx tg iter : Expr} {ifs : List Expr} {scope : Scope} {own : List (Str × Nat)} {pos : Pos} {wi : TI} {g : TG} {tt : TT} {tk tv : TE} (hu : X.A.units + 1 < cLine) (hc : X.calm = true) (hN : X.N.Nodup) (hi : PI X tg iter wi) (ok : BlkOk X.N X.env.scope scope own)
    (hg : ∀ (s : Shared) (H : Hp) (L : Addr) (cl : List (Str × Addr)) (fp : List Addr), PG (X.blk s H scope (compEnvC scope cl L X.env) fp) tg g) (ht : ∀ (s : Shared) (H : Hp) (L : Addr) (cl : List (Str × Addr)) (fp : List Addr), PTs (X.blk s H scope (compEnvC scope cl L X.env) fp) ifs tt)
    (hk : ∀ (s : Shared) (H : Hp) (L : Addr) (cl : List (Str × Addr)) (fp : List Addr), PE (X.blk s H scope (compEnvC scope cl L X.env) fp) kx tk)
    (hv : ∀ (s : Shared) (H : Hp) (L : Addr) (cl : List (Str × Addr)) (fp : List Addr), PE (X.blk s H scope (compEnvC scope cl L X.env) fp) vx tv) (hy : X.N[i]? = some y) (hyl : X.env.scope.names.lookup y = some .local) (hsw : swapsWith (.DictComp kx vx [⟨tg, iter, ifs, 0⟩] scope pos) (some (.Name y py)) spos.line X.env = pure true) (hs : ∀ x, foldedSetIterable iter X.env x = pure x := by intro _; rfl) :
    PS X (.Assign [.Name y py] (.DictComp kx vx [⟨tg, iter, ifs, 0⟩] scope pos) spos) (tAsg (tDcT wi g tt tk tv (own.map (·.2))) (gName i)) := by
  refine ⟨fun pins s σ H D I h => ?_⟩
  rw [exec_Assign_Name_used _ _ _ _ hsw]
  refine wpAny_bind (wpAny_standAt (wpAny_bind ?_))
  show wpAny _ X.A (do let _ ← comprehension (.DictComp kx vx [⟨tg, iter, ifs, 0⟩] scope pos) scope X.env (firstIterPos [⟨tg, iter, ifs, 0⟩] pos) newDict false (eval iter X.env) (some (assign (.Name y py) X.env))) _ _ s
  have h2 : tDcT wi g tt tk tv (own.map (·.2)) σ H (fun x H1 => gName i x σ H1 D.nx) := h
  refine wpAny_bind (thn (dcT_core (Qf := fun _ s' => SP X pins D .next s') hu hc hN hi ok hg ht hk hv hs I h2 fun T L s' m H' I' q hn f => ?_) fun _ s' hq => wpAny_pure (wpAny_pure hq))
  show wpAny _ _ (assign (.Name y py) X.env (.ref T)) _ _ _
  refine wpAny_assign_Name (store_ok2 (v := V.ref T) I' hN hy (.inl hyl) rfl (fun s2 I2 ⟨a, sb, ha⟩ => ?_) (.inr hyl))
  obtain ⟨c0, c1, c2, c3, c4, c5⟩ := f
  have ne : L ≠ a := ha.elim (fun z => by rw [z]; exact c1) fun z e => c4 y a z e.symm
  exact ⟨m, hn.sameBut sb ne, fun h3 sb3 => ⟨_, H', I2.turned (t' := s2.toks) (fun b o hb e => (sb3.2 b hb).trans e) c0 c1 c3 c4 c5, q⟩⟩
theorem sw_trueD {kx vx : Expr} {gs : List Comprehension} {scope : Scope} {pos py : Pos} {y : Str} {l : Nat} {env : Env} (hk : env.scope.kind = .function) (hy : env.scope.names.lookup y = some .local) (hl : (py.line == pos.line) = true)
    (ha : (scope.names.any fun (n, k) => n == y && (k == .local || k == .cell)) = false) : swapsWith (.DictComp kx vx gs scope pos) (some (.Name y py)) l env = pure true := by
  have ky : env.kindOf y = some .local := hy
  have hb : env.blockKind = .function := by unfold Env.blockKind; rw [hk]; rfl
  unfold swapsWith
  simp only [hb, ky, ha, Expr.pos, hl]
  rfl
end
section
variable {C : Cfg}
theorem RE.otherT {ad : Nat → Addr} {σ : L2.St} {H : Hp} {env : Sls} (R : RE C ad H σ env) {a : Addr} {us us' : List (List Key × V)} (ha : C.M0 a) (hno : ¬ Ow env ad a) (h0 : C.H0 a = none) (ho : H a = some (.dT us)) : RE C ad (upd H a (.dT us')) σ env ∧ Ext (fun b => b = a) H (upd H a (.dT us')) := by
  have x : Ext (fun b => b = a) H (upd H a (.dT us')) := by
    refine ⟨fun b o e n _ => by rw [upd_ne n]; exact e, fun b xs e => ?_, fun b o u e => ?_, fun b e => ?_⟩
    · rw [upd_ne fun q => by rw [q, ho] at e; cases e]; exact e
    · rw [upd_ne fun q => by rw [q, ho] at e; cases e]; exact e
    · by_cases q : b = a
      · rw [q, upd_same]; exact fun z => nomatch z
      · rw [upd_ne q]; exact e
  refine ⟨⟨R.len, fun i s h => ?_, R.inj, R.loc, R.par, fun b o e n nt => ?_, R.frk, fun b e => x.trk b (R.trk b e), fun b e => x.trk b (R.m0 b e), tabs_off ho (fun _ z => nomatch z) (fun _ _ z => by unfold LamX.CodeO at z; cases z) R.tabs⟩, x⟩
  · refine SlOk.ext (C := C) (R.sl i s h) (fun o => ?_) (x.mono fun b e => .inl (e ▸ ha)) fun b z => .inl z
    rw [upd_ne fun e => hno ⟨i, s, h, o, e⟩]
  · rw [upd_ne fun q => by rw [q, h0] at e; cases e]
    exact R.same b o e n nt
end
abbrev KDs := List (List Key × D)
def dcL (vs : List Nat) (g : Gv) (tt : Ev1) (ms : Evs) (mv : Ev) : List D → KDs → Sls → Res (KDs × Sls)
  | [], acc, env => .ok (acc, env)
  | d :: ds, acc, env => do
    let e1 ← noE (g d env)
    let b ← noE (tt e1)
    if b.1 = true then do
      let r ← noE (ms b.2)
      let ys ← kpL r.1
      (match keysL ys with
      | some kk => if ys.length ≤ 1000 ∧ acc.length < sizeLine then do
          let q ← noE (mv r.2)
          let y ← kp q.1
          dcL vs g tt ms mv ds (putD acc kk y) (wipeE q.2 vs)
        else .bad
      | none => .bad)
    else dcL vs g tt ms mv ds acc (wipeE b.2 vs)
def mDcT (mi : Em) (vs : List Nat) (g : Gv) (tt : Ev1) (ms : Evs) (mv : Ev) : Ev := fun env => do
  let r ← mi env
  if okWipe r.2 vs = true then do
    let q ← dcL vs g tt ms mv r.1 [] (wipeE r.2 vs)
    pure (.dct q.1, backE r.2 q.2 vs)
  else .bad
section
variable {X : Cx} {C : Cfg} {W : WX} {k : Nat}
theorem dcT_sn {g : TG} {gv : Gv} {tt : TT} {mt : Ev1} {wi : TI} {mi : Em} {vs : List Nat} {tk : TA} {ms : Evs} {tv : TE} {mv : Ev} (hi : ∀ (M0 : Addr → Prop) (ad : Nat → Addr) (σ : L2.St) (H : Hp) (env : Sls) (R : It → Hp → Prop), RE (C.w M0) ad H σ env →
      (mi env).Wp (fun r => ∀ J hs H', RE (C.w M0) ad H' σ r.2 → Stp (C.w M0) ad H env H' r.2 → RpH C.K H' (Mo (C.w M0) r.2 ad) hs → Wk C.K J hs r.1 → r.1.length ≤ sizeLine → R J H') (Er (C.w M0) ad σ W) → wi σ H R)
    (hg : ∀ (M0 : Addr → Prop) (ad : Nat → Addr) (σ : L2.St) (H : Hp) (env : Sls) (d : D) (v : V) (Q : L2.St → Hp → Prop), RE (C.w M0) ad H σ env → Rp C.K H (Mo (C.w M0) env ad) d v →
      (gv d env).Wp (fun env' => ∀ σ', RE (C.w M0) ad H σ' env' → (∀ a, Ow env' ad a → Ow env ad a) → σ'.length = σ.length → (∀ j, j ∉ vs → σ'[j]? = σ[j]?) → Q σ' H) (fun _ => False) → g v σ H Q)
    (ht : ∀ (M0 : Addr → Prop) (ad : Nat → Addr) (σ : L2.St) (H : Hp) (env : Sls) (Q : Bool → Hp → Prop), RE (C.w M0) ad H σ env →
      (mt env).Wp (fun r => ∀ H', RE (C.w M0) ad H' σ r.2 → Stp (C.w M0) ad H env H' r.2 → Q r.1 H') (Er (C.w M0) ad σ W0) → tt σ H Q)
    (hk : ∀ (M0 : Addr → Prop) (ad : Nat → Addr) (σ : L2.St) (H : Hp) (env : Sls) (Q : List V → Hp → Prop), RE (C.w M0) ad H σ env →
      (ms env).Wp (fun r => ∀ us H', RE (C.w M0) ad H' σ r.2 → Stp (C.w M0) ad H env H' r.2 → VRL (C.w M0) ad H' σ r.2 r.1 us → Q us H') (Er (C.w M0) ad σ W0) → tk σ H Q)
    (hv : ∀ (M0 : Addr → Prop) (ad : Nat → Addr) (σ : L2.St) (H : Hp) (env : Sls) (Q : VK), RE (C.w M0) ad H σ env →
      (mv env).Wp (fun r => ∀ v H', RE (C.w M0) ad H' σ r.2 → Stp (C.w M0) ad H env H' r.2 → VR (C.w M0) ad H' σ r.2 r.1 v → Q v H') (Er (C.w M0) ad σ W0) → tv σ H Q)
    {M0 : Addr → Prop} {ad : Nat → Addr} {σ : L2.St} {H : Hp} {env : Sls} {Q : VK} (R : RE (C.w M0) ad H σ env)
    (w : (mDcT mi vs gv mt ms mv env).Wp (fun r => ∀ a H', H a = none → RE ((C.w M0).add a) ad H' σ r.2 → Stp (C.w M0) ad H env H' r.2 → CellOk C.K H' (Mo ((C.w M0).add a) r.2 ad) r.1 a → Q (.ref a) H') (Er (C.w M0) ad σ W)) : tDcT wi g tt (tTup tk) tv vs σ H Q := by
  unfold mDcT at w
  rw [wp_bind] at w
  refine hi M0 ad σ H env _ R (w.imp (fun r w1 J hds H1 R1 S1 Rh Wlk Hz => ?_) fun _ z => z)
  clear w
  obtain ⟨ds, env1⟩ := r
  simp only at w1 R1 S1 Rh Wlk Hz
  split at w1
  · rename_i hw
    intro L hL
    rw [wp_bind] at w1
    have sL : Same H1 (upd H1 L (.dT [])) := same_new hL
    have HL0 : H L = none := by
      cases z : H L with
      | none => rfl
      | some o => exact absurd hL (S1.ext.trk L (by rw [z]; exact fun z => nomatch z))
    have h0L : C.H0 L = none := by
      cases z : C.H0 L with
      | none => rfl
      | some o => exact absurd hL (R1.trk L (by show C.H0 L ≠ none; rw [z]; exact fun z => nomatch z))
    have LnO : ¬ Ow env1 ad L := fun z => R1.mtrk (.inr z) hL
    have RA : RE ((C.w M0).add L) ad (upd H1 L (.dT [])) σ env1 := R1.growAdd sL hL (by rw [upd_same]; exact fun z => nomatch z)
    refine ⟨ds.length, fun i H => i ≤ ds.length ∧ ∃ (env' : Sls) (acc : KDs) (us : List (List Key × V)), RE ((C.w M0).add L) ad H (L2.wipe σ vs) env' ∧ Ext (Ow env1 ad) H1 H ∧ (∀ a, Ow env' ad a → Ow env1 ad a) ∧
        H L = some (.dT us) ∧ RpK C.K H (Mo ((C.w M0).add L) env' ad) acc us ∧ acc.length ≤ sizeLine ∧
        (dcL vs gv mt ms mv (ds.drop i) acc env').Wp (fun q => ∀ H', RE ((C.w M0).add L) ad H' σ (backE env1 q.2 vs) → Ext (Ow env1 ad) H1 H' → (∀ a, Ow (backE env1 q.2 vs) ad a → Ow env1 ad a) →
          CellOk C.K H' (Mo ((C.w M0).add L) (backE env1 q.2 vs) ad) (.dct q.1) L → Q (.ref L) H') (fun _ => True), ⟨Nat.zero_le _, wipeE env1 vs, [], [], RA.wipe vs, .of_same sL, ow_wipe vs, upd_same, ⟨rfl, fun i p q e _ => by simp at e, fun i p q e _ => by simp at e⟩, Nat.zero_le _, ?_⟩, ?_⟩
    · rw [List.drop_zero]
      cases q : dcL vs gv mt ms mv ds [] (wipeE env1 vs) with
      | ok r =>
        rw [q] at w1
        intro H' R' x' mo' c'
        exact w1 L H' HL0 R' (S1.trans ⟨x', mo'⟩) c'
      | err c => exact True.intro
      | bad => rw [q] at w1; exact w1.elim
    · rintro i H2 ⟨hil, env2, acc, us, R2, x2, ow2, hus, rac, hacc, w2⟩
      have Rh2 : RpH C.K H2 (Mo ((C.w M0).add L) env2 ad) hds := Rh.ext (x2.mono fun a z => .inr z) fun b z => by
        rcases mo_add.mp z with z | z
        · exact .inl (z.imp id (ow2 b))
        · exact .inr (z ▸ hL)
      by_cases hlt : i < ds.length
      · have ed : ds[i]? = some ds[i] := List.getElem?_eq_getElem hlt
        have edr : ds.drop i = ds[i] :: ds.drop (i + 1) := List.drop_eq_getElem_cons hlt
        obtain ⟨hgo, hy⟩ := Wlk.go H2 _ i _ (fun a z => R2.mtrk z) Rh2 ed
        rw [edr] at w2
        unfold dcL at w2
        refine .inr ⟨hlt, hgo, fun x H3 y => ?_⟩
        obtain ⟨s3, rx⟩ := hy x H3 y
        have R3 : RE ((C.w M0).add L) ad H3 (L2.wipe σ vs) env2 := R2.grow s3
        rw [wp_bind] at w2
        refine hg _ ad (L2.wipe σ vs) H3 env2 ds[i] x _ R3 rx ((noE_wp (E' := fun _ => False) w2).imp (fun env3 w3 σ3 R3' ow3 l3 o3 => ?_) fun _ z => z)
        have ew : L2.wipe σ3 vs = L2.wipe σ vs := by
          rw [st_wipe_eq l3 o3]
          exact st_wipe_eq (wipe_length _ _) fun j hj => wipe_out hj
        refine ⟨ew, ?_⟩
        rw [wp_bind] at w3
        refine ht _ ad σ3 H3 env3 _ R3' ((noE_wp (E' := Er ((C.w M0).add L) ad σ3 W0) w3).imp (fun b w4 H4 R4 S4 => ?_) fun _ z => z)
        have x4 : Ext (Ow env1 ad) H2 H4 := (Ext.of_same s3).trans (S4.ext.mono fun a z => ow2 a (ow3 a z))
        have ow4 : ∀ a, Ow b.2 ad a → Ow env1 ad a := fun a z => ow2 a (ow3 a (S4.ow a z))
        have lowM : ∀ {e1 e2 : Sls}, (∀ a, Ow e2 ad a → Ow e1 ad a) → ∀ a, Mo ((C.w M0).add L) e2 ad a → Mo ((C.w M0).add L) e1 ad a := fun h a z => z.imp id (h a)
        split
        · rename_i hb
          rw [if_pos hb, wp_bind] at w4
          refine hk _ ad σ3 H4 b.2 _ R4 ((noE_wp (E' := Er ((C.w M0).add L) ad σ3 W0) w4).imp (fun r w5 ks H5 R5 S5 V5 => ?_) fun _ z => z)
          rw [wp_bind] at w5
          obtain ⟨w6, rks⟩ := kpL_rp V5 w5
          cases ek : keysL r.1 with
          | none => rw [ek] at w6; exact w6.elim
          | some kk =>
            rw [ek] at w6
            simp only at w6
            split at w6
            · rename_i hz
              have ekv := keysL_vs ek rks
              refine ⟨by rw [rks.len]; exact Nat.le_trans hz.1 (by decide), fun p hn => ?_⟩
              have sP : Same H5 (upd H5 p (.tup ks)) := same_new hn
              have R6 := R5.grow sP
              rw [wp_bind] at w6
              refine hv _ ad σ3 _ r.2 _ R6 ((noE_wp (E' := Er ((C.w M0).add L) ad σ3 W0) w6).imp (fun q w7 v H7 R7 S7 V7 => ?_) fun _ z => z)
              rw [wp_bind] at w7
              obtain ⟨_, w8, rv⟩ := kp_rp V7 w7
              have x5 : Ext (Ow env1 ad) H2 H5 := x4.trans (S5.ext.mono ow4)
              have ow5 : ∀ a, Ow r.2 ad a → Ow env1 ad a := fun a z => ow4 a (S5.ow a z)
              have x7 : Ext (Ow env1 ad) H2 H7 := (x5.trans (.of_same sP)).trans (S7.ext.mono ow5)
              have ow7 : ∀ a, Ow q.2 ad a → Ow env1 ad a := fun a z => ow5 a (S7.ow a z)
              have hL7 : H7 L = some (.dT us) := x7.stay L _ hus LnO fun _ z => nomatch z
              have hp7 : H7 p = some (.tup (kk.map kV)) := by rw [← ekv]; exact S7.ext.tups p ks upd_same
              obtain ⟨R8, x8⟩ := R7.otherT (us' := putK us kk v) (.inr rfl) (fun z => LnO (ow7 L z)) h0L hL7
              have rac7 : RpK C.K H7 (Mo ((C.w M0).add L) q.2 ad) acc us := rac.ext (((Ext.of_same s3).trans ((S4.ext.trans (S5.ext.mono S4.ow)).mono fun a z => .inr (ow3 a z))).trans ((Ext.of_same sP).trans (S7.ext.mono fun a z => .inr (ow3 a (S4.ow a (S5.ow a z)))))) fun a z => .inl (z.imp id fun z => ow3 a (S4.ow a (S5.ow a (S7.ow a z))))
              refine ⟨us, kk, p, rfl, hp7, hL7, by rw [rac7.len]; exact hz.2, hlt, wipeE q.2 vs, putD acc kk q.1, putK us kk v, by rw [← ew]; exact R8.wipe vs, ?_, fun a z => ow7 a (ow_wipe vs a z), upd_same, ?_, Nat.le_trans (length_putD _ _ _) hz.2, w8⟩
              · refine ⟨fun b o e n nt => ?_, fun b xs e => ?_, fun b o u e => ?_, fun b e => ?_⟩
                · rw [upd_ne fun q => by rw [q, hL] at e; cases e]
                  exact x7.stay b o (x2.stay b o e n nt) n nt
                · rw [upd_ne fun q => by rw [q, hL] at e; cases e]
                  exact x7.tups b xs (x2.tups b xs e)
                · rw [upd_ne fun q => by rw [q, hL] at e; cases e]
                  exact x7.frzs b o u (x2.frzs b o u e)
                · rw [upd_ne fun q => by rw [q] at e; exact e hL]
                  exact x7.trk b (x2.trk b e)
              · refine (rac7.put rv).ext (x8.mono fun b e => ?_) fun a z => .inl (lowM (fun a z => ow_wipe vs a z) a z)
                rw [e]
                exact .inl (.inr rfl)
            · exact w6.elim
        · rename_i hb
          rw [if_neg hb] at w4
          have hL4 : H4 L = some (.dT us) := x4.stay L _ hus LnO fun _ z => nomatch z
          refine ⟨hlt, wipeE b.2 vs, acc, us, by rw [← ew]; exact R4.wipe vs, x2.trans x4, fun a z => ow4 a (ow_wipe vs a z), hL4, ?_, hacc, w4⟩
          exact rac.ext ((Ext.of_same s3).trans (S4.ext.mono fun a z => .inr (ow3 a z))) fun a z => .inl (z.imp id fun z => ow3 a (S4.ow a (ow_wipe vs a z)))
      · have ei : i = ds.length := by omega
        subst ei
        rw [List.drop_length] at w2
        unfold dcL at w2
        refine .inl ⟨Wlk.stop H2 _ Rh2, ?_⟩
        have xb : Ext (Mo ((C.w M0).add L) env1 ad) (upd H1 L (.dT [])) H2 := by
          refine ⟨fun b o e n nt => ?_, fun b xs e => ?_, fun b o u e => ?_, fun b e => ?_⟩
          · rw [upd_ne fun q => n (.inl (.inr q))] at e
            exact x2.stay b o e (fun z => n (.inr z)) nt
          · by_cases q : b = L
            · rw [q, upd_same] at e; cases e
            · rw [upd_ne q] at e; exact x2.tups b xs e
          · by_cases q : b = L
            · rw [q, upd_same] at e; cases e
            · rw [upd_ne q] at e; exact x2.frzs b o u e
          · by_cases q : b = L
            · rw [q, hus]; exact fun z => nomatch z
            · rw [upd_ne q] at e; exact x2.trk b e
        obtain ⟨RB, mb⟩ := RE.back RA xb R2 ow2 hw
        rw [backS_wipe] at RB
        exact w2 H2 RB x2 (fun a z => ow2 a (mb a z)) ⟨hacc, us, hus, rac.ext .refl fun a z => .inl (z.imp id (mb a))⟩
  · exact w1.elim
variable {tg iter vx : Expr} {ks ifs : List Expr} {scope : Scope} {own : List (Str × Nat)} {wi : TI} {gt : TG} {tt : TT} {tk : TA} {tv : TE} {mi : Em} {gv : Gv} {mt : Ev1} {ms : Evs} {mv : Ev} {pos tp : Pos}
theorem ef_dcT {x1} (g : Gd X C W k) (hi : IM X C W tg iter wi mi) (ok : BlkOk X.N X.env.scope scope own)
    (hg : ∀ (s : Shared) (H : Hp) (L : Addr) (cl : List (Str × Addr)) (fp : List Addr), Gd (X.blk s H scope (compEnvC scope cl L X.env) fp) C W0 k → GM (X.blk s H scope (compEnvC scope cl L X.env) fp) C tg gt (own.map (·.2)) gv)
    (ht : ∀ (s : Shared) (H : Hp) (L : Addr) (cl : List (Str × Addr)) (fp : List Addr), Gd (X.blk s H scope (compEnvC scope cl L X.env) fp) C W0 k → TMs (X.blk s H scope (compEnvC scope cl L X.env) fp) C W0 ifs tt mt)
    (hk : ∀ (s : Shared) (H : Hp) (L : Addr) (cl : List (Str × Addr)) (fp : List Addr), Gd (X.blk s H scope (compEnvC scope cl L X.env) fp) C W0 k → AM (X.blk s H scope (compEnvC scope cl L X.env) fp) C W0 ks tk ms)
    (hv : ∀ (s : Shared) (H : Hp) (L : Addr) (cl : List (Str × Addr)) (fp : List Addr), Gd (X.blk s H scope (compEnvC scope cl L X.env) fp) C W0 k → EM (X.blk s H scope (compEnvC scope cl L X.env) fp) C W0 vx tv mv)
    (hs : ∀ x, foldedSetIterable iter X.env x = pure x := by intro _; rfl) :
    EF X C W (.DictComp (.Tuple ks x1 tp) vx [⟨tg, iter, ifs, 0⟩] scope pos) (tDcT wi gt tt (tTup tk) tv (own.map (·.2))) (mDcT mi (own.map (·.2)) gv mt ms mv) :=
  ⟨pe_dcT (hu_of g.room) g.calm g.nd hi.pe ok (fun s H L cl fp => (hg s H L cl fp g.blk).pe) (fun s H L cl fp => (ht s H L cl fp g.blk).pe) (fun s H L cl fp => pe_tup (hk s H L cl fp g.blk).pe) (fun s H L cl fp => (hv s H L cl fp g.blk).pe) hs,
    fun M0 ad σ H env Q R w => dcT_sn hi.sn (hg X.s_0 X.H_0 0 [] [] g.blk).sn (ht X.s_0 X.H_0 0 [] [] g.blk).sn (hk X.s_0 X.H_0 0 [] [] g.blk).sn (hv X.s_0 X.H_0 0 [] [] g.blk).sn R w⟩
theorem sm_dcTA {x1} {fresh : Bool} {i : Nat} {y : Str} {py spos : Pos} (g : Gd X C W k) (hi : IM X C W tg iter wi mi) (ok : BlkOk X.N X.env.scope scope own)
    (hg : ∀ (s : Shared) (H : Hp) (L : Addr) (cl : List (Str × Addr)) (fp : List Addr), Gd (X.blk s H scope (compEnvC scope cl L X.env) fp) C W0 k → GM (X.blk s H scope (compEnvC scope cl L X.env) fp) C tg gt (own.map (·.2)) gv)
    (ht : ∀ (s : Shared) (H : Hp) (L : Addr) (cl : List (Str × Addr)) (fp : List Addr), Gd (X.blk s H scope (compEnvC scope cl L X.env) fp) C W0 k → TMs (X.blk s H scope (compEnvC scope cl L X.env) fp) C W0 ifs tt mt)
    (hk : ∀ (s : Shared) (H : Hp) (L : Addr) (cl : List (Str × Addr)) (fp : List Addr), Gd (X.blk s H scope (compEnvC scope cl L X.env) fp) C W0 k → AM (X.blk s H scope (compEnvC scope cl L X.env) fp) C W0 ks tk ms)
    (hv : ∀ (s : Shared) (H : Hp) (L : Addr) (cl : List (Str × Addr)) (fp : List Addr), Gd (X.blk s H scope (compEnvC scope cl L X.env) fp) C W0 k → EM (X.blk s H scope (compEnvC scope cl L X.env) fp) C W0 vx tv mv)
    (hy : X.N[i]? = some y := by rfl) (hyl : X.env.scope.names.lookup y = some .local := by rfl) (hsw : swapsWith (.DictComp (.Tuple ks x1 tp) vx [⟨tg, iter, ifs, 0⟩] scope pos) (some (.Name y py)) spos.line X.env = pure true := by exact sw_trueD rfl rfl rfl (by decide +kernel)) (hs : ∀ x, foldedSetIterable iter X.env x = pure x := by intro _; rfl) :
    SM X C W (.Assign [.Name y py] (.DictComp (.Tuple ks x1 tp) vx [⟨tg, iter, ifs, 0⟩] scope pos) spos) (tAsg (tDcT wi gt tt (tTup tk) tv (own.map (·.2))) (gName i)) (match fresh with | true => mSetL i (mDcT mi (own.map (·.2)) gv mt ms mv) | false => mSet i (mDcT mi (own.map (·.2)) gv mt ms mv)) := by
  have hp : PS X (.Assign [.Name y py] (.DictComp (.Tuple ks x1 tp) vx [⟨tg, iter, ifs, 0⟩] scope pos) spos) (tAsg (tDcT wi gt tt (tTup tk) tv (own.map (·.2))) (gName i)) := ps_setDcT (hu_of g.room) g.calm g.nd hi.pe ok (fun s H L cl fp => (hg s H L cl fp g.blk).pe) (fun s H L cl fp => (ht s H L cl fp g.blk).pe) (fun s H L cl fp => pe_tup (hk s H L cl fp g.blk).pe) (fun s H L cl fp => (hv s H L cl fp g.blk).pe) hy hyl hsw hs
  have he2 := ef_dcT (pos := pos) (tp := tp) (x1 := x1) g hi ok hg ht hk hv hs
  cases fresh with
  | true => exact sm_lcL hp he2
  | false => exact sm_lc hp (em_of_ef he2)
end
/-! ### plainly -/
theorem dc1m {α : Type} {vs : List Nat} {g : Gv} {ms : Evs} {mv : Ev} {env : Sls} (c : α → D) (kk : α → List Key) (y : α → D) : ∀ (xs : List α) (acc : KDs), acc.length + xs.length ≤ 1000000 →
    (∀ x ∈ xs, ∃ e1 ys e2 e3, g (c x) env = .ok e1 ∧ ms e1 = .ok (ys, e2) ∧ kpL ys = .ok ys ∧ keysL ys = some (kk x) ∧ ys.length ≤ 1000 ∧ mv e2 = .ok (y x, e3) ∧ kp (y x) = .ok (y x) ∧ wipeE e3 vs = env) →
    dcL vs g mYes ms mv (xs.map c) acc env = .ok (xs.foldl (fun a x => putD a (kk x) (y x)) acc, env)
  | [], acc, _, _ => rfl
  | x :: xs, acc, hz, h => by
    obtain ⟨e1, ys, e2, e3, h1, h2, h3, h4, h5, h6, h7, h8⟩ := h x (.head _)
    have l := length_putD acc (kk x) (y x)
    rw [List.length_cons] at hz
    have ih := dc1m (vs := vs) (g := g) (ms := ms) (mv := mv) (env := env) c kk y xs (putD acc (kk x) (y x)) (by omega) fun z hz => h z (.tail _ hz)
    have hl : acc.length < sizeLine := Nat.lt_of_lt_of_le (show acc.length < 1000000 by omega) (by decide)
    rw [List.map_cons, List.foldl_cons]
    unfold dcL
    simp only [h1, noE_ok, y1, mYes, if_true, h2, h3, h4, h5, hl, and_self, h6, h7, h8, ih]
@[simp] theorem z_mDcT (mi : Em) (vs : List Nat) (g : Gv) (tt : Ev1) (ms : Evs) (mv : Ev) (env : Sls) : mDcT mi vs g tt ms mv env = (do
  let r ← mi env
  if okWipe r.2 vs = true then do
    let q ← dcL vs g tt ms mv r.1 [] (wipeE r.2 vs)
    pure (.dct q.1, backE r.2 q.2 vs)
  else .bad) := rfl
end Vm
end
section
set_option maxRecDepth 100000
set_option maxHeartbeats 4000000
/-! Vm, part ZR: x in l, where x and the items are plain data of a small depth. -/
namespace Vm
open PySem PySem.Spec PyProof.Rows L2
/-- x in l, l a list or a tuple of data -/
def rInS (K : PySem.W.Frag) (neg : Bool) : R2 := fun x y H Q => ∃ d ds, Dp K H x d ∧ (Dp K H y (.list ds) ∨ Dp K H y (.tuple ds)) ∧ d.canLay0 = true ∧ PyData.canLayAll0 ds = true ∧ d.depth ≤ 60 ∧ Q (.bl (if neg then !ds.any (fun z => PyData.eqv z d) else ds.any fun z => PyData.eqv z d)) H
theorem op_inS {X : Cx} (hu : X.A.units + 64 < cLine) : OpR X (compareOp .In) (rInS X.K false) := by
  intro pins s σ H x y v u Q I rx ry h
  obtain ⟨d, ds, hd, he, c1, c2, hl, q⟩ := h
  have room : X.A.units + 1 + min (PyData.depthAll ds) d.depth < cLine := by
    have := Nat.min_le_right (PyData.depthAll ds) d.depth
    omega
  obtain ⟨as, r1⟩ := Dp.reads I d x v hd rx
  rcases he with he | he
  · obtain ⟨bs, r2⟩ := Dp.reads I (.list ds) y u he ry
    exact SeqAt.in_list_reads r2 r1 c2 c1 room ⟨.bl _, H, I, rfl, q⟩
  · obtain ⟨bs, r2⟩ := Dp.reads I (.tuple ds) y u he ry
    exact SeqAt.in_tuple_reads r2 r1 c2 c1 room ⟨.bl _, H, I, rfl, q⟩
theorem op_ninS {X : Cx} (hu : X.A.units + 64 < cLine) : OpR X (compareOp .NotIn) (rInS X.K true) := by
  intro pins s σ H x y v u Q I rx ry h
  obtain ⟨d, ds, hd, he, c1, c2, hl, q⟩ := h
  have room : X.A.units + 1 + min (PyData.depthAll ds) d.depth < cLine := by
    have := Nat.min_le_right (PyData.depthAll ds) d.depth
    omega
  obtain ⟨as, r1⟩ := Dp.reads I d x v hd rx
  rcases he with he | he
  · obtain ⟨bs, r2⟩ := Dp.reads I (.list ds) y u he ry
    exact SeqAt.notIn_list_reads r2 r1 c2 c1 room ⟨.bl _, H, I, rfl, q⟩
  · obtain ⟨bs, r2⟩ := Dp.reads I (.tuple ds) y u he ry
    exact SeqAt.notIn_tuple_reads r2 r1 c2 c1 room ⟨.bl _, H, I, rfl, q⟩
def itD (y : D) : Option (List D) := match y with
  | .lst ds => some ds
  | .tup ds => some ds
  | _ => none
def inS (neg : Bool) (x y : D) : Res D := match itD y with
  | some ds => if x.py.canLay0 = true ∧ PyData.canLayAll0 (D.pyL ds) = true ∧ x.py.depth ≤ 60 then .ok (.bl (if neg then !(D.pyL ds).any (fun z => PyData.eqv z x.py) else (D.pyL ds).any fun z => PyData.eqv z x.py)) else .bad
  | none => .bad
section
variable {K : PySem.W.Frag}
theorem os_inS {neg : Bool} : OpS K (rInS K neg) (inS neg) := by
  intro H M x y dx dy Q tk rx ry w
  unfold inS at w
  cases e : itD dy with
  | none => rw [e] at w; exact w.elim
  | some ds =>
    rw [e] at w
    simp only at w
    split at w
    · rename_i hc
      obtain ⟨c1, c2, hl⟩ := hc
      refine ⟨dx.py, D.pyL ds, rx.dp c1, ?_, c1, c2, hl, w _ _ (.refl _) (.bl _)⟩
      cases dy with
      | lst es =>
        obtain rfl : es = ds := Option.some.inj e
        exact .inl (ry.dp (by simpa only [D.py, PyData.canLay0] using c2))
      | tup es =>
        obtain rfl : es = ds := Option.some.inj e
        exact .inr (ry.dp (by simpa only [D.py, PyData.canLay0] using c2))
      | _ => cases e
    · exact w.elim
theorem os_inSA : OpS K (rInS K false) (inS false) := os_inS
theorem os_ninSA : OpS K (rInS K true) (inS true) := os_inS
end
section
variable {X : Cx} {C : Cfg} {W : WX} {k : Nat}
theorem oInS (g : Gd X C W k) : OpR X (compareOp .In) (rInS C.K false) := g.kE ▸ op_inS g.room.units
theorem oNinS (g : Gd X C W k) : OpR X (compareOp .NotIn) (rInS C.K true) := g.kE ▸ op_ninS g.room.units
end
/-! ### rows of ints -/
theorem py_ints : ∀ ns : List Int, D.pyL (ns.map D.int) = ns.map PyData.int
  | [] => rfl
  | n :: ns => by rw [List.map_cons, D.pyL, py_ints ns]; rfl
theorem lay_ints : ∀ ns : List Int, PyData.canLayAll0 (ns.map PyData.int) = true ∧ PyData.depthAll (ns.map PyData.int) = 0
  | [] => by simp [PyData.canLayAll0, PyData.depthAll]
  | n :: ns => by
    obtain ⟨h1, h2⟩ := lay_ints ns
    simp [PyData.canLayAll0, PyData.depthAll, PyData.canLay0, PyData.depth, h1, h2]
theorem py_row (b : List Int) : (rowD b).py = .tuple (b.map PyData.int) := by
  unfold rowD
  rw [D.py, py_ints]
theorem row_lay (b : List Int) : (rowD b).py.canLay0 = true := by
  rw [py_row, PyData.canLay0, (lay_ints b).1]
theorem row_depth (b : List Int) : (rowD b).py.depth ≤ 60 := by
  rw [py_row, PyData.depth, (lay_ints b).2]
  omega
theorem eqv_ints : ∀ a b : List Int, PyData.eqvAll (a.map PyData.int) (b.map PyData.int) = decide (a = b)
  | [], [] => by simp [PyData.eqvAll]
  | [], b :: bs => by simp [PyData.eqvAll]
  | a :: as, [] => by simp [PyData.eqvAll]
  | a :: as, b :: bs => by
    rw [List.map_cons, List.map_cons]
    simp only [PyData.eqvAll, PyData.eqv, eqv_ints as bs]
    by_cases h : a = b <;> by_cases g : as = bs <;> simp [h, g]
theorem eqv_row (a b : List Int) : PyData.eqv (rowD a).py (rowD b).py = decide (a = b) := by
  rw [py_row, py_row]
  simp only [PyData.eqv]
  exact eqv_ints a b
theorem lay_rows : ∀ bs : List (List Int), PyData.canLayAll0 (D.pyL (bs.map rowD)) = true
  | [] => by simp [D.pyL, PyData.canLayAll0]
  | b :: bs => by rw [List.map_cons, D.pyL, PyData.canLayAll0, row_lay, lay_rows bs]; rfl
theorem any_rows (b : List Int) : ∀ bs : List (List Int), (D.pyL (bs.map rowD)).any (fun z => PyData.eqv z (rowD b).py) = decide (b ∈ bs)
  | [] => by simp [D.pyL]
  | a :: bs => by
    rw [List.map_cons, D.pyL, List.any_cons, any_rows b bs, eqv_row]
    by_cases h : a = b
    · subst h; simp
    · have h2 : ¬ b = a := fun e => h e.symm
      simp [h, h2]
theorem in_rows (neg : Bool) (b : List Int) (bs : List (List Int)) : inS neg (rowD b) (.lst (bs.map rowD)) = .ok (.bl (if neg then !decide (b ∈ bs) else decide (b ∈ bs))) := by
  unfold inS
  show (if _ then _ else _) = _
  rw [if_pos ⟨row_lay b, lay_rows bs, row_depth b⟩, any_rows]
@[simp] theorem z_mExt (i : Nat) (m : Ev) (env : Sls) : mExt i m env = (match env[i]?.bind Sl.con with
  | some (.lst _) => do
    let r ← m env
    let d ← kp r.1
    match r.2[i]? with
    | some s => (match s.con, d with
      | some (.lst ds), .lst es => if ds.length + es.length ≤ sizeLine then pure (.non, r.2.set i (s.put (.lst (ds ++ es)))) else .bad
      | _, _ => .bad)
    | _ => .bad
  | _ => .bad) := rfl
end Vm
end
section
set_option maxRecDepth 100000
set_option maxHeartbeats 4000000
/-! Vm, part ZS: list(range(..)), tuple(range(..)). -/
namespace Vm
open PySem PySem.Spec PyProof.Rows L2
def rgD (a b : Int) : List D := (List.range (b - a).toNat).map fun i : Nat => D.int (a + (i : Int))
theorem rgD_len (a b : Int) : (rgD a b).length = (b - a).toNat := by unfold rgD; rw [List.length_map, List.length_range]
theorem rp_rg {K : PySem.W.Frag} {H : Hp} {M : Addr → Prop} (a b : Int) : RpL K H M (rgD a b) (rgV a b) := by
  refine ⟨by rw [rgD_len, rgV_length], fun i d v h1 h2 => ?_⟩
  unfold rgD at h1
  unfold rgV at h2
  rw [List.getElem?_map] at h1 h2
  cases q : (List.range (b - a).toNat)[i]? with
  | none => rw [q] at h1; cases h1
  | some z => rw [q] at h1 h2; cases h1; cases h2; exact .int _
theorem rg2_RgOk {i j : Int} (h : rg2 (i, j) = true) : RgOk i j := by
  rw [rg2_eq] at h
  simp only at h
  refine ⟨?_, ?_, ?_, ?_, ?_⟩ <;> omega
theorem rgD_size {i j : Int} (h : rg2 (i, j) = true) : (rgD i j).length ≤ sizeLine := by
  rw [rg2_eq] at h
  simp only at h
  rw [rgD_len, sizeLine_eq]
  omega
noncomputable def mLrg1 (ma : Ev) : Ev := fun env => do
  let r1 ← ma env
  match r1.1 with
  | .int j => if rg2 (0, j) = true then pure (.lst (rgD 0 j), r1.2) else .bad
  | _ => .bad
noncomputable def mLrg2 (ma mb : Ev) : Ev := fun env => do
  let r1 ← ma env
  let r2 ← mb r1.2
  match r1.1, r2.1 with
  | .int i, .int j => if rg2 (i, j) = true then pure (.lst (rgD i j), r2.2) else .bad
  | _, _ => .bad
noncomputable def mTrg1 (ma : Ev) : Ev := fun env => do
  let r1 ← ma env
  match r1.1 with
  | .int j => if rg2 (0, j) = true then pure (.tup (rgD 0 j), r1.2) else .bad
  | _ => .bad
@[simp] theorem z_mLrg1 (ma : Ev) (env : Sls) : mLrg1 ma env = (do
  let r1 ← ma env
  match r1.1 with
  | .int j => if rg2 (0, j) = true then pure (.lst (rgD 0 j), r1.2) else .bad
  | _ => .bad) := rfl
@[simp] theorem z_mLrg2 (ma mb : Ev) (env : Sls) : mLrg2 ma mb env = (do
  let r1 ← ma env
  let r2 ← mb r1.2
  match r1.1, r2.1 with
  | .int i, .int j => if rg2 (i, j) = true then pure (.lst (rgD i j), r2.2) else .bad
  | _, _ => .bad) := rfl
@[simp] theorem z_mTrg1 (ma : Ev) (env : Sls) : mTrg1 ma env = (do
  let r1 ← ma env
  match r1.1 with
  | .int j => if rg2 (0, j) = true then pure (.tup (rgD 0 j), r1.2) else .bad
  | _ => .bad) := rfl
section
variable {X : Cx} {C : Cfg} {W : WX} {k : Nat} {a b : Expr} {ta tb : TE} {ma mb : Ev} {p p2 q pos : Pos}
theorem vr_int {C : Cfg} {ad : Nat → Addr} {H : Hp} {σ : L2.St} {env : Sls} {i : Int} {v : V} (h : VR C ad H σ env (.int i) v) : v = .int i := by
  have h : Rp C.K H (Mo C env ad) (.int i) v := h
  cases h
  rfl
theorem ef_lrg1 (g : Gd X C W k) (hg : Gl X "list") (hm : X.mg "list" = none) (hg2 : Gl X "range") (hm2 : X.mg "range" = none) (ha : EM X C W a ta ma)
    (na : starEach [a] X.env = (false, eval a X.env) :: starEach [] X.env := by rfl) (nb : starEach [.Call (.Name "range" p2) [a] [] q] X.env = (false, eval (.Call (.Name "range" p2) [a] [] q) X.env) :: starEach [] X.env := by rfl) :
    EF X C W (.Call (.Name "list" p) [.Call (.Name "range" p2) [a] [] q] [] pos) (tLstRg (tRg1 ta)) (mLrg1 ma) := by
  refine ⟨pe_listRg g.calm hg hm (prg_1 hg2 hm2 ha.pe na) nb, fun M0 ad σ H env Q R w => ?_⟩
  unfold mLrg1 at w
  refine ha.sn' R w fun r1 v1 H1 R1 S1 V1 w1 => ?_
  obtain ⟨d1, e1⟩ := r1
  cases d1 with
  | int j =>
    simp only at w1 V1
    split at w1
    · rename_i hc
      refine ⟨j, vr_int V1, rg2_RgOk hc, fun p hn => w1 p _ ?_ (R1.growAdd (same_new hn) hn (by rw [upd_same]; exact fun z => nomatch z)) (S1.trans (.grow (same_new hn))) ((cell_new (rp_rg 0 j) hn (rgD_size hc)).ext rfl .refl fun b z => .inl (mo_add.mp z))⟩
      cases z : H p with
      | none => rfl
      | some o => exact absurd hn (S1.ext.trk p (by rw [z]; exact fun z => nomatch z))
    · exact w1.elim
  | _ => exact w1.elim
theorem ef_lrg2 (g : Gd X C W k) (hg : Gl X "list") (hm : X.mg "list" = none) (hg2 : Gl X "range") (hm2 : X.mg "range" = none) (ha : EM X C W a ta ma) (hb : EM X C W b tb mb)
    (na : starEach [a, b] X.env = (false, eval a X.env) :: starEach [b] X.env := by rfl) (na2 : starEach [b] X.env = (false, eval b X.env) :: starEach [] X.env := by rfl) (hp : (backTo q (starEach [b] X.env)).any (·.1) = false := by rfl)
    (nb : starEach [.Call (.Name "range" p2) [a, b] [] q] X.env = (false, eval (.Call (.Name "range" p2) [a, b] [] q) X.env) :: starEach [] X.env := by rfl) :
    EF X C W (.Call (.Name "list" p) [.Call (.Name "range" p2) [a, b] [] q] [] pos) (tLstRg (tRg2 ta tb)) (mLrg2 ma mb) := by
  refine ⟨pe_listRg g.calm hg hm (prg_2 hg2 hm2 ha.pe hb.pe na na2 hp) nb, fun M0 ad σ H env Q R w => ?_⟩
  unfold mLrg2 at w
  refine ha.sn' R w fun r1 v1 H1 R1 S1 V1 w1 => ?_
  refine hb.sn' R1 w1 fun r2 v2 H2 R2 S2 V2 w2 => ?_
  obtain ⟨d1, e1⟩ := r1
  obtain ⟨d2, e2⟩ := r2
  cases d1 with
  | int i =>
    cases d2 with
    | int j =>
      simp only at w2 V1 V2
      split at w2
      · rename_i hc
        refine ⟨i, j, vr_int V1, vr_int V2, rg2_RgOk hc, fun p hn => w2 p _ ?_ (R2.growAdd (same_new hn) hn (by rw [upd_same]; exact fun z => nomatch z)) ((S1.trans S2).trans (.grow (same_new hn))) ((cell_new (rp_rg i j) hn (rgD_size hc)).ext rfl .refl fun b z => .inl (mo_add.mp z))⟩
        cases z : H p with
        | none => rfl
        | some o => exact absurd hn ((S1.trans S2).ext.trk p (by rw [z]; exact fun z => nomatch z))
      · exact w2.elim
    | _ => exact w2.elim
  | _ => exact w2.elim
theorem em_trg1 (g : Gd X C W k) (hg : Gl X "tuple") (hm : X.mg "tuple" = none) (hg2 : Gl X "range") (hm2 : X.mg "range" = none) (ha : EM X C W a ta ma)
    (na : starEach [a] X.env = (false, eval a X.env) :: starEach [] X.env := by rfl) (nb : starEach [.Call (.Name "range" p2) [a] [] q] X.env = (false, eval (.Call (.Name "range" p2) [a] [] q) X.env) :: starEach [] X.env := by rfl) :
    EM X C W (.Call (.Name "tuple" p) [.Call (.Name "range" p2) [a] [] q] [] pos) (tTupRg (tRg1 ta)) (mTrg1 ma) := by
  refine ⟨pe_tupRg g.calm hg hm (prg_1 hg2 hm2 ha.pe na) nb, fun M0 ad σ H env Q R w => ?_⟩
  unfold mTrg1 at w
  refine ha.sn' R w fun r1 v1 H1 R1 S1 V1 w1 => ?_
  obtain ⟨d1, e1⟩ := r1
  cases d1 with
  | int j =>
    simp only at w1 V1
    split at w1
    · rename_i hc
      refine ⟨j, vr_int V1, rg2_RgOk hc, fun p hn => w1 _ _ (R1.grow (same_new hn)) (S1.trans (.grow (same_new hn))) (.of (.tup' (.of upd_same) (rgD_size hc) (rp_rg 0 j)))⟩
    · exact w1.elim
  | _ => exact w1.elim
end
end Vm
end
section
set_option maxRecDepth 100000
set_option maxHeartbeats 4000000
/-! Vm, part ZT: list(range(i, j)), the bounds of any size. -/
namespace Vm
open PySem PySem.Spec PyProof.Rows L2
section
variable {P : Program} {w : World} {A : Around} {E : Value → Shared → Prop} {s : Shared}
abbrev lgO (i m e : Int) : Obj := { cls := .type "longrange_iterator", data := .fields #[rawInt i, rawInt m, rawInt e] }
abbrev AtL (h : Heap) (Z : Addr) (xs : Array Value) (cap : Nat) : Prop := h.get? Z = some { cls := .type "list", dict := none, data := .seq xs cap, slots := #[] }
theorem ext_long {R : Result → Shared → Prop} {q : Addr} {i j e : Int} {t u v : Tok} {m : Nat} (cold : A.handled = none) (rg : IsRange s.heap q i j e t u v) (big : Builtin.Range.small i j e = false)
    (sz : Builtin.Range.rangeSize i j e = m) (few : m ≤ 2 ^ 24) (Z : Addr) (back : Value) (cap : Nat) (at0 : AtL s.heap Z #[] cap)
    (k : ∀ g tk xs cap', (∀ b o, b ≠ Z → s.heap.get? b = some o → g.get? b = some o) → AtL g Z xs cap' → ItemsOf (fun n z => ∃ t, z = .int (i + n * e) t) xs m → R (.ok (.ret back)) { s with heap := g, toks := tk }) :
    wpAny (model P w) A.in1 (Builtin.List.listExtendWith (.ref Z) (.ref q) back) (fun fin z => match fin with | .done f => R (.ok f) z | .again c => c.quiet = true ∧ codeAny (model P w) A c R z) (fun x z => R (.error x) z) s := by
  have Zq : Z ≠ q := fun z => by
    subst z
    have z2 := rg.symm.trans at0
    simp at z2
  have ltZ : Z < s.heap.objs.size := Heap.lt_size at0
  have neZ : Z ≠ s.heap.objs.size := Nat.ne_of_lt ltZ
  have out : Z ∉ [s.heap.objs.size] := fun z => neZ (List.mem_singleton.mp z)
  have walk := (Walks.longrange (prog := P) (w := w) (A := A.in1) cold s.heap.objs.size i e m).toS
  have key : ∀ (h : Heap) (c tk : Nat), IsLongIter h s.heap.objs.size (i + ((0 : Nat) : Int) * e) ((m : Int) - ((0 : Nat) : Int)) e → (∀ b o, b ≠ Z → s.heap.get? b = some o → h.get? b = some o) → AtL h Z #[] c →
      codeAny (model P w) A (.builtin "list.extend.loop" ⟨[.ref Z, .ref s.heap.objs.size, back], []⟩) R { s with heap := h, toks := tk } := by
    intro h c tk hit hk atZ
    refine codeAny_extend_loopS walk (by rw [sizeLine_eq]; omega) Z out back m 0 _ #[] c rfl (Nat.zero_le _) hit atZ (ItemsOf.nil _) fun z xs c' mv at2 its => ?_
    rw [Moved.eq_with mv]
    refine k z.heap z.toks xs c' (fun b o hb hh => mv.heap b o (fun mm => ?_) (hk b o hb hh)) at2 its
    rcases List.mem_cons.mp mm with z1 | z1
    · exact hb z1
    · exact absurd (Heap.lt_size hh) (by rw [List.mem_singleton.mp z1]; exact Nat.lt_irrefl _)
  unfold Builtin.List.listExtendWith; refine wpAny_bind (wpAny_typeOf (T := "range") ⟨_, rg, rfl⟩ ?_)
  have b1 : Builtin.List.listSameRef (.ref Z) (.ref q) = false := by simp [Builtin.List.listSameRef, Zq]
  have b2 : (Value.type "range" == Value.type "list") = false := by decide
  have b3 : (Value.type "range" == Value.type "tuple") = false := by decide
  simp only [b1, b2, b3, Bool.or_false, Bool.false_eq_true, if_false]
  refine wpAny_bind (wpAny_pyIter_longrange rg big ?_)
  refine wpAny_bind (wpAny_holding (wpAny_hint_range (n := m) (Heap.get?_push_of_some _ rg) sz few ?_))
  have itr : IsLongIter (s.heap.push (lgO i (Builtin.Range.rangeSize i j e) e)) s.heap.objs.size (i + ((0 : Nat) : Int) * e) ((m : Int) - ((0 : Nat) : Int)) e := by
    show IsLongIter _ _ _ _ _
    rw [sz]
    simpa using Heap.get?_push_size _ rfl
  have at1 := Heap.get?_push_of_some (lgO i (Builtin.Range.rangeSize i j e) e) at0
  refine wpAny_ite_split (fun _ => ?_) (fun _ => ?_)
  · refine wpAny_bind (wpAny_rule ?_)
    refine wpAny_bind ?_
    show wpAny _ _ (updateSeq Z (·.push .none) >>= fun _ => updateSeq Z (·.pop)) _ _ _
    refine wpAny_bind (wpAny_updateSeq at1 rfl ?_)
    have at2 := Heap.get?_update_self (Obj.mapSeq (·.push Value.none)) at1 rfl
    refine wpAny_updateSeq (hz := by seq_fits) at2 rfl ?_
    have at3 := Heap.get?_update_self (Obj.mapSeq (·.pop)) at2 rfl
    refine wpAny_pure ⟨plainId_quiet F.plain_extend_loop _, key _ _ _ ?_ (fun b o hb hh => ?_) at3⟩
    · exact (Heap.get?_update_other _ _ neZ).trans ((Heap.get?_update_other _ _ neZ).trans itr)
    · exact (Heap.get?_update_other _ _ (Ne.symm hb)).trans ((Heap.get?_update_other _ _ (Ne.symm hb)).trans (Heap.get?_push_of_some _ hh))
  · exact wpAny_pure ⟨plainId_quiet F.plain_extend_loop _, key _ cap _ itr (fun b o _ hh => Heap.get?_push_of_some _ hh) at1⟩
theorem init_long {R : Result → Shared → Prop} {q : Addr} {i j e : Int} {t u v : Tok} {m : Nat} (cold : A.handled = none) (rg : IsRange s.heap q i j e t u v) (big : Builtin.Range.small i j e = false)
    (sz : Builtin.Range.rangeSize i j e = m) (few : m ≤ 2 ^ 24) (Z : Addr) (at0 : AtL s.heap Z #[] 0)
    (k : ∀ g tk xs cap', (∀ b o, b ≠ Z → s.heap.get? b = some o → g.get? b = some o) → AtL g Z xs cap' → ItemsOf (fun n z => ∃ t, z = .int (i + n * e) t) xs m → R (.ok (.ret .none)) { s with heap := g, toks := tk }) :
    wpAny (model P w) A.in1 (Builtin.«list.__init__» ⟨[.ref Z, .ref q], []⟩) (fun fin z => match fin with | .done f => R (.ok f) z | .again c => c.quiet = true ∧ codeAny (model P w) A c R z) (fun x z => R (.error x) z) s := by
  have Zq : Z ≠ q := fun z => by
    subst z
    have z2 := rg.symm.trans at0
    simp at z2
  show wpAny _ _ (Builtin.List.listItems (.ref Z) >>= fun old => Builtin.List.listUpdate (.ref Z) (fun _ => #[]) >>= fun _ => letGo old.toList.reverse >>= fun _ => Builtin.List.listExtendWith (.ref Z) (.ref q) .none) _ _ s
  refine wpAny_bind ?_
  unfold Builtin.List.listItems
  refine wpAny_bind (wpAny_seqItems at0 rfl (wpAny_pure ?_))
  show wpAny _ _ (updateSeq Z (fun _ => #[]) >>= fun _ => letGo (#[] : Array Value).toList.reverse >>= fun _ => Builtin.List.listExtendWith (.ref Z) (.ref q) .none) _ _ s
  refine wpAny_bind (wpAny_updateSeq at0 rfl ?_)
  have at2 := Heap.get?_update_self (Obj.mapSeq (fun _ => (#[] : Array Value))) at0 rfl
  have oth : ∀ b o, b ≠ Z → s.heap.get? b = some o → (s.heap.update Z (Obj.mapSeq (fun _ => (#[] : Array Value)))).get? b = some o := fun b o hb hh => (Heap.get?_update_other _ _ (Ne.symm hb)).trans hh
  exact wpAny_bind (wpAny_letGo (ext_long cold (oth q _ (Ne.symm Zq) rg) big sz few Z .none _ at2 fun g tk xs c hk atZ its => k g tk xs c (fun b o hb hh => hk b o hb (oth b o hb hh)) atZ its))
theorem call_list_long {Q : Value → Shared → Prop} {q : Addr} {i j e : Int} {t u v : Tok} {m : Nat} (cold : A.handled = none) (rg : IsRange s.heap q i j e t u v) (big : Builtin.Range.small i j e = false)
    (sz : Builtin.Range.rangeSize i j e = m) (few : m ≤ 2 ^ 24)
    (k : ∀ g tk xs cap, (∀ b o, s.heap.get? b = some o → g.get? b = some o) → AtL g s.heap.objs.size xs cap → ItemsOf (fun n z => ∃ t, z = .int (i + n * e) t) xs m → Q (.ref s.heap.objs.size) { s with heap := g, toks := tk }) :
    wpAny (model P w) A (call (.type "list") [.ref q]) Q E s := by
  refine callType_codes (Q₁ := fun x z => x = .ref s.heap.objs.size ∧ z = { s with heap := s.heap.push { cls := .type "list", data := .seq #[] } }) F.called_list (F.typeCall_list_1 _) F.entry_list_init (code_list_new _ ⟨rfl, rfl⟩) fun x z hx => ?_
  obtain ⟨rfl, rfl⟩ := hx
  have at0 : AtL (s.heap.push { cls := .type "list", data := .seq #[] }) s.heap.objs.size #[] 0 := Heap.get?_push_size _ rfl
  refine ⟨⟨_, at0, rfl⟩, F.args_list_init_2 _ _, init_long (A := A.in1) cold (Heap.get?_push_of_some _ rg) big sz few _ at0 fun g tk xs c hk atZ its => ?_⟩
  exact ⟨rfl, k g tk xs c (fun b o hh => hk b o (Nat.ne_of_lt (Heap.lt_size hh)) (Heap.get?_push_of_some _ hh)) atZ its⟩
end
section
variable {X : Cx} {e : Expr} {te : L2.St → Hp → (Int → Int → Hp → Prop) → Prop}
/-- bounds of any size, not too far apart -/
def RgAny (a b : Int) : Prop := (b - a).toNat ≤ 2 ^ 24
def tLstRgA (te : L2.St → Hp → (Int → Int → Hp → Prop) → Prop) : TE := fun σ H Q => te σ H fun a b H1 => RgAny a b ∧ ∀ q, H1 q = none → Q (.ref q) (upd H1 q (.lst (rgV a b)))
theorem pe_listRgA {p pos : Pos} (hc : X.calm = true) (hg : Gl X "list") (hm : X.mg "list" = none) (he : PRg X e te) (na : starEach [e] X.env = (false, eval e X.env) :: starEach [] X.env := by rfl) :
    PE X (.Call (.Name "list" p) [e] [] pos) (tLstRgA te) := by
  refine ⟨fun pins s σ H Q I h => ?_⟩
  refine Call_ (ld_blt I hg hm boot_list (PyProof.Rows.callWith_type1 (args_cons (thn (he pins s σ H _ I h) fun x s1 z => args_nil ?_) na) na))
  obtain ⟨r, a, b, t, u, v, H1, rfl, hr, I1, ok, q⟩ := z
  have fin : ∀ (g : Heap) (tk : Nat) (xs : Array Value) (cap : Nat), (∀ b o, s1.heap.get? b = some o → g.get? b = some o) → AtL g s1.heap.objs.size xs cap → ItemsOf (fun n z => ∃ t, z = .int (a + n * 1) t) xs (b - a).toNat →
      ∃ x H', Inv X pins σ H' { s1 with heap := g, toks := tk } ∧ RelV x (.ref s1.heap.objs.size) ∧ Q x H' := by
    intro g tk xs cap hk at2 its
    refine ⟨.ref s1.heap.objs.size, upd H1 s1.heap.objs.size (.lst (rgV a b)), I1.laid hk (Nat.le_refl _) (show ObjOk X.prog X.w _ _ _ (.lst (rgV a b)) from ⟨?_, xs.toList, cap, vals_rg its, ?_⟩), rfl, q _ (I1.hok.fresh (Nat.le_refl _))⟩
    · rw [rgV_length, sizeLine_eq]
      have : (b - a).toNat ≤ 2 ^ 24 := ok
      omega
    · rw [Array.toArray_toList]
      exact at2
  cases sm : Builtin.Range.small a b 1 with
  | true => exact call_list_range (n := (b - a).toNat) (I1.ok.hd hc) hr sm (rangeSize_nat a b) ok fun g tk xs cap hk at2 its => fin g tk xs cap hk at2 its
  | false => exact call_list_long (m := (b - a).toNat) (I1.ok.hd hc) hr sm (rangeSize_nat a b) ok fun g tk xs cap hk at2 its => fin g tk xs cap hk at2 its
end
/-- the rule with the size alone asked -/
theorem rg3_ex : ∃ f : Int × Int → Bool, ∀ p, (f p = true) = (p.2 - p.1 ≤ 100000) := ⟨fun p => decide (p.2 - p.1 ≤ 100000), fun p => decide_eq_true_eq⟩
noncomputable def rg3 : Int × Int → Bool := Classical.choose rg3_ex
theorem rg3_eq (p : Int × Int) : (rg3 p = true) = (p.2 - p.1 ≤ 100000) := Classical.choose_spec rg3_ex p
noncomputable def mLrgA (ma mb : Ev) : Ev := fun env => do
  let r1 ← ma env
  let r2 ← mb r1.2
  match r1.1, r2.1 with
  | .int i, .int j => if rg3 (i, j) = true then pure (.lst (rgD i j), r2.2) else .bad
  | _, _ => .bad
@[simp] theorem z_mLrgA (ma mb : Ev) (env : Sls) : mLrgA ma mb env = (do
  let r1 ← ma env
  let r2 ← mb r1.2
  match r1.1, r2.1 with
  | .int i, .int j => if rg3 (i, j) = true then pure (.lst (rgD i j), r2.2) else .bad
  | _, _ => .bad) := rfl
section
variable {X : Cx} {C : Cfg} {W : WX} {k : Nat} {a b : Expr} {ta tb : TE} {ma mb : Ev} {p p2 q pos : Pos}
theorem ef_lrgA (g : Gd X C W k) (hg : Gl X "list") (hm : X.mg "list" = none) (hg2 : Gl X "range") (hm2 : X.mg "range" = none) (ha : EM X C W a ta ma) (hb : EM X C W b tb mb)
    (na : starEach [a, b] X.env = (false, eval a X.env) :: starEach [b] X.env := by rfl) (na2 : starEach [b] X.env = (false, eval b X.env) :: starEach [] X.env := by rfl) (hp : (backTo q (starEach [b] X.env)).any (·.1) = false := by rfl)
    (nb : starEach [.Call (.Name "range" p2) [a, b] [] q] X.env = (false, eval (.Call (.Name "range" p2) [a, b] [] q) X.env) :: starEach [] X.env := by rfl) :
    EF X C W (.Call (.Name "list" p) [.Call (.Name "range" p2) [a, b] [] q] [] pos) (tLstRgA (tRg2 ta tb)) (mLrgA ma mb) := by
  refine ⟨pe_listRgA g.calm hg hm (prg_2 hg2 hm2 ha.pe hb.pe na na2 hp) nb, fun M0 ad σ H env Q R w => ?_⟩
  unfold mLrgA at w
  refine ha.sn' R w fun r1 v1 H1 R1 S1 V1 w1 => ?_
  refine hb.sn' R1 w1 fun r2 v2 H2 R2 S2 V2 w2 => ?_
  obtain ⟨d1, e1⟩ := r1
  obtain ⟨d2, e2⟩ := r2
  cases d1 with
  | int i =>
    cases d2 with
    | int j =>
      simp only at w2 V1 V2
      split at w2
      · rename_i hc
        rw [rg3_eq] at hc
        simp only at hc
        have hz : (rgD i j).length ≤ sizeLine := by rw [rgD_len, sizeLine_eq]; omega
        refine ⟨i, j, vr_int V1, vr_int V2, (by show (j - i).toNat ≤ 2 ^ 24; omega), fun p hn => w2 p _ ?_ (R2.growAdd (same_new hn) hn (by rw [upd_same]; exact fun z => nomatch z)) ((S1.trans S2).trans (.grow (same_new hn))) ((cell_new (rp_rg i j) hn hz).ext rfl .refl fun b z => .inl (mo_add.mp z))⟩
        cases z : H p with
        | none => rfl
        | some o => exact absurd hn ((S1.trans S2).ext.trk p (by rw [z]; exact fun z => nomatch z))
      · exact w2.elim
    | _ => exact w2.elim
  | _ => exact w2.elim
end
end Vm
end
section
set_option maxRecDepth 100000
set_option maxHeartbeats 4000000
/-! Vm, part ZU: owned lists are lent for a test; `for x in xs: x.append(0)`, where xs are lists of the def's own making. -/
namespace Vm
open PySem PySem.Spec PyProof.Rows L2
section
variable {X : Cx} {C : Cfg} {W : WX} {k : Nat}
/-! ### lending -/
theorem RE.lend0 {ad : Nat → Addr} {H : Hp} {σ : L2.St} {env : Sls} (R : RE C ad H σ env) : RE C ad H σ (lendE env) := by
  have mo : ∀ b, Mo C (lendE env) ad b → Mo C env ad b ∨ H b = none := fun b z => z.elim (fun z => .inl (.inl z)) fun z => absurd z ow_lend
  have no : ∀ (i : Nat) (s : Sl), (lendE env)[i]? = some s → s.isOwn = true → False := fun i s e o => by
    obtain ⟨s0, _, rfl⟩ := lend_at e
    rw [lend_own] at o
    cases o
  have cel : ∀ (i : Nat) (d0 : D) (s : Sl), env[i]? = some s → (s = .l d0 ∨ s = .r d0) → CellOk C.K H (Mo C env ad) d0 (ad i) → σ[i]?.join = some (.ref (ad i)) → SlOk C H (Mo C (lendE env) ad) (σ[i]?.join) (.t d0) (ad i) := fun i d0 s e hs c hv => by
    have hno : ¬ Mo C (lendE env) ad (ad i) := fun z => z.elim (R.loc i d0 (hs.imp (fun q => by rw [e, q]) fun q => by rw [e, q])).2 ow_lend
    exact ⟨.ref (ad i), hv, cell_rp (c.ext rfl .refl mo) hno fun _ z => z⟩
  refine ⟨by unfold lendE; rw [List.length_map]; exact R.len, fun i s e => ?_, fun i j s t e1 e2 o => (no _ _ e1 o).elim, fun i d e => (e.elim (fun e => no _ _ e rfl) fun e => no _ _ e rfl).elim, fun i d e => (no _ _ e rfl).elim, R.same, R.frk, R.trk, R.m0, R.tabs⟩
  obtain ⟨s0, e0, rfl⟩ := lend_at e
  have q := R.sl i s0 e0
  cases s0 with
  | u => trivial
  | p _ => trivial
  | t d0 =>
    obtain ⟨y, h1, h2⟩ := q
    exact ⟨y, h1, h2.ext .refl mo⟩
  | l d0 => exact cel i d0 _ e0 (.inl rfl) q.2 q.1
  | r d0 => exact cel i d0 _ e0 (.inr rfl) q.2 q.1
/-- .. and come back as they were -/
theorem RE.back0 {ad : Nat → Addr} {H H' : Hp} {σ : L2.St} {env env' : Sls} (R : RE C ad H σ env) (R' : RE C ad H' σ env') (x : Ext (Ow (lendE env) ad) H H') : RE C ad H' σ env ∧ Stp C ad H env H' env := by
  have x1 : Ext (Ow env ad) H H' := x.mono fun a z => absurd z ow_lend
  have x2 : Ext (Mo C env ad) H H' := x.mono fun a z => absurd z ow_lend
  have keep : ∀ b o, H b = some o → (∀ ps, o ≠ .tbl ps) → H' b = some o := fun b o e t => x.stay b o e ow_lend t
  refine ⟨⟨R.len, fun i s e => ?_, R.inj, R.loc, R.par, R'.same, R.frk, R'.trk, R'.m0, R'.tabs⟩, ⟨x1, fun _ h => h⟩⟩
  have q := R.sl i s e
  have cel : ∀ d, CellOk C.K H (Mo C env ad) d (ad i) → CellOk C.K H' (Mo C env ad) d (ad i) := fun d c => by
    refine c.ext ?_ x2 fun b z => .inl z
    cases z : H (ad i) with
    | none => exact absurd z c.trk
    | some o => exact keep _ _ z (c.notbl z)
  cases s with
  | u => trivial
  | t d => obtain ⟨y, h1, h2⟩ := q; exact ⟨y, h1, h2.ext x2 fun b z => .inl z⟩
  | l d => exact ⟨q.1, cel d q.2⟩
  | p d => exact ⟨q.1, cel d q.2⟩
  | r d => exact ⟨q.1, cel d q.2⟩
def mLendT (m : Ev1) : Ev1 := fun env => do
  let r ← m (lendE env)
  pure (r.1, env)
theorem tm_lend {e : Expr} {t : TT} {m : Ev1} (h : TM X C W e t m) : TM X C W e t (mLendT m) := by
  refine ⟨h.pe, fun M0 ad σ H env Q R w => ?_⟩
  unfold mLendT at w
  refine h.sn' (RE.lend0 R) w fun r H1 R1 S1 w1 => ?_
  obtain ⟨R2, S2⟩ := RE.back0 R R1 S1.ext
  exact w1 H1 R2 S2

/-! ### statements that may spoil lists -/
def FinX (C : Cfg) (Dn : L2.Ends) (r : Out × Sls) : Prop :=
  match r.1 with
  | .next => ∀ ad' σ' H', RE C ad' H' σ' r.2 → Dn.nx σ' H'
  | .brk => ∀ ad' σ' H', RE C ad' H' σ' r.2 → Dn.bk σ' H'
  | .cont => ∀ ad' σ' H', RE C ad' H' σ' r.2 → Dn.ct σ' H'
  | .ret d => ∀ ad' σ' H' v, RetOk C ad' H' σ' r.2 d v → Dn.rt v H'
theorem FinX.fin {Dn : L2.Ends} {ad : Nat → Addr} {H : Hp} {env : Sls} {r : Out × Sls} (h : FinX C Dn r) : Fin C Dn ad H env r := by
  obtain ⟨o, e2⟩ := r
  cases o with
  | next => exact fun ad' σ' H' R' _ => h ad' σ' H' R'
  | brk => exact fun ad' σ' H' R' _ => h ad' σ' H' R'
  | cont => exact fun ad' σ' H' R' _ => h ad' σ' H' R'
  | ret d => exact h
structure SX (X : Cx) (C : Cfg) (W : WX) (st : Stmt) (t : TS) (m : Sv) : Prop where
  pe : PS X st t
  sn : ∀ (ad : Nat → Addr) (σ : L2.St) (H : Hp) (env : Sls) (Dn : L2.Ends), RE C ad H σ env → (m env).Wp (FinX C Dn) (ErS C W) → t Dn σ H
structure SSX (X : Cx) (C : Cfg) (W : WX) (st : List Stmt) (t : TS) (m : Sv) : Prop where
  pe : PSs X st t
  sn : ∀ (ad : Nat → Addr) (σ : L2.St) (H : Hp) (env : Sls) (Dn : L2.Ends), RE C ad H σ env → (m env).Wp (FinX C Dn) (ErS C W) → t Dn σ H
theorem SM.x {st : Stmt} {t : TS} {m : Sv} (h : SM X C W st t m) : SX X C W st t m := ⟨h.pe, fun ad σ H env Dn R w => h.sn ad σ H env Dn R (w.imp (fun _ z => z.fin) fun _ z => z)⟩
theorem ssx_one {st : Stmt} {t : TS} {m : Sv} (h : SX X C W st t m) : SSX X C W [st] t m := ⟨pss_one h.pe, h.sn⟩
theorem ssx_cons {st : Stmt} {sts : List Stmt} {t u : TS} {m1 m2 : Sv} (h1 : SX X C W st t m1) (h2 : SSX X C W sts u m2) : SSX X C W (st :: sts) (tSeq t u) (mSq m1 m2) := by
  refine ⟨pss_cons h1.pe h2.pe, fun ad σ H env Dn R w => ?_⟩
  unfold mSq at w
  rw [wp_bind] at w
  refine h1.sn ad σ H env { Dn with nx := u Dn } R (w.imp (fun r z => ?_) fun _ z => z)
  obtain ⟨o, e2⟩ := r
  cases o with
  | next => exact fun ad' σ' H' R' => h2.sn ad' σ' H' e2 Dn R' z
  | brk => exact z
  | cont => exact z
  | ret d => exact z
/-- data in which no list lies -/
def nol : D → Bool
  | .tup xs => xs.all D.flat
  | .scr _ => true
  | d => d.sc
theorem sq_stay {K : PySem.W.Frag} {H H' : Hp} {a : Addr} {xs : List V} (st : ∀ b o, H b = some o → (∀ xs, o ≠ .lst xs) → H' b = some o) (h : SqT K H a xs) : SqT K H' a xs := by
  rcases h with (h | ⟨o, h⟩) | h
  · exact .inl (.inl (st _ _ h fun _ z => nomatch z))
  · exact .inl (.inr ⟨o, st _ _ h fun _ z => nomatch z⟩)
  · exact .inr h
theorem Rp.flat2 {K : PySem.W.Frag} {H H' : Hp} {M M' : Addr → Prop} {d : D} {v : V} (st : ∀ b o, H b = some o → (∀ xs, o ≠ .lst xs) → H' b = some o) (h : Rp K H M d v) (f : d.flat = true) : Rp K H' M' d v := by
  have sc : ∀ {d : D} {v : V}, Rp K H M d v → d.sc = true → Rp K H' M' d v := fun h f => by
    cases h with
    | non => exact .non
    | bl b => exact .bl b
    | int i => exact .int i
    | str y => exact .str y
    | _ => cases f
  cases h with
  | tup h hl hz hi => exact .tup (sq_stay st h) hl hz fun i d v e1 e2 => sc (hi i d v e1 e2) (List.all_eq_true.mp f d (List.mem_of_getElem? e1))
  | non => exact .non
  | bl b => exact .bl b
  | int i => exact .int i
  | str y => exact .str y
  | _ => cases f
theorem Rp.nol {K : PySem.W.Frag} {H H' : Hp} {M M' : Addr → Prop} {d : D} {v : V} (st : ∀ b o, H b = some o → (∀ xs, o ≠ .lst xs) → H' b = some o) (h : Rp K H M d v) (f : Vm.nol d = true) : Rp K H' M' d v := by
  cases h with
  | tup h hl hz hi => exact .tup (sq_stay st h) hl hz fun i d v e1 e2 => (hi i d v e1 e2).flat2 st (List.all_eq_true.mp f d (List.mem_of_getElem? e1))
  | non => exact .non
  | bl b => exact .bl b
  | int i => exact .int i
  | str y => exact .str y
  | scr h hz =>
    refine .scr ?_ hz
    rcases h with ⟨o, h⟩ | h
    · exact .inl ⟨o, st _ _ h fun _ z => nomatch z⟩
    · exact .inr h
  | _ => cases f
def deadS : Sl → Sl
  | .t d => if nol d = true then .t d else .u
  | .l (.lst ds) => if ds.all nol = true then .l (.lst ds) else .u
  | _ => .u
def short (n : Nat) : D → Bool
  | .lst xs => decide (xs.length + n < sizeLine)
  | _ => false
def mMut (i : Nat) (mi : Ev) : Sv := fun env => do
  let r ← mi env
  match r.1 with
  | .lst ds => if (ds.all (short ds.length) && decide (i < r.2.length)) = true then pure (.next, (r.2.map deadS).set i .u) else .bad
  | _ => .bad
theorem dead_own {s : Sl} (h : (deadS s).isOwn = true) : ∃ ds, s = .l (.lst ds) ∧ ds.all nol = true ∧ deadS s = s := by
  cases s with
  | t d => by_cases q : nol d = true <;> simp [deadS, q, Sl.isOwn] at h
  | l d =>
    cases d with
    | lst ds =>
      by_cases q : ds.all nol = true
      · exact ⟨ds, rfl, q, by simp only [deadS]; rw [if_pos q]⟩
      · simp only [deadS] at h
        rw [if_neg q] at h
        cases h
    | _ => cases h
  | _ => cases h
theorem dead_at {env : Sls} {i j : Nat} {s : Sl} (h : ((env.map deadS).set i .u)[j]? = some s) : s = .u ∨ (j ≠ i ∧ ∃ s0, env[j]? = some s0 ∧ s = deadS s0) := by
  by_cases hj : i = j
  · subst hj
    rw [List.getElem?_set, if_pos rfl] at h
    split at h
    · cases h; exact .inl rfl
    · cases h
  · rw [List.getElem?_set_ne hj, List.getElem?_map] at h
    cases e : env[j]? with
    | none => rw [e] at h; cases h
    | some s0 => rw [e] at h; cases h; exact .inr ⟨fun z => hj z.symm, s0, rfl, rfl⟩
theorem dead_ok {H H' : Hp} {M M' : Addr → Prop} {v : Option V} {s : Sl} {a : Addr} (st : ∀ b o, H b = some o → (∀ xs, o ≠ .lst xs) → H' b = some o)
    (sl : ∀ ds, s = .l (.lst ds) → ∀ us, H a = some (.lst us) → H' a = some (.lst us)) (q : SlOk C H M v s a) : SlOk C H' M' v (deadS s) a := by
  cases s with
  | t d =>
    by_cases hd : nol d = true
    · have e : deadS (.t d) = .t d := by simp only [deadS]; rw [if_pos hd]
      rw [e]
      obtain ⟨y, q1, q2⟩ := q
      exact ⟨y, q1, q2.nol st hd⟩
    · have e : deadS (.t d) = .u := by simp only [deadS]; rw [if_neg hd]
      rw [e]
      trivial
  | l d =>
    cases d with
    | lst ds' =>
      by_cases hd : ds'.all nol = true
      · have e : deadS (.l (.lst ds')) = .l (.lst ds') := by simp only [deadS]; rw [if_pos hd]
        rw [e]
        obtain ⟨q1, q2, us, q3, q4⟩ := q
        exact ⟨q1, q2, us, sl _ rfl _ q3, q4.len, fun n d v e1 e2 => (q4.item n d v e1 e2).nol st (List.all_eq_true.mp hd d (List.mem_of_getElem? e1))⟩
      · have e : deadS (.l (.lst ds')) = .u := by simp only [deadS]; rw [if_neg hd]
        rw [e]
        trivial
    | _ => trivial
  | _ => trivial
theorem sx_mut (i : Nat) {tg iter : Expr} {body : List Stmt} {te : TE} {mi : Ev} {mb : Sv} {gv : Gv} {vs0 : List Nat} {pos : Pos} (g : Gd X C W k) (hL : ∀ a xs, C.H0 a = some (.lst xs) → C.M0 a) (h : EF X C W iter te mi)
    (hg : GM X C tg (gName i) vs0 gv) (hb : SSM X C W body (tDrop (tBM C.K "list" rAppend (tVar i) (tCons (tC (.int 0)) tNil))) mb)
    (hp : PassesOwn (model X.prog X.w) X.A X.env X.xe := by exact passes_of rfl) (hs : ∀ x, foldedSetIterable iter X.env x = pure x := by intro _; rfl) :
    SX X C W (.For tg iter body [] pos) (tFor (iList C.K te) (gName i) (tDrop (tBM C.K "list" rAppend (tVar i) (tCons (tC (.int 0)) tNil)))) (mMut i mi) := by
  refine ⟨ps_for hp g.calm (g.kE ▸ pi_list h.pe) hg.pe hb.pe hs, fun ad σ H env Dn R w => ?_⟩
  unfold mMut at w
  refine h.st R w fun r a H1 hn R1 S1 c w1 => ?_
  obtain ⟨d, env1⟩ := r
  simp only at w1 R1 S1 c
  cases d with
  | lst ds =>
    simp only at w1
    split at w1
    · rename_i hsh0
      obtain ⟨hsh, hie⟩ := Bool.and_eq_true_iff.mp hsh0
      have hie := of_decide_eq_true hie
      obtain ⟨hz, vs, hv, rl⟩ := c
      have RU : RE C ad H1 σ env1 := R1.unadd
      refine ⟨a, rfl, ⟨vs, .of hv⟩, ?_⟩
      -- the items
      have item : ∀ v, v ∈ vs → ∃ b us, v = V.ref b ∧ H1 b = some (.lst us) ∧ ¬ Mo (C.add a) env1 ad b ∧ us.length + ds.length < sizeLine := fun v hv => by
        obtain ⟨j, hj, e⟩ := List.getElem_of_mem hv
        have e1 : vs[j]? = some v := by rw [List.getElem?_eq_getElem hj, e]
        obtain ⟨d, e2, rp⟩ := rl.at2 e1
        have q := List.all_eq_true.mp hsh d (List.mem_of_getElem? e2)
        cases rp with
        | lst h1 hm hl hz hi =>
          refine ⟨_, _, rfl, h1, hm, ?_⟩
          rw [hl]
          exact of_decide_eq_true q
        | _ => cases q
      have na : V.ref a ∉ vs := fun z => by
        obtain ⟨b, us, e, _, hm, _⟩ := item _ z
        cases e
        exact hm (mo_add.mpr (.inr rfl))
      have nM : ∀ b, Mo C env1 ad b → V.ref b ∉ vs := fun b hb z => by
        obtain ⟨b', us, e, _, hm, _⟩ := item _ z
        cases e
        exact hm (mo_add.mpr (.inl hb))
      have isl : ∀ b o, H1 b = some o → (∀ xs, o ≠ .lst xs) → V.ref b ∉ vs := fun b o e ne z => by
        obtain ⟨b', us, e', e2, _⟩ := item _ z
        cases e'
        rw [e] at e2
        cases e2
        exact ne _ rfl
      refine ⟨fun i2 m σ2 H2 => m = ds.length - i2 ∧ i2 ≤ ds.length ∧ σ2.length = σ.length ∧ (∀ j, j ≠ i → σ2[j]? = σ[j]?) ∧ (∀ b o, H1 b = some o → V.ref b ∉ vs → H2 b = some o) ∧ (∀ b, H1 b ≠ none → H2 b ≠ none) ∧
        (∀ b, V.ref b ∈ vs → ∃ us, H2 b = some (.lst us) ∧ us.length + (ds.length - i2) < sizeLine), ⟨ds.length, by simp, Nat.zero_le _, rfl, fun _ _ => rfl, fun _ _ e _ => e, fun _ e => e, fun b hb => ?_⟩, ?_⟩
      · obtain ⟨b', us, e, e2, _, e3⟩ := item _ hb
        cases e
        exact ⟨us, e2, e3⟩
      · rintro i2 m σ2 H2 ⟨rfl, hil, l2, o2, st2, tk2, it2⟩
        have ha2 : H2 a = some (.lst vs) := st2 _ _ hv na
        by_cases hlt : i2 < ds.length
        · have hlv : i2 < vs.length := by rw [rl.len]; exact hlt
          have ev : vs[i2]? = some vs[i2] := List.getElem?_eq_getElem hlv
          refine .inr ⟨⟨vs, vs[i2], .of ha2, ev⟩, fun σ3 H3 => σ3.length = σ.length ∧ (∀ j, j ≠ i → σ3[j]? = σ[j]?) ∧ (∀ b o, H1 b = some o → V.ref b ∉ vs → H3 b = some o) ∧ (∀ b, H1 b ≠ none → H3 b ≠ none) ∧
            (∀ b, V.ref b ∈ vs → ∃ us, H3 b = some (.lst us) ∧ us.length + (ds.length - (i2 + 1)) < sizeLine), fun σ3 H3 h3 => ⟨ds.length - (i2 + 1), by omega, rfl, hlt, h3⟩, fun x H3 y => ?_⟩
          obtain ⟨e3, y⟩ := y
          subst e3
          have ex := y vs (.of ha2)
          rw [ev] at ex
          cases ex
          obtain ⟨b, _, eb, _⟩ := item _ (List.getElem_mem hlv)
          have hbm : V.ref b ∈ vs := by rw [← eb]; exact List.getElem_mem hlv
          obtain ⟨us, hb2, hlen⟩ := it2 b hbm
          rw [eb]
          have hi2 : i < σ2.length := by rw [l2, RU.len]; exact hie
          refine ⟨.ref b, by rw [List.getElem?_set_self hi2], .inl ⟨rfl, us, .of hb2⟩, ?_⟩
          refine ⟨b, us, .int 0, rfl, rfl, hb2, by omega, ?_⟩
          refine ⟨by rw [List.length_set]; exact l2, fun j hj => by rw [List.getElem?_set_ne (Ne.symm hj)]; exact o2 j hj, fun b' o e n => ?_, fun b' e => ?_, fun b' hb' => ?_⟩
          · rw [upd_ne fun z => by rw [z] at n; exact n hbm]
            exact st2 b' o e n
          · by_cases z : b' = b
            · rw [z, upd_same]; exact fun z => nomatch z
            · rw [upd_ne z]; exact tk2 b' e
          · by_cases z : b' = b
            · subst z
              rw [upd_same]
              refine ⟨_, rfl, ?_⟩
              rw [List.length_append]
              show us.length + 1 + _ < _
              omega
            · rw [upd_ne z]
              obtain ⟨us', q1, q2⟩ := it2 b' hb'
              exact ⟨us', q1, by omega⟩
        · have ei : i2 = ds.length := by omega
          subst ei
          refine .inl ⟨⟨vs, .of ha2, by rw [rl.len]; exact Nat.le_refl _⟩, ?_⟩
          refine w1 ad σ2 H2 ?_
          have stl : ∀ b o, H1 b = some o → (∀ xs, o ≠ .lst xs) → H2 b = some o := fun b o e n => st2 b o e (isl b o e n)
          refine ⟨by rw [List.length_set, List.length_map, l2]; exact RU.len, fun j s e => ?_, fun j j' s t e e' o o' q => ?_, fun j d e => ?_, fun j d e => ?_, fun b o e n nt => ?_, R.frk, fun b e => tk2 b (RU.trk b e), fun b e => tk2 b (RU.m0 b e), fun p hp => ?_⟩
          · rcases dead_at e with rfl | ⟨hj, s0, e0, rfl⟩
            · trivial
            · have q := RU.sl j s0 e0
              show SlOk C H2 _ (σ2[j]?.join) (deadS s0) (ad j)
              rw [o2 j hj]
              exact dead_ok stl (fun ds' es us q3 => st2 _ _ q3 (nM _ (.inr ⟨j, _, e0, by rw [es]; rfl, rfl⟩))) q
          · rcases dead_at e with rfl | ⟨hj, s0, e0, rfl⟩
            · cases o
            · rcases dead_at e' with rfl | ⟨hj', t0, e0', rfl⟩
              · cases o'
              · obtain ⟨_, h1, _, h2⟩ := dead_own o
                obtain ⟨_, h3, _, h4⟩ := dead_own o'
                exact RU.inj _ _ _ _ e0 e0' (by rw [← h2]; exact o) (by rw [← h4]; exact o') q
          · have fin : ∀ s, ((env1.map deadS).set i .u)[j]? = some s → s.isOwn = true → env1[j]? = some s := fun s e o => by
              rcases dead_at e with rfl | ⟨hj, s0, e0, rfl⟩
              · cases o
              · obtain ⟨_, h1, _, h2⟩ := dead_own o
                rw [h2]; exact e0
            exact RU.loc j d (e.imp (fun e => fin _ e rfl) fun e => fin _ e rfl)
          · rcases dead_at e with q | ⟨hj, s0, e0, q⟩
            · cases q
            · have o : (deadS s0).isOwn = true := by rw [← q]; rfl
              obtain ⟨_, h1, _, h2⟩ := dead_own o
              rw [h2, h1] at q
              cases q
          · have e1 := RU.same b o e n nt
            refine st2 b o e1 fun z => ?_
            obtain ⟨b', us, e', e2, hm, _⟩ := item _ z
            cases e'
            rw [e1] at e2
            cases e2
            exact hm (.inl (.inl (hL _ _ e)))
          · obtain ⟨ps, e1, e2, e3⟩ := RU.tabs p hp
            refine ⟨ps, stl _ _ e1 (fun _ z => nomatch z), e2, fun pos cv hc => ?_⟩
            obtain ⟨c', q1, q2⟩ := e3 pos cv hc
            exact ⟨c', q1, stl _ _ q2 (fun _ z => by unfold LamX.CodeO at z; cases z)⟩
    · exact w1.elim
  | _ => exact w1.elim
end
/-- a def's body that may spoil lists; the caller's lists are held by M0 -/
def BodyX (P : Program) (w : World) (K : PySem.W.Frag) (T : List (Addr × Str)) (mg : Str → Option Value) (base : Heap) (N : List Str) (qual : Str) (st : Stmt) (k : Nat) (m : Sv) : Prop :=
  ∀ (f : Addr) (cdv : Value) (A : Around) (outer : List Env) (s : Shared) (H : Hp) (E : XK) (M0 fr : Addr → Prop) (pa : Nat → Addr), (∀ a xs, H a = some (.lst xs) → M0 a) →
    Gd (cxOf (L2.CX P w) P w K mg base N qual (defScope st) f cdv A outer s H E) (mkC K T mg H M0 fr pa false) (fun cls d _ H' => E cls d H') k →
    ∃ t, SSX (cxOf (L2.CX P w) P w K mg base N qual (defScope st) f cdv A outer s H E) (mkC K T mg H M0 fr pa false) (fun cls d _ H' => E cls d H') (defBody st) t m
section
variable {P : Program} {w : World} {K : PySem.W.Frag} {mg : Str → Option Value} {base : Heap} {x : Str} {st : Stmt} {f : Addr} {fd : FuncData} {N ps : List Str} {k n : Nat} {m : Sv} {T : List (Addr × Str)}
theorem fnX (F : Fun K x x st f fd) (S : FnScope N ps (defScope st)) (hn : ps.length = n) (hm : mg x = some (.ref f)) (hb : Binds K fd ps []) (B : BodyX P w K T mg base N x st k m) :
    Fn P w K mg base (k + 1) x (spP K T mg n (fun ds => if ds.all nol = true then run N.length m ds else .bad)) := by
  refine ⟨f, fd, ps, okX F S (fun vs H Q E h => h.1.trans hn.symm) (fun cdv A outer s H vs Q E hr h => ?_), hm, F.kp, hb⟩
  obtain ⟨hl, ht, M, ds, tk, r, q⟩ := h
  have hds : ds.length ≤ N.length := by rw [← r.len, hl, ← hn]; exact pre_len S
  dsimp only at q
  split at q
  · rename_i hnol
    have hL : ∀ a xs, H a = some (.lst xs) → (M a ∨ ∃ xs, H a = some (.lst xs)) := fun a xs e => .inr ⟨xs, e⟩
    obtain ⟨t, hs⟩ := B f cdv A outer s H E (fun a => M a ∨ ∃ xs, H a = some (.lst xs)) (fun _ => False) (fun _ => 0) hL (gd_of S hr)
    have r2 : RpL K H (fun a => M a ∨ ∃ xs, H a = some (.lst xs)) ds vs := ⟨r.len, fun i d v e1 e2 => (r.item i d v e1 e2).nol (fun _ _ e _ => e) (List.all_eq_true.mp hnol d (List.mem_of_getElem? e1))⟩
    have tk2 : ∀ a, (M a ∨ ∃ xs, H a = some (.lst xs)) → H a ≠ none := fun a z => z.elim (tk a) fun ⟨xs, e⟩ => by rw [e]; exact fun z => nomatch z
    refine ⟨t, hs.pe, hs.sn _ _ H _ _ (re_start hds tk2 ht r2) ?_⟩
    unfold run at q
    cases z : m (envOf N.length ds) with
    | ok r3 =>
      rw [z] at q
      obtain ⟨o, e2⟩ := r3
      cases o with
      | ret d =>
        intro ad' σ' H' v hR
        obtain ⟨R', rp⟩ := hR
        exact q v H' (R'.sme) (rp.less fun b z => .inl (.inl z))
      | next => exact fun ad' σ' H' R' => q .non H' (R'.sme) .non
      | brk => exact q.elim
      | cont => exact q.elim
    | err c =>
      rw [z] at q
      exact fun ad' σ' cls dd H' e' hc R' => q cls dd H' hc R'.sme
    | bad => rw [z] at q; exact q.elim
  · exact q.elim
end
end Vm
end
section
set_option maxRecDepth 100000
set_option maxHeartbeats 4000000
/-! Vm, part ZV: a comprehension over the keys of a dict with tuple keys that is data (not an own cell): it is locked meanwhile. -/
namespace Vm
open PySem PySem.Spec PyProof.Rows L2
abbrev Cfg.fx (C : Cfg) (F : Addr → Prop) : Cfg := { C with fr := F }
section
variable {K : PySem.W.Frag} {H : Hp} {M : Addr → Prop} {x : D} {v : V} {d : Addr} {us : List (List Key × V)} {od : Obj}
theorem sq_lock {a : Addr} {xs : List V} (hu : H d = some (.dT us)) (h : SqT K H a xs) : SqT K (upd H d (.frz od (.dT us))) a xs := by
  rcases h with (h | ⟨o, h⟩) | h
  · exact .inl (.inl (by rw [upd_ne fun e => by rw [e, hu] at h; cases h]; exact h))
  · exact .inl (.inr ⟨o, by rw [upd_ne fun e => by rw [e, hu] at h; cases h]; exact h⟩)
  · exact .inr h
theorem Rp.lock (hu : H d = some (.dT us)) (h : Rp K H M x v) : Rp K (upd H d (.frz od (.dT us))) M x v := by
  have st : ∀ b o, H b = some o → (∀ vs, o ≠ .dT vs) → upd H d (.frz od (.dT us)) b = some o := fun b o e n => by
    rw [upd_ne fun q => by rw [q, hu] at e; cases e; exact n _ rfl]; exact e
  induction h with
  | non => exact .non
  | bl b => exact .bl b
  | int i => exact .int i
  | str y => exact .str y
  | tup h hl hz _ ih => exact .tup (sq_lock hu h) hl hz ih
  | lst h hm hl hz _ ih => exact .lst (st _ _ h fun _ z => nomatch z) hm hl hz ih
  | scr h hz => exact .scr (h.imp (fun ⟨o, h⟩ => ⟨o, st _ _ h fun _ z => nomatch z⟩) id) hz
  | exc h hm hd => exact .exc (st _ _ h fun _ z => by unfold ExO at z; cases z) hm hd
  | dic h hm hl hz hk _ ih => exact .dic (h.imp (fun h => st _ _ h fun _ z => nomatch z) fun ⟨o, h⟩ => ⟨o, st _ _ h fun _ z => nomatch z⟩) hm hl hz hk ih
  | dct h hm hl hz hk _ ih =>
    rename_i a vs ds _
    refine .dct ?_ hm hl hz hk ih
    by_cases e : a = d
    · subst e
      rcases h with h | ⟨o, h⟩
      · rw [hu] at h; cases h; exact .inr ⟨od, upd_same⟩
      · rw [hu] at h; cases h
    · exact h.imp (fun h => by rw [upd_ne e]; exact h) fun ⟨o, h⟩ => ⟨o, by rw [upd_ne e]; exact h⟩
theorem sq_unl {a : Addr} {xs : List V} (hu : H d = some (.frz od (.dT us))) (h : SqT K H a xs) : SqT K (upd H d (.dT us)) a xs := by
  rcases h with (h | ⟨o, h⟩) | h
  · exact .inl (.inl (by rw [upd_ne fun e => by rw [e, hu] at h; cases h]; exact h))
  · exact .inl (.inr ⟨o, by rw [upd_ne fun e => by rw [e, hu] at h; cases h]; exact h⟩)
  · exact .inr h
theorem Rp.unl (hu : H d = some (.frz od (.dT us))) (h : Rp K H M x v) : Rp K (upd H d (.dT us)) M x v := by
  have st : ∀ b o, H b = some o → (∀ y vs, o ≠ .frz y (.dT vs)) → upd H d (.dT us) b = some o := fun b o e n => by
    rw [upd_ne fun q => by rw [q, hu] at e; cases e; exact n _ _ rfl]; exact e
  induction h with
  | non => exact .non
  | bl b => exact .bl b
  | int i => exact .int i
  | str y => exact .str y
  | tup h hl hz _ ih => exact .tup (sq_unl hu h) hl hz ih
  | lst h hm hl hz _ ih => exact .lst (st _ _ h fun _ _ z => nomatch z) hm hl hz ih
  | scr h hz => exact .scr (h.imp (fun ⟨o, h⟩ => ⟨o, st _ _ h fun _ _ z => nomatch z⟩) id) hz
  | exc h hm hd => exact .exc (st _ _ h fun _ _ z => by unfold ExO at z; cases z) hm hd
  | dic h hm hl hz hk _ ih => exact .dic (h.imp (fun h => st _ _ h fun _ _ z => nomatch z) fun ⟨o, h⟩ => ⟨o, st _ _ h fun _ _ z => nomatch z⟩) hm hl hz hk ih
  | dct h hm hl hz hk _ ih =>
    rename_i a vs ds _
    refine .dct ?_ hm hl hz hk ih
    by_cases e : a = d
    · subst e
      rcases h with h | ⟨o, h⟩
      · rw [hu] at h; cases h
      · rw [hu] at h; cases h; exact .inl upd_same
    · exact h.imp (fun h => by rw [upd_ne e]; exact h) fun ⟨o, h⟩ => ⟨o, by rw [upd_ne e]; exact h⟩
theorem CellOk.lock {a : Addr} {c : D} (hu : H d = some (.dT us)) (ne : a ≠ d) (h : CellOk K H M c a) : CellOk K (upd H d (.frz od (.dT us))) M c a := by
  cases c with
  | lst ds => obtain ⟨z, vs, h, r⟩ := h; exact ⟨z, vs, by rw [upd_ne ne]; exact h, r.len, fun i d v e f => (r.item i d v e f).lock hu⟩
  | dic ds => obtain ⟨z, vs, h, r⟩ := h; exact ⟨z, vs, by rw [upd_ne ne]; exact h, r.len, r.key, fun i d v e f => (r.item i d v e f).lock hu⟩
  | dct ds => obtain ⟨z, vs, h, r⟩ := h; exact ⟨z, vs, by rw [upd_ne ne]; exact h, r.len, r.key, fun i d v e f => (r.item i d v e f).lock hu⟩
  | _ => exact h.elim
theorem CellOk.unl {a : Addr} {c : D} (hu : H d = some (.frz od (.dT us))) (h : CellOk K H M c a) : a ≠ d ∧ CellOk K (upd H d (.dT us)) M c a := by
  have ne : a ≠ d := fun e => (h.kind).2 _ _ (by rw [e]; exact hu)
  refine ⟨ne, ?_⟩
  cases c with
  | lst ds => obtain ⟨z, vs, h, r⟩ := h; exact ⟨z, vs, by rw [upd_ne ne]; exact h, r.len, fun i d v e f => (r.item i d v e f).unl hu⟩
  | dic ds => obtain ⟨z, vs, h, r⟩ := h; exact ⟨z, vs, by rw [upd_ne ne]; exact h, r.len, r.key, fun i d v e f => (r.item i d v e f).unl hu⟩
  | dct ds => obtain ⟨z, vs, h, r⟩ := h; exact ⟨z, vs, by rw [upd_ne ne]; exact h, r.len, r.key, fun i d v e f => (r.item i d v e f).unl hu⟩
  | _ => exact h.elim
end
section
variable {C : Cfg} {ad : Nat → Addr} {σ : L2.St} {H : Hp} {env : Sls} {d : Addr} {us : List (List Key × V)} {od : Obj}
theorem SlOk.lock {M : Addr → Prop} {F : Addr → Prop} {v : Option V} {s : Sl} {a : Addr} (hu : H d = some (.dT us)) (ne : s.isOwn = true → a ≠ d) (h : SlOk C H M v s a) : SlOk (C.fx F) (upd H d (.frz od (.dT us))) M v s a := by
  cases s with
  | u => trivial
  | t f => obtain ⟨y, q1, q2⟩ := h; exact ⟨y, q1, q2.lock hu⟩
  | l f => exact ⟨h.1, h.2.lock hu (ne rfl)⟩
  | p f => exact ⟨h.1, h.2.lock hu (ne rfl)⟩
  | r f => exact ⟨h.1, h.2.lock hu (ne rfl)⟩
theorem SlOk.unl {M : Addr → Prop} {F : Addr → Prop} {v : Option V} {s : Sl} {a : Addr} (hu : H d = some (.frz od (.dT us))) (h : SlOk (C.fx F) H M v s a) : SlOk C (upd H d (.dT us)) M v s a := by
  cases s with
  | u => trivial
  | t f => obtain ⟨y, q1, q2⟩ := h; exact ⟨y, q1, q2.unl hu⟩
  | l f => exact ⟨h.1, (h.2.unl hu).2⟩
  | p f => exact ⟨h.1, (h.2.unl hu).2⟩
  | r f => exact ⟨h.1, (h.2.unl hu).2⟩
/-- what may change, and the dicts that stood at the entry -/
def frL (C : Cfg) (b : Addr) : Prop := C.fr b ∨ ∃ kvs, C.H0 b = some (.dT kvs)
theorem RE.fxd (R : RE C ad H σ env) : RE (C.fx (frL C)) ad H σ env := by
  refine ⟨R.len, R.sl, R.inj, R.loc, fun i f e => ⟨(R.par i f e).1, .inl (R.par i f e).2⟩, fun b o e n nt => R.same b o e (fun z => n (.inl z)) nt, fun b h => ?_, R.trk, R.m0, R.tabs⟩
  rcases h with h | ⟨kvs, h⟩
  · exact R.frk b h
  · exact ⟨_, h, (fun _ z => nomatch z), fun _ _ z => nomatch z⟩
theorem RE.lockV (R : RE C ad H σ env) (hu : H d = some (.dT us)) (hno : ¬ Ow env ad d) : RE (C.fx (frL C)) ad (upd H d (.frz od (.dT us))) σ env := by
  have RF := R.fxd
  refine ⟨R.len, fun i s e => ?_, R.inj, R.loc, RF.par, fun b o e n nt => ?_, RF.frk, fun b e => ?_, fun b e => ?_, ?_⟩
  · exact (R.sl i s e).lock hu fun o z => hno ⟨i, s, e, o, z⟩
  · have e1 := R.same b o e (fun z => n (.inl z)) nt
    have ne : b ≠ d := fun z => n (.inr ⟨us, by rw [z, hu] at e1; cases e1; exact e⟩)
    rw [upd_ne ne]
    exact e1
  · by_cases q : b = d
    · rw [q, upd_same]; exact fun z => nomatch z
    · rw [upd_ne q]; exact R.trk b e
  · by_cases q : b = d
    · rw [q, upd_same]; exact fun z => nomatch z
    · rw [upd_ne q]; exact R.m0 b e
  · exact tabs_off hu (fun _ z => nomatch z) (fun _ _ z => by unfold LamX.CodeO at z; cases z) R.tabs
/-- what stood at the entry and may not change is no own cell -/
theorem RE.noOw (R : RE C ad H σ env) {b : Addr} {o : HO} (e : C.H0 b = some o) (n : ¬ C.fr b) : ¬ Ow env ad b := by
  rintro ⟨i, s, h, ho, rfl⟩
  cases s with
  | u => cases ho
  | t _ => cases ho
  | l f => rw [(R.loc i f (.inl h)).1] at e; cases e
  | r f => rw [(R.loc i f (.inr h)).1] at e; cases e
  | p f => exact n (by rw [(R.par i f h).1]; exact (R.par i f h).2)
theorem RE.parOf {L : Addr} {H2 : Hp} {env2 : Sls} (R : RE C ad H σ env) (m2 : ∀ a, Ow env2 ad a → Ow env ad a) (R2 : RE ((C.add L).fx (frL C)) ad H2 σ env2) {i : Nat} {f : D} (h : env2[i]? = some (.p f)) : ad i = C.pa i ∧ C.fr (C.pa i) := by
  obtain ⟨q1, q2⟩ := R2.par i f h
  refine ⟨q1, ?_⟩
  by_cases n : C.fr (C.pa i)
  · exact n
  · rcases q2 with q2 | ⟨kvs, q2⟩
    · exact q2
    · exact absurd (m2 _ ⟨i, _, h, rfl, q1⟩) (R.noOw q2 n)
theorem RE.unlV {L : Addr} {H2 : Hp} {env2 : Sls} (R : RE C ad H σ env) (hu : H d = some (.dT us)) (x2 : Ext (Ow env ad) (upd H d (.frz od (.dT us))) H2) (m2 : ∀ a, Ow env2 ad a → Ow env ad a)
    (R2 : RE ((C.add L).fx (frL C)) ad H2 σ env2) (f2 : H2 d = some (.frz od (.dT us))) : RE (C.add L) ad (upd H2 d (.dT us)) σ env2 := by
  refine ⟨R2.len, fun i s e => (R2.sl i s e).unl f2, R2.inj, R2.loc, fun i f e => R.parOf m2 R2 e, fun b o e n nt => ?_, R.frk, fun b e => ?_, fun b e => ?_, ?_⟩
  · have e1 := R.same b o e n nt
    by_cases q : b = d
    · rw [q, hu] at e1
      rw [q, upd_same, e1]
    · rw [upd_ne q]
      exact x2.stay b o (by rw [upd_ne q]; exact e1) (R.noOw e n) nt
  · by_cases q : b = d
    · rw [q, upd_same]; exact fun z => nomatch z
    · rw [upd_ne q]; exact R2.trk b e
  · by_cases q : b = d
    · rw [q, upd_same]; exact fun z => nomatch z
    · rw [upd_ne q]; exact R2.m0 b e
  · exact tabs_off f2 (fun _ z => nomatch z) (fun _ _ z => by unfold LamX.CodeO at z; cases z) R2.tabs
theorem RE.unfx {L : Addr} {H2 : Hp} {env2 : Sls} (R : RE C ad H σ env) (x2 : Ext (Ow env ad) H H2) (m2 : ∀ a, Ow env2 ad a → Ow env ad a) (R2 : RE ((C.add L).fx (frL C)) ad H2 σ env2) : RE (C.add L) ad H2 σ env2 :=
  ⟨R2.len, R2.sl, R2.inj, R2.loc, fun i f e => R.parOf m2 R2 e, fun b o e n nt => x2.stay b o (R.same b o e n nt) (R.noOw e n) nt, R.frk, R2.trk, R2.m0, R2.tabs⟩
end
section
variable {X : Cx} {C : Cfg} {W : WX} {k : Nat} {tg elt : Expr} {te : TE} {me : Ev} {pos : Pos}
theorem lcT_sn {g : TG} {gv : Gv} {tt : TT} {mt : Ev1} {vs : List Nat} {io : Nat}
    (hg : ∀ (M0 : Addr → Prop) (ad : Nat → Addr) (σ : L2.St) (H : Hp) (env : Sls) (d : D) (v : V) (Q : L2.St → Hp → Prop), RE (C.w M0) ad H σ env → Rp C.K H (Mo (C.w M0) env ad) d v →
      (gv d env).Wp (fun env' => ∀ σ', RE (C.w M0) ad H σ' env' → (∀ a, Ow env' ad a → Ow env ad a) → σ'.length = σ.length → (∀ j, j ∉ vs → σ'[j]? = σ[j]?) → Q σ' H) (fun _ => False) → g v σ H Q)
    (ht : ∀ (M0 : Addr → Prop) (ad : Nat → Addr) (σ : L2.St) (H : Hp) (env : Sls) (Q : Bool → Hp → Prop), RE (C.w M0) ad H σ env →
      (mt env).Wp (fun r => ∀ H', RE (C.w M0) ad H' σ r.2 → Stp (C.w M0) ad H env H' r.2 → Q r.1 H') (Er (C.w M0) ad σ W0) → tt σ H Q)
    (he : ∀ (M0 : Addr → Prop) (ad : Nat → Addr) (σ : L2.St) (H : Hp) (env : Sls) (Q : VK), RE (C.w M0) ad H σ env →
      (me env).Wp (fun r => ∀ v H', RE (C.w M0) ad H' σ r.2 → Stp (C.w M0) ad H env H' r.2 → VR (C.w M0) ad H' σ r.2 r.1 v → Q v H') (Er (C.w M0) ad σ W0) → te σ H Q)
    {M0 : Addr → Prop} {ad : Nat → Addr} {σ : L2.St} {H : Hp} {env : Sls} {Q : VK} {ds : List (List Key × D)} {us0 : List (List Key × V)} {d : Addr} {od : Obj} (R : RE (C.w M0) ad H σ env)
    (hd : σ[io]? = some (some (.ref d))) (hf : H d = some (.frz od (.dT us0))) (hl : us0.length = ds.length) (hk : ∀ (i : Nat) (p : List Key × D) (q : List Key × V), ds[i]? = some p → us0[i]? = some q → q.1 = p.1) (Hz : ds.length ≤ sizeLine) (hw : okWipe env vs = true) (hsz : ∀ p ∈ ds, p.1.length ≤ sizeLine)
    (w : (lcL vs gv mt me (ds.map fun p => tupK p.1) (wipeE env vs)).Wp (fun q => ∀ L H', H L = none → RE ((C.w M0).add L) ad H' σ (backE env q.2 vs) → Ext (Ow env ad) H H' → (∀ a, Ow (backE env q.2 vs) ad a → Ow env ad a) →
      CellOk C.K H' (Mo ((C.w M0).add L) (backE env q.2 vs) ad) (.lst q.1) L → Q (.ref L) H') (fun _ => True)) : tLc (iKeys (tVar io)) g tt te vs σ H Q := by
  refine ⟨.ref d, hd, d, od, rfl, .inr ⟨us0, hf, ?_⟩⟩
  obtain ⟨H1, e1⟩ : ∃ H1, H1 = H := ⟨_, rfl⟩
  obtain ⟨env1, e2⟩ : ∃ env1, env1 = env := ⟨_, rfl⟩
  rw [← e2] at w hw
  have R1 : RE (C.w M0) ad H1 σ env1 := by rw [e1, e2]; exact R
  have S1 : Stp (C.w M0) ad H env H1 env1 := by rw [e1, e2]; exact .refl
  rw [show H = H1 from e1.symm] at hf w ⊢
  intro L hL
  have sL : Same H1 (upd H1 L (.lst [])) := same_new hL
  have HL0 : H1 L = none := hL
  have h0L : C.H0 L = none := by
    cases z : C.H0 L with
    | none => rfl
    | some o => exact absurd hL (R1.trk L (by show C.H0 L ≠ none; rw [z]; exact fun z => nomatch z))
  have LnO : ¬ Ow env1 ad L := fun z => R1.mtrk (.inr z) hL
  have RA : RE ((C.w M0).add L) ad (upd H1 L (.lst [])) σ env1 := R1.growAdd sL hL (by rw [upd_same]; exact fun z => nomatch z)
  -- the word: at turn i
  refine ⟨fun i m H => m = ds.length - i ∧ i ≤ ds.length ∧ ∃ (env' : Sls) (acc : List D) (us : List V), RE ((C.w M0).add L) ad H (L2.wipe σ vs) env' ∧ Ext (Ow env1 ad) H1 H ∧ (∀ a, Ow env' ad a → Ow env1 ad a) ∧
      H L = some (.lst us) ∧ RpL C.K H (Mo ((C.w M0).add L) env' ad) acc us ∧ acc.length ≤ i ∧
      (lcL vs gv mt me ((ds.drop i).map fun p => tupK p.1) env').Wp (fun q => ∀ H', RE ((C.w M0).add L) ad H' σ (backE env1 q.2 vs) → Ext (Ow env1 ad) H1 H' → (∀ a, Ow (backE env1 q.2 vs) ad a → Ow env1 ad a) →
        CellOk C.K H' (Mo ((C.w M0).add L) (backE env1 q.2 vs) ad) (.lst (acc ++ q.1)) L → Q (.ref L) H') (fun _ => True), ⟨ds.length, by simp, Nat.zero_le _, wipeE env1 vs, [], [], RA.wipe vs, .of_same sL, ow_wipe vs, upd_same, .nil, Nat.le_refl _, ?_⟩, ?_⟩
  · rw [List.drop_zero]
    cases q : lcL vs gv mt me (ds.map fun p => tupK p.1) (wipeE env1 vs) with
    | ok r =>
      rw [q] at w
      intro H' R' x' mo' c'
      exact w L H' HL0 R' x' mo' c'
    | err c => exact True.intro
    | bad => rw [q] at w; exact w.elim
  · rintro i m H2 ⟨rfl, hil, env2, acc, us, R2, x2, ow2, hus, rac, hacc, w2⟩
    by_cases hlt : i < ds.length
    · have ed : ds[i]? = some ds[i] := List.getElem?_eq_getElem hlt
      have edr : ds.drop i = ds[i] :: ds.drop (i + 1) := List.drop_eq_getElem_cons hlt
      rw [edr] at w2
      rw [List.map_cons] at w2
      unfold lcL at w2
      have f2 : H2 d = some (.frz od (.dT us0)) := x2.frzs _ _ _ hf
      have hil2 : i < us0.length := by rw [hl]; exact hlt
      have eu2 : us0[i]? = some us0[i] := List.getElem?_eq_getElem hil2
      have hgo : (Itkt d od us0).go i H2 := ⟨f2, hil2⟩
      have hy : ∀ x H', (Itkt d od us0).yld i H2 x H' → Same H2 H' ∧ Rp C.K H' (Mo ((C.w M0).add L) env2 ad) (tupK ds[i].1) x := fun x H' y => by
        obtain ⟨e1, k, v, q0, e3, e4, e5⟩ := y
        subst e1 e4
        have ek := hk i _ _ ed eu2
        rw [eu2] at e3
        rw [Option.some.inj e3] at ek
        rw [show k = ds[i].1 from ek] at e5
        exact ⟨fun _ _ h => h, rp_key e5 (hsz _ (List.mem_of_getElem? ed))⟩
      refine .inr ⟨hgo, fun H' => ∃ (env' : Sls) (acc : List D) (us : List V), RE ((C.w M0).add L) ad H' (L2.wipe σ vs) env' ∧ Ext (Ow env1 ad) H1 H' ∧ (∀ a, Ow env' ad a → Ow env1 ad a) ∧
        H' L = some (.lst us) ∧ RpL C.K H' (Mo ((C.w M0).add L) env' ad) acc us ∧ acc.length ≤ i + 1 ∧
        (lcL vs gv mt me ((ds.drop (i + 1)).map fun p => tupK p.1) env').Wp (fun q => ∀ H', RE ((C.w M0).add L) ad H' σ (backE env1 q.2 vs) → Ext (Ow env1 ad) H1 H' → (∀ a, Ow (backE env1 q.2 vs) ad a → Ow env1 ad a) →
          CellOk C.K H' (Mo ((C.w M0).add L) (backE env1 q.2 vs) ad) (.lst (acc ++ q.1)) L → Q (.ref L) H') (fun _ => True), fun H' h' => ⟨ds.length - (i + 1), by omega, rfl, hlt, h'⟩, fun x H3 y => ?_⟩
      obtain ⟨s3, rx⟩ := hy x H3 y
      have R3 : RE ((C.w M0).add L) ad H3 (L2.wipe σ vs) env2 := R2.grow s3
      rw [wp_bind] at w2
      refine hg _ ad (L2.wipe σ vs) H3 env2 (tupK ds[i].1) x _ R3 rx ((noE_wp (E' := fun _ => False) w2).imp (fun env3 w3 σ3 R3' ow3 l3 o3 => ?_) fun _ z => z)
      have ew : L2.wipe σ3 vs = L2.wipe σ vs := by
        rw [st_wipe_eq l3 o3]
        exact st_wipe_eq (wipe_length _ _) fun j hj => wipe_out hj
      refine ⟨ew, ?_⟩
      rw [wp_bind] at w3
      refine ht _ ad σ3 H3 env3 _ R3' ((noE_wp (E' := Er ((C.w M0).add L) ad σ3 W0) w3).imp (fun b w4 H4 R4 S4 => ?_) fun _ z => z)
      have x4 : Ext (Ow env1 ad) H2 H4 := (Ext.of_same s3).trans (S4.ext.mono fun a z => ow2 a (ow3 a z))
      have ow4 : ∀ a, Ow b.2 ad a → Ow env1 ad a := fun a z => ow2 a (ow3 a (S4.ow a z))
      have lowM : ∀ {e1 e2 : Sls}, (∀ a, Ow e2 ad a → Ow e1 ad a) → ∀ a, Mo ((C.w M0).add L) e2 ad a → Mo ((C.w M0).add L) e1 ad a := fun h a z => z.imp id (h a)
      split
      · rename_i hb
        rw [if_pos hb, wp_bind] at w4
        refine he _ ad σ3 H4 b.2 _ R4 ((noE_wp (E' := Er ((C.w M0).add L) ad σ3 W0) w4).imp (fun r w5 v H5 R5 S5 V5 => ?_) fun _ z => z)
        rw [wp_bind] at w5
        obtain ⟨_, w6, rv⟩ := kp_rp V5 w5
        have x5 : Ext (Ow env1 ad) H2 H5 := x4.trans (S5.ext.mono ow4)
        have ow5 : ∀ a, Ow r.2 ad a → Ow env1 ad a := fun a z => ow4 a (S5.ow a z)
        have hL5 : H5 L = some (.lst us) := x5.stay L _ hus LnO fun _ z => nomatch z
        obtain ⟨R6, x6⟩ := R5.other (us' := us ++ [v]) (.inr rfl) (fun z => LnO (ow5 L z)) h0L hL5
        have rac5 : RpL C.K H5 (Mo ((C.w M0).add L) r.2 ad) acc us := rac.ext ((Ext.of_same s3).trans ((S4.ext.trans (S5.ext.mono S4.ow)).mono fun a z => .inr (ow3 a z))) fun a z => .inl (z.imp id fun z => ow3 a (S4.ow a (S5.ow a z)))
        refine ⟨us, hL5, by rw [rac5.len]; omega, wipeE r.2 vs, acc ++ [r.1], us ++ [v], by rw [← ew]; exact R6.wipe vs, ?_, fun a z => ow5 a (ow_wipe vs a z), upd_same, ?_, by rw [List.length_append]; exact Nat.succ_le_succ hacc, ?_⟩
        · refine ⟨fun b o e n nt => ?_, fun b xs e => ?_, fun b o u e => ?_, fun b e => ?_⟩
          · rw [upd_ne fun q => by rw [q, hL] at e; cases e]
            exact x5.stay b o (x2.stay b o e n nt) n nt
          · rw [upd_ne fun q => by rw [q, hL] at e; cases e]
            exact x5.tups b xs (x2.tups b xs e)
          · rw [upd_ne fun q => by rw [q, hL] at e; cases e]
            exact x5.frzs b o u (x2.frzs b o u e)
          · rw [upd_ne fun q => by rw [q] at e; exact e hL]
            exact x5.trk b (x2.trk b e)
        · refine ((rac5.append (.one rv)).ext (x6.mono fun b e => ?_) fun a z => .inl (lowM (fun a z => ow_wipe vs a z) a z))
          rw [e]
          exact .inl (.inr rfl)
        · cases q : lcL vs gv mt me ((ds.drop (i + 1)).map fun p => tupK p.1) (wipeE r.2 vs) with
          | ok z =>
            rw [q] at w6
            intro H' R' x' m' c'
            exact w6 H' R' x' m' (by rw [List.append_assoc] at c'; exact c')
          | err c => exact True.intro
          | bad => rw [q] at w6; exact w6.elim
      · rename_i hb
        rw [if_neg hb] at w4
        have hL4 : H4 L = some (.lst us) := x4.stay L _ hus LnO fun _ z => nomatch z
        refine ⟨wipeE b.2 vs, acc, us, by rw [← ew]; exact R4.wipe vs, x2.trans x4, fun a z => ow4 a (ow_wipe vs a z), hL4, ?_, Nat.le_succ_of_le hacc, w4⟩
        exact rac.ext ((Ext.of_same s3).trans (S4.ext.mono fun a z => .inr (ow3 a z))) fun a z => .inl (z.imp id fun z => ow3 a (S4.ow a (ow_wipe vs a z)))
    · have ei : i = ds.length := by omega
      subst ei
      rw [List.drop_length, List.map_nil] at w2
      unfold lcL at w2
      refine .inl ⟨⟨x2.frzs _ _ _ hf, by rw [hl]; exact Nat.le_refl _⟩, ?_⟩
      have xb : Ext (Mo ((C.w M0).add L) env1 ad) (upd H1 L (.lst [])) H2 := by
        refine ⟨fun b o e n nt => ?_, fun b xs e => ?_, fun b o u e => ?_, fun b e => ?_⟩
        · rw [upd_ne fun q => n (.inl (.inr q))] at e
          exact x2.stay b o e (fun z => n (.inr z)) nt
        · by_cases q : b = L
          · rw [q, upd_same] at e; cases e
          · rw [upd_ne q] at e; exact x2.tups b xs e
        · by_cases q : b = L
          · rw [q, upd_same] at e; cases e
          · rw [upd_ne q] at e; exact x2.frzs b o u e
        · by_cases q : b = L
          · rw [q, hus]; exact fun z => nomatch z
          · rw [upd_ne q] at e; exact x2.trk b e
      obtain ⟨RB, mb⟩ := RE.back RA xb R2 ow2 hw
      rw [backS_wipe] at RB
      refine w2 H2 RB x2 (fun a z => ow2 a (mb a z)) ⟨?_, us, hus, ?_⟩
      · rw [List.append_nil]; exact Nat.le_trans hacc Hz
      · rw [List.append_nil]
        exact rac.less fun a z => z.imp id (mb a)

noncomputable def mLcV (io : Nat) (vs : List Nat) (g : Gv) (tt : Ev1) (me : Ev) : Ev := fun env => match env[io]? with
  | some (.t (.dct ds)) => if (okWipe env vs && ds.all fun p => decide (p.1.length ≤ 1000)) = true then do
      let q ← lcL vs g tt me (ds.map fun p => tupK p.1) (wipeE env vs)
      pure (.lst q.1, backE env q.2 vs)
    else .bad
  | _ => .bad
def tLcV (io : Nat) (g : TG) (tt : TT) (te : TE) (vs : List Nat) : TE := fun σ H Q => tLockE (tLc (iKeys (tVar io)) g tt te vs) σ H Q ∨ tLc (iKeys (tVar io)) g tt te vs σ H Q
theorem lcV_sn {g : TG} {gv : Gv} {tt : TT} {mt : Ev1} {vs : List Nat} {io : Nat}
    (hg : ∀ (M0 : Addr → Prop) (ad : Nat → Addr) (σ : L2.St) (H : Hp) (env : Sls) (d : D) (v : V) (Q : L2.St → Hp → Prop), RE ((C.fx (frL C)).w M0) ad H σ env → Rp C.K H (Mo ((C.fx (frL C)).w M0) env ad) d v →
      (gv d env).Wp (fun env' => ∀ σ', RE ((C.fx (frL C)).w M0) ad H σ' env' → (∀ a, Ow env' ad a → Ow env ad a) → σ'.length = σ.length → (∀ j, j ∉ vs → σ'[j]? = σ[j]?) → Q σ' H) (fun _ => False) → g v σ H Q)
    (ht : ∀ (M0 : Addr → Prop) (ad : Nat → Addr) (σ : L2.St) (H : Hp) (env : Sls) (Q : Bool → Hp → Prop), RE ((C.fx (frL C)).w M0) ad H σ env →
      (mt env).Wp (fun r => ∀ H', RE ((C.fx (frL C)).w M0) ad H' σ r.2 → Stp ((C.fx (frL C)).w M0) ad H env H' r.2 → Q r.1 H') (Er ((C.fx (frL C)).w M0) ad σ W0) → tt σ H Q)
    (he : ∀ (M0 : Addr → Prop) (ad : Nat → Addr) (σ : L2.St) (H : Hp) (env : Sls) (Q : VK), RE ((C.fx (frL C)).w M0) ad H σ env →
      (me env).Wp (fun r => ∀ v H', RE ((C.fx (frL C)).w M0) ad H' σ r.2 → Stp ((C.fx (frL C)).w M0) ad H env H' r.2 → VR ((C.fx (frL C)).w M0) ad H' σ r.2 r.1 v → Q v H') (Er ((C.fx (frL C)).w M0) ad σ W0) → te σ H Q)
    {M0 : Addr → Prop} {ad : Nat → Addr} {σ : L2.St} {H : Hp} {env : Sls} {Q : VK} (R : RE (C.w M0) ad H σ env)
    (w : (mLcV io vs gv mt me env).Wp (fun r => ∀ a H', H a = none → RE ((C.w M0).add a) ad H' σ r.2 → Stp (C.w M0) ad H env H' r.2 → CellOk C.K H' (Mo ((C.w M0).add a) r.2 ad) r.1 a → Q (.ref a) H') (Er (C.w M0) ad σ W)) : tLcV io g tt te vs σ H Q := by
  unfold mLcV at w
  split at w
  · rename_i ds h
    obtain ⟨x, hx, rp⟩ := R.sl io _ h
    have hio : io < σ.length := by rw [R.len]; exact (List.getElem?_eq_some_iff.mp h).1
    have e1 : σ[io]? = some σ[io] := List.getElem?_eq_getElem hio
    rw [e1] at hx
    have hx : σ[io] = some x := hx
    rw [hx] at e1
    cases rp with
    | dct hd hm hl hz hk hi =>
      rename_i a us _
      split at w
      · rename_i hw0
        obtain ⟨hw, hsz⟩ := Bool.and_eq_true_iff.mp hw0
        have hsz : ∀ p ∈ ds, p.1.length ≤ sizeLine := fun p hp => Nat.le_trans (of_decide_eq_true (List.all_eq_true.mp hsz p hp)) (by decide)
        rw [wp_bind] at w
        rcases hd with hu | ⟨od, hf⟩
        · refine .inl ⟨a, .dT us, hu, True.intro, fun od => ?_⟩
          have hno : ¬ Ow env ad a := fun z => hm (.inr z)
          have RL := RE.lockV (od := od) R hu hno
          refine lcT_sn (C := C.fx (frL C)) hg ht he (M0 := M0) RL e1 upd_same hl hk hz hw hsz ?_
          cases q : lcL vs gv mt me (ds.map fun p => tupK p.1) (wipeE env vs) with
          | err c => exact True.intro
          | bad => rw [q] at w; exact w.elim
          | ok r =>
            rw [q, wp_ok] at w
            intro L H2 hL R2 x2 m2 c2
            have f2 : H2 a = some (.frz od (.dT us)) := x2.frzs _ _ _ upd_same
            have nL : L ≠ a := fun e => by rw [e, upd_same] at hL; cases hL
            have hL' : H L = none := by rw [upd_ne nL] at hL; exact hL
            have R3 : RE ((C.w M0).add L) ad (upd H2 a (.dT us)) σ (backE env r.2 vs) := RE.unlV R hu x2 m2 R2 f2
            refine ⟨f2, w L _ hL' R3 ⟨⟨fun b o e n nt => ?_, fun b xs e => ?_, fun b o u e => ?_, fun b e => ?_⟩, m2⟩ (c2.unl f2).2⟩
            · by_cases q : b = a
              · rw [q, upd_same, ← hu, ← q, e]
              · rw [upd_ne q]
                exact x2.stay b o (by rw [upd_ne q]; exact e) n nt
            · have q : b ≠ a := fun z => by rw [z, hu] at e; cases e
              rw [upd_ne q]
              exact x2.tups b xs (by rw [upd_ne q]; exact e)
            · have q : b ≠ a := fun z => by rw [z, hu] at e; cases e
              rw [upd_ne q]
              exact x2.frzs b o u (by rw [upd_ne q]; exact e)
            · by_cases q : b = a
              · rw [q, upd_same]; exact fun z => nomatch z
              · rw [upd_ne q]
                exact x2.trk b (by rw [upd_ne q]; exact e)
        · refine .inr (lcT_sn (C := C.fx (frL C)) hg ht he (M0 := M0) R.fxd e1 hf hl hk hz hw hsz ?_)
          cases q : lcL vs gv mt me (ds.map fun p => tupK p.1) (wipeE env vs) with
          | err c => exact True.intro
          | bad => rw [q] at w; exact w.elim
          | ok r =>
            rw [q, wp_ok] at w
            intro L H2 hL R2 x2 m2 c2
            exact w L H2 hL (RE.unfx R x2 m2 R2) ⟨x2, m2⟩ c2
      · exact w.elim
  · exact w.elim
theorem ef_lcV (io : Nat) {y : Str} {py : Pos} {ifs : List Expr} {scope : Scope} {own : List (Str × Nat)} {gt : TG} {tt : TT} {gv : Gv} {mt : Ev1} (g : Gd X C W k) (ok : BlkOk X.N X.env.scope scope own)
    (hg : ∀ (s : Shared) (H : Hp) (L : Addr) (cl : List (Str × Addr)) (fp : List Addr), Gd (X.blk s H scope (compEnvC scope cl L X.env) fp) (C.fx (frL C)) W0 k → GM (X.blk s H scope (compEnvC scope cl L X.env) fp) (C.fx (frL C)) tg gt (own.map (·.2)) gv)
    (ht : ∀ (s : Shared) (H : Hp) (L : Addr) (cl : List (Str × Addr)) (fp : List Addr), Gd (X.blk s H scope (compEnvC scope cl L X.env) fp) (C.fx (frL C)) W0 k → TMs (X.blk s H scope (compEnvC scope cl L X.env) fp) (C.fx (frL C)) W0 ifs tt mt)
    (he : ∀ (s : Shared) (H : Hp) (L : Addr) (cl : List (Str × Addr)) (fp : List Addr), Gd (X.blk s H scope (compEnvC scope cl L X.env) fp) (C.fx (frL C)) W0 k → EM (X.blk s H scope (compEnvC scope cl L X.env) fp) (C.fx (frL C)) W0 elt te me)
    (hN : X.N[io]? = some y := by rfl) (hv : Vis X.env.scope y := by first | exact Or.inl rfl | exact Or.inr (Or.inl rfl) | exact Or.inr (Or.inr rfl)) (hd : (y == ("__debug__" : Str)) = false := by decide) (hcd : (y == ("__classdict__" : Str)) = false := by decide)
    (hs : ∀ x, foldedSetIterable (.Name y py) X.env x = pure x := by intro _; rfl) :
    EF X C W (.ListComp elt [⟨tg, .Name y py, ifs, 0⟩] scope pos) (tLcV io gt tt te (own.map (·.2))) (mLcV io (own.map (·.2)) gv mt me) := by
  have gF : Gd X (C.fx (frL C)) W k := ⟨g.kE, g.mE, g.calm, g.tk, g.room, g.nd⟩
  have p : PE X (.ListComp elt [⟨tg, .Name y py, ifs, 0⟩] scope pos) (tLc (iKeys (tVar io)) gt tt te (own.map (·.2))) :=
    pe_lc g.calm g.nd (pi_keys (pe_var hN hv hd hcd)) ok (fun s H L cl fp => (hg s H L cl fp gF.blk).pe) (fun s H L cl fp => (ht s H L cl fp gF.blk).pe) (fun s H L cl fp => (he s H L cl fp gF.blk).pe) hs
  exact ⟨⟨fun pins s σ H Q I h => h.elim ((pe_lock p).run pins s σ H Q I) (p.run pins s σ H Q I)⟩,
    fun M0 ad σ H env Q R w => lcV_sn (hg X.s_0 X.H_0 0 [] [] gF.blk).sn (ht X.s_0 X.H_0 0 [] [] gF.blk).sn (he X.s_0 X.H_0 0 [] [] gF.blk).sn R w⟩
end
@[simp] theorem z_mLcV (io : Nat) (vs : List Nat) (g : Gv) (tt : Ev1) (me : Ev) (env : Sls) : mLcV io vs g tt me env = (match env[io]? with
  | some (.t (.dct ds)) => if (okWipe env vs && ds.all fun p => decide (p.1.length ≤ 1000)) = true then do
      let q ← lcL vs g tt me (ds.map fun p => tupK p.1) (wipeE env vs)
      pure (.lst q.1, backE env q.2 vs)
    else .bad
  | _ => .bad) := by
  unfold mLcV
  congr
end Vm
end
section
set_option maxRecDepth 100000
set_option maxHeartbeats 4000000
/-! Vm, part ZW: repr of an integer, a truth, None. -/
namespace Vm
open PySem PySem.Spec PyProof.Rows L2
def rRepr : List V → Hp → VK → Prop := fun xs H Q => (∃ i, xs = [.int i] ∧ i.natAbs.log2 < 1920 ∧ Q (.str (toString i)) H) ∨ (∃ b : Bool, xs = [.bl b] ∧ Q (.str (if b then "True" else "False")) H) ∨ (xs = [.non] ∧ Q (.str "None") H)
theorem call_reprA {X : Cx} : CallR X (.builtin "repr") rRepr := by
  intro pins s σ H xs us Q I r h
  rcases h with ⟨i, rfl, hz, q⟩ | ⟨b, rfl, q⟩ | ⟨rfl, q⟩
  · obtain ⟨u, rfl, t, rfl⟩ := vals1 r
    exact PySem.P.repr_of_int hz ⟨.str _, H, I.tok _, ⟨_, rfl⟩, q⟩
  · obtain ⟨u, rfl, e⟩ := vals1 r
    cases (show u = Value.bool b from e)
    exact PySem.P.repr_of_bool ⟨.str _, H, I.tok _, ⟨_, rfl⟩, q⟩
  · obtain ⟨u, rfl, e⟩ := vals1 r
    cases (show u = Value.none from e)
    exact PySem.P.repr_of_none ⟨.str _, H, I.tok _, ⟨_, rfl⟩, q⟩
def repA (x : D) : Res D := match x with
  | .bl b => .ok (.str (if b then "True" else "False"))
  | .non => .ok (.str "None")
  | x => strI x
theorem cs_repA {K : PySem.W.Frag} : CallS K rRepr (one repA) := by
  intro H M vs ds Q tk r w
  obtain ⟨d, rfl, w1⟩ := one_inv w
  cases d with
  | bl b =>
    obtain ⟨v, rfl, rv⟩ := r.one
    cases rv with
    | bl b => exact .inr (.inl ⟨b, rfl, w1 _ _ (.refl _) (.str _)⟩)
  | non =>
    obtain ⟨v, rfl, rv⟩ := r.one
    cases rv with
    | non => exact .inr (.inr ⟨rfl, w1 _ _ (.refl _) (.str _)⟩)
  | _ => exact .inl (cs_strI H M vs _ Q tk r w)
end Vm
end
section
set_option maxRecDepth 100000
set_option maxHeartbeats 4000000
/-! Vm, part ZX: >= of tuples of integers. -/
namespace Vm
open PySem PySem.Spec PyProof.Rows L2
def rGeT (K : PySem.W.Frag) : R2 := fun x y H Q => ∃ (a b : Addr) (ns ms : List Int), x = .ref a ∧ y = .ref b ∧ SqT K H a (ns.map V.int) ∧ SqT K H b (ms.map V.int) ∧
  Q (.bl (Ob.lexAt (fun j => decide (ns.getD j 0 = ms.getD j 0)) (fun j => decide (ms.getD j 0 ≤ ns.getD j 0)) (decide (ns.length ≥ ms.length)) 0 (min ns.length ms.length))) H
theorem op_geT {X : Cx} (hu : X.A.units < cLine) : OpR X (compareOp .GtE) (rGeT X.K) := by
  intro pins s σ H x y v u Q I rx ry h
  obtain ⟨a, b, ns, ms, rfl, rfl, ha, hb, q⟩ := h
  cases rx
  cases ry
  obtain ⟨its, r1, p1, _⟩ := I.tuple ha
  obtain ⟨its2, r2, p2, _⟩ := I.tuple hb
  have i1 : IntsAre its ns := Vals.ints r1
  have i2 : IntsAre its2 ms := Vals.ints r2
  have e1 : its.toArray.size = ns.length := by rw [List.size_toArray]; exact i1.length
  have e2 : its2.toArray.size = ms.length := by rw [List.size_toArray]; exact i2.length
  have at1 : ∀ j (h1 : j < its.toArray.size), ∃ t, its.toArray[j] = .int (ns.getD j 0) t := fun j h1 => PyProof.Rows.IntsAre.int_at i1 _ _ (by simp at h1; simp [h1])
  have at2 : ∀ j (h1 : j < its2.toArray.size), ∃ t, its2.toArray[j] = .int (ms.getD j 0) t := fun j h1 => PyProof.Rows.IntsAre.int_at i2 _ _ (by simp at h1; simp [h1])
  have R := Ob.RcOp.tuples_ge (A := X.A) (s := s) (e := fun j => decide (ns.getD j 0 = ms.getD j 0)) (r := fun j => decide (ms.getD j 0 ≤ ns.getD j 0)) p1 p2 hu (fun j h1 h2 => by
    obtain ⟨t, et⟩ := at1 j h1
    obtain ⟨t', et'⟩ := at2 j h2
    rw [et, et']
    have z : (ns.getD j 0 == ms.getD j 0) = decide (ns.getD j 0 = ms.getD j 0) := by
      by_cases q : ns.getD j 0 = ms.getD j 0
      · rw [decide_eq_true q]; exact beq_iff_eq.mpr q
      · rw [decide_eq_false q]; exact beq_eq_false_iff_ne.mpr q
    rw [← z]
    exact SeqAt.EqAt.int_int _ _ _ _) (fun j h1 h2 _ => by
    obtain ⟨t, et⟩ := at1 j h1
    obtain ⟨t', et'⟩ := at2 j h2
    rw [et, et']
    exact Ob.RcOp.ge_int _ _ _ _)
  rw [e1, e2] at R
  have z : wpAny (model X.prog X.w) X.A (compareOp .GtE (.ref a) (.ref b)) (EP X pins σ Q) X.xe s := R X.prog X.w X.xe (EP X pins σ Q) ⟨.bl _, H, I, rfl, q⟩
  exact z
def geT (x y : D) : Res D := match x, y with
  | .tup a, .tup b => (match intsD a, intsD b with
    | some ns, some ms => .ok (.bl (Ob.lexAt (fun j => decide (ns.getD j 0 = ms.getD j 0)) (fun j => decide (ms.getD j 0 ≤ ns.getD j 0)) (decide (ns.length ≥ ms.length)) 0 (min ns.length ms.length)))
    | _, _ => .bad)
  | _, _ => .bad
theorem os_geT {K : PySem.W.Frag} : OpS K (rGeT K) geT := by
  intro H M x y dx dy Q tk rx ry w
  cases dx with
  | tup a =>
    cases dy with
    | tup b =>
      simp only [geT] at w
      cases h1 : intsD a with
      | none => rw [h1] at w; exact w.elim
      | some ns =>
        cases h2 : intsD b with
        | none => rw [h1, h2] at w; exact w.elim
        | some ms =>
          rw [h1, h2] at w
          simp only at w
          obtain ⟨p, vs, rfl, hp, _, q⟩ := rx.tup_inv
          obtain ⟨p2, vs2, rfl, hp2, _, q2⟩ := ry.tup_inv
          have e1 := ints_eq h1
          have e2 := ints_eq h2
          subst e1 e2
          rw [q.ints] at hp
          rw [q2.ints] at hp2
          exact ⟨p, p2, ns, ms, rfl, rfl, hp, hp2, w _ _ (.refl _) (.bl _)⟩
    | _ => exact w.elim
  | _ => exact w.elim
theorem oGeT {X : Cx} {C : Cfg} {W : WX} {k : Nat} (g : Gd X C W k) : OpR X (compareOp .GtE) (rGeT C.K) := g.kE ▸ op_geT (Nat.lt_of_le_of_lt (Nat.le_add_right _ _) g.room.units)
theorem geT_pair (a b c d : Int) : geT (.tup [.int a, .int b]) (.tup [.int c, .int d]) = .ok (.bl (decide (c < a ∨ (a = c ∧ d ≤ b)))) := by
  simp only [geT, intsD, Ob.lexAt, List.length_cons, List.length_nil, List.getD_cons_zero, List.getD_cons_succ]
  congr 2
  simp [Ob.lexAt]
  by_cases h1 : a = c
  · subst h1
    by_cases h2 : b = d
    · subst h2; simp
    · simp [h2]
  · simp [h1]
    by_cases h3 : c < a
    · simp [h3]; omega
    · simp [h3]; omega
def rLtT (K : PySem.W.Frag) : R2 := fun x y H Q => ∃ (a b : Addr) (ns ms : List Int), x = .ref a ∧ y = .ref b ∧ SqT K H a (ns.map V.int) ∧ SqT K H b (ms.map V.int) ∧
  Q (.bl (Ob.lexAt (fun j => decide (ns.getD j 0 = ms.getD j 0)) (fun j => decide (ns.getD j 0 < ms.getD j 0)) (decide (ns.length < ms.length)) 0 (min ns.length ms.length))) H
theorem op_ltT {X : Cx} (hu : X.A.units < cLine) : OpR X (compareOp .Lt) (rLtT X.K) := by
  intro pins s σ H x y v u Q I rx ry h
  obtain ⟨a, b, ns, ms, rfl, rfl, ha, hb, q⟩ := h
  cases rx
  cases ry
  obtain ⟨its, r1, p1, _⟩ := I.tuple ha
  obtain ⟨its2, r2, p2, _⟩ := I.tuple hb
  have i1 : IntsAre its ns := Vals.ints r1
  have i2 : IntsAre its2 ms := Vals.ints r2
  have e1 : its.toArray.size = ns.length := by rw [List.size_toArray]; exact i1.length
  have e2 : its2.toArray.size = ms.length := by rw [List.size_toArray]; exact i2.length
  have at1 : ∀ j (h1 : j < its.toArray.size), ∃ t, its.toArray[j] = .int (ns.getD j 0) t := fun j h1 => PyProof.Rows.IntsAre.int_at i1 _ _ (by simp at h1; simp [h1])
  have at2 : ∀ j (h1 : j < its2.toArray.size), ∃ t, its2.toArray[j] = .int (ms.getD j 0) t := fun j h1 => PyProof.Rows.IntsAre.int_at i2 _ _ (by simp at h1; simp [h1])
  have R := Ob.RcOp.tuples_lt (A := X.A) (s := s) (e := fun j => decide (ns.getD j 0 = ms.getD j 0)) (r := fun j => decide (ns.getD j 0 < ms.getD j 0)) p1 p2 hu (fun j h1 h2 => by
    obtain ⟨t, et⟩ := at1 j h1
    obtain ⟨t', et'⟩ := at2 j h2
    rw [et, et']
    have z : (ns.getD j 0 == ms.getD j 0) = decide (ns.getD j 0 = ms.getD j 0) := by
      by_cases q : ns.getD j 0 = ms.getD j 0
      · rw [decide_eq_true q]; exact beq_iff_eq.mpr q
      · rw [decide_eq_false q]; exact beq_eq_false_iff_ne.mpr q
    rw [← z]
    exact SeqAt.EqAt.int_int _ _ _ _) (fun j h1 h2 _ => by
    obtain ⟨t, et⟩ := at1 j h1
    obtain ⟨t', et'⟩ := at2 j h2
    rw [et, et']
    exact Ob.RcOp.lt_int _ _ _ _)
  rw [e1, e2] at R
  have z : wpAny (model X.prog X.w) X.A (compareOp .Lt (.ref a) (.ref b)) (EP X pins σ Q) X.xe s := R X.prog X.w X.xe (EP X pins σ Q) ⟨.bl _, H, I, rfl, q⟩
  exact z
def ltT (x y : D) : Res D := match x, y with
  | .tup a, .tup b => (match intsD a, intsD b with
    | some ns, some ms => .ok (.bl (Ob.lexAt (fun j => decide (ns.getD j 0 = ms.getD j 0)) (fun j => decide (ns.getD j 0 < ms.getD j 0)) (decide (ns.length < ms.length)) 0 (min ns.length ms.length)))
    | _, _ => .bad)
  | _, _ => .bad
theorem os_ltT {K : PySem.W.Frag} : OpS K (rLtT K) ltT := by
  intro H M x y dx dy Q tk rx ry w
  cases dx with
  | tup a =>
    cases dy with
    | tup b =>
      simp only [ltT] at w
      cases h1 : intsD a with
      | none => rw [h1] at w; exact w.elim
      | some ns =>
        cases h2 : intsD b with
        | none => rw [h1, h2] at w; exact w.elim
        | some ms =>
          rw [h1, h2] at w
          simp only at w
          obtain ⟨p, vs, rfl, hp, _, q⟩ := rx.tup_inv
          obtain ⟨p2, vs2, rfl, hp2, _, q2⟩ := ry.tup_inv
          have e1 := ints_eq h1
          have e2 := ints_eq h2
          subst e1 e2
          rw [q.ints] at hp
          rw [q2.ints] at hp2
          exact ⟨p, p2, ns, ms, rfl, rfl, hp, hp2, w _ _ (.refl _) (.bl _)⟩
    | _ => exact w.elim
  | _ => exact w.elim
theorem oLtT {X : Cx} {C : Cfg} {W : WX} {k : Nat} (g : Gd X C W k) : OpR X (compareOp .Lt) (rLtT C.K) := g.kE ▸ op_ltT (Nat.lt_of_le_of_lt (Nat.le_add_right _ _) g.room.units)
theorem ltT_pair (a b c d : Int) : ltT (.tup [.int a, .int b]) (.tup [.int c, .int d]) = .ok (.bl (decide (a < c ∨ (a = c ∧ b < d)))) := by
  simp only [ltT, intsD, Ob.lexAt, List.length_cons, List.length_nil, List.getD_cons_zero, List.getD_cons_succ]
  congr 2
  simp [Ob.lexAt]
  by_cases h1 : a = c
  · subst h1
    by_cases h2 : b = d
    · subst h2; simp
    · simp [h2]
  · simp [h1]
end Vm
end
section
set_option maxRecDepth 100000
set_option maxHeartbeats 4000000
/-! Vm, part ZY: the law's end for promises that say the guards. -/
namespace Vm
open PySem PySem.Spec PyProof.Rows L2
/-- the heap's view at the law's call: the script's list (where the module has it not), and the tables -/
def H1 (K : PySem.W.Frag) (a : Addr) (o : Obj) (xs : List V) (T : List Addr) : Hp := fun b => if b = a ∧ K.lookup a = none then some (.frz o (.lst xs)) else if b ∈ T then some (.tbl #[]) else none
section
variable {K : PySem.W.Frag} {a b : Addr} {o : Obj} {xs : List V} {T : List Addr}
theorem H1.view {u : HO} (h : H1 K a o xs T b = some u) : (b = a ∧ K.lookup a = none ∧ u = .frz o (.lst xs)) ∨ (b ∈ T ∧ u = .tbl #[]) := by
  unfold H1 at h
  split at h
  · next z => cases h; exact .inl ⟨z.1, z.2, rfl⟩
  · split at h
    · next z => cases h; exact .inr ⟨z, rfl⟩
    · cases h
theorem H1.tab (n : a ∉ T) (h : b ∈ T) : H1 K a o xs T b = some (.tbl #[]) := by
  have : ¬ (b = a ∧ K.lookup a = none) := fun z => n (z.1 ▸ h)
  unfold H1; rw [if_neg this, if_pos h]
theorem H1.scr (n : K.lookup a = none) : H1 K a o xs T a = some (.frz o (.lst xs)) := by unfold H1; rw [if_pos ⟨rfl, n⟩]
theorem H1.out (h : b ∉ T) (n : b ≠ a) : H1 K a o xs T b = none := by unfold H1; rw [if_neg (fun z => n z.1), if_neg h]
end
section
variable {P : Program} {w : World} {K : PySem.W.Frag} {mg mb : Str → Option Value} {CX : CXT} {k : Nat} {fa a : Addr} {cs : List (Addr × Addr)} {fd : FuncData} {x : Str} {sp : Sp} {s : Shared} {vs : List Value} {ns : List Int}
/-- the call of law at the head -/
theorem law_callG (KX : K.In s.heap) (hns : s.heap.Ns mainGlobals mg) (hb : s.heap.Ns builtinsNs mb) (hbb : ∀ x : Str, x ≠ "__name__" → mb x = bootBuiltins x) (hlim : s.heap.NoLimit) (hg : s.gens = #[])
    (hT : ∀ p ∈ cs, s.heap.get? p.2 = some { cls := .none, data := .fields #[] }) (nT : ∀ p ∈ cs, K.lookup p.2 = none) (C : ∀ p ∈ cs, PySem.W.CodeHd s.heap p.1 p.2)
    (hbm : ∃ (bm : Addr) (ob : Obj), mg "__builtins__" = some (.ref bm) ∧ bm ≠ builtinsNs ∧ s.heap.get? bm = some ob ∧ ob.cls = .type "module" ∧ ob.dict = some builtinsNs ∧ ob.data = .plain)
    (ha : s.heap.get? a = some { cls := .type "list", data := .seq vs.toArray }) (hi : IntsAre vs ns) (hl : ns.length ≤ sizeLine) (hr : Room k callerA)
    (F : ∀ base : Heap, K.In base → base.Ns mainGlobals mg → (∀ p ∈ cs, LamX.TabB base mg p.1 p.2) → FnOk P w K mg base CX k fa fd [x] sp) (hbind : ∀ (s : Shared) (u : Value), BindsTo s fd ⟨[u], []⟩ [(x, u)])
    (hsp : ∀ H : Hp, (∀ p ∈ cs, H p.2 = some (.tbl #[])) → (∀ b, b ∉ cs.map (·.2) → H b = none ∨ ∃ o xs, H b = some (.frz o (.lst xs))) → SqL K H a (ns.map V.int) → sp [.ref a] H (fun v _ => v = .bl true) fun _ _ _ => False)
    (hCX : ∀ H e s', CX [] H s (fun _ _ _ => False) e s' → False) :
    codeAny (model P w) callerA (.call (.ref fa) ⟨[.ref a], []⟩) (fun r s' => r = .ok (.ret (.bool true)) ∧ OldK s.heap s'.heap ∧ s'.os = s.os ∧ AllBare s'.gens) s := by
  have rv := vals_ints hi
  have ev : ns.length = vs.length := hi.length.symm
  let T := cs.map (·.2)
  have mT : ∀ p ∈ cs, p.2 ∈ T := fun p hp => List.mem_map.mpr ⟨p, hp, rfl⟩
  have atT : ∀ b ∈ T, s.heap.get? b = some { cls := .none, data := .fields #[] } ∧ K.lookup b = none := fun b hb => by
    obtain ⟨p, hp, rfl⟩ := List.mem_map.mp hb
    exact ⟨hT p hp, nT p hp⟩
  have aT : a ∉ T := fun z => by
    have q := (atT a z).1.symm.trans ha
    cases q
  let o : Obj := { cls := .type "list", data := .seq vs.toArray }
  let H := H1 K a o (ns.map V.int) T
  have hok : HOk P w H s.heap := fun b u h => by
    rcases H1.view h with ⟨rfl, _, rfl⟩ | ⟨hb2, rfl⟩
    · exact ⟨ha, by rw [List.length_map]; exact hl, vs, _, rv, ha⟩
    · exact (atT b hb2).1
  -- an object whose body is neither a row nor an empty row of fields is not tracked
  have free : ∀ {b : Addr} {ob : Obj}, s.heap.get? b = some ob → (∀ us n, ob.data ≠ .seq us n) → ob.data ≠ .fields #[] → H b = none := fun {b ob} e h1 h2 => by
    by_cases hb : b ∈ T
    · have q := (atT b hb).1.symm.trans e
      cases q
      exact (h2 rfl).elim
    · by_cases hb2 : b = a
      · subst hb2
        have q := ha.symm.trans e
        cases q
        exact (h1 _ _ rfl).elim
      · exact H1.out hb hb2
  have under : ∀ {b : Addr} {ob : Obj}, s.heap.get? b = some ob → (∀ us n, ob.data ≠ .seq us n) → ob.data ≠ .fields #[] → (hidT s.heap H).get? b = some ob := fun e h1 h2 => hidT_get e (free e h1 h2)
  have ns_ : ∀ {b : Addr} {m : Str → Option Value}, s.heap.Ns b m → (hidT s.heap H).Ns b m := fun ⟨ob, es, ep, e, d, r⟩ => ⟨ob, es, ep, under e (fun _ _ z => by rw [d] at z; cases z) (fun z => by rw [d] at z; cases z), d, r⟩
  have kin : K.In (hidT s.heap H) := fun b ob e => hidT_get (KX b ob e) (by
    cases q : H b with
    | none => rfl
    | some u =>
      rcases H1.view q with ⟨z, n, _⟩ | ⟨h, _⟩
      · rw [z, n] at e; cases e
      · rw [(atT b h).2] at e; cases e)
  have md : L2.Mod K mg (hidT s.heap H) := ⟨kin, ns_ hns, ⟨mb, ns_ hb, hbb⟩, let ⟨mc, h1, h2⟩ := hlim; ⟨mc, ns_ h1, h2⟩⟩
  have tb : ∀ p ∈ cs, LamX.TabB (hidT s.heap H) mg p.1 p.2 := fun p hp => by
    have ht := hT p hp
    constructor
    · obtain ⟨oc, us, file, tf, flags, tg, inF, text, tt, e1, r1, r2, r3, rest⟩ := C p hp
      refine ⟨oc, us, file, tf, flags, tg, inF, text, tt, under e1 (fun _ _ z => by rw [r2] at z; cases z) (fun z => ?_), r1, r2, r3, rest⟩
      rw [r2] at z
      cases z
      simp at r3
    · obtain ⟨bm, ob, b1, b2, b3, b4, b5, b6⟩ := hbm
      refine ⟨bm, ob, b1, b2, fun q => ?_, fun q => ?_, under b3 (fun _ _ z => by rw [b6] at z; cases z) (fun z => by rw [b6] at z; cases z), b4, b5, b6⟩
      · obtain ⟨og, _, _, e, d, _⟩ := hns
        rw [q, e] at b3
        cases b3
        rw [d] at b6
        cases b6
      · rw [q, ht] at b3
        cases b3
        cases b6
    · intro z
      obtain ⟨og, _, _, e, d, _⟩ := hns
      rw [z, ht] at e
      cases e
      cases d
  have hH : ∀ p ∈ cs, H p.2 = some (.tbl #[]) := fun p hp => H1.tab aT (mT p hp)
  have hS : SqL K H a (ns.map V.int) := by
    cases q : K.lookup a with
    | none => exact .inl (.inr ⟨o, H1.scr q⟩)
    | some o' =>
      have z := (KX a o' q).symm.trans ha
      cases z
      exact .inr ⟨_, vs.toArray, _, q, rfl, rfl, rfl, by rw [List.size_toArray, ← ev]; exact hl, rv⟩
  have hO : ∀ b, b ∉ cs.map (·.2) → H b = none ∨ ∃ o xs, H b = some (.frz o (.lst xs)) := fun b nb => by
    cases q : H b with
    | none => exact .inl rfl
    | some u =>
      rcases H1.view q with ⟨_, _, rfl⟩ | ⟨h, _⟩
      · exact .inr ⟨_, _, rfl⟩
      · exact absurd h nb
  have e0 : Env0 P w K mg (hidT s.heap H) callerA [] s H := ⟨rfl, md, fun b ob e => of_hidT e, Nat.le_of_eq (hidT_size _ _), trivial, fun b hb => absurd (show b ∈ ([] : List Addr) from hb) (by simp), hok, .of_eq hg⟩
  refine codeAny_mono ((F _ kin (ns_ hns) tb).run (us := [.ref a]) (vs := [.ref a]) hr e0 (hbind s (.ref a)) (.cons rfl .nil) (hsp H hH hO hS)) fun r s' h => ?_
  rcases r with e | fl
  · exact (hCX H e s' h).elim
  cases fl with
  | next => exact h.elim
  | brk => exact h.elim
  | cont => exact h.elim
  | ret u =>
    obtain ⟨v, H', os, bare, un, hok', r', q⟩ := h
    cases (show v = .bl true from q)
    cases (show u = Value.bool true from r')
    have old : ∀ b ob, b ∉ T → s.heap.get? b = some ob → s'.heap.get? b = some ob := fun b ob nb e => by
      rcases hO b nb with z | ⟨o2, ys, z⟩
      · exact un.keep b ob e z (fun y => absurd (show b ∈ ([] : List Addr) from y) (by simp)) (by simp)
      · have e1 := (hok b _ z).1
        rw [e] at e1
        cases e1
        exact (hok' b _ (un.frzs b ob _ z)).1
    have new : ∀ b ∈ T, ∃ more : Array Value, s'.heap.get? b = some { cls := .none, data := .fields more } := fun b hb => by
      obtain ⟨more, z⟩ := un.tbls b #[] (H1.tab aT hb)
      exact ⟨_, hok' b _ z⟩
    refine ⟨rfl, ⟨fun b ob e => ?_, fun b ob e => ?_⟩, os, bare⟩
    · by_cases hb : b ∈ T
      · obtain ⟨more, hm⟩ := new b hb
        obtain ⟨p, hp, ep⟩ := List.mem_map.mp hb
        have e2 := (atT b hb).1
        rw [e] at e2
        cases e2
        refine .inr (.inl ⟨?_, rfl, #[], more, rfl, by rw [Array.empty_append]; exact hm⟩)
        rw [← ep]
        exact ((C p hp).tab (hT p hp)).isCodeTable
      · exact .inl (old b ob hb e)
    · by_cases hb : b ∈ T
      · obtain ⟨more, hm⟩ := new b hb
        exact ⟨_, hm⟩
      · exact ⟨ob, old b ob hb e⟩
end
def LawAtS (l : PySem.W.OpenLaw) (w : World) (K : PySem.W.Frag) (CX : CXT) (k n : Nat) (x : Str) (mg : Str → Option Value) (fa : Addr) (h : Heap) : Prop :=
  ∃ (fd : FuncData) (cs : List (Addr × Addr)) (sp : Sp), (∀ p ∈ cs, h.get? p.2 = some { cls := .none, data := .fields #[] }) ∧ (∀ p ∈ cs, K.lookup p.2 = none) ∧ (∀ p ∈ cs, PySem.W.CodeHd h p.1 p.2) ∧ (∀ (s : Shared) (u : Value), BindsTo s fd ⟨[u], []⟩ [(x, u)]) ∧
    (∀ (H : Hp) (a : Addr) (ns : List Int), ns.length ≤ n → (∀ z ∈ ns, Builtin.Int.intBits z ≤ 1048576) → (∀ p ∈ cs, H p.2 = some (.tbl #[])) → SqL K H a (ns.map V.int) → sp [.ref a] H (fun v _ => v = .bl true) fun _ _ _ => False) ∧
    ∀ base : Heap, K.In base → base.Ns mainGlobals mg → (∀ p ∈ cs, LamX.TabB base mg p.1 p.2) → FnOk l.prog w K mg base CX k fa fd [x] sp
section
variable {l : PySem.W.OpenLaw} {n k : Nat} {q : Program} {loose : List Str} {XP : (Str → Option Value) → Heap → Prop} {YP : World → Heap → Prop} {d : DefRec} {K : Params → PySem.W.Frag} {CX : World → CXT} {x : Str}
theorem walk_ofTs (hn : l.most = some n) (hn2 : n ≤ sizeLine) (hdf : d.params.defaults = []) (hr : Room k callerA) (hY : ∀ (w : World) (h : Heap), YP w h → (K w.params).In h)
    (F : ∀ (w : World) (mg : Str → Option Value) (fa : Addr) (h : Heap), YP w h → (K w.params).In h → h.Ns mainGlobals mg → mg d.name = some (.ref fa) → LawAtS l w (K w.params) (CX w) k n x mg fa h)
    (hCX : ∀ (w : World) (H : Hp) (s : Shared) (e : Value) (s' : Shared), CX w [] H s (fun _ _ _ => False) e s' → False) : PySem.W.WalkO q loose XP YP l.row.toRowW d [] (fun f vs => PySem.call f vs) := by
  refine Att.attach_callB hn hdf fun w s₀ s₁ mg mb fa o pm cd doc a vs ns G Y ho hd hcd hmg hobj hints hlen hbits hg => ?_
  have KX := hY w _ Y
  obtain ⟨fd, cs, sp, hT, nT, C, hb, hsp, hF⟩ := F w mg fa _ Y KX G.T.g hmg
  exact law_callG KX G.T.g G.T.b G.T.builtins G.T.nolimit hg hT nT C G.T.bmain hobj hints (Nat.le_trans hlen hn2) hr hF hb (fun H hH _ hS => hsp H a ns hlen hbits hH hS) fun H e s' => hCX w H s₁ e s'
theorem walk_ofB {sp : World → Sp} (hn : l.most = some n) (hn2 : n ≤ sizeLine) (hdf : d.params.defaults = []) (hr : Room k callerA) (hY : ∀ (w : World) (h : Heap), YP w h → (K w.params).In h)
    (F : ∀ (w : World) (mg : Str → Option Value) (fa : Addr) (h : Heap), (K w.params).In h → h.Ns mainGlobals mg → mg d.name = some (.ref fa) →
      ∃ fd : FuncData, (∀ (s : Shared) (u : Value), BindsTo s fd ⟨[u], []⟩ [(x, u)]) ∧ ∀ base : Heap, (K w.params).In base → base.Ns mainGlobals mg → FnOk l.prog w (K w.params) mg base (CX w) k fa fd [x] (sp w))
    (hsp : ∀ (w : World) (H : Hp) (a : Addr) (ns : List Int), ns.length ≤ n → (∀ z ∈ ns, Builtin.Int.intBits z ≤ 1048576) → L2.Only H → SqL (K w.params) H a (ns.map V.int) → sp w [.ref a] H (fun v _ => v = .bl true) fun _ _ _ => False)
    (hCX : ∀ (w : World) (H : Hp) (s : Shared) (e : Value) (s' : Shared), CX w [] H s (fun _ _ _ => False) e s' → False) : PySem.W.WalkO q loose XP YP l.row.toRowW d [] (fun f vs => PySem.call f vs) := by
  refine Att.attach_callB hn hdf fun w s₀ s₁ mg mb fa o pm cd doc a vs ns G Y ho hd hcd hmg hobj hints hlen hbits hg => ?_
  have KX := hY w _ Y
  obtain ⟨fd, hb, hF⟩ := F w mg fa _ KX G.T.g hmg
  exact law_callG (cs := []) KX G.T.g G.T.b G.T.builtins G.T.nolimit hg (fun p hp => nomatch hp) (fun p hp => nomatch hp) (fun p hp => nomatch hp) G.T.bmain hobj hints (Nat.le_trans hlen hn2) hr (fun base h1 h2 _ => hF base h1 h2) hb
    (fun H _ hO hS => hsp w H a ns hlen hbits (fun b => hO b (by simp)) hS) fun H e s' => hCX w H s₁ e s'
theorem walk_of {sp : World → Sp} (hn : l.most = some n) (hn2 : n ≤ sizeLine) (hdf : d.params.defaults = []) (hr : Room k callerA) (hY : ∀ (w : World) (h : Heap), YP w h → (K w.params).In h)
    (F : ∀ (w : World) (mg : Str → Option Value) (fa : Addr) (h : Heap), (K w.params).In h → h.Ns mainGlobals mg → mg d.name = some (.ref fa) →
      ∃ fd : FuncData, (∀ (s : Shared) (u : Value), BindsTo s fd ⟨[u], []⟩ [(x, u)]) ∧ ∀ base : Heap, (K w.params).In base → base.Ns mainGlobals mg → FnOk l.prog w (K w.params) mg base (CX w) k fa fd [x] (sp w))
    (hsp : ∀ (w : World) (H : Hp) (a : Addr) (ns : List Int), ns.length ≤ n → L2.Only H → SqL (K w.params) H a (ns.map V.int) → sp w [.ref a] H (fun v _ => v = .bl true) fun _ _ _ => False)
    (hCX : ∀ (w : World) (H : Hp) (s : Shared) (e : Value) (s' : Shared), CX w [] H s (fun _ _ _ => False) e s' → False) : PySem.W.WalkO q loose XP YP l.row.toRowW d [] (fun f vs => PySem.call f vs) :=
  walk_ofB hn hn2 hdf hr hY F (fun w H a ns h1 _ h3 h4 => hsp w H a ns h1 h3 h4) hCX
end
end Vm
end
section
set_option maxRecDepth 100000
set_option maxHeartbeats 4000000
/-! Vm, part ZZ: repr of tuples and lists. -/
namespace Vm
open PySem PySem.Spec PyProof.Rows L2
def rReprD (K : PySem.W.Frag) : List V → Hp → VK → Prop := fun xs H Q => rRepr xs H Q ∨ ∃ (v : V) (d : PyData), xs = [v] ∧ Dp K H v d ∧ (∃ ys, d = .tuple ys ∨ d = .list ys) ∧ d.showable = true ∧ d.hasDict = false ∧ d.shown.length ≤ sizeLine ∧ d.depth ≤ 64 ∧ Q (.str d.shown) H
theorem call_reprD {X : Cx} {k : Nat} (hr : Room k X.A) : CallR X (.builtin "repr") (rReprD X.K) := by
  intro pins s σ H xs us Q I r h
  rcases h with h | ⟨v, d, rfl, hd, ht, hs, hn, hz, hp, q⟩
  · exact call_reprA pins s σ H xs us Q I r h
  obtain ⟨u, rfl, rv⟩ := vals1 r
  obtain ⟨as, R⟩ := Dp.reads I d v u hd rv
  obtain ⟨a, rfl⟩ : ∃ a, u = .ref a := by
    obtain ⟨ys, rfl | rfl⟩ := ht
    · cases R; exact ⟨_, rfl⟩
    · cases R; exact ⟨_, rfl⟩
  have hu := hr.un
  refine repr_of_reads' R hs (PyData.noDict_hsm hn) hr.gu (by omega) (fun b o e => e) (fun h' u tk hk => ?_) hz
  exact ⟨.str _, H, I.kept hk, ⟨_, rfl⟩, q⟩
def shwD (x : D) : Res D := match x with
  | .tup xs => if (D.tup xs).py.showable = true ∧ SeqAt.shaped (D.tup xs).py = true ∧ (D.tup xs).py.shown.length ≤ sizeLine then .ok (.str (D.tup xs).py.shown) else .bad
  | .lst xs => if (D.lst xs).py.showable = true ∧ SeqAt.shaped (D.lst xs).py = true ∧ (D.lst xs).py.shown.length ≤ sizeLine then .ok (.str (D.lst xs).py.shown) else .bad
  | x => repA x
theorem cRepr {X : Cx} {C : Cfg} {W : WX} {k : Nat} (g : Gd X C W k) : CallR X (.builtin "repr") (rReprD C.K) := g.kE ▸ call_reprD g.room
theorem cs_shwD {K : PySem.W.Frag} : CallS K (rReprD K) (one shwD) := by
  intro H M vs ds Q tk r w
  obtain ⟨d, rfl, w1⟩ := one_inv w
  have gen : (one repA [d]).Wp (fun d => ∀ v H', Same H H' → Rp K H' M d v → Q v H') (fun _ => False) → rReprD K vs H Q := fun w => .inl (cs_repA H M vs [d] Q tk r w)
  obtain ⟨v, rfl, rv⟩ := r.one
  cases d with
  | tup xs =>
    simp only [shwD] at w1
    split at w1
    · next h => exact .inr ⟨v, _, rfl, rv.dp (SeqAt.canLay_of_shaped h.2.1), ⟨_, .inl (by simp only [D.py]; rfl)⟩, h.1, PyData.hasDict_of_canLay _ (SeqAt.canLay_of_shaped h.2.1), h.2.2, SeqAt.depth_of_shaped h.2.1, w1 _ _ (.refl _) (.str _)⟩
    · exact w1.elim
  | lst xs =>
    simp only [shwD] at w1
    split at w1
    · next h => exact .inr ⟨v, _, rfl, rv.dp (SeqAt.canLay_of_shaped h.2.1), ⟨_, .inr (by simp only [D.py]; rfl)⟩, h.1, PyData.hasDict_of_canLay _ (SeqAt.canLay_of_shaped h.2.1), h.2.2, SeqAt.depth_of_shaped h.2.1, w1 _ _ (.refl _) (.str _)⟩
    · exact w1.elim
  | _ => exact gen w
/-! ### how long such a text is -/
mutual
def D.wt : D → Nat
  | .tup xs => D.wtL xs + 4
  | .lst xs => D.wtL xs + 4
  | _ => 1921
def D.wtL : List D → Nat
  | [] => 0
  | x :: xs => x.wt + 2 + D.wtL xs
end
mutual
def D.num : Nat → D → Bool
  | _, .non => true
  | _, .bl _ => true
  | _, .int i => decide (i.natAbs.log2 < 1920)
  | n + 1, .tup xs => D.numL n xs
  | n + 1, .lst xs => D.numL n xs
  | _, _ => false
def D.numL : Nat → List D → Bool
  | _, [] => true
  | n, x :: xs => x.num n && D.numL n xs
end
theorem listText_le : ∀ ts : List Str, (listText ts).length ≤ piled ts + 2
  | [] => by decide +kernel
  | t :: r => by
    have h := textFrom_length_pos r 1 (("[" : Str) ++ (if (0 : Nat) > 0 then ", " else "" : String) ++ t) (Nat.succ_pos 0)
    have e : ((("[" : Str) ++ (if (0 : Nat) > 0 then ", " else "" : String) ++ t)).length = 1 + t.length := by
      rw [strLen_append, strLen_append]; rfl
    show (textFrom 1 (("[" : Str) ++ (if (0 : Nat) > 0 then ", " else "" : String) ++ t) r ++ "]").length ≤ _
    rw [strLen_append, h, e, piled_cons]
    show 1 + t.length + piled r + 1 ≤ _
    omega
mutual
theorem num_ok : ∀ (d : D) (n : Nat), d.num n = true → d.py.showable = true ∧ d.py.canLay0 = true ∧ d.py.depth ≤ n ∧ d.py.shown.length ≤ d.wt
  | .non, n, _ => by simp only [D.py, PyData.showable, PyData.canLay0, PyData.depth, PyData.shown, D.wt]; exact ⟨trivial, trivial, Nat.zero_le _, by decide +kernel⟩
  | .bl true, n, _ => by simp only [D.py, PyData.showable, PyData.canLay0, PyData.depth, PyData.shown, D.wt]; exact ⟨trivial, trivial, Nat.zero_le _, by decide +kernel⟩
  | .bl false, n, _ => by simp only [D.py, PyData.showable, PyData.canLay0, PyData.depth, PyData.shown, D.wt]; exact ⟨trivial, trivial, Nat.zero_le _, by decide +kernel⟩
  | .int i, n, h => by
    simp only [D.num, decide_eq_true_eq] at h
    simp only [D.py, PyData.showable, PyData.canLay0, PyData.depth, PyData.shown, D.wt, decide_eq_true_eq]
    exact ⟨h, trivial, Nat.zero_le _, int_text_len_1921 h⟩
  | .tup xs, n, h => by
    cases n with
    | zero => simp [D.num] at h
    | succ n =>
      have ⟨a, b, c, e⟩ := numL_ok xs n (by simpa only [D.num] using h)
      simp only [D.py, PyData.showable, PyData.canLay0, PyData.depth, PyData.shown, D.wt]
      exact ⟨a, b, by omega, Nat.le_trans (fmt_text _) (by omega)⟩
  | .lst xs, n, h => by
    cases n with
    | zero => simp [D.num] at h
    | succ n =>
      have ⟨a, b, c, e⟩ := numL_ok xs n (by simpa only [D.num] using h)
      simp only [D.py, PyData.showable, PyData.canLay0, PyData.depth, PyData.shown, D.wt]
      exact ⟨a, b, by omega, Nat.le_trans (listText_le _) (by omega)⟩
  | .str _, n, h => by cases n <;> simp [D.num] at h
  | .dic _, n, h => by cases n <;> simp [D.num] at h
  | .dct _, n, h => by cases n <;> simp [D.num] at h
  | .own _, n, h => by cases n <;> simp [D.num] at h
  | .scr _, n, h => by cases n <;> simp [D.num] at h
  | .exc _, n, h => by cases n <;> simp [D.num] at h
theorem numL_ok : ∀ (xs : List D) (n : Nat), D.numL n xs = true → PyData.showableAll (D.pyL xs) = true ∧ PyData.canLayAll0 (D.pyL xs) = true ∧ PyData.depthAll (D.pyL xs) ≤ n ∧ piled (PyData.shownAll (D.pyL xs)) ≤ D.wtL xs
  | [], n, _ => by simp only [D.pyL, PyData.showableAll, PyData.canLayAll0, PyData.depthAll, PyData.shownAll, D.wtL, piled_nil]; exact ⟨trivial, trivial, Nat.zero_le _, Nat.le_refl _⟩
  | x :: xs, n, h => by
    have h' : x.num n = true ∧ D.numL n xs = true := by simpa only [D.numL, Bool.and_eq_true] using h
    have ⟨a, b, c, e⟩ := num_ok x n h'.1
    have ⟨a2, b2, c2, e2⟩ := numL_ok xs n h'.2
    simp only [D.pyL, PyData.showableAll, PyData.canLayAll0, PyData.depthAll, PyData.shownAll, D.wtL, piled_cons, a, a2, b, b2, Bool.and_self, true_and]
    exact ⟨by omega, by omega⟩
end
/-- repr tells some text -/
theorem shwD_ok {d : D} (h : d.num 8 = true) (hw : d.wt ≤ sizeLine) : ∃ x, shwD d = .ok (.str x) := by
  have ⟨a, b, c, e⟩ := num_ok d 8 h
  have sh : SeqAt.shaped d.py = true := by
    unfold SeqAt.shaped
    rw [b, decide_eq_true (by omega)]
    rfl
  cases d with
  | tup xs => exact ⟨_, by simp only [shwD]; rw [if_pos ⟨a, sh, Nat.le_trans e hw⟩]⟩
  | lst xs => exact ⟨_, by simp only [shwD]; rw [if_pos ⟨a, sh, Nat.le_trans e hw⟩]⟩
  | int i =>
    simp only [D.num, decide_eq_true_eq] at h
    exact ⟨_, by simp only [shwD, repA, strI]; rw [if_pos h]⟩
  | bl b => exact ⟨_, rfl⟩
  | non => exact ⟨_, rfl⟩
  | _ => simp [D.num] at h
@[simp] theorem z_mLc2 (mi : Em) (vs vs1 : List Nat) (g : Gv) (tt : Ev1) (mi1 : Em) (g1 : Gv) (tt1 : Ev1) (me : Ev) (env : Sls) : (mLc2 mi vs vs1 g tt mi1 g1 tt1 me env : Res (D × Sls)) = (do
  let r ← mi env
  if okWipe r.2 vs = true ∧ r.1.length ≤ 1000 ∧ vs1.all (fun i => vs.contains i) = true then do
    let q ← lcL2 vs vs1 g tt mi1 g1 tt1 me r.1 (wipeE r.2 vs)
    if q.1.length ≤ sizeLine then pure (.lst q.1, backE r.2 q.2 vs) else .bad
  else .bad) := rfl
/-- [f(x, y) for x in xs for y in ys(x) if p(x, y)] -/
theorem lc22m {α β : Type} {i j : Nat} {m : Ev} {mi1 : Em} {t1 : Ev1} {env : Sls} (c : α → D) (c1 : β → D) (ys : α → List β) (p : α → β → Bool) (f : α → β → D) (xs : List α)
    (h : ∀ x ∈ xs, mi1 (env.set i (.t (c x))) = .ok ((ys x).map c1, env.set i (.t (c x))) ∧ (ys x).length ≤ 1000 ∧ lcL [j] (gmN j) t1 m ((ys x).map c1) (env.set i (.t (c x))) = .ok (((ys x).filter (p x)).map (f x), env.set i (.t (c x))))
    (hij : i ≠ j := by decide) (hp : notPar env i = true := by simp) (hu : env[i]? = some .u := by rfl) (hv : env[j]? = some .u := by rfl) :
    lcL2 [i, j] [j] (gmN i) mYes mi1 (gmN j) t1 m (xs.map c) env = .ok (xs.flatMap fun x => ((ys x).filter (p x)).map (f x), env) := by
  induction xs with
  | nil => rfl
  | cons x xs ih =>
    obtain ⟨h1, h2, h3⟩ := h x (.head _)
    have ih := ih fun y hy => h y (.tail _ hy)
    have hl : ((ys x).map c1).length ≤ 1000 := by rw [List.length_map]; exact h2
    have sj : ∀ e : Sls, e[j]? = some .u → e.set j .u = e := fun e he => by
      obtain ⟨k, q⟩ := List.getElem?_eq_some_iff.mp he
      rw [← q]
      exact List.set_getElem_self k
    have w1 : wipeE (env.set i (.t (c x))) [j] = env.set i (.t (c x)) := by
      show (env.set i (.t (c x))).set j .u = _
      exact sj _ (by rw [List.getElem?_set_ne hij]; exact hv)
    have w2 : wipeE (env.set i (.t (c x))) [i, j] = env := by
      show ((env.set i (.t (c x))).set j .u).set i .u = env
      rw [sj _ (by rw [List.getElem?_set_ne hij]; exact hv)]
      exact set_u hu
    simp only [List.map_cons, lcL2, gm1 hp, noE_ok, z_mYes, y1, if_true, h1, hl, w1, h3, w2, ih, y4, List.flatMap_cons]
end Vm
end
section
set_option maxRecDepth 100000
namespace Law
open PySem Vm
noncomputable section

abbrev b__law_draws : Sv :=
  (mRet (mLst (mCons (mCallB (two maxD) (mCons (mK (.int 0)) (mCons (mBin subD (mCallB (one intD) (mCons (mVar 0) mNil)) (mBin powD (mK (.int 10)) (mK (.int 18)))) mNil))) (mCons (mBin modD (mCallB (one intD) (mCons (mVar 0) mNil)) (mK (.int 999999999999999989))) (mCons (mK (.int 0)) mNil)))))
def m__law_draws (ds : List D) : Res D := runF 1 b__law_draws ds
abbrev b__law_pick : Sv :=
  (mSq (mIfS (mTru (mBin gtD (mBin ixA (mVar 0) (mK (.int 0))) (mK (.int 0)))) (mSq (mSet 4 (mBin modD (mCallB (one intD) (mCons (mBin ixA (mVar 0) (mK (.int 0))) mNil)) (mVar 1)))
    (mSq (mPut 0 (mK (.int 0)) (mBin divD (mBin ixA (mVar 0) (mK (.int 0))) (mVar 1)))
    (mRet (mVar 4)))) mSk)
    (mSq (mPut 0 (mK (.int 2)) (mBin addD (mBin ixA (mVar 0) (mK (.int 2))) (mK (.int 1))))
    (mSq (mSet 2 (mBin ixA (mVar 0) (mK (.int 2))))
    (mSq (mSet 3 (mBin addD (mBin addD (mBin ixA (mVar 0) (mK (.int 1))) (mBin mulD (mBin mulD (mK (.int 9176)) (mVar 2)) (mVar 2))) (mK (.int 31))))
    (mSq (mSet 3 (mBin addD (mBin mulD (mVar 3) (mBin addD (mBin ixA (mVar 0) (mK (.int 1))) (mBin mulD (mK (.int 40503)) (mVar 2)))) (mVar 2)))
    (mSq (mSet 3 (mBin divD (mBin modD (mCallB (one intD) (mCons (mBin addD (mBin mulD (mVar 3) (mVar 3)) (mBin mulD (mK (.int 77731)) (mVar 3))) mNil)) (mK (.int 1000000000000000003))) (mK (.int 4099))))
    (mRet (mBin modD (mBin divD (mBin modD (mCallB (one intD) (mCons (mBin mulD (mVar 3) (mBin addD (mBin addD (mVar 3) (mBin mulD (mK (.int 2)) (mVar 2))) (mK (.int 1)))) mNil)) (mK (.int 4294967291))) (mK (.int 32))) (mVar 1)))))))))
def m__law_pick (j : D) (ds : List D) : Res (D × D) := runJ 5 b__law_pick j ds
abbrev lb__law_wide_1 : Sv :=
  (mSet 2 (mBin addD (mBin mulD (mVar 2) (mBin powD (mK (.int 10)) (mK (.int 7)))) (mCallJ 2 m__law_pick (mCons (mVar 0) (mCons (mBin powD (mK (.int 10)) (mK (.int 7))) mNil)))))
abbrev b__law_wide : Sv :=
  (mSq (mIfS (mTru (mBin leD (mVar 1) (mBin powD (mK (.int 10)) (mK (.int 7))))) (mRet (mCallJ 2 m__law_pick (mCons (mVar 0) (mCons (mVar 1) mNil)))) mSk)
    (mSq (mSet 2 (mK (.int 0)))
    (mSq (mFor (mRng1 (mCons (mK (.int 5)) mNil)) (gmN 3) lb__law_wide_1)
    (mRet (mBin modD (mCallB (one intD) (mCons (mVar 2) mNil)) (mVar 1))))))
def m__law_wide (j : D) (ds : List D) : Res (D × D) := runJ 4 b__law_wide j ds
abbrev lb__law_rough_of_1 : Sv :=
  (mSq (mSet 7 (mIf (mTru (mBin ltD (mVar 6) (mK (.int 4)))) (mBin ixA (mLst (mCons (mK (.str "bill")) (mCons (mK (.str "pay")) mNil))) (mBin modD (mCallB (one intD) (mCons (mVar 6) mNil)) (mK (.int 2)))) (mBin ixA (mLst (mCons (mK (.str "bill")) (mCons (mK (.str "pay")) mNil))) (mCallJ 2 m__law_pick (mCons (mVar 0) (mCons (mK (.int 2)) mNil))))))
    (mSq (mSet 8 (mBin addD (mK (.int 1)) (mCallJ 2 m__law_wide (mCons (mVar 0) (mCons (mVar 3) mNil)))))
    (mExp (mApp 5 (mTup (mCons (mVar 7) (mCons (mBin subD (mCallJ 2 m__law_pick (mCons (mVar 0) (mCons (mVar 2) mNil))) (mBin divD (mVar 2) (mK (.int 2)))) (mCons (mVar 8) (mCons (mBin addD (mVar 8) (mCallJ 2 m__law_wide (mCons (mVar 0) (mCons (mVar 4) mNil)))) mNil)))))))))
abbrev b__law_rough_of : Sv :=
  (mSq (mSetL 5 (mLst mNil))
    (mSq (mFor (mRng1 (mCons (mVar 1) mNil)) (gmN 6) lb__law_rough_of_1)
    (mRet (mCallB (one tupD) (mCons (mVar 5) mNil)))))
def m__law_rough_of (j : D) (ds : List D) : Res (D × D) := runJ 9 b__law_rough_of j ds
abbrev cm__law_one_sided_1 : Ev :=
  (mVar 4)
abbrev ct__law_one_sided_1 : Ev1 :=
  (mOrT (mTru (mBin gtD (mVar 3) (mK (.int 1)))) (mTru (mBin eqD (mBin eqD (mBin ixA (mVar 4) (mK (.int 0))) (mK (.str "bill"))) (mBin eqD (mVar 3) (mK (.int 1))))))
abbrev b__law_one_sided : Sv :=
  (mSq (mSet 3 (mCallJ 2 m__law_pick (mCons (mVar 0) (mCons (mVar 2) mNil))))
    (mRet (mCallB (one tupD) (mCons (mLc (mSeq (mVar 1)) [4] (gmN 4) ct__law_one_sided_1 cm__law_one_sided_1) mNil))))
def m__law_one_sided (j : D) (ds : List D) : Res (D × D) := runJ 5 b__law_one_sided j ds
abbrev b__law_a_rough : Sv :=
  (mSq (mSet 2 (mBin ixA (mLst (mCons (mK (.int 2)) (mCons (mK (.int 5)) (mCons (mK (.int 400)) (mCons (mK (.int 2000001)) mNil))))) (mCallJ 2 m__law_pick (mCons (mVar 0) (mCons (mK (.int 4)) mNil)))))
    (mSq (mSet 3 (mBin ixA (mLst (mCons (mK (.int 2)) (mCons (mK (.int 9)) (mCons (mBin powD (mK (.int 10)) (mK (.int 6))) (mCons (mBin mulD (mK (.int 5)) (mBin powD (mK (.int 10)) (mK (.int 29)))) mNil))))) (mCallJ 2 m__law_pick (mCons (mVar 0) (mCons (mK (.int 4)) mNil)))))
    (mSq (mSet 4 (mBin ixA (mLst (mCons (mK (.int 1)) (mCons (mK (.int 4)) (mCons (mK (.int 30)) (mCons (mVar 3) mNil))))) (mCallJ 2 m__law_pick (mCons (mVar 0) (mCons (mK (.int 4)) mNil)))))
    (mSq (mSet 5 (mCallJ 5 m__law_rough_of (mCons (mVar 0) (mCons (mBin subD (mVar 1) (mCallJ 2 m__law_pick (mCons (mVar 0) (mCons (mBin addD (mVar 1) (mK (.int 1))) mNil)))) (mCons (mVar 2) (mCons (mVar 3) (mCons (mVar 4) mNil)))))))
    (mRet (mCallJ 3 m__law_one_sided (mCons (mVar 0) (mCons (mVar 5) (mCons (mK (.int 16)) mNil)))))))))
def m__law_a_rough (j : D) (ds : List D) : Res (D × D) := runJ 6 b__law_a_rough j ds
abbrev cm__law_both_1 : Ev :=
  (mVar 2)
abbrev ct__law_both_1 : Ev1 :=
  (mTru (mBin eqD (mBin ixA (mBin ixA (mVar 0) (mVar 2)) (mK (.int 0))) (mK (.str "bill"))))
abbrev cm__law_both_2 : Ev :=
  (mVar 2)
abbrev ct__law_both_2 : Ev1 :=
  (mTru (mBin eqD (mBin ixA (mBin ixA (mVar 0) (mVar 2)) (mK (.int 0))) (mK (.str "pay"))))
abbrev b__law_both : Sv :=
  (mSq (mSet 1 (mLc (mRng1 (mCons (mCallB (one lenD) (mCons (mVar 0) mNil)) mNil)) [2] (gmN 2) ct__law_both_1 cm__law_both_1))
    (mRet (mTup (mCons (mVar 1) (mCons (mLc (mRng1 (mCons (mCallB (one lenD) (mCons (mVar 0) mNil)) mNil)) [2] (gmN 2) ct__law_both_2 cm__law_both_2) mNil)))))
def m__law_both (ds : List D) : Res D := run 3 b__law_both ds
abbrev b__law_same : Sv :=
  (mRet (mBin eqD (mCallB (one shwD) (mCons (mVar 0) mNil)) (mCallB (one shwD) (mCons (mVar 1) mNil))))
def m__law_same (ds : List D) : Res D := run 2 b__law_same ds
abbrev b__law_older : Sv :=
  (mRet (mBin ltT (mTup (mCons (mBin ixA (mBin ixA (mVar 0) (mVar 1)) (mK (.int 1))) (mCons (mVar 1) mNil))) (mTup (mCons (mBin ixA (mBin ixA (mVar 0) (mVar 2)) (mK (.int 1))) (mCons (mVar 2) mNil)))))
def m__law_older (ds : List D) : Res D := run 3 b__law_older ds
abbrev cm__law_ahead_1 : Ev :=
  (mVar 3)
abbrev ct__law_ahead_1 : Ev1 :=
  (mTru (mBin eqD (mBin ixA (mBin ixA (mVar 0) (mVar 3)) (mK (.int 0))) (mBin ixA (mBin ixA (mVar 0) (mVar 1)) (mK (.int 0)))))
abbrev cm__law_ahead_2 : Ev :=
  (mVar 3)
abbrev ct__law_ahead_2 : Ev1 :=
  (mTru (mCall 3 m__law_older (mCons (mVar 0) (mCons (mVar 3) (mCons (mVar 1) mNil)))))
abbrev b__law_ahead : Sv :=
  (mSq (mSet 2 (mLc (mRng1 (mCons (mCallB (one lenD) (mCons (mVar 0) mNil)) mNil)) [3] (gmN 3) ct__law_ahead_1 cm__law_ahead_1))
    (mRet (mLc (mSeq (mVar 2)) [3] (gmN 3) ct__law_ahead_2 cm__law_ahead_2)))
def m__law_ahead (ds : List D) : Res D := run 4 b__law_ahead ds
abbrev cm__law_total_1 : Ev :=
  (mBin ixA (mBin ixA (mVar 0) (mVar 3)) (mVar 2))
abbrev b__law_total : Sv :=
  (mRet (mCallB (one (onT fun ns => .ok (.int ns.sum))) (mCons (mLc (mSeq (mVar 1)) [3] (gmN 3) mYes cm__law_total_1) mNil)))
def m__law_total (ds : List D) : Res D := run 4 b__law_total ds
abbrev lb__law_far_range_1 : Sv :=
  (mSq (mPar 11 12 (mCons (mBin ixA (mVar 3) (mBin modD (mCallB (one intD) (mCons (mVar 6) mNil)) (mK (.int 2)))) (mCons (mBin ixA (mVar 4) (mBin modD (mBin divD (mVar 6) (mK (.int 2))) (mK (.int 2)))) mNil)))
    (mSq (mSet 10 (mCallB (two minD) (mCons (mBin addD (mVar 11) (mBin ixA (mBin ixA (mVar 0) (mVar 1)) (mBin addD (mK (.int 2)) (mBin modD (mBin divD (mVar 6) (mK (.int 4))) (mK (.int 2)))))) (mCons (mBin addD (mVar 12) (mBin ixA (mBin ixA (mVar 0) (mVar 2)) (mBin addD (mK (.int 2)) (mBin divD (mVar 6) (mK (.int 8)))))) mNil))))
    (mExp (mApp 5 (mCallB (two maxD) (mCons (mK (.int 0)) (mCons (mBin subD (mVar 10) (mCallB (two maxD) (mCons (mVar 11) (mCons (mVar 12) mNil)))) mNil)))))))
abbrev b__law_far_range : Sv :=
  (mSq (mPar 8 9 (mCons (mCall 2 m__law_ahead (mCons (mVar 0) (mCons (mVar 1) mNil))) (mCons (mCall 2 m__law_ahead (mCons (mVar 0) (mCons (mVar 2) mNil))) mNil)))
    (mSq (mSet 3 (mLst (mCons (mCall 3 m__law_total (mCons (mVar 0) (mCons (mVar 8) (mCons (mK (.int 2)) mNil)))) (mCons (mCall 3 m__law_total (mCons (mVar 0) (mCons (mVar 8) (mCons (mK (.int 3)) mNil)))) mNil))))
    (mSq (mSet 4 (mLst (mCons (mCall 3 m__law_total (mCons (mVar 0) (mCons (mVar 9) (mCons (mK (.int 2)) mNil)))) (mCons (mCall 3 m__law_total (mCons (mVar 0) (mCons (mVar 9) (mCons (mK (.int 3)) mNil)))) mNil))))
    (mSq (mSetL 5 (mLst mNil))
    (mSq (mFor (mRng1 (mCons (mK (.int 16)) mNil)) (gmN 6) lb__law_far_range_1)
    (mSq (mSet 7 (mCallB (two minD) (mCons (mBin subD (mBin addD (mBin ixA (mBin ixA (mVar 0) (mVar 1)) (mK (.int 3))) (mBin ixA (mVar 3) (mK (.int 1)))) (mBin ixA (mVar 4) (mK (.int 0)))) (mCons (mBin subD (mBin addD (mBin ixA (mBin ixA (mVar 0) (mVar 2)) (mK (.int 3))) (mBin ixA (mVar 4) (mK (.int 1)))) (mBin ixA (mVar 3) (mK (.int 0)))) mNil))))
    (mRet (mTup (mCons (mCallB (one (onI minL)) (mCons (mVar 5) mNil)) (mCons (mCallB (two maxD) (mCons (mK (.int 0)) (mCons (mCallB (two minD) (mCons (mVar 7) (mCons (mCallB (two minD) (mCons (mBin ixA (mBin ixA (mVar 0) (mVar 1)) (mK (.int 3))) (mCons (mBin ixA (mBin ixA (mVar 0) (mVar 2)) (mK (.int 3))) mNil))) mNil))) mNil))) mNil))))))))))
def m__law_far_range (ds : List D) : Res D := run 13 b__law_far_range ds
abbrev cm__law_lists_right_1 : Ev :=
  (mTup (mCons (mVar 4) (mCons (mVar 7) mNil)))
abbrev ct__law_lists_right_1 : Ev1 :=
  (mTru (mBin gtD (mBin ixA (mCall 3 m__law_far_range (mCons (mVar 0) (mCons (mVar 4) (mCons (mVar 7) mNil)))) (mVar 2)) (mK (.int 0))))
abbrev lb__law_lists_right_1 : Sv :=
  (mSet 3 (mBin addD (mVar 3) (mLc (mSeq (mVar 6)) [7] (gmN 7) ct__law_lists_right_1 cm__law_lists_right_1)))
abbrev b__law_lists_right : Sv :=
  (mSq (mUnp (gmT 2 (gmCons (gmN 5) (gmCons (gmN 6) gmNil))) (mCall 1 m__law_both (mCons (mVar 0) mNil)))
    (mSq (mSet 3 (mLst mNil))
    (mSq (mFor (mSeq (mVar 5)) (gmN 4) lb__law_lists_right_1)
    (mRet (mCall 2 m__law_same (mCons (mVar 1) (mCons (mVar 3) mNil)))))))
def m__law_lists_right (ds : List D) : Res D := run 8 b__law_lists_right ds
abbrev b_has_word : Sv :=
  (mRet (mAndV (mIsi "tuple" (mVar 0)) (mAndV (mBin gtD (mCallB (one lenD) (mCons (mVar 0) mNil)) (mK (.int 0))) (mAndV (mIsi "str" (mBin ixA (mVar 0) (mK (.int 0)))) (mBin inD (mBin ixA (mVar 0) (mK (.int 0))) (mVar 1))))))
def m_has_word (ds : List D) : Res D := run 2 b_has_word ds
abbrev b_is_integer : Sv :=
  (mRet (mAndV (mIsi "int" (mVar 0)) (mNotV (mIsi "bool" (mVar 0)))))
def m_is_integer (ds : List D) : Res D := run 1 b_is_integer ds
abbrev cm_is_rough_entry_1 : Ev :=
  (mCall 1 m_is_integer (mCons (mVar 1) mNil))
abbrev b_is_rough_entry : Sv :=
  (mSq (mIfS (mOrT (mNotT (mTru (mCall 2 m_has_word (mCons (mVar 0) (mCons (mTup (mCons (mK (.str "bill")) (mCons (mK (.str "pay")) mNil))) mNil))))) (mTru (mBin neD (mCallB (one lenD) (mCons (mVar 0) mNil)) (mK (.int 4))))) (mRet (mK (.bl false))) mSk)
    (mSq (mIfS (mNotT (mTru (mCallB (one (onB fun ns => .ok (.bl (ns.all id)))) (mCons (mLc (mSeq (mSl sliceD (mVar 0) (mPart (mK (.int 1))) mNo)) [1] (gmN 1) mYes cm_is_rough_entry_1) mNil)))) (mRet (mK (.bl false))) mSk)
    (mRet (mChain leD leD (mK (.int 1)) (mBin ixA (mVar 0) (mK (.int 2))) (mBin ixA (mVar 0) (mK (.int 3)))))))
def m_is_rough_entry (ds : List D) : Res D := run 2 b_is_rough_entry ds
abbrev cm_is_rough_1 : Ev :=
  (mCall 1 m_is_rough_entry (mCons (mVar 1) mNil))
abbrev b_is_rough : Sv :=
  (mRet (mAndV (mIsi "tuple" (mVar 0)) (mCallB (one (onB fun ns => .ok (.bl (ns.all id)))) (mCons (mLc (mSeq (mVar 0)) [1] (gmN 1) mYes cm_is_rough_1) mNil))))
def m_is_rough (ds : List D) : Res D := run 2 b_is_rough ds
abbrev b_need_rough : Sv :=
  (mIfS (mNotT (mTru (mCall 1 m_is_rough (mCons (mVar 0) mNil)))) (mRai "InvalidRough") mSk)
def m_need_rough (ds : List D) : Res D := run 1 b_need_rough ds
abbrev cm_line_of_1 : Ev :=
  (mVar 2)
abbrev ct_line_of_1 : Ev1 :=
  (mTru (mBin neD (mBin ixA (mBin ixA (mVar 0) (mVar 2)) (mK (.int 0))) (mK (.str "struck"))))
abbrev b_line_of : Sv :=
  (mSq (mSet 1 (mLc (mRng1 (mCons (mCallB (one lenD) (mCons (mVar 0) mNil)) mNil)) [2] (gmN 2) ct_line_of_1 cm_line_of_1))
    (mRet (mSoLam 0 (mVar 1))))
def m_line_of (ds : List D) : Res D := run 3 b_line_of ds
abbrev cm_bill_line_1 : Ev :=
  (mVar 1)
abbrev ct_bill_line_1 : Ev1 :=
  (mTru (mBin eqD (mBin ixA (mBin ixA (mVar 0) (mVar 1)) (mK (.int 0))) (mK (.str "bill"))))
abbrev b_bill_line : Sv :=
  (mRet (mLc (mSeq (mCall 1 m_line_of (mCons (mVar 0) mNil))) [1] (gmN 1) ct_bill_line_1 cm_bill_line_1))
def m_bill_line (ds : List D) : Res D := run 2 b_bill_line ds
abbrev cm_payment_line_1 : Ev :=
  (mVar 1)
abbrev ct_payment_line_1 : Ev1 :=
  (mTru (mBin neD (mBin ixA (mBin ixA (mVar 0) (mVar 1)) (mK (.int 0))) (mK (.str "bill"))))
abbrev b_payment_line : Sv :=
  (mRet (mLc (mSeq (mCall 1 m_line_of (mCons (mVar 0) mNil))) [1] (gmN 1) ct_payment_line_1 cm_payment_line_1))
def m_payment_line (ds : List D) : Res D := run 2 b_payment_line ds
abbrev cm_bounds_of_1 : Ev :=
  (mBin ixA (mBin ixA (mVar 0) (mVar 2)) (mK (.int 3)))
abbrev cm_bounds_of_2 : Ev :=
  (mBin ixA (mBin ixA (mVar 0) (mVar 2)) (mK (.int 2)))
abbrev b_bounds_of : Sv :=
  (mRet (mTup (mCons (mCallB (one (onT fun ns => .ok (.int ns.sum))) (mCons (mLc (mSeq (mVar 1)) [2] (gmN 2) mYes cm_bounds_of_2) mNil)) (mCons (mCallB (one (onT fun ns => .ok (.int ns.sum))) (mCons (mLc (mSeq (mVar 1)) [2] (gmN 2) mYes cm_bounds_of_1) mNil)) mNil))))
def m_bounds_of (ds : List D) : Res D := run 3 b_bounds_of ds
abbrev b_older_than : Sv :=
  (mSq (mSet 2 (mIf (mTru (mBin eqD (mBin ixA (mBin ixA (mVar 0) (mVar 1)) (mK (.int 0))) (mK (.str "bill")))) (mCall 1 m_bill_line (mCons (mVar 0) mNil)) (mCall 1 m_payment_line (mCons (mVar 0) mNil))))
    (mRet (mSl sliceD (mVar 2) mNo (mPart (mIndex (mVar 2) (mVar 1))))))
def m_older_than (ds : List D) : Res D := run 3 b_older_than ds
abbrev b_shift_bounds : Sv :=
  (mSq (mUnp (gmT 2 (gmCons (gmN 3) (gmCons (gmN 4) gmNil))) (mCall 2 m_bounds_of (mCons (mVar 0) (mCons (mCall 2 m_older_than (mCons (mVar 0) (mCons (mVar 1) mNil))) mNil))))
    (mSq (mUnp (gmT 2 (gmCons (gmN 5) (gmCons (gmN 6) gmNil))) (mCall 2 m_bounds_of (mCons (mVar 0) (mCons (mCall 2 m_older_than (mCons (mVar 0) (mCons (mVar 2) mNil))) mNil))))
    (mRet (mTup (mCons (mBin subD (mVar 5) (mVar 4)) (mCons (mBin subD (mVar 6) (mVar 3)) mNil))))))
def m_shift_bounds (ds : List D) : Res D := run 7 b_shift_bounds ds
abbrev b_overlap : Sv :=
  (mRet (mCallB (two maxD) (mCons (mK (.int 0)) (mCons (mCallB (two minD) (mCons (mBin subD (mVar 1) (mCallB (two maxD) (mCons (mK (.int 0)) (mCons (mVar 0) mNil)))) (mCons (mBin subD (mVar 2) (mCallB (two maxD) (mCons (mK (.int 0)) (mCons (mBin subD (mK (.int 0)) (mVar 0)) mNil)))) mNil))) mNil))))
def m_overlap (ds : List D) : Res D := run 3 b_overlap ds
abbrev b_nearest_shift : Sv :=
  (mRet (mCallB (two maxD) (mCons (mBin ixA (mVar 0) (mK (.int 0))) (mCons (mCallB (two minD) (mCons (mK (.int 0)) (mCons (mBin ixA (mVar 0) (mK (.int 1))) mNil))) mNil))))
def m_nearest_shift (ds : List D) : Res D := run 1 b_nearest_shift ds
abbrev cm_range_of_1 : Ev :=
  (mCall 3 m_overlap (mCons (mVar 7) (mCons (mBin ixA (mVar 5) (mK (.int 2))) (mCons (mBin ixA (mVar 6) (mK (.int 2))) mNil))))
abbrev b_range_of : Sv :=
  (mSq (mSet 3 (mCall 3 m_shift_bounds (mCons (mVar 0) (mCons (mVar 1) (mCons (mVar 2) mNil)))))
    (mSq (mUnp (gmT 2 (gmCons (gmN 5) (gmCons (gmN 6) gmNil))) (mTup (mCons (mBin ixA (mVar 0) (mVar 1)) (mCons (mBin ixA (mVar 0) (mVar 2)) mNil))))
    (mSq (mSet 4 (mCallB (one (onI minL)) (mCons (mLc (mSeq (mVar 3)) [7] (gmN 7) mYes cm_range_of_1) mNil)))
    (mRet (mTup (mCons (mVar 4) (mCons (mCall 3 m_overlap (mCons (mCall 1 m_nearest_shift (mCons (mVar 3) mNil)) (mCons (mBin ixA (mVar 5) (mK (.int 3))) (mCons (mBin ixA (mVar 6) (mK (.int 3))) mNil)))) mNil)))))))
def m_range_of (ds : List D) : Res D := run 8 b_range_of ds
abbrev ci_pairs_from_1 : Em :=
  (mSeq (mCall 1 m_payment_line (mCons (mVar 0) mNil)))
abbrev cm_pairs_from_1 : Ev :=
  (mTup (mCons (mVar 3) (mCons (mVar 4) mNil)))
abbrev cm_pairs_from_2 : Ev :=
  (mVar 5)
abbrev ct_pairs_from_1 : Ev1 :=
  (mTru (mBin geD (mBin ixA (mCall 3 m_range_of (mCons (mVar 0) (mCons (mBin ixA (mVar 5) (mK (.int 0))) (mCons (mBin ixA (mVar 5) (mK (.int 1))) mNil)))) (mVar 1)) (mK (.int 1))))
abbrev b_pairs_from : Sv :=
  (mSq (mSet 2 (mLc2 (mSeq (mCall 1 m_bill_line (mCons (mVar 0) mNil))) [3, 4] [4] (gmN 3) mYes ci_pairs_from_1 (gmN 4) mYes cm_pairs_from_1))
    (mRet (mCallB (one sortA) (mCons (mLc (mSeq (mVar 2)) [5] (gmN 5) ct_pairs_from_1 cm_pairs_from_2) mNil))))
def m_pairs_from (ds : List D) : Res D := run 6 b_pairs_from ds
abbrev b_sure_pairs : Sv :=
  (mSq (mExp (mCall 1 m_need_rough (mCons (mVar 0) mNil)))
    (mRet (mCall 2 m_pairs_from (mCons (mVar 0) (mCons (mK (.int 0)) mNil)))))
def m_sure_pairs (ds : List D) : Res D := run 1 b_sure_pairs ds
abbrev b_possible_pairs : Sv :=
  (mSq (mExp (mCall 1 m_need_rough (mCons (mVar 0) mNil)))
    (mRet (mCall 2 m_pairs_from (mCons (mVar 0) (mCons (mK (.int 1)) mNil)))))
def m_possible_pairs (ds : List D) : Res D := run 1 b_possible_pairs ds
abbrev b_is_place : Sv :=
  (mRet (mAndV (mCall 1 m_is_integer (mCons (mVar 1) mNil)) (mAndV (mChain leD ltD (mK (.int 0)) (mVar 1) (mCallB (one lenD) (mCons (mVar 0) mNil))) (mBin inD (mBin ixA (mBin ixA (mVar 0) (mVar 1)) (mK (.int 0))) (mVar 2)))))
def m_is_place (ds : List D) : Res D := run 3 b_is_place ds
abbrev b_need_bill : Sv :=
  (mIfS (mNotT (mTru (mCall 3 m_is_place (mCons (mVar 0) (mCons (mVar 1) (mCons (mTup (mCons (mK (.str "bill")) mNil)) mNil)))))) (mRai "InvalidBill") mSk)
def m_need_bill (ds : List D) : Res D := run 2 b_need_bill ds
abbrev b_need_payment : Sv :=
  (mIfS (mNotT (mTru (mCall 3 m_is_place (mCons (mVar 0) (mCons (mVar 1) (mCons (mK (.tup [.str "pay", .str "named"])) mNil)))))) (mRai "InvalidPayment") mSk)
def m_need_payment (ds : List D) : Res D := run 2 b_need_payment ds
abbrev b_pair_range : Sv :=
  (mSq (mExp (mCall 1 m_need_rough (mCons (mVar 0) mNil)))
    (mSq (mExp (mCall 2 m_need_bill (mCons (mVar 0) (mCons (mVar 1) mNil))))
    (mSq (mExp (mCall 2 m_need_payment (mCons (mVar 0) (mCons (mVar 2) mNil))))
    (mRet (mCall 3 m_range_of (mCons (mVar 0) (mCons (mVar 1) (mCons (mVar 2) mNil))))))))
def m_pair_range (ds : List D) : Res D := run 3 b_pair_range ds
abbrev lb_law_1 : Sv :=
  (mSq (mPar 9 10 (mCons (mBin ixA (mVar 6) (mCallJ 2 m__law_pick (mCons (mVar 3) (mCons (mCallB (one lenD) (mCons (mVar 6) mNil)) mNil)))) (mCons (mBin ixA (mVar 7) (mCallJ 2 m__law_pick (mCons (mVar 3) (mCons (mCallB (one lenD) (mCons (mVar 7) mNil)) mNil)))) mNil)))
    (mIfS (mNotT (mTru (mCall 2 m__law_same (mCons (mCall 3 m_pair_range (mCons (mVar 5) (mCons (mVar 9) (mCons (mVar 10) mNil)))) (mCons (mCall 3 m__law_far_range (mCons (mVar 5) (mCons (mVar 9) (mCons (mVar 10) mNil)))) mNil))))) (mRet (mK (.bl false))) mSk))
abbrev lb_law_2 : Sv :=
  (mSq (mSetL 3 (mCallF 1 m__law_draws (mCons (mVar 2) mNil)))
    (mSq (mSet 4 (mBin ixA (mLst (mCons (mK (.int 8)) (mCons (mK (.int 8)) (mCons (mK (.int 16)) (mCons (mK (.int 40)) mNil))))) (mCallJ 2 m__law_pick (mCons (mVar 3) (mCons (mK (.int 4)) mNil)))))
    (mSq (mSet 5 (mCallJ 2 m__law_a_rough (mCons (mVar 3) (mCons (mVar 4) mNil))))
    (mSq (mUnp (gmT 2 (gmCons (gmN 6) (gmCons (gmN 7) gmNil))) (mCall 1 m__law_both (mCons (mVar 5) mNil)))
    (mSq (mIfS (mAndT (mTru (mBin neD (mVar 6) (mLst mNil))) (mTru (mBin neD (mVar 7) (mLst mNil)))) (mFor (mRng1 (mCons (mK (.int 12)) mNil)) (gmN 8) lb_law_1) mSk)
    (mIfS (mOrT (mTru (mBin ltD (mVar 4) (mK (.int 17)))) (mTru (mBin eqD (mCallJ 2 m__law_pick (mCons (mVar 3) (mCons (mK (.int 4)) mNil))) (mK (.int 0))))) (mSq (mIfS (mNotT (mTru (mCall 3 m__law_lists_right (mCons (mVar 5) (mCons (mCall 1 m_sure_pairs (mCons (mVar 5) mNil)) (mCons (mK (.int 0)) mNil)))))) (mRet (mK (.bl false))) mSk)
    (mIfS (mNotT (mTru (mCall 3 m__law_lists_right (mCons (mVar 5) (mCons (mCall 1 m_possible_pairs (mCons (mVar 5) mNil)) (mCons (mK (.int 1)) mNil)))))) (mRet (mK (.bl false))) mSk)) mSk))))))
abbrev b_law : Sv :=
  (mSq (mSet 1 (mK (.int 91747800983153295125247591601803511653906508055544150495268947522554118250)))
    (mSq (mFor (mSeq (mBin addD (mLst (mCons (mVar 1) mNil)) (mSl sliceD (mVar 0) mNo (mPart (mK (.int 6)))))) (gmN 2) lb_law_2)
    (mRet (mK (.bl true)))))
def m_law (ds : List D) : Res D := run 11 b_law ds
end
end Law
end
section
namespace Law
open PySem Vm
inductive Ent where
  | bill (d s : Int)
  | pay (d s : Int)
  | named (d s k : Int)
  | struck
def Ent.D : Ent → D
  | .bill d s => .tup [.str "bill", .int d, .int s]
  | .pay d s => .tup [.str "pay", .int d, .int s]
  | .named d s k => .tup [.str "named", .int d, .int s, .int k]
  | .struck => .tup [.str "struck"]
def Ent.live : Ent → Bool
  | .struck => false
  | _ => true
def Ent.isBill : Ent → Bool
  | .bill _ _ => true
  | _ => false
def Ent.isPay : Ent → Bool
  | .pay _ _ => true
  | .named _ _ _ => true
  | _ => false
def Ent.plain : Ent → Bool
  | .named _ _ _ => false
  | _ => true
def Ent.day : Ent → Int
  | .bill d _ => d
  | .pay d _ => d
  | .named d _ _ => d
  | .struck => 0
def Ent.sum : Ent → Int
  | .bill _ s => s
  | .pay _ s => s
  | .named _ s _ => s
  | .struck => 0
def Ent.ok : Ent → Bool
  | .struck => true
  | e => decide (1 ≤ e.sum)
def accD (es : List Ent) : D := .tup (es.map Ent.D)
@[simp] theorem D_bill (d s : Int) : (Ent.bill d s).D = .tup [.str "bill", .int d, .int s] := rfl
@[simp] theorem D_pay (d s : Int) : (Ent.pay d s).D = .tup [.str "pay", .int d, .int s] := rfl
@[simp] theorem D_named (d s k : Int) : (Ent.named d s k).D = .tup [.str "named", .int d, .int s, .int k] := rfl
@[simp] theorem D_struck : Ent.struck.D = .tup [.str "struck"] := rfl
@[simp] theorem kp_ent (e : Ent) : kp e.D = .ok e.D := by cases e <;> rfl
@[simp] theorem rs_ent (env : Sls) (e : Ent) : rs env e.D = .ok e.D := by cases e <;> rfl
@[simp] theorem al_ent (e : Ent) (ds : List D) : allKp (e.D :: ds) = allKp ds := by cases e <;> rfl
@[simp] theorem kp_acc (es : List Ent) : kp (accD es) = .ok (accD es) := rfl
@[simp] theorem rs_acc (env : Sls) (es : List Ent) : rs env (accD es) = .ok (accD es) := rfl
@[simp] theorem al_acc (es : List Ent) (ds : List D) : allKp (accD es :: ds) = allKp ds := rfl
/-- the named bill stands there and is no later -/
def nameOk (es : List Ent) (e : Ent) : Bool := match e with
  | .named d _ k => decide (0 ≤ k ∧ k < es.length) && (match es[k.toNat]? with
    | some (.bill d' _) => decide (d' ≤ d)
    | _ => false)
  | _ => true
@[simp] theorem ok_bill (d s : Int) : (Ent.bill d s).ok = decide (1 ≤ s) := rfl
@[simp] theorem ok_pay (d s : Int) : (Ent.pay d s).ok = decide (1 ≤ s) := rfl
@[simp] theorem ok_named (d s k : Int) : (Ent.named d s k).ok = decide (1 ≤ s) := rfl
@[simp] theorem is_int (i : Int) : m_is_integer [.int i] = .ok (.bl true) := by simp [m_is_integer]
end Law
end
section
namespace Law
open PySem Vm
/-- an account of the program -/
structure Acc (es : List Ent) : Prop where
  len : es.length ≤ 1000
  ok : ∀ e ∈ es, e.ok = true
  names : ∀ e ∈ es, nameOk es e = true
theorem at_ent (es : List Ent) (i : Nat) (h : i < es.length) : L2.atI (es.map Ent.D) (i : Int) = some es[i].D := by
  rw [atI_nat _ i (by rw [List.length_map]; exact h), List.getElem_map]
end Law
end
section
namespace Law
open PySem Vm
def Ent.word : Ent → Str
  | .bill _ _ => "bill"
  | .pay _ _ => "pay"
  | .named _ _ _ => "named"
  | .struck => "struck"
@[simp] theorem ix_w (e : Ent) : ixA e.D (.int 0) = .ok (.str e.word) := by cases e <;> simp [Ent.D, Ent.word]
theorem ix_d {e : Ent} (h : e.live = true) : ixA e.D (.int 1) = .ok (.int e.day) := by cases e <;> simp [Ent.live] at h <;> simp [Ent.D, Ent.day]
theorem ix_s {e : Ent} (h : e.live = true) : ixA e.D (.int 2) = .ok (.int e.sum) := by cases e <;> simp [Ent.live] at h <;> simp [Ent.D, Ent.sum]
@[simp] theorem ww_bill (e : Ent) : (e.word = "bill") = (e.isBill = true) := by cases e <;> simp [Ent.word, Ent.isBill]
@[simp] theorem ww_struck (e : Ent) : (e.word = "struck") = (e.live = false) := by cases e <;> simp [Ent.word, Ent.live]
@[simp] theorem ww_named (e : Ent) : (e.word = "named") = (e.plain = false) := by cases e <;> simp [Ent.word, Ent.plain]
theorem live_or {e : Ent} (h : e.live = true) : e.isBill = !e.isPay := by cases e <;> simp [Ent.live] at h <;> rfl
def gE (es : List Ent) (i : Nat) : Ent := es.getD i .struck
theorem gE_at {es : List Ent} {i : Nat} (h : i < es.length) : es[i]? = some (gE es i) := by
  unfold gE
  rw [List.getD_eq_getElem?_getD, List.getElem?_eq_getElem h]
  rfl
theorem gE_mem {es : List Ent} {i : Nat} (h : i < es.length) : gE es i ∈ es := List.mem_of_getElem? (gE_at h)
theorem ix_acc (es : List Ent) (i : Nat) (h : i < es.length) : ixA (accD es) (.int i) = .ok (gE es i).D := by
  unfold gE
  have := at_ent es i h
  simp only [accD, y32, y30, this]
  rw [List.getD_eq_getElem?_getD, List.getElem?_eq_getElem h]
  rfl
theorem len_acc (es : List Ent) : lenD (accD es) = .ok (.int es.length) := by simp [accD]
abbrev lvN (es : List Ent) (i : Nat) : Bool := (gE es i).live
abbrev dyN (es : List Ent) (i : Nat) : Int := (gE es i).day
abbrev smN (es : List Ent) (i : Nat) : Int := (gE es i).sum
abbrev blN (es : List Ent) (i : Nat) : Bool := (gE es i).isBill
def leN (es : List Ent) (p q : Nat) : Bool := decide (dyN es p < dyN es q ∨ (dyN es p = dyN es q ∧ p ≤ q))
/-- the indexes along the line -/
def ln (es : List Ent) : List Nat := ((List.range es.length).filter (lvN es)).mergeSort (leN es)
abbrev nD (i : Nat) : D := .int (i : Int)
theorem ln_perm (es : List Ent) : (ln es).Perm ((List.range es.length).filter (lvN es)) := List.mergeSort_perm _ _
theorem ln_mem {es : List Ent} {i : Nat} : i ∈ ln es ↔ i < es.length ∧ lvN es i = true := by
  rw [(ln_perm es).mem_iff, List.mem_filter, List.mem_range]
theorem ln_nodup (es : List Ent) : (ln es).Nodup := (ln_perm es).nodup_iff.mpr (List.Pairwise.filter _ List.nodup_range)
theorem ln_len (es : List Ent) : (ln es).length ≤ es.length := by
  rw [(ln_perm es).length_eq]
  have := List.length_filter_le (lvN es) (List.range es.length)
  rwa [List.length_range] at this
theorem line_of_ok {es : List Ent} (hz : es.length ≤ 1000) : m_line_of [accD es] = .ok (.lst ((ln es).map nD)) := by
  have h1 := lf1m (i := 2) (t := ct_line_of_1) (m := cm_line_of_1) (env := [.t (accD es), .u, .u]) nD (lvN es) nD (List.range es.length) (fun i hi => by
    have hi' : i < es.length := List.mem_range.mp hi
    simp [ix_acc es i hi', nD]) (fun i hi _ => ⟨by simp [nD], rfl⟩)
  have h2 : rg1 (es.length : Int) = true := rg1_lit _ (by omega)
  have h3 : soLam (es.map Ent.D) (((List.range es.length).filter (lvN es)).map fun i : Nat => (i : Int)) = .ok (.lst ((ln es).map nD)) := by
    have hd : ∀ i ∈ (List.range es.length).filter (lvN es), (es.map Ent.D)[i]? = some (gE es i).D ∧ (gE es i).live = true := fun i hi => by
      obtain ⟨a, b⟩ := List.mem_filter.mp hi
      have ha := List.mem_range.mp a
      refine ⟨?_, b⟩
      rw [List.getElem?_map, gE_at ha]
      rfl
    have hday : ∀ i ∈ (List.range es.length).filter (lvN es), dayOf (es.map Ent.D) (i : Int) = dyN es i := fun i hi => by
      obtain ⟨a, b⟩ := hd i hi
      unfold dayOf
      rw [Int.toNat_natCast, a]
      show (match some (gE es i).D with | some (.tup (_ :: .int d :: _)) => d | _ => 0) = (gE es i).day
      generalize gE es i = e at b
      cases e <;> first | rfl | cases b
    unfold soLam
    rw [if_pos]
    · unfold ln
      rw [← List.map_mergeSort (r := leN es) (f := fun i : Nat => (i : Int))]
      · rw [List.map_map]; rfl
      · intro p hp q hq
        unfold leN leDay
        rw [hday p hp, hday q hq]
        simp
    · rw [List.all_eq_true]
      intro z hz
      obtain ⟨i, hi, rfl⟩ := List.mem_map.mp hz
      obtain ⟨a, b⟩ := hd i hi
      unfold dayAt
      rw [Int.toNat_natCast, a]
      generalize gE es i = e at b
      cases e <;> first | (simp [Ent.D]; done) | cases b
  have h4 := rangeD_map es.length
  have h5 := ints_mapf (fun i : Nat => (i : Int)) ((List.range es.length).filter (lvN es))
  simp only [accD] at h1 ⊢
  simp [m_line_of, mSoLam, h2, h4, h1, h5, h3]
end Law
end
section
namespace Law
open PySem Vm
@[simp] theorem kp_lnD (xs : List Nat) : kp (.lst (xs.map nD)) = .ok (.lst (xs.map nD)) := rfl
theorem bill_line_ok {es : List Ent} (hz : es.length ≤ 1000) : m_bill_line [accD es] = .ok (.lst (((ln es).filter (blN es)).map nD)) := by
  have h0 := line_of_ok hz
  have h1 := lf1m (i := 1) (t := ct_bill_line_1) (m := cm_bill_line_1) (env := [.t (accD es), .u]) nD (blN es) nD (ln es) (fun i hi => by
    have hi' : i < es.length := (ln_mem.mp hi).1
    simp [ix_acc es i hi', nD]) (fun i hi _ => ⟨by simp [nD], rfl⟩)
  simp [m_bill_line, h0, h1]
def cutE (day : Int) (e : Ent) : Ent := if e.live = true ∧ e.day ≤ day then e else .struck
def cut (es : List Ent) (day : Int) : List Ent := es.map (cutE day)
theorem cutE_ok {day : Int} {e : Ent} (h : e.ok = true) : (cutE day e).ok = true := by
  unfold cutE
  split
  · exact h
  · rfl
theorem cut_len (es : List Ent) (day : Int) : (cut es day).length = es.length := List.length_map _
theorem gE_cut (es : List Ent) (day : Int) (i : Nat) : gE (cut es day) i = cutE day (gE es i) := by
  unfold gE cut
  rw [List.getD_eq_getElem?_getD, List.getD_eq_getElem?_getD, List.getElem?_map]
  cases es[i]? with
  | some e => rfl
  | none => simp [cutE, Ent.live]
/-- pairs (bill, payment, sum) -/
abbrev Tr := Nat × Nat × Int
def tD (p : Tr) : D := .tup [nD p.1, nD p.2.1, .int p.2.2]
def sb (rs : List Int) (i : Nat) (x : Int) : List Int := rs.set i (rs.getD i 0 - x)
@[simp] theorem sb_len (rs : List Int) (i : Nat) (x : Int) : (sb rs i x).length = rs.length := List.length_set
theorem sb_at (rs : List Int) (i j : Nat) (x : Int) (h : i < rs.length) : (sb rs i x).getD j 0 = rs.getD j 0 - (if i = j then x else 0) := by
  unfold sb
  rw [List.getD_eq_getElem?_getD, List.getD_eq_getElem?_getD, List.getElem?_set, List.getD_eq_getElem?_getD]
  by_cases q : i = j
  · subst q
    simp [h]
  · simp [q]
def restsL (rs : List Int) (ps : List Tr) : List Int := ps.foldl (fun rs p => sb (sb rs p.1 p.2.2) p.2.1 p.2.2) rs
theorem restsL_len : ∀ (ps : List Tr) (rs : List Int), (restsL rs ps).length = rs.length
  | [], _ => rfl
  | p :: ps, rs => by
    show (restsL _ ps).length = _
    rw [restsL_len ps]
    simp
def trS (ps : List Tr) (i : Nat) : Int := (ps.map fun p => (if p.1 = i then p.2.2 else 0) + (if p.2.1 = i then p.2.2 else 0)).sum
theorem restsL_at : ∀ (ps : List Tr) (rs : List Int) (i : Nat), (∀ p ∈ ps, p.1 < rs.length ∧ p.2.1 < rs.length) → (restsL rs ps).getD i 0 = rs.getD i 0 - trS ps i
  | [], rs, i, _ => by simp [restsL, trS]
  | p :: ps, rs, i, h => by
    show (restsL (sb (sb rs p.1 p.2.2) p.2.1 p.2.2) ps).getD i 0 = _
    obtain ⟨h1, h2⟩ := h p (.head _)
    rw [restsL_at ps _ i (fun q hq => by simp; exact h q (.tail _ hq)), sb_at _ _ _ _ (by simp; exact h2), sb_at _ _ _ _ h1]
    simp only [trS, List.map_cons, List.sum_cons]
    omega
theorem at_rs (rs : List Int) (i : Nat) (h : i < rs.length) : L2.atI (rs.map D.int) (i : Int) = some (.int (rs.getD i 0)) := by
  rw [atI_nat _ i (by rw [List.length_map]; exact h), List.getElem_map, List.getD_eq_getElem?_getD, List.getElem?_eq_getElem h]
  rfl
theorem set_rs (rs : List Int) (i : Nat) (x : Int) : (rs.map D.int).set i (.int x) = (rs.set i x).map D.int := List.map_set.symm
theorem sm_acc (es : List Ent) (e : Ent) : (if e.live = false then (0 : Int) else e.sum) = e.sum := by cases e <;> rfl
end Law
end
section
namespace Law
open PySem Vm
/-! the queue of what is left -/
abbrev Qu := List (Nat × Int)
/-- x is eaten from the queue: what is left of x, the queue, what was taken -/
def eat : Int → Qu → Int × Qu × Qu
  | x, [] => (x, [], [])
  | x, (j, y) :: q => if x ≤ 0 then (x, (j, y) :: q, []) else if x < y then (0, (j, y - x) :: q, [(j, x)]) else
      let r := eat (x - y) q
      (r.1, r.2.1, (j, y) :: r.2.2)
/-- y is taken off from the front -/
def tk : Int → List Int → List Int
  | _, [] => []
  | y, a :: as => (a - min a y) :: tk (y - min a y) as
def nz (is : List Nat) (xs : List Int) : Qu := (is.zip xs).filter fun p => decide (0 < p.2)
theorem tk_len : ∀ (as : List Int) (y : Int), (tk y as).length = as.length
  | [], _ => rfl
  | a :: as, y => by simp [tk, tk_len as]
theorem tk_zero : ∀ {as : List Int}, (∀ a ∈ as, 0 ≤ a) → tk 0 as = as
  | [], _ => rfl
  | a :: as, h => by
    have h1 := h a (.head _)
    have e : min a 0 = 0 := by omega
    simp only [tk, e, Int.sub_zero, tk_zero fun b hb => h b (.tail _ hb)]
theorem tk_nn : ∀ {as : List Int} {y : Int}, (∀ a ∈ as, 0 ≤ a) → 0 ≤ y → ∀ a ∈ tk y as, 0 ≤ a
  | [], _, _, _, a, h => by simp [tk] at h
  | b :: as, y, h, hy, a, ha => by
    have h1 := h b (.head _)
    simp only [tk, List.mem_cons] at ha
    rcases ha with rfl | ha
    · omega
    · exact tk_nn (fun c hc => h c (.tail _ hc)) (by omega) a ha
theorem tk_tk : ∀ {as : List Int} {x y : Int}, (∀ a ∈ as, 0 ≤ a) → 0 ≤ x → 0 ≤ y → tk x (tk y as) = tk (y + x) as
  | [], _, _, _, _, _ => rfl
  | a :: as, x, y, h, hx, hy => by
    have h1 := h a (.head _)
    simp only [tk]
    rw [tk_tk (fun c hc => h c (.tail _ hc)) (by omega) (by omega)]
    congr 1
    · omega
    · congr 1
      omega
theorem tk_append : ∀ (as bs : List Int) (y : Int), tk y (as ++ bs) = tk y as ++ tk (y - (as.sum - (tk y as).sum)) bs
  | [], bs, y => by simp [tk]
  | a :: as, bs, y => by
    simp only [List.cons_append, tk, tk_append as bs, List.sum_cons]
    congr 2
    congr 1
    omega
theorem sumNN : ∀ {as : List Int}, (∀ a ∈ as, 0 ≤ a) → 0 ≤ as.sum
  | [], _ => by simp
  | a :: as, h => by
    have h1 := h a (.head _)
    have h2 := sumNN (as := as) fun c hc => h c (.tail _ hc)
    rw [List.sum_cons]
    omega
theorem tk_sum : ∀ {as : List Int} {y : Int}, (∀ a ∈ as, 0 ≤ a) → 0 ≤ y → (tk y as).sum = as.sum - min y as.sum
  | [], y, _, hy => by simp [tk]; omega
  | a :: as, y, h, hy => by
    have h1 := h a (.head _)
    have h2 := tk_sum (as := as) (y := y - min a y) (fun c hc => h c (.tail _ hc)) (by omega)
    have h3 : 0 ≤ as.sum := sumNN fun c hc => h c (.tail _ hc)
    simp only [tk, List.sum_cons, h2]
    omega
/-- of the queue of the rests, x is eaten: the queue of the rests with x more taken off -/
theorem eat_nz : ∀ {is : List Nat} {as : List Int} {x : Int}, (∀ a ∈ as, 0 ≤ a) → 0 ≤ x → is.length = as.length → (eat x (nz is as)).2.1 = nz is (tk x as)
  | [], [], x, _, _, _ => rfl
  | i :: is, a :: as, x, h, hx, hl => by
    have h1 := h a (.head _)
    have ih := fun y hy => eat_nz (is := is) (as := as) (x := y) (fun c hc => h c (.tail _ hc)) hy (by simpa using hl)
    have hr : ∀ c ∈ as, 0 ≤ c := fun c hc => h c (.tail _ hc)
    by_cases ha : 0 < a
    · have e : nz (i :: is) (a :: as) = (i, a) :: nz is as := by simp [nz, ha]
      rw [e]
      unfold eat
      by_cases h0 : x ≤ 0
      · have : x = 0 := by omega
        subst this
        rw [if_pos (by decide), tk_zero h]
        exact e.symm
      · rw [if_neg h0]
        by_cases h2 : x < a
        · rw [if_pos h2]
          have e3 : min a x = x := by omega
          have e2 : tk x (a :: as) = (a - x) :: as := by
            simp only [tk, e3, Int.sub_self, tk_zero hr]
          rw [e2]
          have e4 : nz (i :: is) ((a - x) :: as) = (i, a - x) :: nz is as := by
            have : decide (0 < a - x) = true := decide_eq_true (by omega)
            unfold nz
            rw [List.zip_cons_cons, List.filter_cons, if_pos this]
          rw [e4]
        · rw [if_neg h2]
          have e3 : min a x = a := by omega
          have e2 : tk x (a :: as) = 0 :: tk (x - a) as := by simp only [tk, e3, Int.sub_self]
          simp only [e2, ih (x - a) (by omega)]
          simp [nz]
    · have e : nz (i :: is) (a :: as) = nz is as := by simp [nz, ha]
      have e3 : min a x = 0 := by omega
      have e2 : tk x (a :: as) = 0 :: tk x as := by
        simp only [tk, e3, Int.sub_zero]
        rw [show a = 0 by omega]
      rw [e, e2, ih x hx]
      simp [nz]
  | [], _ :: _, _, _, _, hl => by simp at hl
  | _ :: _, [], _, _, _, hl => by simp at hl
/-- what is left of x -/
theorem eat_left : ∀ {q : Qu} {x : Int}, (∀ p ∈ q, 0 < p.2) → 0 ≤ x → (eat x q).1 = x - min x (q.map (·.2)).sum
  | [], x, _, hx => by simp [eat]; omega
  | (j, y) :: q, x, h, hx => by
    have h1 : 0 < y := h (j, y) (.head _)
    have hn : 0 ≤ (q.map (·.2)).sum := sumNN fun a ha => by
      obtain ⟨p, hp, rfl⟩ := List.mem_map.mp ha
      have := h p (.tail _ hp)
      omega
    unfold eat
    simp only [List.map_cons, List.sum_cons]
    split
    · omega
    · split
      · omega
      · have ih := eat_left (q := q) (x := x - y) (fun p hp => h p (.tail _ hp)) (by omega)
        simp only [ih]
        omega
theorem nz_sum : ∀ {is : List Nat} {as : List Int}, (∀ a ∈ as, 0 ≤ a) → is.length = as.length → ((nz is as).map (·.2)).sum = as.sum
  | [], [], _, _ => rfl
  | i :: is, a :: as, h, hl => by
    have h1 := h a (.head _)
    have ih := nz_sum (is := is) (as := as) (fun c hc => h c (.tail _ hc)) (by simpa using hl)
    by_cases ha : 0 < a
    · have e : nz (i :: is) (a :: as) = (i, a) :: nz is as := by simp [nz, ha]
      rw [e, List.map_cons, List.sum_cons, List.sum_cons, ih]
    · have e : nz (i :: is) (a :: as) = nz is as := by simp [nz, ha]
      rw [e, List.sum_cons, ih]
      omega
  | [], _ :: _, _, hl => by simp at hl
  | _ :: _, [], _, hl => by simp at hl
theorem nz_pos {is : List Nat} {as : List Int} : ∀ p ∈ nz is as, 0 < p.2 := fun p hp => by
  have := (List.mem_filter.mp hp).2
  simpa using this
theorem nz_append {is js : List Nat} {as bs : List Int} (h : is.length = as.length) : nz (is ++ js) (as ++ bs) = nz is as ++ nz js bs := by
  unfold nz
  rw [List.zip_append h, List.filter_append]
end Law
end
section
namespace Law
open PySem Vm
def qv : Qu → Nat → Int
  | [], _ => 0
  | (j, y) :: q, i => if i = j then y else qv q i
theorem qv_out : ∀ {q : Qu} {i : Nat}, i ∉ q.map (·.1) → qv q i = 0
  | [], _, _ => rfl
  | (j, y) :: q, i, h => by
    simp only [List.map_cons, List.mem_cons, not_or] at h
    unfold qv
    rw [if_neg h.1, qv_out h.2]
theorem qv_put : ∀ {o r : Qu} {i j : Nat} {y v : Int}, j ∉ o.map (·.1) → qv (o ++ (j, v) :: r) i = if i = j then v else qv (o ++ (j, y) :: r) i
  | [], r, i, j, y, v, _ => by
    simp only [List.nil_append, qv]
    split <;> rfl
  | (k, z) :: o, r, i, j, y, v, h => by
    simp only [List.map_cons, List.mem_cons, not_or] at h
    simp only [List.cons_append, qv]
    rw [qv_put (y := y) h.2]
    by_cases h1 : i = k
    · rw [if_pos h1, if_neg (by rw [h1]; exact fun e => h.1 e.symm), if_pos h1]
    · rw [if_neg h1, if_neg h1]
theorem qv_drop : ∀ {o r : Qu} {i j : Nat}, j ∉ r.map (·.1) → qv (o ++ (j, 0) :: r) i = qv (o ++ r) i
  | [], r, i, j, h => by
    simp only [List.nil_append, qv]
    split
    · rename_i e
      rw [e, qv_out h]
    · rfl
  | (k, z) :: o, r, i, j, h => by
    simp only [List.cons_append, qv]
    rw [qv_drop h]
theorem filter_sub {l l' : List Nat} {p : Nat → Bool} (hs : l'.Sublist l) : l.Nodup → (∀ x ∈ l', p x = true) → (∀ x ∈ l, x ∉ l' → p x = false) → l.filter p = l' := by
  induction hs with
  | slnil => intro _ _ _; rfl
  | cons a hs ih =>
    rename_i l1 l2
    intro hn h1 h2
    have hn' := List.nodup_cons.mp hn
    have ha : a ∉ l1 := fun z => hn'.1 (hs.subset z)
    rw [List.filter_cons, if_neg (by rw [h2 a (.head _) ha]; exact Bool.false_ne_true)]
    exact ih hn'.2 h1 fun x hx => h2 x (.tail _ hx)
  | cons_cons a hs ih =>
    intro hn h1 h2
    have hn' := List.nodup_cons.mp hn
    rw [List.filter_cons, if_pos (h1 a (.head _)), ih hn'.2 (fun x hx => h1 x (.tail _ hx)) fun x hx hx2 => h2 x (.tail _ hx) fun z => by
      rcases List.mem_cons.mp z with rfl | z
      · exact hn'.1 hx
      · exact hx2 z]
theorem ix_rs (rs : List Int) (i : Nat) (h : i < rs.length) : ixA (.lst (rs.map D.int)) (.int (i : Int)) = .ok (.int (rs.getD i 0)) := by
  simp [at_rs rs i h, -List.getD_eq_getElem?_getD]
theorem nil_ne (xs : List Nat) : neD (.lst (xs.map nD)) (.lst []) = .ok (.bl (!xs.isEmpty)) := by
  have h : Lay 1 (.lst (xs.map nD)) := lay_lst fun x hx => by
    obtain ⟨i, _, rfl⟩ := List.mem_map.mp hx
    exact lay_int _ _
  rw [ne_lst0 h]
  cases xs <;> rfl
/-- who has something left on a side -/
def side (es : List Ent) (rs : List Int) (b : Bool) (i : Nat) : Bool := (blN es i == b) && decide (0 < rs.getD i 0)
def headD (xs : List Nat) : D := match xs with
  | [] => .non
  | x :: _ => nD x
end Law
end
section
namespace Law
open PySem Vm
def mkT (b : Bool) (i j : Nat) (y : Int) : Tr := if b = true then (i, j, y) else (j, i, y)
abbrev manO : D := .tup [.str "days", .str "oldest"]
/-- the slots of pairs_of -/
abbrev pe (es : List Ent) (st : D) (rs : List Int) (ps : List Tr) (i : Nat) (x7 x8 x9 : Sl) : Sls :=
  [.t (accD es), .t manO, .t (.lst ((ln es).map nD)), .t st, .l (.lst (rs.map D.int)), .l (.lst (ps.map tD)), .t (nD i), x7, x8, x9]
end Law
end
section
namespace Law
open PySem Vm
theorem whL_stop {mt : Ev1} {mb : Sv} {n : Nat} {env : Sls} (h : mt env = .ok (false, env)) : whL mt mb (n + 1) env = .ok (.next, env) := by
  unfold whL
  simp [h]
theorem whL_brk {mt : Ev1} {mb : Sv} {n : Nat} {env e2 : Sls} (h : mt env = .ok (true, env)) (hb : mb env = .ok (.brk, e2)) : whL mt mb (n + 1) env = .ok (.next, e2) := by
  unfold whL
  simp [h, hb]
theorem whL_go {mt : Ev1} {mb : Sv} {n : Nat} {env e2 : Sls} (h : mt env = .ok (true, env)) (hb : mb env = .ok (.next, e2)) : whL mt mb (n + 1) env = whL mt mb n e2 := by
  conv => lhs; unfold whL
  simp [h, hb]
/-- what the queues say of the rests: i has x left, o the others of its side, q the other side -/
structure St (es : List Ent) (rs : List Int) (i : Nat) (x : Int) (o q : Qu) : Prop where
  len : rs.length = es.length
  at_ : i < es.length
  val : ∀ k, k < es.length → rs.getD k 0 = qv ((i, x) :: (o ++ q)) k
  sub : (q.map (·.1)).Sublist (ln es)
  far : ∀ p ∈ q, blN es p.1 = (!blN es i) ∧ 0 < p.2
  own : ∀ p ∈ o, blN es p.1 = blN es i ∧ p.1 ≠ i
theorem St.noO {es : List Ent} {rs : List Int} {i : Nat} {x : Int} {o q : Qu} (S : St es rs i x o q) {k : Nat} (h : k ∈ q.map (·.1)) : k ∉ o.map (·.1) ∧ k ≠ i ∧ k < es.length := by
  obtain ⟨p, hp, rfl⟩ := List.mem_map.mp h
  have h1 := (S.far p hp).1
  refine ⟨fun z => ?_, fun z => ?_, (ln_mem.mp (S.sub.subset h)).1⟩
  · obtain ⟨r, hr, e⟩ := List.mem_map.mp z
    have h2 := (S.own r hr).1
    rw [e, h1] at h2
    cases blN es i <;> simp at h2
  · rw [z] at h1
    cases q2 : blN es i <;> simp [q2] at h1
theorem St.filter {es : List Ent} {rs : List Int} {i : Nat} {x : Int} {o q : Qu} (S : St es rs i x o q) : (ln es).filter (side es rs (!blN es i)) = q.map (·.1) := by
  refine filter_sub S.sub (ln_nodup es) (fun k hk => ?_) fun k hk hn => ?_
  · obtain ⟨p, hp, rfl⟩ := List.mem_map.mp hk
    obtain ⟨h1, h2⟩ := S.far p hp
    obtain ⟨n1, n2, n3⟩ := S.noO hk
    have e : qv ((i, x) :: (o ++ q)) p.1 = p.2 := by
      unfold qv
      rw [if_neg n2]
      have hN := S.sub.nodup (ln_nodup es)
      clear S h1 h2 n2 n3
      have hnd : ∀ (o q : Qu), p ∈ q → (q.map (·.1)).Nodup → p.1 ∉ o.map (·.1) → qv (o ++ q) p.1 = p.2 := by
        intro o
        induction o with
        | nil =>
          intro q
          induction q with
          | nil => intro h; cases h
          | cons r q ih =>
            intro h hn _
            simp only [List.nil_append] at ih ⊢
            unfold qv
            rcases List.mem_cons.mp h with rfl | h
            · rw [if_pos rfl]
            · have := List.nodup_cons.mp hn
              rw [if_neg fun z => this.1 (by show r.1 ∈ _; rw [← z]; exact List.mem_map_of_mem h)]
              exact ih h this.2 (by simp)
        | cons r o ih =>
          intro q h hn hm
          simp only [List.map_cons, List.mem_cons, not_or] at hm
          simp only [List.cons_append]
          unfold qv
          rw [if_neg hm.1]
          exact ih q h hn hm.2
      exact hnd o q hp hN n1
    unfold side
    rw [S.val _ n3, e, h1]
    simp [h2]
  · have hk2 := ln_mem.mp hk
    unfold side
    cases hb : blN es k == !blN es i with
    | false => rfl
    | true =>
      have hb2 : blN es k = !blN es i := by simpa using hb
      have ki : k ≠ i := fun z => by
        rw [z] at hb2
        cases q2 : blN es i <;> simp [q2] at hb2
      have ko : k ∉ o.map (·.1) := fun z => by
        obtain ⟨r, hr, e⟩ := List.mem_map.mp z
        have h2 := (S.own r hr).1
        rw [e, hb2] at h2
        cases blN es i <;> simp at h2
      have e : qv ((i, x) :: (o ++ q)) k = 0 := qv_out (by
        simp only [List.map_cons, List.map_append, List.mem_cons, List.mem_append, not_or]
        exact ⟨ki, ko, hn⟩)
      rw [S.val _ hk2.1, e]
      rfl
theorem St.step {es : List Ent} {rs : List Int} {i j : Nat} {x y : Int} {o q : Qu} (S : St es rs i x o ((j, y) :: q)) (m : Int) :
    i < rs.length ∧ j < rs.length ∧ rs.getD i 0 = x ∧ rs.getD j 0 = y ∧ (sb (sb rs i m) j m).length = es.length ∧ ∀ k, k < es.length → (sb (sb rs i m) j m).getD k 0 = qv ((i, x - m) :: (o ++ (j, y - m) :: q)) k := by
  have hj : j ∈ ((j, y) :: q).map (·.1) := by simp
  obtain ⟨n1, n2, n3⟩ := S.noO hj
  have l := S.len
  have hi := S.at_
  have vi := S.val i hi
  have vj := S.val j n3
  have ei : rs.getD i 0 = x := by rw [vi]; simp [qv]
  have ej : rs.getD j 0 = y := by
    rw [vj]
    unfold qv
    rw [if_neg n2, qv_put (y := y) n1, if_pos rfl]
  refine ⟨by omega, by omega, ei, ej, by simp [l], fun k hk => ?_⟩
  rw [sb_at _ _ _ _ (by simp; omega), sb_at _ _ _ _ (by omega), S.val k hk]
  unfold qv
  by_cases h1 : k = i
  · rw [if_pos h1, if_pos h1, if_pos h1.symm, if_neg (by omega)]
    omega
  · rw [if_neg h1, if_neg h1, if_neg (fun z => h1 z.symm), qv_put (v := y - m) (y := y) n1]
    by_cases h2 : k = j
    · rw [if_pos h2.symm, if_pos h2, h2, qv_put (v := y) (y := y) n1, if_pos rfl]
      omega
    · rw [if_neg (fun z => h2 z.symm), if_neg h2]
      omega
end Law
end
section
namespace Law
open PySem Vm
theorem eat_keys : ∀ (q : Qu) (x : Int), ((eat x q).2.1.map (·.1)).Sublist (q.map (·.1))
  | [], x => by simp [eat]
  | (j, y) :: q, x => by
    unfold eat
    split
    · exact .refl _
    · split
      · exact .refl _
      · exact (eat_keys q (x - y)).trans (List.sublist_cons_self _ _)
theorem eat_pos : ∀ {q : Qu} {x : Int}, (∀ p ∈ q, 0 < p.2) → ∀ p ∈ (eat x q).2.1, 0 < p.2
  | [], x, _, p, h => by simp [eat] at h
  | (j, y) :: q, x, hq, p, h => by
    have h1 : 0 < y := hq (j, y) (.head _)
    unfold eat at h
    split at h
    · exact hq p h
    · split at h
      · rcases List.mem_cons.mp h with rfl | h
        · simp; omega
        · exact hq p (.tail _ h)
      · exact eat_pos (fun r hr => hq r (.tail _ hr)) p h
theorem eat_len : ∀ (q : Qu) (x : Int), (eat x q).2.1.length + (eat x q).2.2.length ≤ q.length + 1
  | [], x => by simp [eat]
  | (j, y) :: q, x => by
    unfold eat
    split
    · simp
    · split
      · simp
      · have := eat_len q (x - y)
        simp only [List.length_cons]
        omega
theorem eat_nn : ∀ (q : Qu) {x : Int}, 0 ≤ x → 0 ≤ (eat x q).1
  | [], x, h => by simpa [eat] using h
  | (j, y) :: q, x, h => by
    unfold eat
    split
    · exact h
    · split
      · simp
      · exact eat_nn q (by omega)
theorem qv_mid : ∀ {o q : Qu} {i k : Nat} {v : Int}, i ∉ o.map (·.1) → qv ((i, v) :: (o ++ q)) k = qv (o ++ (i, v) :: q) k
  | [], q, i, k, v, _ => rfl
  | (j, y) :: o, q, i, k, v, h => by
    simp only [List.map_cons, List.mem_cons, not_or] at h
    have ih := qv_mid (o := o) (q := q) (k := k) (v := v) h.2
    simp only [List.cons_append, qv] at ih ⊢
    rw [← ih]
    by_cases h1 : k = i
    · rw [if_pos h1, if_neg (by rw [h1]; exact h.1), if_pos h1]
    · rw [if_neg h1, if_neg h1]
theorem qv_app : ∀ {o q : Qu} {k : Nat}, k ∉ o.map (·.1) → qv (o ++ q) k = qv q k
  | [], q, k, _ => rfl
  | (j, y) :: o, q, k, h => by
    simp only [List.map_cons, List.mem_cons, not_or] at h
    simp only [List.cons_append, qv]
    rw [if_neg h.1, qv_app h.2]
theorem qv_app2 : ∀ {o q : Qu} {k : Nat}, k ∉ q.map (·.1) → qv (o ++ q) k = qv o k
  | [], q, k, h => qv_out h
  | (j, y) :: o, q, k, h => by
    simp only [List.cons_append, qv]
    rw [qv_app2 h]
theorem qv_comm {o q : Qu} {k : Nat} (h : ∀ j ∈ o.map (·.1), j ∉ q.map (·.1)) : qv (o ++ q) k = qv (q ++ o) k := by
  by_cases h1 : k ∈ o.map (·.1)
  · rw [qv_app2 (h k h1), qv_app (h k h1)]
  · rw [qv_app h1, qv_app2 h1]
abbrev QS := Qu × Qu × List Tr
def new (i : Nat) (x : Int) : Qu := if 0 < x then [(i, x)] else []
def stepQ (es : List Ent) (s : QS) (i : Nat) : QS := if blN es i = true then
    (s.1 ++ new i (eat (smN es i) s.2.1).1, (eat (smN es i) s.2.1).2.1, s.2.2 ++ (eat (smN es i) s.2.1).2.2.map fun p => mkT true i p.1 p.2)
  else ((eat (smN es i) s.1).2.1, s.2.1 ++ new i (eat (smN es i) s.1).1, s.2.2 ++ (eat (smN es i) s.1).2.2.map fun p => mkT false i p.1 p.2)
structure IQ (es : List Ent) (P : List Nat) (rs : List Int) (s : QS) : Prop where
  len : rs.length = es.length
  val : ∀ k, k < es.length → rs.getD k 0 = qv (s.1 ++ s.2.1) k
  b : (s.1.map (·.1)).Sublist P
  m : (s.2.1.map (·.1)).Sublist P
  bs : ∀ p ∈ s.1, blN es p.1 = true ∧ 0 < p.2
  ms : ∀ p ∈ s.2.1, blN es p.1 = false ∧ 0 < p.2
  cnt : s.2.2.length + s.1.length + s.2.1.length ≤ 2 * P.length
theorem IQ.dis {es : List Ent} {P : List Nat} {rs : List Int} {s : QS} (I : IQ es P rs s) : ∀ j ∈ s.1.map (·.1), j ∉ s.2.1.map (·.1) := fun j hj hm => by
  obtain ⟨p, hp, rfl⟩ := List.mem_map.mp hj
  obtain ⟨r, hr, e⟩ := List.mem_map.mp hm
  have h1 := (I.bs p hp).1
  have h2 := (I.ms r hr).1
  rw [e, h1] at h2
  cases h2
theorem new_key (i : Nat) (x : Int) : ((new i x).map (·.1)).Sublist [i] := by
  unfold new
  split
  · exact .refl _
  · exact List.nil_sublist _
theorem qv_new {i k : Nat} {x : Int} {o : Qu} (hx : 0 ≤ x) (q : Qu) (h : i ∉ q.map (·.1)) : qv (o ++ (i, x) :: q) k = qv ((o ++ new i x) ++ q) k := by
  unfold new
  split
  · rw [List.append_assoc]; rfl
  · have : x = 0 := by omega
    subst this
    rw [List.append_nil, qv_drop h]
end Law
end
section
namespace Law
open PySem Vm
def row3 (p : Tr) : List Int := [(p.1 : Int), (p.2.1 : Int), p.2.2]
theorem tD_row (p : Tr) : tD p = rowD (row3 p) := rfl
def leT (p q : Tr) : Bool := leR (row3 p) (row3 q)
def sortT (ps : List Tr) : List Tr := ps.mergeSort leT
theorem sortT_perm (ps : List Tr) : (sortT ps).Perm ps := List.mergeSort_perm _ _
theorem sortA_tr (ps : List Tr) : sortA (.lst (ps.map tD)) = .ok (.lst ((sortT ps).map tD)) := by
  have e : ps.map tD = (ps.map row3).map rowD := by rw [List.map_map]; rfl
  rw [e, sortA_rows fun b hb => by
    obtain ⟨p, _, rfl⟩ := List.mem_map.mp hb
    exact fun z => nomatch z]
  unfold sortR sortT
  rw [← List.map_mergeSort (r := leT) (s := leR) (f := row3) fun p _ q _ => rfl, List.map_map]
  rfl
def runQ (es : List Ent) (P : List Nat) : QS := P.foldl (stepQ es) ([], [], [])
end Law
end
section
namespace Law
open PySem Vm
def bI (es : List Ent) (P : List Nat) : List Nat := P.filter (blN es)
def mI (es : List Ent) (P : List Nat) : List Nat := P.filter fun i => !blN es i
def sS (es : List Ent) (P : List Nat) : List Int := P.map (smN es)
theorem runQ_snoc (es : List Ent) (P : List Nat) (i : Nat) : runQ es (P ++ [i]) = stepQ es (runQ es P) i := by
  unfold runQ
  rw [List.foldl_append]
  rfl
theorem nz_one (i : Nat) (x : Int) : nz [i] [x] = new i x := by
  unfold nz new
  simp [List.filter_cons]
theorem snoc_ind {α : Type} {p : List α → Prop} (h0 : p []) (h1 : ∀ P i, p P → p (P ++ [i])) : ∀ P, p P := by
  intro P
  have : ∀ Q : List α, p Q.reverse := by
    intro Q
    induction Q with
    | nil => exact h0
    | cons a Q ih => rw [List.reverse_cons]; exact h1 _ _ ih
  have h := this P.reverse
  rwa [List.reverse_reverse] at h
/-- the queues at any time: what the sums of the other side leave of the own sums -/
theorem runQ_eq {es : List Ent} : ∀ (P : List Nat), (∀ i ∈ P, 0 ≤ smN es i) →
    (runQ es P).1 = nz (bI es P) (tk (sS es (mI es P)).sum (sS es (bI es P))) ∧ (runQ es P).2.1 = nz (mI es P) (tk (sS es (bI es P)).sum (sS es (mI es P))) := by
  refine snoc_ind (fun _ => ⟨rfl, rfl⟩) fun P i ih hs => ?_
  obtain ⟨h1, h2⟩ := ih fun j hj => hs j (List.mem_append_left _ hj)
  have hx : 0 ≤ smN es i := hs i (by simp)
  have hbn : ∀ a ∈ sS es (bI es P), 0 ≤ a := fun a ha => by
    obtain ⟨j, hj, rfl⟩ := List.mem_map.mp ha
    exact hs j (List.mem_append_left _ (List.mem_filter.mp hj).1)
  have hmn : ∀ a ∈ sS es (mI es P), 0 ≤ a := fun a ha => by
    obtain ⟨j, hj, rfl⟩ := List.mem_map.mp ha
    exact hs j (List.mem_append_left _ (List.mem_filter.mp hj).1)
  have hB := sumNN hbn
  have hM := sumNN hmn
  have lb : (bI es P).length = (tk (sS es (mI es P)).sum (sS es (bI es P))).length := by rw [tk_len]; simp [sS]
  have lm : (mI es P).length = (tk (sS es (bI es P)).sum (sS es (mI es P))).length := by rw [tk_len]; simp [sS]
  rw [runQ_snoc]
  unfold stepQ
  cases hb : blN es i with
  | true =>
    have e1 : bI es (P ++ [i]) = bI es P ++ [i] := by simp [bI, hb]
    have e2 : mI es (P ++ [i]) = mI es P := by simp [mI, hb]
    have e3 : sS es (bI es P ++ [i]) = sS es (bI es P) ++ [smN es i] := by simp [sS]
    rw [if_pos rfl, e1, e2, e3]
    simp only
    refine ⟨?_, ?_⟩
    · rw [tk_append, nz_append lb, ← h1]
      congr 1
      have hl := eat_left (q := (runQ es P).2.1) (x := smN es i) (fun p hp => by rw [h2] at hp; exact nz_pos p hp) hx
      rw [hl, h2, nz_sum (tk_nn hmn hB) lm, tk_sum hmn hB, tk_sum hbn hM]
      simp only [tk]
      rw [nz_one]
      congr 1
      omega
    · have := eat_nz (is := mI es P) (as := tk (sS es (bI es P)).sum (sS es (mI es P))) (x := smN es i) (tk_nn hmn hB) hx lm
      rw [h2, this, tk_tk hmn hx hB, List.sum_append]
      simp
  | false =>
    have e1 : bI es (P ++ [i]) = bI es P := by simp [bI, hb]
    have e2 : mI es (P ++ [i]) = mI es P ++ [i] := by simp [mI, hb]
    have e3 : sS es (mI es P ++ [i]) = sS es (mI es P) ++ [smN es i] := by simp [sS]
    rw [if_neg (by exact Bool.false_ne_true), e1, e2, e3]
    simp only
    refine ⟨?_, ?_⟩
    · have := eat_nz (is := bI es P) (as := tk (sS es (mI es P)).sum (sS es (bI es P))) (x := smN es i) (tk_nn hbn hM) hx lb
      rw [h1, this, tk_tk hbn hx hM, List.sum_append]
      simp
    · rw [tk_append, nz_append lm, ← h2]
      congr 1
      have hl := eat_left (q := (runQ es P).1) (x := smN es i) (fun p hp => by rw [h1] at hp; exact nz_pos p hp) hx
      rw [hl, h1, nz_sum (tk_nn hbn hM) lb, tk_sum hbn hM, tk_sum hmn hB]
      simp only [tk]
      rw [nz_one]
      congr 1
      omega
/-! what the pairs took -/
def qs (q : Qu) (k : Nat) : Int := (q.map fun p => if k = p.1 then p.2 else 0).sum
theorem qs_app (o q : Qu) (k : Nat) : qs (o ++ q) k = qs o k + qs q k := by
  unfold qs
  rw [List.map_append, List.sum_append]
theorem qv_qs : ∀ {q : Qu} {k : Nat}, (q.map (·.1)).Nodup → qv q k = qs q k
  | [], _, _ => rfl
  | (j, y) :: q, k, h => by
    have h' := List.nodup_cons.mp h
    have ih := qv_qs (q := q) (k := k) h'.2
    unfold qv
    simp only [qs, List.map_cons, List.sum_cons] at ih ⊢
    by_cases e : k = j
    · rw [if_pos e, if_pos e, ← ih, e, qv_out h'.1]
      omega
    · rw [if_neg e, if_neg e, ih]
      omega
theorem eat_tot : ∀ (q : Qu) {x : Int} (k : Nat), 0 ≤ x → qs (eat x q).2.2 k + qs (eat x q).2.1 k = qs q k ∧ (eat x q).1 + ((eat x q).2.2.map (·.2)).sum = x
  | [], x, k, h => by simp [eat, qs]
  | (j, y) :: q, x, k, h => by
    unfold eat
    split
    · simp [qs]
    · split
      · simp only [qs, List.map_cons, List.sum_cons, List.map_nil, List.sum_nil]
        refine ⟨?_, by omega⟩
        by_cases e : k = j
        · simp only [if_pos e]; omega
        · simp only [if_neg e]; omega
      · obtain ⟨a, b⟩ := eat_tot q (x := x - y) k (by omega)
        simp only [qs, List.map_cons, List.sum_cons] at a b ⊢
        refine ⟨?_, by omega⟩
        by_cases e : k = j
        · simp only [if_pos e]; omega
        · simp only [if_neg e]; omega
theorem trS_app (ps rs : List Tr) (k : Nat) : trS (ps ++ rs) k = trS ps k + trS rs k := by
  unfold trS
  rw [List.map_append, List.sum_append]
theorem trS_new (b : Bool) (i k : Nat) : ∀ q : Qu, trS (q.map fun p => mkT b i p.1 p.2) k = (if k = i then (q.map (·.2)).sum else 0) + qs q k
  | [] => by simp [trS, qs]
  | (j, y) :: q => by
    have ih := trS_new b i k q
    simp only [trS, qs, List.map_cons, List.sum_cons] at ih ⊢
    rw [ih]
    have e : (if (mkT b i j y).1 = k then (mkT b i j y).2.2 else 0) + (if (mkT b i j y).2.1 = k then (mkT b i j y).2.2 else 0) = (if k = i then y else 0) + (if k = j then y else 0) := by
      unfold mkT
      cases b with
      | true =>
        simp only [if_true]
        simp only [eq_comm (a := k)]
      | false =>
        simp only [Bool.false_eq_true, if_false]
        simp only [eq_comm (a := k)]
        omega
    rw [e]
    by_cases e1 : k = i
    · simp only [if_pos e1]; omega
    · simp only [if_neg e1]; omega
theorem new_qs {i k : Nat} {x : Int} (h : 0 ≤ x) : qs (new i x) k = if k = i then x else 0 := by
  unfold new
  split
  · simp [qs]
  · have : x = 0 := by omega
    simp [qs, this]
/-- each sum is what is left of it and what the pairs took -/
theorem runQ_tot {es : List Ent} (k : Nat) : ∀ (P : List Nat), (∀ i ∈ P, 0 ≤ smN es i) → P.Nodup → trS (runQ es P).2.2 k + qs ((runQ es P).1 ++ (runQ es P).2.1) k = if k ∈ P then smN es k else 0 := by
  refine snoc_ind (fun _ _ => by simp [runQ, trS, qs]) fun P i ih hs hn => ?_
  have hn' := List.nodup_append.mp hn
  have ih := ih (fun j hj => hs j (List.mem_append_left _ hj)) hn'.1
  have hx : 0 ≤ smN es i := hs i (by simp)
  have hiP : i ∉ P := fun z => hn'.2.2 i z i (by simp) rfl
  rw [runQ_snoc]
  unfold stepQ
  have fin : ∀ t : Int, t = (if k ∈ P then smN es k else 0) + (if k = i then smN es i else 0) → t = if k ∈ P ++ [i] then smN es k else 0 := by
    intro t ht
    rw [ht]
    by_cases h1 : k = i
    · subst h1
      rw [if_neg hiP, if_pos rfl, if_pos (by simp)]
      omega
    · rw [if_neg h1]
      simp [h1]
  cases hb : blN es i with
  | true =>
    rw [if_pos rfl]
    simp only
    obtain ⟨a, b⟩ := eat_tot (runQ es P).2.1 (x := smN es i) k hx
    rw [trS_app, trS_new, qs_app, qs_app, new_qs (eat_nn _ hx)]
    rw [qs_app] at ih
    apply fin
    by_cases h1 : k = i
    · simp only [if_pos h1]; omega
    · simp only [if_neg h1]; omega
  | false =>
    rw [if_neg (by exact Bool.false_ne_true)]
    simp only
    obtain ⟨a, b⟩ := eat_tot (runQ es P).1 (x := smN es i) k hx
    rw [trS_app, trS_new, qs_app, qs_app, new_qs (eat_nn _ hx)]
    rw [qs_app] at ih
    apply fin
    by_cases h1 : k = i
    · simp only [if_pos h1]; omega
    · simp only [if_neg h1]; omega
end Law
end
section
namespace Law
open PySem Vm
theorem eat_taken : ∀ {q : Qu} {x : Int}, (∀ p ∈ q, 0 < p.2) → ∀ p ∈ (eat x q).2.2, p.1 ∈ q.map (·.1) ∧ 0 < p.2
  | [], x, _, p, h => by simp [eat] at h
  | (j, y) :: q, x, hq, p, h => by
    have h1 : 0 < y := hq (j, y) (.head _)
    unfold eat at h
    split at h
    · cases h
    · split at h
      · rcases List.mem_singleton.mp h with rfl
        exact ⟨by simp, by simp; omega⟩
      · rcases List.mem_cons.mp h with rfl | h
        · exact ⟨by simp, h1⟩
        · obtain ⟨a, b⟩ := eat_taken (fun r hr => hq r (.tail _ hr)) p h
          exact ⟨List.mem_cons_of_mem _ a, b⟩
theorem nz_key {is : List Nat} {as : List Int} {p : Nat × Int} (h : p ∈ nz is as) : p.1 ∈ is := by
  have := (List.mem_filter.mp h).1
  exact (List.of_mem_zip this).1
/-- a pair is of a bill and a payment -/
theorem runQ_mem {es : List Ent} : ∀ (P : List Nat), (∀ i ∈ P, 0 ≤ smN es i) → ∀ p ∈ (runQ es P).2.2, p.1 ∈ bI es P ∧ p.2.1 ∈ mI es P ∧ 0 < p.2.2 := by
  refine snoc_ind (fun _ p hp => by cases hp) fun P i ih hs p hp => ?_
  have hs' : ∀ j ∈ P, 0 ≤ smN es j := fun j hj => hs j (List.mem_append_left _ hj)
  obtain ⟨h1, h2⟩ := runQ_eq P hs'
  have ih := ih hs'
  rw [runQ_snoc] at hp
  unfold stepQ at hp
  have lift : ∀ {p : Tr}, (p.1 ∈ bI es P ∧ p.2.1 ∈ mI es P ∧ 0 < p.2.2) → p.1 ∈ bI es (P ++ [i]) ∧ p.2.1 ∈ mI es (P ++ [i]) ∧ 0 < p.2.2 := fun ⟨a, b, c⟩ => ⟨by
    unfold bI at a ⊢; rw [List.filter_append]; exact List.mem_append_left _ a, by unfold mI at b ⊢; rw [List.filter_append]; exact List.mem_append_left _ b, c⟩
  cases hb : blN es i with
  | true =>
    rw [if_pos hb] at hp
    rcases List.mem_append.mp hp with hp | hp
    · exact lift (ih p hp)
    · obtain ⟨r, hr, rfl⟩ := List.mem_map.mp hp
      obtain ⟨a, b⟩ := eat_taken (fun z hz => by rw [h2] at hz; exact nz_pos z hz) r hr
      obtain ⟨z, hz, e⟩ := List.mem_map.mp a
      rw [h2] at hz
      have hk := nz_key hz
      have e : z.1 = r.1 := e
      rw [e] at hk
      refine ⟨?_, ?_, b⟩
      · simp [mkT, bI, hb]
      · simp only [mkT, if_true, mI, List.filter_append]
        exact List.mem_append_left _ hk
  | false =>
    rw [if_neg (by rw [hb]; exact Bool.false_ne_true)] at hp
    rcases List.mem_append.mp hp with hp | hp
    · exact lift (ih p hp)
    · obtain ⟨r, hr, rfl⟩ := List.mem_map.mp hp
      obtain ⟨a, b⟩ := eat_taken (fun z hz => by rw [h1] at hz; exact nz_pos z hz) r hr
      obtain ⟨z, hz, e⟩ := List.mem_map.mp a
      rw [h1] at hz
      have hk := nz_key hz
      have e : z.1 = r.1 := e
      rw [e] at hk
      refine ⟨?_, ?_, b⟩
      · simp only [mkT, Bool.false_eq_true, if_false, bI, List.filter_append]
        exact List.mem_append_left _ hk
      · simp [mkT, mI, hb]
theorem sum_perm {xs ys : List Int} (h : xs.Perm ys) : xs.sum = ys.sum := by
  induction h with
  | nil => rfl
  | cons x _ ih => simp only [List.sum_cons, ih]
  | swap x y l => simp only [List.sum_cons]; omega
  | trans _ _ h1 h2 => rw [h1, h2]
theorem trS_perm {ps rs : List Tr} (h : ps.Perm rs) (k : Nat) : trS ps k = trS rs k := by
  unfold trS
  exact sum_perm (h.map _)
theorem nz_map : ∀ {is : List Nat} {as : List Int}, is.Nodup → is.length = as.length → (∀ a ∈ as, 0 ≤ a) → is.map (qv (nz is as)) = as
  | [], [], _, _, _ => rfl
  | i :: is, a :: as, hn, hl, h => by
    have hn' := List.nodup_cons.mp hn
    have ih := nz_map (is := is) (as := as) hn'.2 (by simpa using hl) fun c hc => h c (.tail _ hc)
    have ha := h a (.head _)
    by_cases h0 : 0 < a
    · have e : nz (i :: is) (a :: as) = (i, a) :: nz is as := by simp [nz, h0]
      rw [e, List.map_cons]
      congr 1
      · simp [qv]
      · refine Eq.trans (List.map_congr_left fun k hk => ?_) ih
        have ne : ¬ k = i := fun z => hn'.1 (z ▸ hk)
        show (if k = i then a else qv (nz is as) k) = _
        rw [if_neg ne]
    · have e : nz (i :: is) (a :: as) = nz is as := by simp [nz, h0]
      rw [e, List.map_cons, ih]
      congr 1
      rw [qv_out fun z => by
        obtain ⟨p, hp, e⟩ := List.mem_map.mp z
        exact hn'.1 (e ▸ nz_key hp)]
      omega
  | [], _ :: _, _, hl, _ => by simp at hl
  | _ :: _, [], _, hl, _ => by simp at hl
/-- an account without names -/
structure Pl (es : List Ent) : Prop where
  len : es.length ≤ 1000
  ok : ∀ e ∈ es, e.ok = true
  plain : ∀ e ∈ es, e.plain = true
theorem Pl.acc {es : List Ent} (A : Pl es) : Acc es := ⟨A.len, A.ok, fun e he => by
  have := A.plain e he
  cases e <;> first | rfl | cases this⟩
theorem Pl.all {es : List Ent} (A : Pl es) : es.all Ent.plain = true := List.all_eq_true.mpr A.plain
theorem Pl.hp {es : List Ent} (A : Pl es) : ∀ i ∈ ln es, (gE es i).plain = true := fun i hi => A.plain _ (gE_mem (ln_mem.mp hi).1)
theorem Pl.pos {es : List Ent} (A : Pl es) {i : Nat} (hi : i ∈ ln es) : 1 ≤ smN es i := by
  have h1 := A.ok _ (gE_mem (ln_mem.mp hi).1)
  have h2 : lvN es i = true := (ln_mem.mp hi).2
  show 1 ≤ (gE es i).sum
  revert h1 h2
  show (gE es i).ok = true → (gE es i).live = true → _
  cases gE es i <;> simp [Ent.live, Ent.sum]
theorem Pl.hs {es : List Ent} (A : Pl es) : ∀ i ∈ ln es, 0 ≤ smN es i := fun i hi => by have := A.pos hi; omega
theorem Pl.cut {es : List Ent} (A : Pl es) (d : Int) : Pl (cut es d) := ⟨by rw [cut_len]; exact A.len, fun e he => by
  obtain ⟨f, hf, rfl⟩ := List.mem_map.mp he
  exact cutE_ok (A.ok f hf), fun e he => by
  obtain ⟨f, hf, rfl⟩ := List.mem_map.mp he
  unfold cutE
  split
  · exact A.plain f hf
  · rfl⟩
abbrev bs (es : List Ent) : List Nat := bI es (ln es)
abbrev ms (es : List Ent) : List Nat := mI es (ln es)
/-- what is left of each bill along the line -/
def opnE (es : List Ent) : List Int := tk (sS es (ms es)).sum (sS es (bs es))
def wtg (es : List Ent) : List Int := tk (sS es (bs es)).sum (sS es (ms es))
def prs (es : List Ent) : List Tr := sortT (runQ es (ln es)).2.2
end Law
end
section
namespace Law
open PySem Vm
/-! where the stretch of an entry begins on the line of its side -/
theorem leN_tot (es : List Ent) (p q : Nat) : (leN es p q || leN es q p) = true := by
  unfold leN
  rw [Bool.or_eq_true, decide_eq_true_eq, decide_eq_true_eq]
  omega
theorem leN_tr (es : List Ent) (p q r : Nat) (h1 : leN es p q = true) (h2 : leN es q r = true) : leN es p r = true := by
  unfold leN at *
  rw [decide_eq_true_eq] at *
  omega
theorem ln_sorted (es : List Ent) : (ln es).Pairwise fun p q => leN es p q = true := List.pairwise_mergeSort (leN_tr es) (fun a b => leN_tot es a b) _
def bef (es : List Ent) (j i : Nat) : Bool := decide (dyN es j < dyN es i ∨ (dyN es j = dyN es i ∧ j < i))
def sbf (es : List Ent) (i j : Nat) : Bool := (blN es j == blN es i) && bef es j i
def pre (es : List Ent) (i : Nat) : Int := (((List.range es.length).filter fun j => lvN es j && sbf es i j).map (smN es)).sum
def lap (a b c d : Int) : Int := max 0 (min b d - max a c)
def ovl (es : List Ent) (i k : Nat) : Int := lap (pre es i) (pre es i + smN es i) (pre es k) (pre es k + smN es k)
theorem pre_ln (es : List Ent) (i : Nat) : (((ln es).filter (sbf es i)).map (smN es)).sum = pre es i := by
  unfold pre
  refine sum_perm (List.Perm.map _ ?_)
  rw [show (fun j => lvN es j && sbf es i j) = fun j => sbf es i j && lvN es j from funext fun j => Bool.and_comm _ _, ← List.filter_filter]
  exact (ln_perm es).filter _
theorem bef_le {es : List Ent} {j i : Nat} : bef es j i = true ↔ leN es j i = true ∧ j ≠ i := by
  unfold bef leN
  rw [decide_eq_true_eq, decide_eq_true_eq]
  by_cases h : j = i
  · subst h; omega
  · omega
theorem bef_no {es : List Ent} {j i : Nat} (h : leN es i j = true) : bef es j i = false := by
  unfold leN at h
  unfold bef
  rw [decide_eq_true_eq] at h
  rw [decide_eq_false_iff_not]
  omega
/-- in what is sorted along the line: what stands before -/
theorem bef_split {es : List Ent} {P R : List Nat} {i : Nat} (hs : (P ++ i :: R).Pairwise fun p q => leN es p q = true) (hn : (P ++ i :: R).Nodup) : (P ++ i :: R).filter (fun j => bef es j i) = P := by
  rw [List.pairwise_append] at hs
  rw [List.nodup_append] at hn
  obtain ⟨_, h2, h3⟩ := hs
  rw [List.filter_append, List.filter_eq_self.mpr fun j hj => bef_le.mpr ⟨h3 j hj i (.head _), hn.2.2 j hj i (.head _)⟩]
  rw [List.filter_eq_nil_iff.mpr, List.append_nil]
  intro j hj
  rcases List.mem_cons.mp hj with rfl | hj
  · rw [bef_no (by unfold leN; rw [decide_eq_true_eq]; omega)]; exact Bool.false_ne_true
  · rw [bef_no ((List.pairwise_cons.mp h2).1 j hj)]; exact Bool.false_ne_true
/-- along the line -/
theorem pre_at {es : List Ent} {P R : List Nat} {i : Nat} (h : ln es = P ++ i :: R) : ((P.filter fun j => blN es j == blN es i).map (smN es)).sum = pre es i := by
  rw [← pre_ln]
  have e : (ln es).filter (sbf es i) = P.filter fun j => blN es j == blN es i := by
    show (ln es).filter (fun j => (blN es j == blN es i) && bef es j i) = _
    rw [← List.filter_filter, h, bef_split (by rw [← h]; exact ln_sorted es) (by rw [← h]; exact ln_nodup es)]
  rw [e]
/-- along the line of one side -/
theorem pre_side {es : List Ent} {b : Bool} {I1 I2 : List Nat} {i : Nat} (hb : blN es i = b) (h : (ln es).filter (fun j => blN es j == b) = I1 ++ i :: I2) : (I1.map (smN es)).sum = pre es i := by
  rw [← pre_ln]
  have e : (ln es).filter (sbf es i) = I1 := by
    show (ln es).filter (fun j => (blN es j == blN es i) && bef es j i) = _
    rw [show (fun j => (blN es j == blN es i) && bef es j i) = fun j => bef es j i && (blN es j == b) from funext fun j => by rw [hb, Bool.and_comm], ← List.filter_filter, h]
    exact bef_split (by rw [← h]; exact (ln_sorted es).filter _) (by rw [← h]; exact (ln_nodup es).filter _)
  rw [e]
theorem bs_eq (es : List Ent) : bs es = (ln es).filter fun j => blN es j == true := by
  show (ln es).filter (blN es) = _
  congr 1
  funext j
  rw [beq_true]
theorem ms_eq (es : List Ent) : ms es = (ln es).filter fun j => blN es j == false := by
  show (ln es).filter (fun j => !blN es j) = _
  congr 1
  funext j
  cases blN es j <;> rfl
/-! the overlaps by the stretches -/
end Law
end
section
namespace Law
open PySem PySem.Spec PyProof.Rows L2 Vm
/-! what leads, and the sums by it -/
theorem pay_line_ok {es : List Ent} (hz : es.length ≤ 1000) : m_payment_line [accD es] = .ok (.lst ((ms es).map nD)) := by
  have h0 := line_of_ok hz
  have h1 := lf1m (i := 1) (t := ct_payment_line_1) (m := cm_payment_line_1) (env := [.t (accD es), .u]) nD (fun i => !blN es i) nD (ln es) (fun i hi => by
    have hx := ix_acc es i (ln_mem.mp hi).1
    simp [hx, nD]) (fun i hi hl => ⟨by simp [nD], rfl⟩)
  have e : (ln es).filter (fun i => !blN es i) = ms es := rfl
  rw [e] at h1
  generalize (ms es).map nD = M at *
  generalize (ln es).map nD = L at *
  simp only [accD] at h0 h1 ⊢
  simp [m_payment_line, h0, h1]
theorem bl_line_ok {es : List Ent} (hz : es.length ≤ 1000) : m_bill_line [accD es] = .ok (.lst ((bs es).map nD)) := bill_line_ok hz
theorem idx_split {A B : List Nat} {i : Nat} (h : i ∉ A) : idxI ((A ++ i :: B).map fun k : Nat => (k : Int)) (i : Int) = some A.length := by
  induction A with
  | nil => simp [idxI]
  | cons a A ih =>
    have h1 : a ≠ i := fun e => h (e ▸ .head _)
    rw [List.cons_append, List.map_cons, idxI, if_neg (by omega), ih fun z => h (.tail _ z)]
    rfl
end Law
end
section
namespace Law
open PySem Vm
def Jar (n : Int) (s : D) : Prop := ∃ a b c : Int, s = .lst [.int a, .int b, .int c] ∧ 0 ≤ b ∧ b < 10 ^ 18 ∧ 0 ≤ c ∧ c ≤ n
theorem small {x : Int} {n : Nat} (h : x.natAbs ≤ n) (h2 : n < 2 ^ 250 := by decide) : x.natAbs < 2 ^ 250 := Nat.lt_of_le_of_lt h h2
theorem pick_ok {n : Int} {s : D} {u : Int} (hn : n < 1000000) (h : Jar n s) (hu : 0 < u) (h2 : u.natAbs < 2 ^ 250) : ∃ (d : Int) (s' : D), m__law_pick s [.int u] = .ok (.int d, s') ∧ 0 ≤ d ∧ d < u ∧ Jar (n + 1) s' := by
  obtain ⟨a, b, c, rfl, h3, h4, h5, h6⟩ := h
  by_cases ha : 0 < a
  · refine ⟨a % u, .lst [.int (a / u), .int b, .int c], ?_, Int.emod_nonneg _ (by omega), Int.emod_lt_of_pos _ hu, a / u, b, c, rfl, h3, h4, h5, by omega⟩
    simp [m__law_pick, div_ok, hu, h2, L2.ixN, ha]
  · have b0 : (c + 1).natAbs ≤ 1000000 := by omega
    have b1 : ((9176 : Int) * (c + 1)).natAbs ≤ 9176 * 1000000 := bd_mul (by decide) b0
    have b2 : (9176 * (c + 1) * (c + 1)).natAbs ≤ 9176 * 1000000 * 1000000 := bd_mul b1 b0
    have b3 : ((40503 : Int) * (c + 1)).natAbs ≤ 40503 * 1000000 := bd_mul (by decide) b0
    generalize e1 : b + 9176 * (c + 1) * (c + 1) + 31 = x1
    have c1 : x1.natAbs ≤ 10 ^ 20 := by omega
    generalize e2 : b + 40503 * (c + 1) = x2
    have c2 : x2.natAbs ≤ 10 ^ 20 := by omega
    have c3 : (x1 * x2).natAbs ≤ 10 ^ 20 * 10 ^ 20 := bd_mul c1 c2
    generalize e3 : x1 * x2 + (c + 1) = x3
    have c4 : x3.natAbs ≤ 10 ^ 41 := by omega
    have d1 := mul_ok (i := 9176) (by decide) (small b0)
    have d2 := mul_ok (small b1) (small b0)
    have d3 := mul_ok (i := 40503) (by decide) (small b0)
    have d4 := mul_ok (small c1) (small c2)
    have d5 := mul_ok (small c4) (small c4)
    have d6 := mul_ok (i := 77731) (by decide) (small c4)
    generalize e4 : (x3 * x3 + 77731 * x3) % 1000000000000000003 / 4099 = x4
    have c5 : x4.natAbs ≤ 10 ^ 18 := by omega
    have d7 := mul_ok (i := 2) (by decide) (small b0)
    have c6 : (x4 + 2 * (c + 1) + 1).natAbs ≤ 10 ^ 19 := by omega
    have d8 := mul_ok (small c5) (small c6)
    refine ⟨_, .lst [.int a, .int b, .int (c + 1)], ?_, Int.emod_nonneg _ (by omega), Int.emod_lt_of_pos (x4 * (x4 + 2 * (c + 1) + 1) % 4294967291 / 32) hu, a, b, c + 1, rfl, h3, h4, by omega, by omega⟩
    simp [m__law_pick, div_ok, hu, h2, L2.ixN, ha, d1, d2, d3, d4, d5, d6, d7, d8, e1, e2, e3, e4]
def Wok (u : Int) : Prop := 0 < u ∧ u.natAbs < 2 ^ 240
theorem wide_ok {n : Int} {s : D} {u : Int} (hn : n < 900000) (h : Jar n s) (hu : 0 < u) (h2 : u.natAbs < 2 ^ 250) : ∃ (d : Int) (s' : D), m__law_wide s [.int u] = .ok (.int d, s') ∧ 0 ≤ d ∧ d < u ∧ Jar (n + 5) s' := by
  by_cases hb : u ≤ 10000000
  · obtain ⟨d, s', p, q1, q2, q3⟩ := pick_ok (by omega) h hu h2
    obtain ⟨a, b, c, rfl, h3, h4, h5, h6⟩ := q3
    exact ⟨d, _, by simp [m__law_wide, hb, p], q1, q2, a, b, c, rfl, h3, h4, h5, by omega⟩
  · obtain ⟨d1, s1, p1, q1, r1, j1⟩ := pick_ok (u := 10000000) (by omega) h (by decide) (by decide)
    obtain ⟨d2, s2, p2, q2, r2, j2⟩ := pick_ok (u := 10000000) (by omega) j1 (by decide) (by decide)
    obtain ⟨d3, s3, p3, q3, r3, j3⟩ := pick_ok (u := 10000000) (by omega) j2 (by decide) (by decide)
    obtain ⟨d4, s4, p4, q4, r4, j4⟩ := pick_ok (u := 10000000) (by omega) j3 (by decide) (by decide)
    obtain ⟨d5, s5, p5, q5, r5, j5⟩ := pick_ok (u := 10000000) (by omega) j4 (by decide) (by decide)
    have m0 := mul_ok (i := 0) (j := 10000000) (by decide) (by decide)
    have m1 := mul_ok (i := d1) (j := 10000000) (small (n := 10 ^ 40) (by omega)) (by decide)
    have m2 := mul_ok (i := d1 * 10000000 + d2) (j := 10000000) (small (n := 10 ^ 40) (by omega)) (by decide)
    have m3 := mul_ok (i := (d1 * 10000000 + d2) * 10000000 + d3) (j := 10000000) (small (n := 10 ^ 40) (by omega)) (by decide)
    have m4 := mul_ok (i := ((d1 * 10000000 + d2) * 10000000 + d3) * 10000000 + d4) (j := 10000000) (small (n := 10 ^ 40) (by omega)) (by decide)
    refine ⟨_, s5, ?_, Int.emod_nonneg ((((d1 * 10000000 + d2) * 10000000 + d3) * 10000000 + d4) * 10000000 + d5) (by omega), Int.emod_lt_of_pos _ hu, by rw [show n + 5 = n + 1 + 1 + 1 + 1 + 1 by omega]; exact j5⟩
    have hr := rg1_ok (j := 5) (by decide) (by decide)
    have er : rangeD 0 5 = [.int 0, .int 1, .int 2, .int 3, .int 4] := rfl
    simp [m__law_wide, hb, p1, p2, p3, p4, p5, m0, m1, m2, m3, m4, er, hr, hu, forL]
end Law
end
section
namespace Law
open PySem Vm
theorem draws_ok (c : Int) : ∃ s, m__law_draws [.int c] = .ok s ∧ Jar 0 s := by
  refine ⟨.lst [.int (if 0 < c - 1000000000000000000 then c - 1000000000000000000 else 0), .int (c % 999999999999999989), .int 0], ?_, _, _, 0, rfl, Int.emod_nonneg _ (by decide), Int.lt_trans (Int.emod_lt_of_pos _ (by decide)) (by decide), by decide, by decide⟩
  simp [m__law_draws]
theorem Jar.mono {n m : Int} {s : D} (h : Jar n s) (l : n ≤ m) : Jar m s := by
  obtain ⟨a, b, c, e, h1, h2, h3, h4⟩ := h
  exact ⟨a, b, c, e, h1, h2, h3, by omega⟩
theorem sq_ok {m1 m2 : Sv} {env e2 : Sls} {r : Res (Out × Sls)} (h : m1 env = .ok (.next, e2)) (h2 : m2 e2 = r) : mSq m1 m2 env = r := by
  rw [z_mSq, h, ← h2]
  rfl
theorem nats_lay (xs : List Nat) : Lay 1 (.lst (xs.map nD)) := lay_lst fun x hx => by
  obtain ⟨i, _, rfl⟩ := List.mem_map.mp hx
  exact lay_int _ _
theorem nats_ne (xs : List Nat) : neD (.lst (xs.map nD)) (.lst []) = .ok (.bl (!xs.isEmpty)) := by
  rw [ne_lst0 (nats_lay xs)]
  cases xs <;> rfl
theorem nats_eq (xs : List Nat) : eqD (.lst (xs.map nD)) (.lst []) = .ok (.bl xs.isEmpty) := by
  rw [eq_lst0 (nats_lay xs)]
  cases xs <;> rfl
theorem gE_eq {es : List Ent} {i : Nat} (h : i < es.length) : es[i] = gE es i := Option.some.inj ((List.getElem?_eq_getElem h).symm.trans (gE_at h))
theorem at_gE {es : List Ent} {i : Nat} (h : i < es.length) : L2.atI (es.map Ent.D) (i : Int) = some (gE es i).D := by
  rw [at_ent es i h, gE_eq h]
theorem nameOk_snoc {es : List Ent} {e x : Ent} (h : nameOk es x = true) : nameOk (es ++ [e]) x = true := by
  cases x with
  | named d s k =>
    simp only [nameOk, Bool.and_eq_true, decide_eq_true_eq] at h ⊢
    obtain ⟨⟨h0, h1⟩, h2⟩ := h
    have hk : k.toNat < es.length := by omega
    refine ⟨⟨h0, by rw [List.length_append]; simp; omega⟩, ?_⟩
    rw [List.getElem?_append_left hk]
    exact h2
  | _ => rfl
theorem acc_snoc {es : List Ent} (A : Acc es) (hz : es.length < 1000) {e : Ent} (h1 : e.ok = true) (h2 : nameOk (es ++ [e]) e = true) : Acc (es ++ [e]) := by
  refine ⟨by rw [List.length_append]; exact hz, fun x hx => ?_, fun x hx => ?_⟩
  · rcases List.mem_append.mp hx with hx | hx
    · exact A.ok x hx
    · rw [List.mem_singleton.mp hx]; exact h1
  · rcases List.mem_append.mp hx with hx | hx
    · exact nameOk_snoc (A.names x hx)
    · rw [List.mem_singleton.mp hx]; exact h2
theorem range_get {n i : Nat} (h : i < n) : (rangeD 0 n)[i]? = some (.int i) := by
  unfold rangeD
  rw [List.getElem?_map, List.getElem?_range h]
  simp
end Law
end
section
namespace Law
open PySem Vm
def bwF (es : List Ent) (b : Bool) (i : Nat) : Bool := lvN es i && (blN es i == b)
def bwL (es : List Ent) (b : Bool) : List Nat := ((List.range es.length).filter (bwF es b)).mergeSort fun x y => leR [dyN es x, (x : Int)] [dyN es y, (y : Int)]
theorem bw_mem {es : List Ent} {b : Bool} {i : Nat} : i ∈ bwL es b ↔ i < es.length ∧ bwF es b i = true := by
  unfold bwL
  rw [(List.mergeSort_perm _ _).mem_iff, List.mem_filter, List.mem_range]
theorem bw_len (es : List Ent) (b : Bool) : (bwL es b).length ≤ es.length := by
  unfold bwL
  rw [(List.mergeSort_perm _ _).length_eq]
  exact Nat.le_trans (List.length_filter_le _ _) (by rw [List.length_range]; exact Nat.le_refl _)
end Law
end
section
namespace Law
open PySem Vm
abbrev mz (x : Int) : Int := max 0 x
theorem mz_if (x : Int) : (if 0 < x then x else 0) = mz x := by unfold mz; split <;> omega
def balE (es : List Ent) (day : Int) : Int := (es.map fun e => if e.live = true ∧ e.day ≤ day then (if e.isBill = true then e.sum else -e.sum) else 0).sum
end Law
end
section
namespace Law
open PySem PySem.Spec PyProof.Rows L2 Vm
/-! rough accounts, and the accounts at their ends -/
structure Rgh where
  ow : Bool
  dy : Int
  lo : Int
  hi : Int
instance : Inhabited Rgh := ⟨⟨true, 0, 0, 0⟩⟩
def Rgh.w (r : Rgh) : Str := if r.ow = true then "bill" else "pay"
def Rgh.D (r : Rgh) : D := .tup [.str r.w, .int r.dy, .int r.lo, .int r.hi]
def roD (rs : List Rgh) : D := .tup (rs.map Rgh.D)
/-- the sum of the entry where the bills are least (true), or greatest -/
def Rgh.at (r : Rgh) (b : Bool) : Int := if r.ow = b then r.lo else r.hi
def Rgh.en (b : Bool) (r : Rgh) : Ent := if r.ow = true then .bill r.dy (r.at b) else .pay r.dy (r.at b)
def ac (b : Bool) (rs : List Rgh) : List Ent := rs.map (Rgh.en b)
def gR (rs : List Rgh) (i : Nat) : Rgh := rs.getD i default
theorem gR_at {rs : List Rgh} {i : Nat} (h : i < rs.length) : rs[i]? = some (gR rs i) := by
  unfold gR
  rw [List.getD_eq_getElem?_getD, List.getElem?_eq_getElem h]
  rfl
theorem gR_mem {rs : List Rgh} {i : Nat} (h : i < rs.length) : gR rs i ∈ rs := List.mem_of_getElem? (gR_at h)
theorem ac_len (b : Bool) (rs : List Rgh) : (ac b rs).length = rs.length := List.length_map _
theorem gE_ac {b : Bool} {rs : List Rgh} {i : Nat} (h : i < rs.length) : gE (ac b rs) i = (gR rs i).en b := by
  have h1 := gE_at (es := ac b rs) (i := i) (by rw [ac_len]; exact h)
  have h2 : (ac b rs)[i]? = some ((gR rs i).en b) := by
    unfold ac
    rw [List.getElem?_map, gR_at h]
    rfl
  exact Option.some.inj (h1.symm.trans h2)
theorem en_live (b : Bool) (r : Rgh) : (r.en b).live = true := by unfold Rgh.en; split <;> rfl
theorem en_bill (b : Bool) (r : Rgh) : (r.en b).isBill = r.ow := by unfold Rgh.en; split <;> rename_i h <;> simp [Ent.isBill, h]
theorem en_day (b : Bool) (r : Rgh) : (r.en b).day = r.dy := by unfold Rgh.en; split <;> rfl
theorem en_sum (b : Bool) (r : Rgh) : (r.en b).sum = r.at b := by unfold Rgh.en; split <;> rfl
theorem en_plain (b : Bool) (r : Rgh) : (r.en b).plain = true := by unfold Rgh.en; split <;> rfl
theorem lv_ac {b : Bool} {rs : List Rgh} {i : Nat} (h : i < rs.length) : lvN (ac b rs) i = true := by unfold lvN; rw [gE_ac h, en_live]
theorem bl_ac {b : Bool} {rs : List Rgh} {i : Nat} (h : i < rs.length) : blN (ac b rs) i = (gR rs i).ow := by unfold blN; rw [gE_ac h, en_bill]
theorem dy_ac {b : Bool} {rs : List Rgh} {i : Nat} (h : i < rs.length) : dyN (ac b rs) i = (gR rs i).dy := by unfold dyN; rw [gE_ac h, en_day]
theorem sm_ac {b : Bool} {rs : List Rgh} {i : Nat} (h : i < rs.length) : smN (ac b rs) i = (gR rs i).at b := by unfold smN; rw [gE_ac h, en_sum]
theorem ln_ac {b : Bool} {rs : List Rgh} {i : Nat} : i ∈ ln (ac b rs) ↔ i < rs.length := by
  rw [ln_mem, ac_len]
  exact ⟨fun h => h.1, fun h => ⟨h, lv_ac h⟩⟩
theorem at_ro {rs : List Rgh} {i : Nat} (h : i < rs.length) : L2.atI (rs.map Rgh.D) (i : Int) = some (gR rs i).D := by
  rw [atI_nat _ i (by rw [List.length_map]; exact h), List.getElem_map]
  have := gR_at h
  rw [List.getElem?_eq_getElem h] at this
  rw [Option.some.inj this]
theorem ix_ro {rs : List Rgh} {i : Nat} (h : i < rs.length) : ixA (roD rs) (.int (i : Int)) = .ok (gR rs i).D := by
  have := at_ro h
  simp only [roD, y32, y30, this]
theorem r_w (r : Rgh) : ixA r.D (.int 0) = .ok (.str r.w) := by simp [Rgh.D]
theorem r_d (r : Rgh) : ixA r.D (.int 1) = .ok (.int r.dy) := by simp [Rgh.D]
theorem r_l (r : Rgh) : ixA r.D (.int 2) = .ok (.int r.lo) := by simp [Rgh.D]
theorem r_h (r : Rgh) : ixA r.D (.int 3) = .ok (.int r.hi) := by simp [Rgh.D]
@[simp] theorem wr_struck (r : Rgh) : (r.w = "struck") = False := by unfold Rgh.w; split <;> simp
@[simp] theorem wr_bill (r : Rgh) : (r.w = "bill") = (r.ow = true) := by unfold Rgh.w; split <;> rename_i h <;> simp [h]
@[simp] theorem wr_pay (r : Rgh) : (r.w = "pay") = (r.ow = false) := by unfold Rgh.w; split <;> rename_i h <;> simp [h]
@[simp] theorem rs_ro (env : Sls) (r : Rgh) : rs env r.D = .ok r.D := rfl
@[simp] theorem kp_ro (r : Rgh) : kp r.D = .ok r.D := rfl
@[simp] theorem rs_roD (env : Sls) (x : List Rgh) : rs env (roD x) = .ok (roD x) := rfl
@[simp] theorem al_roD (x : List Rgh) (xs : List D) : allKp (roD x :: xs) = allKp xs := rfl
@[simp] theorem al_ro (r : Rgh) (xs : List D) : allKp (r.D :: xs) = allKp xs := rfl
@[simp] theorem kp_roD (x : List Rgh) : kp (roD x) = .ok (roD x) := rfl
theorem line_ro {rs : List Rgh} (b : Bool) (hz : rs.length ≤ 1000) : m_line_of [roD rs] = .ok (.lst ((ln (ac b rs)).map nD)) := by
  have h1 := lf1m (i := 2) (t := ct_line_of_1) (m := cm_line_of_1) (env := [.t (roD rs), .u, .u]) nD (lvN (ac b rs)) nD (List.range rs.length) (fun i hi => by
    have hi' : i < rs.length := List.mem_range.mp hi
    simp [ix_ro hi', lv_ac hi', r_w, nD]) (fun i hi _ => ⟨by simp [nD], rfl⟩)
  have h2 : rg1 (rs.length : Int) = true := rg1_lit _ (by omega)
  have h3 : soLam (rs.map Rgh.D) (((List.range rs.length).filter (lvN (ac b rs))).map fun i : Nat => (i : Int)) = .ok (.lst ((ln (ac b rs)).map nD)) := by
    have hd : ∀ i ∈ (List.range rs.length).filter (lvN (ac b rs)), i < rs.length ∧ (rs.map Rgh.D)[i]? = some (gR rs i).D := fun i hi => by
      obtain ⟨a, _⟩ := List.mem_filter.mp hi
      have ha := List.mem_range.mp a
      refine ⟨ha, ?_⟩
      rw [List.getElem?_map, gR_at ha]
      rfl
    have hday : ∀ i ∈ (List.range rs.length).filter (lvN (ac b rs)), dayOf (rs.map Rgh.D) (i : Int) = dyN (ac b rs) i := fun i hi => by
      obtain ⟨a, c⟩ := hd i hi
      unfold dayOf
      rw [Int.toNat_natCast, c, dy_ac a]
      rfl
    unfold soLam
    rw [if_pos]
    · unfold ln
      rw [ac_len, ← List.map_mergeSort (r := leN (ac b rs)) (f := fun i : Nat => (i : Int))]
      · rw [List.map_map]; rfl
      · intro p hp q hq
        unfold leN leDay
        rw [hday p hp, hday q hq]
        simp
    · rw [List.all_eq_true]
      intro z hz
      obtain ⟨i, hi, rfl⟩ := List.mem_map.mp hz
      obtain ⟨_, a⟩ := hd i hi
      unfold dayAt
      rw [Int.toNat_natCast, a]
      simp [Rgh.D]
  have h4 := rangeD_map rs.length
  have h5 := ints_mapf (fun i : Nat => (i : Int)) ((List.range rs.length).filter (lvN (ac b rs)))
  simp only [roD] at h1 ⊢
  simp [m_line_of, mSoLam, h2, h4, h1, h5, h3]
theorem ln_b {rs : List Rgh} (hz : rs.length ≤ 1000) (b : Bool) : ln (ac b rs) = ln (ac true rs) := by
  have h1 := (line_ro b hz).symm.trans (line_ro true hz)
  have h2 := D.lst.inj (Res.ok.inj h1)
  refine (List.map_inj_right fun x y h => ?_).mp h2
  have := D.int.inj h
  omega
theorem bs_ac {b : Bool} {rs : List Rgh} : bs (ac b rs) = (ln (ac b rs)).filter fun i => (gR rs i).ow :=
  List.filter_congr fun i hi => bl_ac (ln_ac.mp hi)
theorem ms_ac {b : Bool} {rs : List Rgh} : ms (ac b rs) = (ln (ac b rs)).filter fun i => !(gR rs i).ow :=
  List.filter_congr fun i hi => by rw [bl_ac (ln_ac.mp hi)]
theorem bs_b {rs : List Rgh} (hz : rs.length ≤ 1000) (b : Bool) : bs (ac b rs) = bs (ac true rs) := by rw [bs_ac, bs_ac, ln_b hz b]
theorem ms_b {rs : List Rgh} (hz : rs.length ≤ 1000) (b : Bool) : ms (ac b rs) = ms (ac true rs) := by rw [ms_ac, ms_ac, ln_b hz b]
theorem bill_ro {rs : List Rgh} (hz : rs.length ≤ 1000) : m_bill_line [roD rs] = .ok (.lst ((bs (ac true rs)).map nD)) := by
  have h0 := line_ro true hz
  have h1 := lf1m (i := 1) (t := ct_bill_line_1) (m := cm_bill_line_1) (env := [.t (roD rs), .u]) nD (fun i => (gR rs i).ow) nD (ln (ac true rs)) (fun i hi => by
    have hx := ix_ro (ln_ac.mp hi)
    simp [hx, r_w, nD]) (fun i hi hl => ⟨by simp [nD], rfl⟩)
  rw [← bs_ac] at h1
  generalize (bs (ac true rs)).map nD = M at *
  generalize (ln (ac true rs)).map nD = L at *
  simp only [roD] at h0 h1 ⊢
  simp [m_bill_line, h0, h1]
theorem pay_ro {rs : List Rgh} (hz : rs.length ≤ 1000) : m_payment_line [roD rs] = .ok (.lst ((ms (ac true rs)).map nD)) := by
  have h0 := line_ro true hz
  have h1 := lf1m (i := 1) (t := ct_payment_line_1) (m := cm_payment_line_1) (env := [.t (roD rs), .u]) nD (fun i => !(gR rs i).ow) nD (ln (ac true rs)) (fun i hi => by
    have hx := ix_ro (ln_ac.mp hi)
    simp [hx, r_w, nD]) (fun i hi hl => ⟨by simp [nD], rfl⟩)
  rw [← ms_ac] at h1
  generalize (ms (ac true rs)).map nD = M at *
  generalize (ln (ac true rs)).map nD = L at *
  simp only [roD] at h0 h1 ⊢
  simp [m_payment_line, h0, h1]
/-- sums by the lesser and the greater side -/
theorem bounds_ro {rs : List Rgh} {is : List Nat} (h : ∀ i ∈ is, i < rs.length) : m_bounds_of [roD rs, .lst (is.map nD)] = .ok (.tup [.int (is.map fun i => (gR rs i).lo).sum, .int (is.map fun i => (gR rs i).hi).sum]) := by
  have h1 := lc1m (i := 2) (m := cm_bounds_of_1) (env := [.t (roD rs), .t (.lst (is.map nD)), .u]) nD (fun i => .int (gR rs i).hi) is (fun i hi => ⟨by simp [ix_ro (h i hi), r_h, nD], rfl⟩)
  have h2 := lc1m (i := 2) (m := cm_bounds_of_2) (env := [.t (roD rs), .t (.lst (is.map nD)), .u]) nD (fun i => .int (gR rs i).lo) is (fun i hi => ⟨by simp [ix_ro (h i hi), r_l, nD], rfl⟩)
  have s1 : onT (fun ns => .ok (.int ns.sum)) (.lst (is.map fun i => D.int (gR rs i).hi)) = .ok (.int (is.map fun i => (gR rs i).hi).sum) := by
    simp [onT, onI, ints_mapf]
  have s2 : onT (fun ns => .ok (.int ns.sum)) (.lst (is.map fun i => D.int (gR rs i).lo)) = .ok (.int (is.map fun i => (gR rs i).lo).sum) := by
    simp [onT, onI, ints_mapf]
  generalize is.map nD = I at *
  generalize (is.map fun i => D.int (gR rs i).hi) = A at *
  generalize (is.map fun i => D.int (gR rs i).lo) = B at *
  simp only [roD] at h1 h2 ⊢
  simp [m_bounds_of, h1, h2, s1, s2]
end Law
end
section
namespace Law
open PySem PySem.Spec PyProof.Rows L2 Vm
/-! what the program says of open and owed -/
def opF (s p t : Int) : Int := min s (max 0 (p + s - t))
def pyS (es : List Ent) : Int := ((ms es).map (smN es)).sum
theorem tk_at {a : Int} {B : List Int} (ha : 0 ≤ a) : ∀ (A : List Int) (y : Int), 0 ≤ y → (∀ x ∈ A, 0 ≤ x) → (tk y (A ++ a :: B))[A.length]? = some (opF a A.sum y)
  | [], y, hy, _ => by
    show some (a - min a y) = _
    unfold opF
    congr 1
    simp only [List.sum_nil]
    omega
  | c :: A, y, hy, h => by
    have hc := h c (.head _)
    have hA := sumNN fun x hx => h x (.tail _ hx)
    have ih := tk_at (B := B) ha A (y - min c y) (by omega) fun x hx => h x (.tail _ hx)
    show (tk (y - min c y) (A ++ a :: B))[A.length]? = _
    rw [ih]
    unfold opF
    congr 1
    simp only [List.sum_cons]
    omega
theorem opn_at {es : List Ent} (A : Pl es) {I1 I2 : List Nat} {i : Nat} (h : bs es = I1 ++ i :: I2) : (opnE es)[I1.length]? = some (opF (smN es i) (pre es i) (pyS es)) := by
  have hm : ∀ k ∈ bs es, 0 ≤ smN es k := fun k hk => A.hs k (List.mem_filter.mp hk).1
  have hi : i ∈ bs es := by rw [h]; simp
  have hb : blN es i = true := (List.mem_filter.mp hi).2
  have p := pre_side (es := es) (b := true) hb (by rw [← bs_eq]; exact h)
  have hs : sS es (bs es) = I1.map (smN es) ++ smN es i :: I2.map (smN es) := by
    unfold sS
    rw [h, List.map_append, List.map_cons]
  have hy : 0 ≤ pyS es := sumNN fun a ha => by
    obtain ⟨j, hj, rfl⟩ := List.mem_map.mp ha
    exact A.hs j (List.mem_filter.mp hj).1
  have := tk_at (B := I2.map (smN es)) (hm i hi) (I1.map (smN es)) (pyS es) hy fun x hx => by
    obtain ⟨j, hj, rfl⟩ := List.mem_map.mp hx
    exact hm j (by rw [h]; exact List.mem_append_left _ hj)
  rw [List.length_map, p] at this
  unfold opnE
  rw [hs]
  exact this
theorem rough_entry {r : Rgh} (a : 1 ≤ r.lo) (b : r.lo ≤ r.hi) : m_is_rough_entry [r.D] = .ok (.bl true) := by
  obtain ⟨ow, dy, lo, hi⟩ := r
  have hw : ∀ x : Str, x = "bill" ∨ x = "pay" → m_has_word [.tup [.str x, .int dy, .int lo, .int hi], .tup [.str "bill", .str "pay"]] = .ok (.bl true) := fun x h => by
    rcases h with rfl | rfl <;> simp [m_has_word]
  have key : ∀ x : Str, x = "bill" ∨ x = "pay" → m_is_rough_entry [.tup [.str x, .int dy, .int lo, .int hi]] = .ok (.bl true) := fun x h => by
    have w := hw x h
    have c := lc1m (i := 1) (m := cm_is_rough_entry_1) (env := [.t (.tup [.str x, .int dy, .int lo, .int hi]), .u]) D.int (fun _ => .bl true) [dy, lo, hi] (fun x hx => ⟨by simp [m_is_integer], rfl⟩)
    have s : cutD [D.str x, .int dy, .int lo, .int hi] (some 1) none = [.int dy, .int lo, .int hi] := rfl
    simp only [List.map_cons, List.map_nil] at c
    refine run_ends (ends_sq (by simp [w]; rfl) (ends_sq (by simp [s, c, onB]; rfl) ?_))
    exact ends_is (by simp [show 1 ≤ lo from a, show lo ≤ hi from b]; rfl)
  unfold Rgh.D Rgh.w
  cases ow
  · exact key _ (.inr rfl)
  · exact key _ (.inl rfl)
theorem need_ro {rs' : List Rgh} (hr : ∀ r ∈ rs', 1 ≤ r.lo ∧ r.lo ≤ r.hi) : m_need_rough [roD rs'] = .ok .non := by
  have c := lc1m (i := 1) (m := cm_is_rough_1) (env := [.t (roD rs'), .u]) Rgh.D (fun _ => .bl true) rs' (fun r h => by
    have := rough_entry (hr r h).1 (hr r h).2
    exact ⟨by simp [this], rfl⟩)
  have al := all_map (fun _ : Rgh => true) rs'
  have e : m_is_rough [roD rs'] = .ok (.bl true) := by
    simp only [roD] at c ⊢
    simp [m_is_rough, c, al]
  simp [m_need_rough, e]
end Law
end
section
namespace Law
open PySem PySem.Spec PyProof.Rows L2 Vm
theorem bs_lt {b : Bool} {rs : List Rgh} {i : Nat} (h : i ∈ bs (ac b rs)) : i < rs.length ∧ (gR rs i).ow = true := by
  rw [bs_ac, List.mem_filter] at h
  exact ⟨ln_ac.mp h.1, h.2⟩
theorem ms_lt {b : Bool} {rs : List Rgh} {i : Nat} (h : i ∈ ms (ac b rs)) : i < rs.length ∧ (gR rs i).ow = false := by
  rw [ms_ac, List.mem_filter] at h
  exact ⟨ln_ac.mp h.1, by simpa using h.2⟩
theorem sm_bs {b : Bool} {rs : List Rgh} {i : Nat} (h : i < rs.length) (ho : (gR rs i).ow = true) : smN (ac b rs) i = if b = true then (gR rs i).lo else (gR rs i).hi := by
  rw [sm_ac h]
  unfold Rgh.at
  rw [ho]
  cases b <;> simp
theorem sm_ms {b : Bool} {rs : List Rgh} {i : Nat} (h : i < rs.length) (ho : (gR rs i).ow = false) : smN (ac b rs) i = if b = true then (gR rs i).hi else (gR rs i).lo := by
  rw [sm_ac h]
  unfold Rgh.at
  rw [ho]
  cases b <;> simp
theorem sumL_bs {b : Bool} {rs : List Rgh} {is : List Nat} (h : ∀ i ∈ is, i < rs.length ∧ (gR rs i).ow = true) : (is.map fun i => if b = true then (gR rs i).lo else (gR rs i).hi) = is.map (smN (ac b rs)) :=
  List.map_congr_left fun i hi => (sm_bs (h i hi).1 (h i hi).2).symm
theorem sumL_ms {b : Bool} {rs : List Rgh} {is : List Nat} (h : ∀ i ∈ is, i < rs.length ∧ (gR rs i).ow = false) : (is.map fun i => if b = true then (gR rs i).hi else (gR rs i).lo) = is.map (smN (ac b rs)) :=
  List.map_congr_left fun i hi => (sm_ms (h i hi).1 (h i hi).2).symm
theorem need_bill_ro {rs' : List Rgh} {i : Nat} (h : i < rs'.length) (ho : (gR rs' i).ow = true) : m_need_bill [roD rs', .int (i : Int)] = .ok .non := by
  have x := ix_ro h
  have w := r_w (gR rs' i)
  have e : (gR rs' i).w = "bill" := by rw [wr_bill]; exact ho
  rw [e] at w
  have l : lenD (roD rs') = .ok (.int (rs'.length : Int)) := by simp [roD, lenD]
  have p : m_is_place [roD rs', .int (i : Int), .tup [.str "bill"]] = .ok (.bl true) := by
    have at0 := at_ro h
    simp only [roD] at x l ⊢
    simp [m_is_place, m_is_integer, at0, w, h]
  simp [m_need_bill, p]
theorem older_ro {rs' : List Rgh} (hz : rs'.length ≤ 1000) {I1 I2 : List Nat} {i : Nat} (hb : bs (ac true rs') = I1 ++ i :: I2) : m_older_than [roD rs', .int (i : Int)] = .ok (.lst (I1.map nD)) := by
  have hi : i ∈ bs (ac true rs') := by rw [hb]; simp
  obtain ⟨h, ho⟩ := bs_lt hi
  have nb : (bs (ac true rs')).Nodup := (ln_nodup _).filter _
  have i1 : i ∉ I1 := fun z => by rw [hb] at nb; exact (List.nodup_append.mp nb).2.2 i z i (.head _) rfl
  have q1 : idxI ((bs (ac true rs')).map fun k : Nat => (k : Int)) (i : Int) = some I1.length := by rw [hb]; exact idx_split i1
  have n6 : intsD ((bs (ac true rs')).map nD) = some ((bs (ac true rs')).map fun k : Nat => (k : Int)) := ints_mapf (fun k : Nat => (k : Int)) _
  have c1 : cutD ((bs (ac true rs')).map nD) none (some (I1.length : Int)) = I1.map nD := by
    rw [cut_head, ← List.map_take, hb, List.take_left]
  have b1 := bill_ro hz
  have at0 := at_ro h
  have w := r_w (gR rs' i)
  have e : (gR rs' i).w = "bill" := by rw [wr_bill]; exact ho
  rw [e] at w
  generalize (bs (ac true rs')).map nD = B at *
  generalize I1.map nD = J at *
  simp only [roD] at b1 ⊢
  refine run_ends (ends_sq (by simp [at0, w, b1]; rfl) ?_)
  exact ends_is (by simp [n6, q1, c1]; rfl)
theorem op_if (s p t : Int) : (if (if t < p + s then p + s - t else 0) < s then (if t < p + s then p + s - t else 0) else s) = opF s p t := by unfold opF; omega
end Law
end
section
namespace Law
open PySem PySem.Spec PyProof.Rows L2 Vm
/-! the law's own open and owed -/
theorem older_law {rs' : List Rgh} {j i : Nat} (hj : j < rs'.length) (hi : i < rs'.length) (b : Bool) : m__law_older [roD rs', .int (j : Int), .int (i : Int)] = .ok (.bl (bef (ac b rs') j i)) := by
  have x1 := at_ro hj
  have x2 := at_ro hi
  have d1 := r_d (gR rs' j)
  have d2 := r_d (gR rs' i)
  have p := ltT_pair (gR rs' j).dy (j : Int) (gR rs' i).dy (i : Int)
  have e : decide ((gR rs' j).dy < (gR rs' i).dy ∨ ((gR rs' j).dy = (gR rs' i).dy ∧ (j : Int) < (i : Int))) = bef (ac b rs') j i := by
    unfold bef
    rw [dy_ac hj, dy_ac hi]
    congr 1
    simp only [Int.ofNat_lt]
  rw [e] at p
  simp only [roD]
  simp [m__law_older, x1, x2, d1, d2, p]
theorem ww_eq (r q : Rgh) : (r.w = q.w) = (r.ow = q.ow) := by unfold Rgh.w; cases r.ow <;> cases q.ow <;> simp
def smI (b : Bool) (rs : List Rgh) : List Int := (ac b rs).map Ent.sum
theorem at_sm {b : Bool} {rs : List Rgh} {i : Nat} (h : i < rs.length) : L2.atI ((smI b rs).map D.int) (i : Int) = some (.int (smN (ac b rs) i)) := by
  rw [atI_nat _ i (by unfold smI; rw [List.length_map, List.length_map, ac_len]; exact h), List.getElem_map]
  congr 2
  have h2 := gE_at (es := ac b rs) (i := i) (by rw [ac_len]; exact h)
  rw [List.getElem?_eq_getElem (by rw [ac_len]; exact h)] at h2
  unfold smI smN
  rw [List.getElem_map, Option.some.inj h2]
theorem len_sm (b : Bool) (rs : List Rgh) : (smI b rs).length = rs.length := by unfold smI; rw [List.length_map, ac_len]
theorem ahead_law {rs' : List Rgh} (hz : rs'.length ≤ 1000) (b : Bool) {i : Nat} (hi : i < rs'.length) : m__law_ahead [roD rs', .int (i : Int)] = .ok (.lst (((List.range rs'.length).filter fun j => lvN (ac b rs') j && sbf (ac b rs') i j).map nD)) := by
  have x2 := at_ro hi
  have w2 := r_w (gR rs' i)
  have c1 := lf1m (i := 3) (t := ct__law_ahead_1) (m := cm__law_ahead_1) (env := [.t (roD rs'), .t (.int i), .u, .u]) nD (fun j => decide ((gR rs' j).ow = (gR rs' i).ow)) nD (List.range rs'.length) (fun j hj => by
    have x1 := at_ro (List.mem_range.mp hj)
    have w1 := r_w (gR rs' j)
    simp only [roD]
    simp [x1, x2, w1, w2, nD, ww_eq]) (fun j hj _ => ⟨by simp [nD], rfl⟩)
  have c2 := lf1m (i := 3) (t := ct__law_ahead_2) (m := cm__law_ahead_2) (env := [.t (roD rs'), .t (.int i), .t (.lst (((List.range rs'.length).filter fun j => decide ((gR rs' j).ow = (gR rs' i).ow)).map nD)), .u]) nD (fun j => bef (ac b rs') j i) nD ((List.range rs'.length).filter fun j => decide ((gR rs' j).ow = (gR rs' i).ow)) (fun j hj => by
    have o := older_law (List.mem_range.mp (List.mem_filter.mp hj).1) hi b
    simp [nD, o]) (fun j hj _ => ⟨by simp [nD], rfl⟩)
  have e : ((List.range rs'.length).filter fun j => decide ((gR rs' j).ow = (gR rs' i).ow)).filter (fun j => bef (ac b rs') j i) = (List.range rs'.length).filter fun j => lvN (ac b rs') j && sbf (ac b rs') i j := by
    rw [List.filter_filter]
    refine List.filter_congr fun j hj => ?_
    have hj := List.mem_range.mp hj
    unfold sbf
    rw [lv_ac hj, bl_ac hj, bl_ac hi, Bool.true_and, Bool.and_comm]
    rfl
  rw [e] at c2
  have h2 : rg1 (rs'.length : Int) = true := rg1_lit _ (by omega)
  have h4 := rangeD_map rs'.length
  generalize ((List.range rs'.length).filter fun j => lvN (ac b rs') j && sbf (ac b rs') i j).map nD = A at *
  generalize ((List.range rs'.length).filter fun j => decide ((gR rs' j).ow = (gR rs' i).ow)).map nD = B at *
  have l : lenD (roD rs') = .ok (.int (rs'.length : Int)) := by simp [roD, lenD]
  refine run_ends (ends_sq (by simp only [roD] at c1 ⊢; simp [h2, h4, c1]; rfl) ?_)
  exact ends_is (by simp only [roD] at c2 ⊢; simp [c2]; rfl)
theorem pyS_range {b : Bool} {rs : List Rgh} : pyS (ac b rs) = (((List.range rs.length).filter fun j => !(gR rs j).ow).map (smN (ac b rs))).sum := by
  unfold pyS
  refine sum_perm (List.Perm.map _ ?_)
  rw [ms_ac]
  have p := (ln_perm (ac b rs)).filter fun i => !(gR rs i).ow
  refine p.trans (List.Perm.of_eq ?_)
  rw [List.filter_filter, ac_len]
  exact List.filter_congr fun j hj => by rw [lv_ac (List.mem_range.mp hj)]; simp
end Law
end
section
namespace Law
open PySem PySem.Spec PyProof.Rows L2 Vm
/-! owed -/
def sgn (b : Bool) (rs : List Rgh) (d : Int) (i : Nat) : Int := if (gR rs i).dy ≤ d then (if (gR rs i).ow = true then smN (ac b rs) i else -smN (ac b rs) i) else 0
theorem sum_split (f : Nat → Int) (p q : Nat → Bool) : ∀ xs : List Nat, (xs.map fun i => if q i = true then (if p i = true then f i else -f i) else 0).sum = (((xs.filter p).filter q).map f).sum - (((xs.filter fun i => !p i).filter q).map f).sum
  | [] => rfl
  | x :: xs => by
    have ih := sum_split f p q xs
    rw [List.map_cons, List.sum_cons, ih, List.filter_cons, List.filter_cons]
    cases hp : p x <;> cases hq : q x <;> simp [hq] <;> omega
theorem bal_range {b : Bool} {rs : List Rgh} {d : Int} : balE (ac b rs) d = ((List.range rs.length).map (sgn b rs d)).sum := by
  unfold balE
  congr 1
  refine List.ext_getElem (by simp [ac_len]) fun i h1 h2 => ?_
  have hi : i < rs.length := by rw [List.length_map, ac_len] at h1; exact h1
  rw [List.getElem_map, List.getElem_map, List.getElem_range]
  have h3 := gE_at (es := ac b rs) (i := i) (by rw [ac_len]; exact hi)
  rw [List.getElem?_eq_getElem (by rw [ac_len]; exact hi)] at h3
  have h3 := Option.some.inj h3
  unfold sgn smN
  rw [h3, gE_ac hi, en_live, en_day, en_bill, en_sum]
  simp
theorem bal_ln {b : Bool} {rs : List Rgh} {d : Int} : balE (ac b rs) d = ((ln (ac b rs)).map (sgn b rs d)).sum := by
  rw [bal_range]
  refine sum_perm (List.Perm.map _ ?_)
  have p := ln_perm (ac b rs)
  rw [ac_len, List.filter_eq_self.mpr fun i hi => lv_ac (List.mem_range.mp hi)] at p
  exact p.symm
theorem bal_parts {b : Bool} {rs : List Rgh} {d : Int} : balE (ac b rs) d = (((bs (ac b rs)).filter fun i => decide ((gR rs i).dy ≤ d)).map (smN (ac b rs))).sum - (((ms (ac b rs)).filter fun i => decide ((gR rs i).dy ≤ d)).map (smN (ac b rs))).sum := by
  rw [bal_ln, bs_ac, ms_ac, ← sum_split]
  congr 1
  refine List.map_congr_left fun i hi => ?_
  unfold sgn
  simp only [decide_eq_true_eq]
/-! the accounts at the ends -/
/-- the same in print -/
theorem same_ok {x : D} (h : x.num 8 = true) (hw : x.wt ≤ sizeLine) (h1 : ∀ env, rs env x = .ok x) (h2 : ∀ xs, allKp (x :: xs) = allKp xs) (h3 : kp x = .ok x) : m__law_same [x, x] = .ok (.bl true) := by
  obtain ⟨s, e⟩ := shwD_ok h hw
  exact run_ends (ends_is (by simp [h1, h2, h3, e]; rfl))
theorem same_two {a b : Int} (ha : a.natAbs.log2 < 1920) (hb : b.natAbs.log2 < 1920) : m__law_same [.tup [.int a, .int b], .tup [.int a, .int b]] = .ok (.bl true) :=
  same_ok (by simp [D.num, D.numL, ha, hb]) (by rw [sizeLine_eq]; simp [D.wt, D.wtL]) (fun _ => rfl) (fun _ => rfl) rfl
end Law
end
section
namespace Law
open PySem PySem.Spec PyProof.Rows L2 Vm
/-! the draws -/
def Dr (r : Rgh) : Prop := 1 ≤ r.lo ∧ r.lo ≤ r.hi ∧ r.hi ≤ 10 ^ 31 ∧ r.dy.natAbs ≤ 10 ^ 7
theorem rough_step {n : Int} {s : D} {rs' : List Rgh} {x0 : Int} {span top width : Int} {i : Nat} (hn : n < 500000) (J : Jar n s) (hz : rs'.length ≤ 60) (s0 : 0 < span) (s1 : span ≤ 2000001) (t0 : 0 < top) (t1 : top ≤ 10 ^ 30) (w0 : 0 < width) (w1 : width ≤ 10 ^ 30)
    {x7 x8 : Sl} (n7 : np x7 = true) (n8 : np x8 = true) :
    ∃ (s' : D) (r : Rgh) (y7 y8 : Sl), lb__law_rough_of_1 [.p s, .t (.int x0), .t (.int span), .t (.int top), .t (.int width), .l (.lst (rs'.map Rgh.D)), .t (.int (i : Int)), x7, x8] =
      .ok (.next, [.p s', .t (.int x0), .t (.int span), .t (.int top), .t (.int width), .l (.lst ((rs' ++ [r]).map Rgh.D)), .t (.int (i : Int)), y7, y8]) ∧ np y7 = true ∧ np y8 = true ∧ Jar (n + 13) s' ∧ Dr r := by
  have sz : 100000 ≤ sizeLine := by decide
  have hw : ∃ (o : Bool) (s1 : D), (mSet 7 (mIf (mTru (mBin ltD (mVar 6) (mK (.int 4)))) (mBin ixA (mLst (mCons (mK (.str "bill")) (mCons (mK (.str "pay")) mNil))) (mBin modD (mCallB (one intD) (mCons (mVar 6) mNil)) (mK (.int 2)))) (mBin ixA (mLst (mCons (mK (.str "bill")) (mCons (mK (.str "pay")) mNil))) (mCallJ 2 m__law_pick (mCons (mVar 0) (mCons (mK (.int 2)) mNil))))))
      [.p s, .t (.int x0), .t (.int span), .t (.int top), .t (.int width), .l (.lst (rs'.map Rgh.D)), .t (.int (i : Int)), x7, x8] = .ok (.next, [.p s1, .t (.int x0), .t (.int span), .t (.int top), .t (.int width), .l (.lst (rs'.map Rgh.D)), .t (.int (i : Int)), .t (.str (if o = true then "bill" else "pay")), x8]) ∧ Jar (n + 1) s1 := by
    by_cases h : (i : Int) < 4
    · rcases (by omega : (i : Int) % 2 = 0 ∨ (i : Int) % 2 = 1) with q | q
      · exact ⟨true, s, by simp [h, q, n7, L2.atI, L2.ixN], J.mono (by omega)⟩
      · exact ⟨false, s, by simp [h, q, n7, L2.atI, L2.ixN], J.mono (by omega)⟩
    · obtain ⟨w, s1, p, q0, q1, j1⟩ := pick_ok (u := 2) (by omega) J (by decide) (by decide)
      rcases (by omega : w = 0 ∨ w = 1) with rfl | rfl
      · exact ⟨true, s1, by simp [h, p, n7, L2.atI, L2.ixN], j1⟩
      · exact ⟨false, s1, by simp [h, p, n7, L2.atI, L2.ixN], j1⟩
  obtain ⟨o, s2, e1, j1⟩ := hw
  obtain ⟨b, s3, p3, b0, b1, j3⟩ := wide_ok (u := top) (by omega) j1 t0 (by omega)
  obtain ⟨a, s4, p2, a0, a1, j2⟩ := pick_ok (u := span) (by omega) j3 s0 (by omega)
  obtain ⟨c, s5, p4, c0, c1, j4⟩ := wide_ok (u := width) (by omega) j2 w0 (by omega)
  have hl2 : (rs'.map Rgh.D).length < sizeLine := by rw [List.length_map]; omega
  refine ⟨s5, ⟨o, a - span / 2, 1 + b, 1 + b + c⟩, .t (.str (if o = true then "bill" else "pay")), .t (.int (1 + b)), sq_ok e1 (sq_ok (e2 := [.p s3, .t (.int x0), .t (.int span), .t (.int top), .t (.int width), .l (.lst (rs'.map Rgh.D)), .t (.int (i : Int)), .t (.str (if o = true then "bill" else "pay")), .t (.int (1 + b))]) (by simp [p3, n8]) ?_), rfl, rfl, j4.mono (by omega), ?_⟩
  · have d1 := div_ok (i := span) (j := 2) (by omega) (by decide)
    rw [List.map_append]
    have hr : (Rgh.D ⟨o, a - span / 2, 1 + b, 1 + b + c⟩) = .tup [.str (if o = true then "bill" else "pay"), .int (a - span / 2), .int (1 + b), .int (1 + b + c)] := rfl
    simp only [List.map_cons, List.map_nil, hr]
    generalize rs'.map Rgh.D = E at *
    generalize (if o = true then ("bill" : Str) else "pay") = W at *
    simp [p2, p4, d1, hl2]
  · refine ⟨by show 1 ≤ 1 + b; omega, by show 1 + b ≤ 1 + b + c; omega, by show 1 + b + c ≤ _; omega, ?_⟩
    show (a - span / 2).natAbs ≤ _
    have : 0 ≤ span / 2 := Int.ediv_nonneg (by omega) (by decide)
    have : span / 2 ≤ span := Int.ediv_le_self _ (by omega)
    omega
theorem rough_of_ok {n : Int} {s : D} {count : Nat} {span top width : Int} (hn : n < 400000) (J : Jar n s) (h0 : count ≤ 60) (s0 : 0 < span) (s1 : span ≤ 2000001) (t0 : 0 < top) (t1 : top ≤ 10 ^ 30) (w0 : 0 < width) (w1 : width ≤ 10 ^ 30) :
    ∃ (rs' : List Rgh) (s' : D), m__law_rough_of s [.int (count : Int), .int span, .int top, .int width] = .ok (roD rs', s') ∧ Jar (n + 13 * count) s' ∧ rs'.length = count ∧ (∀ r ∈ rs', Dr r) := by
  obtain ⟨e', q, s', rs', x6, x7, x8, rfl, -, -, -, j, el, pl⟩ := forL_inv (gv := gmN 6) (b := lb__law_rough_of_1)
    (fun i e => ∃ (s' : D) (rs' : List Rgh) (x6 x7 x8 : Sl), e = [.p s', .t (.int (count : Int)), .t (.int span), .t (.int top), .t (.int width), .l (.lst (rs'.map Rgh.D)), x6, x7, x8] ∧ np x6 = true ∧ np x7 = true ∧ np x8 = true ∧ Jar (n + 13 * i) s' ∧ rs'.length = i ∧ (∀ r ∈ rs', Dr r))
    (rangeD 0 count) [.p s, .t (.int (count : Int)), .t (.int span), .t (.int top), .t (.int width), .l (.lst []), .u, .u, .u] 0 ⟨s, [], .u, .u, .u, rfl, rfl, rfl, rfl, J.mono (by omega), rfl, (fun e he => by cases he)⟩ (fun i d e hi ⟨s', rs', x6, x7, x8, he, n6, n7, n8, j, el, pl⟩ => by
      subst he
      have hl := (List.getElem?_eq_some_iff.mp hi).1
      rw [rangeD_length] at hl
      rw [range_get hl] at hi
      cases hi
      rw [Nat.zero_add] at j el
      obtain ⟨s2, x, y7, y8, b, m7, m8, j2, p2⟩ := rough_step (rs' := rs') (x0 := (count : Int)) (span := span) (top := top) (width := width) (i := i) (by omega) j (by omega) s0 s1 t0 t1 w0 w1 n7 n8
      refine ⟨_, _, by simp [n6], .inl b, s2, rs' ++ [x], _, y7, y8, rfl, rfl, m7, m8, j2.mono (by omega), by rw [List.length_append, el]; simp, fun e he => ?_⟩
      rcases List.mem_append.mp he with he | he
      · exact pl e he
      · rw [List.mem_singleton.mp he]; exact p2)
  rw [rangeD_length, Nat.zero_add] at j el
  refine ⟨rs', s', ?_, j, el, pl⟩
  have r1 := rg1_ok (j := (count : Int)) (by omega) (by omega)
  have ha : roD rs' = .tup (rs'.map Rgh.D) := rfl
  rw [ha]
  generalize rs'.map Rgh.D = E at *
  simp [m__law_rough_of, r1, q]
theorem one_sided_ok {n : Int} {s : D} {rs' : List Rgh} (hn : n < 400000) (J : Jar n s) : ∃ (qs : List Rgh) (s' : D), m__law_one_sided s [roD rs', .int 16] = .ok (roD qs, s') ∧ Jar (n + 1) s' ∧ qs.length ≤ rs'.length ∧ (∀ r ∈ qs, r ∈ rs') := by
  obtain ⟨w, s1, p, w0, w1, j⟩ := pick_ok (u := 16) (by omega) J (by decide) (by decide)
  refine ⟨rs'.filter fun r => decide (1 < w ∨ (r.ow = decide (w = 1))), s1, ?_, j, List.length_filter_le _ _, fun r h => (List.mem_filter.mp h).1⟩
  have c := lf1m (i := 4) (t := ct__law_one_sided_1) (m := cm__law_one_sided_1) (env := [.p s1, .t (roD rs'), .t (.int 16), .t (.int w), .u]) Rgh.D (fun r => decide (1 < w ∨ (r.ow = decide (w = 1)))) Rgh.D rs' (fun r _ => by
    have x := r_w r
    by_cases h : 1 < w
    · simp [h]
    · by_cases h1 : w = 1
      · cases q : r.ow <;> simp [x, h1, q]
      · cases q : r.ow <;> simp [x, h, h1, q]) (fun r _ _ => ⟨by simp, rfl⟩)
  have ha : roD (rs'.filter fun r => decide (1 < w ∨ (r.ow = decide (w = 1)))) = .tup ((rs'.filter fun r => decide (1 < w ∨ (r.ow = decide (w = 1)))).map Rgh.D) := rfl
  rw [ha]
  generalize (rs'.filter fun r => decide (1 < w ∨ (r.ow = decide (w = 1)))).map Rgh.D = F at *
  simp only [roD] at c ⊢
  generalize rs'.map Rgh.D = E at *
  simp [m__law_one_sided, p, c]
theorem a_rough_ok {n : Int} {s : D} {many : Int} (hn : n < 300000) (J : Jar n s) (h0 : 0 < many) (h1 : many ≤ 60) :
    ∃ (rs' : List Rgh) (s' : D), m__law_a_rough s [.int many] = .ok (roD rs', s') ∧ Jar (n + 800) s' ∧ rs'.length ≤ 60 ∧ (∀ r ∈ rs', Dr r) := by
  obtain ⟨a, s1, p1, a0, a1, j1⟩ := pick_ok (u := 4) (by omega) J (by decide) (by decide)
  obtain ⟨b, s2, p2, b0, b1, j2⟩ := pick_ok (u := 4) (by omega) j1 (by decide) (by decide)
  obtain ⟨c, s3, p3, c0, c1, j3⟩ := pick_ok (u := 4) (by omega) j2 (by decide) (by decide)
  obtain ⟨d, s4, p4, d0, d1, j4⟩ := pick_ok (u := many + 1) (by omega) j3 (by omega) (by omega)
  obtain ⟨span, hs, sp0, sp1⟩ : ∃ span : Int, L2.atI [D.int 2, .int 5, .int 400, .int 2000001] a = some (.int span) ∧ 0 < span ∧ span ≤ 2000001 := by
    rcases (by omega : a = 0 ∨ a = 1 ∨ a = 2 ∨ a = 3) with rfl | rfl | rfl | rfl <;> exact ⟨_, rfl, by decide, by decide⟩
  have mm := mul_ok (i := 5) (j := 10 ^ 29) (by decide) (by decide)
  obtain ⟨top, ht, t0, t1⟩ : ∃ top : Int, L2.atI [D.int 2, .int 9, .int 1000000, .int 500000000000000000000000000000] b = some (.int top) ∧ 0 < top ∧ top ≤ 10 ^ 30 := by
    rcases (by omega : b = 0 ∨ b = 1 ∨ b = 2 ∨ b = 3) with rfl | rfl | rfl | rfl <;> exact ⟨_, rfl, by decide, by decide⟩
  obtain ⟨width, hw, w0, w1⟩ : ∃ width : Int, L2.atI [D.int 1, .int 4, .int 30, .int top] c = some (.int width) ∧ 0 < width ∧ width ≤ 10 ^ 30 := by
    rcases (by omega : c = 0 ∨ c = 1 ∨ c = 2 ∨ c = 3) with rfl | rfl | rfl | rfl
    · exact ⟨_, rfl, by decide, by decide⟩
    · exact ⟨_, rfl, by decide, by decide⟩
    · exact ⟨_, rfl, by decide, by decide⟩
    · exact ⟨_, rfl, t0, t1⟩
  obtain ⟨rs', s5, p5, j5, el, pl⟩ := rough_of_ok (count := (many - d).toNat) (span := span) (top := top) (width := width) (by omega) j4 (by omega) sp0 sp1 t0 t1 w0 w1
  rw [Int.toNat_of_nonneg (by omega)] at p5
  obtain ⟨qs, s6, p6, j6, ql, qm⟩ := one_sided_ok (rs' := rs') (by omega) j5
  refine ⟨qs, s6, ?_, j6.mono (by omega), by omega, fun r h => pl r (qm r h)⟩
  simp at mm
  simp [m__law_a_rough, p1, p2, p3, p4, hs, ht, hw, p5, p6, mm]
end Law
end
section
namespace Law
open PySem PySem.Spec PyProof.Rows L2 Vm
/-! the range of a pair -/
def lapS (s d m : Int) : Int := max 0 (min (d - max 0 s) (m - max 0 (-s)))
def nearS (x y : Int) : Int := max x (min 0 y)
/-- what the entries of i's word ahead of i come to -/
def sF (rs : List Rgh) (f : Rgh → Int) (i : Nat) : Int := (((List.range rs.length).filter fun j => lvN (ac true rs) j && sbf (ac true rs) i j).map fun j => f (gR rs j)).sum
def rgLo (rs : List Rgh) (i k : Nat) : Int := min (lapS (sF rs Rgh.lo k - sF rs Rgh.hi i) (gR rs i).lo (gR rs k).lo) (lapS (sF rs Rgh.hi k - sF rs Rgh.lo i) (gR rs i).lo (gR rs k).lo)
def rgHi (rs : List Rgh) (i k : Nat) : Int := lapS (nearS (sF rs Rgh.lo k - sF rs Rgh.hi i) (sF rs Rgh.hi k - sF rs Rgh.lo i)) (gR rs i).hi (gR rs k).hi
theorem older_sum {es : List Ent} {b : Bool} {I1 I2 : List Nat} {i : Nat} (f : Nat → Int) (hb : blN es i = b) (h : (ln es).filter (fun j => blN es j == b) = I1 ++ i :: I2) : (I1.map f).sum = (((List.range es.length).filter fun j => lvN es j && sbf es i j).map f).sum := by
  have e : (ln es).filter (sbf es i) = I1 := by
    show (ln es).filter (fun j => (blN es j == blN es i) && bef es j i) = _
    rw [show (fun j => (blN es j == blN es i) && bef es j i) = fun j => bef es j i && (blN es j == b) from funext fun j => by rw [hb, Bool.and_comm], ← List.filter_filter, h]
    exact bef_split (by rw [← h]; exact (ln_sorted es).filter _) (by rw [← h]; exact (ln_nodup es).filter _)
  rw [← e]
  refine sum_perm (List.Perm.map _ ?_)
  rw [show (fun j => lvN es j && sbf es i j) = fun j => sbf es i j && lvN es j from funext fun j => Bool.and_comm _ _, ← List.filter_filter]
  exact (ln_perm es).filter _
theorem older_pay {rs' : List Rgh} (hz : rs'.length ≤ 1000) {I1 I2 : List Nat} {i : Nat} (hb : ms (ac true rs') = I1 ++ i :: I2) : m_older_than [roD rs', .int (i : Int)] = .ok (.lst (I1.map nD)) := by
  have hi : i ∈ ms (ac true rs') := by rw [hb]; simp
  obtain ⟨h, ho⟩ := ms_lt hi
  have nb : (ms (ac true rs')).Nodup := (ln_nodup _).filter _
  have i1 : i ∉ I1 := fun z => by rw [hb] at nb; exact (List.nodup_append.mp nb).2.2 i z i (.head _) rfl
  have q1 : idxI ((ms (ac true rs')).map fun k : Nat => (k : Int)) (i : Int) = some I1.length := by rw [hb]; exact idx_split i1
  have n6 : intsD ((ms (ac true rs')).map nD) = some ((ms (ac true rs')).map fun k : Nat => (k : Int)) := ints_mapf (fun k : Nat => (k : Int)) _
  have c1 : cutD ((ms (ac true rs')).map nD) none (some (I1.length : Int)) = I1.map nD := by
    rw [cut_head, ← List.map_take, hb, List.take_left]
  have b1 := pay_ro hz
  have at0 := at_ro h
  have w := r_w (gR rs' i)
  have e : (gR rs' i).w = "pay" := by rw [wr_pay]; exact ho
  rw [e] at w
  generalize (ms (ac true rs')).map nD = B at *
  generalize I1.map nD = J at *
  simp only [roD] at b1 ⊢
  refine run_ends (ends_sq (by simp [at0, w, b1]; rfl) ?_)
  exact ends_is (by simp [n6, q1, c1]; rfl)
theorem older_b {rs' : List Rgh} (hz : rs'.length ≤ 1000) {i : Nat} (hi : i < rs'.length) : ∃ I1 : List Nat, m_older_than [roD rs', .int (i : Int)] = .ok (.lst (I1.map nD)) ∧ (∀ j ∈ I1, j < rs'.length) ∧ ∀ f : Rgh → Int, (I1.map fun j => f (gR rs' j)).sum = sF rs' f i := by
  cases ho : (gR rs' i).ow with
  | true =>
    have mi : i ∈ bs (ac true rs') := by rw [bs_ac, List.mem_filter]; exact ⟨ln_ac.mpr hi, ho⟩
    obtain ⟨I1, I2, e⟩ := List.append_of_mem mi
    refine ⟨I1, older_ro hz e, fun j hj => (bs_lt (b := true) (by rw [e]; exact List.mem_append_left _ hj)).1, fun f => ?_⟩
    have := older_sum (es := ac true rs') (b := true) (fun j => f (gR rs' j)) (by rw [bl_ac hi, ho]) (by rw [← bs_eq]; exact e)
    rw [this, ac_len]
    rfl
  | false =>
    have mi : i ∈ ms (ac true rs') := by rw [ms_ac, List.mem_filter]; exact ⟨ln_ac.mpr hi, by rw [ho]; rfl⟩
    obtain ⟨I1, I2, e⟩ := List.append_of_mem mi
    refine ⟨I1, older_pay hz e, fun j hj => (ms_lt (b := true) (by rw [e]; exact List.mem_append_left _ hj)).1, fun f => ?_⟩
    have := older_sum (es := ac true rs') (b := false) (fun j => f (gR rs' j)) (by rw [bl_ac hi, ho]) (by rw [← ms_eq]; exact e)
    rw [this, ac_len]
    rfl
theorem shift_ok {rs' : List Rgh} (hz : rs'.length ≤ 1000) {i k : Nat} (hi : i < rs'.length) (hk : k < rs'.length) :
    m_shift_bounds [roD rs', .int (i : Int), .int (k : Int)] = .ok (.tup [.int (sF rs' Rgh.lo k - sF rs' Rgh.hi i), .int (sF rs' Rgh.hi k - sF rs' Rgh.lo i)]) := by
  obtain ⟨I1, o1, l1, f1⟩ := older_b hz hi
  obtain ⟨I2, o2, l2, f2⟩ := older_b hz hk
  have b1 := bounds_ro l1
  have b2 := bounds_ro l2
  rw [f1 Rgh.lo, f1 Rgh.hi] at b1
  rw [f2 Rgh.lo, f2 Rgh.hi] at b2
  generalize I1.map nD = J1 at *
  generalize I2.map nD = J2 at *
  refine run_ends (ends_sq (by simp [o1, b1]; rfl) (ends_sq (by simp [o2, b2]; rfl) ?_))
  exact ends_is (by simp; rfl)
theorem overlap_ok (s d m : Int) : m_overlap [.int s, .int d, .int m] = .ok (.int (lapS s d m)) := by
  have e : (if (if (m - if s < 0 then -s else 0) < (d - if 0 < s then s else 0) then (m - if s < 0 then -s else 0) else (d - if 0 < s then s else 0)) > 0 then (if (m - if s < 0 then -s else 0) < (d - if 0 < s then s else 0) then (m - if s < 0 then -s else 0) else (d - if 0 < s then s else 0)) else 0) = lapS s d m := by
    unfold lapS; omega
  simp [m_overlap]
  unfold lapS
  omega
theorem near_ok (x y : Int) : m_nearest_shift [.tup [.int x, .int y]] = .ok (.int (nearS x y)) := by
  simp [m_nearest_shift, L2.atI, L2.ixN]
  unfold nearS
  omega
end Law
end
section
namespace Law
open PySem PySem.Spec PyProof.Rows L2 Vm
theorem range_of_ok {rs' : List Rgh} (hz : rs'.length ≤ 1000) {i k : Nat} (hi : i < rs'.length) (hk : k < rs'.length) :
    m_range_of [roD rs', .int (i : Int), .int (k : Int)] = .ok (.tup [.int (rgLo rs' i k), .int (rgHi rs' i k)]) := by
  have s := shift_ok hz hi hk
  have x1 := ix_ro hi
  have x2 := ix_ro hk
  have l1 := r_l (gR rs' i)
  have l2 := r_l (gR rs' k)
  have h1 := r_h (gR rs' i)
  have h2 := r_h (gR rs' k)
  unfold rgLo rgHi
  generalize sF rs' Rgh.lo k - sF rs' Rgh.hi i = X at *
  generalize sF rs' Rgh.hi k - sF rs' Rgh.lo i = Y at *
  have c := lc1m (i := 7) (m := cm_range_of_1) (env := [.t (roD rs'), .t (.int i), .t (.int k), .t (.tup [.int X, .int Y]), .u, .t (gR rs' i).D, .t (gR rs' k).D, .u]) D.int (fun s => .int (lapS s (gR rs' i).lo (gR rs' k).lo)) [X, Y] (fun s _ => by
    have o := overlap_ok s (gR rs' i).lo (gR rs' k).lo
    exact ⟨by simp [-y30, -y32, l1, l2, o], rfl⟩)
  simp only [List.map_cons, List.map_nil] at c
  have mn : ∀ a b : Int, onI minL (.lst [.int a, .int b]) = .ok (.int (min a b)) := fun _ _ => rfl
  have n := near_ok X Y
  have o := overlap_ok (nearS X Y) (gR rs' i).hi (gR rs' k).hi
  generalize lapS X (gR rs' i).lo (gR rs' k).lo = U at *
  generalize lapS Y (gR rs' i).lo (gR rs' k).lo = V at *
  generalize lapS (nearS X Y) (gR rs' i).hi (gR rs' k).hi = Z at *
  refine run_ends (ends_sq (by simp [s]; rfl) (ends_sq (by simp [-y30, -y32, mPar, x1, x2]; rfl) (ends_sq (by simp [-y30, -y32, c, mn]; rfl) ?_)))
  exact ends_is (by simp [-y30, -y32, n, h1, h2, o]; rfl)
theorem need_pay_ro {rs' : List Rgh} {i : Nat} (h : i < rs'.length) (ho : (gR rs' i).ow = false) : m_need_payment [roD rs', .int (i : Int)] = .ok .non := by
  have x := ix_ro h
  have w := r_w (gR rs' i)
  have e : (gR rs' i).w = "pay" := by rw [wr_pay]; exact ho
  rw [e] at w
  have l : lenD (roD rs') = .ok (.int (rs'.length : Int)) := by simp [roD, lenD]
  have p : m_is_place [roD rs', .int (i : Int), .tup [.str "pay", .str "named"]] = .ok (.bl true) := by
    have at0 := at_ro h
    simp only [roD] at x l ⊢
    simp [m_is_place, m_is_integer, at0, w, h]
  simp [m_need_payment, p]
theorem pair_range_ok {rs' : List Rgh} (hz : rs'.length ≤ 1000) (hr : ∀ r ∈ rs', 1 ≤ r.lo ∧ r.lo ≤ r.hi) {i k : Nat} (hi : i < rs'.length) (hk : k < rs'.length) (oi : (gR rs' i).ow = true) (ok : (gR rs' k).ow = false) :
    m_pair_range [roD rs', .int (i : Int), .int (k : Int)] = .ok (.tup [.int (rgLo rs' i k), .int (rgHi rs' i k)]) := by
  have n1 := need_ro hr
  have n2 := need_bill_ro hi oi
  have n3 := need_pay_ro hk ok
  have r := range_of_ok hz hi hk
  refine run_ends (ends_sq (by simp [n1]; rfl) (ends_sq (by simp [n2]; rfl) (ends_sq (by simp [n3]; rfl) ?_)))
  exact ends_is (by simp [r]; rfl)
/-! the law's own -/
theorem total_ok {rs' : List Rgh} {is : List Nat} (h : ∀ i ∈ is, i < rs'.length) (b : Bool) : m__law_total [roD rs', .lst (is.map nD), .int (if b = true then 2 else 3)] = .ok (.int (is.map fun i => if b = true then (gR rs' i).lo else (gR rs' i).hi).sum) := by
  have c := lc1m (i := 3) (m := cm__law_total_1) (env := [.t (roD rs'), .t (.lst (is.map nD)), .t (.int (if b = true then 2 else 3)), .u]) nD (fun i => .int (if b = true then (gR rs' i).lo else (gR rs' i).hi)) is (fun i hi => by
    have x := ix_ro (h i hi)
    have l := r_l (gR rs' i)
    have g := r_h (gR rs' i)
    cases b <;> exact ⟨by simp [-y30, -y32, x, l, g, nD], rfl⟩)
  have o1 : ∀ xs : List Int, onT (fun ns => .ok (.int ns.sum)) (.lst (xs.map D.int)) = .ok (.int xs.sum) := fun xs => by
    have := ints_mapf (fun i : Int => i) xs
    simp only [List.map_id'] at this
    simp [onT, onI, this]
  have e : is.map (fun i => D.int (if b = true then (gR rs' i).lo else (gR rs' i).hi)) = (is.map fun i => if b = true then (gR rs' i).lo else (gR rs' i).hi).map D.int := by rw [List.map_map]; rfl
  rw [e] at c
  have o2 := o1 (is.map fun i => if b = true then (gR rs' i).lo else (gR rs' i).hi)
  generalize (is.map fun i => if b = true then (gR rs' i).lo else (gR rs' i).hi).map D.int = W at *
  generalize is.map nD = I at *
  exact run_ends (ends_is (by simp [c, o2]; rfl))
def lapW (A B P Q d h m n w : Int) : Int :=
  max 0 (min ((if w % 2 = 0 then A else B) + (if w / 4 % 2 = 0 then d else h)) ((if w / 2 % 2 = 0 then P else Q) + (if w / 8 = 0 then m else n)) - max (if w % 2 = 0 then A else B) (if w / 2 % 2 = 0 then P else Q))
theorem lap_mid {x y s d m : Int} (h1 : x ≤ s) (h2 : s ≤ y) : min (lapS x d m) (lapS y d m) ≤ lapS s d m := by unfold lapS; omega
theorem lap_ge {b o d m d' m' : Int} (h1 : d ≤ d') (h2 : m ≤ m') : lapS (o - b) d m ≤ max 0 (min (b + d') (o + m') - max b o) := by unfold lapS; omega
theorem lap_eq (b o d m : Int) : lapS (o - b) d m = max 0 (min (b + d) (o + m) - max b o) := by unfold lapS; omega
theorem lapW_ge {A B P Q d h m n w : Int} (hA : A ≤ B) (hP : P ≤ Q) (hd : d ≤ h) (hm : m ≤ n) : min (lapS (P - B) d m) (lapS (Q - A) d m) ≤ lapW A B P Q d h m n w := by
  unfold lapW
  have a : A ≤ (if w % 2 = 0 then A else B) ∧ (if w % 2 = 0 then A else B) ≤ B := by split <;> omega
  have b : P ≤ (if w / 2 % 2 = 0 then P else Q) ∧ (if w / 2 % 2 = 0 then P else Q) ≤ Q := by split <;> omega
  have c : d ≤ (if w / 4 % 2 = 0 then d else h) := by split <;> omega
  have e : m ≤ (if w / 8 = 0 then m else n) := by split <;> omega
  generalize (if w % 2 = 0 then A else B) = b0 at *
  generalize (if w / 2 % 2 = 0 then P else Q) = o0 at *
  exact Int.le_trans (lap_mid (by omega) (by omega)) (lap_ge (b := b0) (o := o0) c e)
theorem room_eq {A B P Q h n : Int} (hA : A ≤ B) (hP : P ≤ Q) : max 0 (min (min (h + B - P) (n + Q - A)) (min h n)) = lapS (nearS (P - B) (Q - A)) h n := by unfold lapS nearS; omega
theorem sF_le {rs' : List Rgh} (hr : ∀ r ∈ rs', r.lo ≤ r.hi) (i : Nat) : sF rs' Rgh.lo i ≤ sF rs' Rgh.hi i := by
  unfold sF
  have h : ∀ j ∈ (List.range rs'.length).filter (fun j => lvN (ac true rs') j && sbf (ac true rs') i j), j < rs'.length := fun j hj => List.mem_range.mp (List.mem_filter.mp hj).1
  generalize (List.range rs'.length).filter (fun j => lvN (ac true rs') j && sbf (ac true rs') i j) = F at *
  induction F with
  | nil => simp
  | cons j F ih =>
    have a := hr _ (gR_mem (h j (.head _)))
    have b := ih fun k hk => h k (.tail _ hk)
    simp only [List.map_cons, List.sum_cons]
    omega
end Law
end
section
namespace Law
open PySem PySem.Spec PyProof.Rows L2 Vm
theorem at_two (a b w : Int) : L2.atI [D.int a, .int b] (w % 2) = some (.int (if w % 2 = 0 then a else b)) := by
  rcases (by omega : w % 2 = 0 ∨ w % 2 = 1) with h | h <;> rw [h] <;> rfl
theorem at_row (r : Rgh) {e : Int} (h : e = 0 ∨ e = 1) : ixA r.D (.int (2 + e)) = .ok (.int (if e = 0 then r.lo else r.hi)) := by
  rcases h with rfl | rfl
  · exact r_l r
  · exact r_h r
theorem far_step {rs' : List Rgh} {i k : Nat} (hi : i < rs'.length) (hk : k < rs'.length) {A B P Q : Int} {ls : List Int} {w : Nat} (hw : w < 16) (hl : ls.length ≤ 16) {x8 x9 x10 x11 x12 : Sl} (n10 : np x10 = true) (n11 : np x11 = true) (n12 : np x12 = true) :
    ∃ y10 y11 y12, np y10 = true ∧ np y11 = true ∧ np y12 = true ∧ lb__law_far_range_1 [.t (roD rs'), .t (.int (i : Int)), .t (.int (k : Int)), .t (.lst [.int A, .int B]), .t (.lst [.int P, .int Q]), .l (.lst (ls.map D.int)), .t (.int (w : Int)), .u, x8, x9, x10, x11, x12] =
      .ok (.next, [.t (roD rs'), .t (.int (i : Int)), .t (.int (k : Int)), .t (.lst [.int A, .int B]), .t (.lst [.int P, .int Q]), .l (.lst ((ls ++ [lapW A B P Q (gR rs' i).lo (gR rs' i).hi (gR rs' k).lo (gR rs' k).hi (w : Int)]).map D.int)), .t (.int (w : Int)), .u, x8, x9, y10, y11, y12]) := by
  have x1 := ix_ro hi
  have x2 := ix_ro hk
  have d2 := div_ok (i := (w : Int)) (j := 2) (by omega) (by decide)
  have d4 := div_ok (i := (w : Int)) (j := 4) (by omega) (by decide)
  have d8 := div_ok (i := (w : Int)) (j := 8) (by omega) (by decide)
  have a1 := at_two A B (w : Int)
  have a2 := at_two P Q ((w : Int) / 2)
  have r1 := at_row (gR rs' i) (e := (w : Int) / 4 % 2) (by omega)
  have r2 := at_row (gR rs' k) (e := (w : Int) / 8) (by omega)
  have sz : 100000 ≤ sizeLine := by decide
  have hl2 : (ls.map D.int).length < sizeLine := by rw [List.length_map]; omega
  have em : (ls ++ [lapW A B P Q (gR rs' i).lo (gR rs' i).hi (gR rs' k).lo (gR rs' k).hi (w : Int)]).map D.int = ls.map D.int ++ [.int (lapW A B P Q (gR rs' i).lo (gR rs' i).hi (gR rs' k).lo (gR rs' k).hi (w : Int))] := by rw [List.map_append]; rfl
  rw [em]
  unfold lapW
  generalize (if (w : Int) % 2 = 0 then A else B) = b0 at *
  generalize (if (w : Int) / 2 % 2 = 0 then P else Q) = o0 at *
  generalize (if (w : Int) / 4 % 2 = 0 then (gR rs' i).lo else (gR rs' i).hi) = u0 at *
  generalize (if (w : Int) / 8 = 0 then (gR rs' k).lo else (gR rs' k).hi) = v0 at *
  generalize ls.map D.int = L at *
  refine ⟨.t (.int (min (b0 + u0) (o0 + v0))), .t (.int b0), .t (.int o0), rfl, rfl, rfl, ?_⟩
  refine sq_ok (e2 := [.t (roD rs'), .t (.int (i : Int)), .t (.int (k : Int)), .t (.lst [.int A, .int B]), .t (.lst [.int P, .int Q]), .l (.lst L), .t (.int (w : Int)), .u, x8, x9, x10, .t (.int b0), .t (.int o0)]) (by simp [mPar, d2, a1, a2, n11, n12]) ?_
  have mn : (if o0 + v0 < b0 + u0 then o0 + v0 else b0 + u0) = min (b0 + u0) (o0 + v0) := by split <;> omega
  refine sq_ok (e2 := [.t (roD rs'), .t (.int (i : Int)), .t (.int (k : Int)), .t (.lst [.int A, .int B]), .t (.lst [.int P, .int Q]), .l (.lst L), .t (.int (w : Int)), .u, x8, x9, .t (.int (min (b0 + u0) (o0 + v0))), .t (.int b0), .t (.int o0)]) (by simp [-y30, -y32, x1, x2, d4, d8, r1, r2, n10, mn]) ?_
  have mx : (if 0 < min (b0 + u0) (o0 + v0) - (if b0 < o0 then o0 else b0) then min (b0 + u0) (o0 + v0) - (if b0 < o0 then o0 else b0) else 0) = max 0 (min (b0 + u0) (o0 + v0) - max b0 o0) := by omega
  generalize min (b0 + u0) (o0 + v0) = M at *
  simp [hl2]
  split <;> split <;> first | rfl | (congr 4; omega) | omega
theorem min_is2 : ∀ {ns : List Int} {n m : Int}, m ∈ n :: ns → (∀ v ∈ n :: ns, m ≤ v) → ns.foldl min n = m
  | [], n, m, h, _ => by simpa using (List.mem_singleton.mp h).symm
  | a :: ns, n, m, h, h2 => by
    rw [List.foldl_cons]
    refine min_is2 ?_ fun v hv => ?_
    · rcases List.mem_cons.mp h with rfl | h
      · have := h2 a (.tail _ (.head _))
        rw [Int.min_eq_left this]
        exact .head _
      · rcases List.mem_cons.mp h with rfl | h
        · have := h2 n (.head _)
          rw [Int.min_eq_right this]
          exact .head _
        · exact .tail _ h
    · rcases List.mem_cons.mp hv with rfl | hv
      · have a1 := h2 a (.tail _ (.head _))
        have a2 := h2 n (.head _)
        omega
      · exact h2 v (.tail _ (.tail _ hv))
theorem min_lst {SS : List Int} {m : Int} (h : m ∈ SS) (h2 : ∀ v ∈ SS, m ≤ v) : onI minL (.lst (SS.map D.int)) = .ok (.int m) := by
  unfold onI
  simp only [Vm.ints_map]
  cases SS with
  | nil => cases h
  | cons n ns =>
    show Res.ok (D.int (ns.foldl min n)) = _
    rw [min_is2 h h2]
end Law
end
section
namespace Law
open PySem PySem.Spec PyProof.Rows L2 Vm
theorem far_loop {rs' : List Rgh} {i k : Nat} (hi : i < rs'.length) (hk : k < rs'.length) {A B P Q : Int} {x8 x9 : Sl} :
    ∃ y6 y10 y11 y12, forL (gmN 6) lb__law_far_range_1 (rangeD 0 16) [.t (roD rs'), .t (.int (i : Int)), .t (.int (k : Int)), .t (.lst [.int A, .int B]), .t (.lst [.int P, .int Q]), .l (.lst []), .u, .u, x8, x9, .u, .u, .u] =
      .ok (.next, [.t (roD rs'), .t (.int (i : Int)), .t (.int (k : Int)), .t (.lst [.int A, .int B]), .t (.lst [.int P, .int Q]), .l (.lst (((List.range 16).map fun w : Nat => lapW A B P Q (gR rs' i).lo (gR rs' i).hi (gR rs' k).lo (gR rs' k).hi (w : Int)).map D.int)), y6, .u, x8, x9, y10, y11, y12]) := by
  obtain ⟨e', q, y6, y10, y11, y12, rfl, -⟩ := forL_inv (gv := gmN 6) (b := lb__law_far_range_1)
    (fun n e => ∃ (y6 y10 y11 y12 : Sl), e = [.t (roD rs'), .t (.int (i : Int)), .t (.int (k : Int)), .t (.lst [.int A, .int B]), .t (.lst [.int P, .int Q]), .l (.lst (((List.range n).map fun w : Nat => lapW A B P Q (gR rs' i).lo (gR rs' i).hi (gR rs' k).lo (gR rs' k).hi (w : Int)).map D.int)), y6, .u, x8, x9, y10, y11, y12] ∧ np y6 = true ∧ np y10 = true ∧ np y11 = true ∧ np y12 = true)
    (rangeD 0 16) [.t (roD rs'), .t (.int (i : Int)), .t (.int (k : Int)), .t (.lst [.int A, .int B]), .t (.lst [.int P, .int Q]), .l (.lst []), .u, .u, x8, x9, .u, .u, .u] 0 ⟨.u, .u, .u, .u, rfl, rfl, rfl, rfl, rfl⟩ (fun n d e hn ⟨y6, y10, y11, y12, he, m6, m10, m11, m12⟩ => by
      subst he
      have hl := (List.getElem?_eq_some_iff.mp hn).1
      rw [rangeD_length] at hl
      rw [range_get hl] at hn
      cases hn
      obtain ⟨z10, z11, z12, k1, k2, k3, b⟩ := far_step hi hk (A := A) (B := B) (P := P) (Q := Q) (ls := (List.range (0 + n)).map fun w : Nat => lapW A B P Q (gR rs' i).lo (gR rs' i).hi (gR rs' k).lo (gR rs' k).hi (w : Int)) (w := n) (x8 := x8) (x9 := x9) hl (by rw [List.length_map, List.length_range]; omega) m10 m11 m12
      refine ⟨_, _, by simp [m6], .inl b, .t (.int (n : Int)), z10, z11, z12, ?_, rfl, k1, k2, k3⟩
      rw [show 0 + n + 1 = (0 + n) + 1 from rfl, List.range_succ, List.map_append (f := fun w : Nat => lapW A B P Q (gR rs' i).lo (gR rs' i).hi (gR rs' k).lo (gR rs' k).hi (w : Int)), Nat.zero_add]
      rfl)
  rw [rangeD_length, Nat.zero_add] at q
  exact ⟨y6, y10, y11, y12, q⟩
theorem far_ok {rs' : List Rgh} (hz : rs'.length ≤ 1000) (hr : ∀ r ∈ rs', 1 ≤ r.lo ∧ r.lo ≤ r.hi) {i k : Nat} (hi : i < rs'.length) (hk : k < rs'.length) :
    m__law_far_range [roD rs', .int (i : Int), .int (k : Int)] = .ok (.tup [.int (rgLo rs' i k), .int (rgHi rs' i k)]) := by
  have a1 := ahead_law hz true hi
  have a2 := ahead_law hz true hk
  have mem : ∀ n : Nat, ∀ j ∈ (List.range rs'.length).filter (fun j => lvN (ac true rs') j && sbf (ac true rs') n j), j < rs'.length := fun n j hj => List.mem_range.mp (List.mem_filter.mp hj).1
  have t1 := total_ok (mem i) true
  have t2 := total_ok (mem i) false
  have t3 := total_ok (mem k) true
  have t4 := total_ok (mem k) false
  simp only [if_true, Bool.false_eq_true, if_false] at t1 t2 t3 t4
  have hr2 : ∀ r ∈ rs', r.lo ≤ r.hi := fun r h => (hr r h).2
  have hA := sF_le hr2 i
  have hP := sF_le hr2 k
  have hd := hr2 _ (gR_mem hi)
  have hm := hr2 _ (gR_mem hk)
  have x1 := ix_ro hi
  have x2 := ix_ro hk
  have g1 := r_h (gR rs' i)
  have g2 := r_h (gR rs' k)
  have q := fun (x8 x9 : Sl) => far_loop hi hk (A := sF rs' Rgh.lo i) (B := sF rs' Rgh.hi i) (P := sF rs' Rgh.lo k) (Q := sF rs' Rgh.hi k) (x8 := x8) (x9 := x9)
  have mn := min_lst (SS := (List.range 16).map fun w : Nat => lapW (sF rs' Rgh.lo i) (sF rs' Rgh.hi i) (sF rs' Rgh.lo k) (sF rs' Rgh.hi k) (gR rs' i).lo (gR rs' i).hi (gR rs' k).lo (gR rs' k).hi (w : Int)) (m := rgLo rs' i k) (by
    unfold rgLo
    rw [lap_eq, lap_eq]
    rw [List.mem_map]
    rcases Int.le_total (max 0 (min (sF rs' Rgh.hi i + (gR rs' i).lo) (sF rs' Rgh.lo k + (gR rs' k).lo) - max (sF rs' Rgh.hi i) (sF rs' Rgh.lo k))) (max 0 (min (sF rs' Rgh.lo i + (gR rs' i).lo) (sF rs' Rgh.hi k + (gR rs' k).lo) - max (sF rs' Rgh.lo i) (sF rs' Rgh.hi k))) with h | h
    · exact ⟨1, by simp, by rw [Int.min_eq_left h]; simp [lapW]⟩
    · exact ⟨2, by simp, by rw [Int.min_eq_right h]; simp [lapW]⟩) (fun v hv => by
    obtain ⟨w, _, rfl⟩ := List.mem_map.mp hv
    exact lapW_ge hA hP hd hm)
  have rm := room_eq (h := (gR rs' i).hi) (n := (gR rs' k).hi) hA hP
  have eH : rgHi rs' i k = max 0 (min (min ((gR rs' i).hi + sF rs' Rgh.hi i - sF rs' Rgh.lo k) ((gR rs' k).hi + sF rs' Rgh.hi k - sF rs' Rgh.lo i)) (min (gR rs' i).hi (gR rs' k).hi)) := rm.symm
  rw [eH]
  have e1 : ((((List.range rs'.length).filter fun j => lvN (ac true rs') j && sbf (ac true rs') i j).map fun j => (gR rs' j).lo)).sum = sF rs' Rgh.lo i := rfl
  have e2 : ((((List.range rs'.length).filter fun j => lvN (ac true rs') j && sbf (ac true rs') i j).map fun j => (gR rs' j).hi)).sum = sF rs' Rgh.hi i := rfl
  have e3 : ((((List.range rs'.length).filter fun j => lvN (ac true rs') j && sbf (ac true rs') k j).map fun j => (gR rs' j).lo)).sum = sF rs' Rgh.lo k := rfl
  have e4 : ((((List.range rs'.length).filter fun j => lvN (ac true rs') j && sbf (ac true rs') k j).map fun j => (gR rs' j).hi)).sum = sF rs' Rgh.hi k := rfl
  rw [e1] at t1
  rw [e2] at t2
  rw [e3] at t3
  rw [e4] at t4
  generalize ((List.range rs'.length).filter fun j => lvN (ac true rs') j && sbf (ac true rs') i j).map nD = F1 at *
  generalize ((List.range rs'.length).filter fun j => lvN (ac true rs') j && sbf (ac true rs') k j).map nD = F2 at *
  obtain ⟨y6, y10, y11, y12, q⟩ := q (.t (.lst F1)) (.t (.lst F2))
  generalize ((List.range 16).map fun w : Nat => lapW (sF rs' Rgh.lo i) (sF rs' Rgh.hi i) (sF rs' Rgh.lo k) (sF rs' Rgh.hi k) (gR rs' i).lo (gR rs' i).hi (gR rs' k).lo (gR rs' k).hi (w : Int)).map D.int = LS at *
  generalize rgLo rs' i k = Z at *
  generalize sF rs' Rgh.lo i = A at *
  generalize sF rs' Rgh.hi i = B at *
  generalize sF rs' Rgh.lo k = P at *
  generalize sF rs' Rgh.hi k = Q at *
  have r1 := rg1_ok (j := 16) (by decide) (by decide)
  have b1 : L2.atI [D.int A, .int B] 0 = some (.int A) := rfl
  have b2 : L2.atI [D.int A, .int B] 1 = some (.int B) := rfl
  have b3 : L2.atI [D.int P, .int Q] 0 = some (.int P) := rfl
  have b4 : L2.atI [D.int P, .int Q] 1 = some (.int Q) := rfl
  refine run_ends (ends_sq (by simp [mPar, a1, a2]; rfl) (ends_sq (by simp [t1, t2]; rfl) (ends_sq (by simp [t3, t4]; rfl) (ends_sq (by simp; rfl) (ends_sq (by simp [r1]; rw [q]) ?_)))))
  refine ends_sq (e2 := [.t (roD rs'), .t (.int (i : Int)), .t (.int (k : Int)), .t (.lst [.int A, .int B]), .t (.lst [.int P, .int Q]), .l (.lst LS), y6, .t (.int (min ((gR rs' i).hi + B - P) ((gR rs' k).hi + Q - A))), .t (.lst F1), .t (.lst F2), y10, y11, y12]) ?_ ?_
  · have mm : (if (gR rs' k).hi + Q - A < (gR rs' i).hi + B - P then (gR rs' k).hi + Q - A else (gR rs' i).hi + B - P) = min ((gR rs' i).hi + B - P) ((gR rs' k).hi + Q - A) := by split <;> omega
    have z1 : ixA (.lst [D.int A, .int B]) (.int 0) = .ok (.int A) := rfl
    have z2 : ixA (.lst [D.int A, .int B]) (.int 1) = .ok (.int B) := rfl
    have z3 : ixA (.lst [D.int P, .int Q]) (.int 0) = .ok (.int P) := rfl
    have z4 : ixA (.lst [D.int P, .int Q]) (.int 1) = .ok (.int Q) := rfl
    simp [-y30, -y32, x1, x2, g1, g2, z1, z2, z3, z4, mm]
  · have mx : ∀ x y z : Int, (if 0 < (if (if z < y then z else y) < x then (if z < y then z else y) else x) then (if (if z < y then z else y) < x then (if z < y then z else y) else x) else 0) = max 0 (min x (min y z)) := fun x y z => by omega
    generalize min ((gR rs' i).hi + B - P) ((gR rs' k).hi + Q - A) = M at *
    exact ends_is (by simp [-y30, -y32, x1, x2, g1, g2, mn]; exact ⟨mx _ _ _, rfl⟩)
theorem both_ok {rs' : List Rgh} (hz : rs'.length ≤ 1000) : m__law_both [roD rs'] = .ok (.tup [.lst (((List.range rs'.length).filter fun i => (gR rs' i).ow).map nD), .lst (((List.range rs'.length).filter fun i => !(gR rs' i).ow).map nD)]) := by
  have c1 := lf1m (i := 2) (t := ct__law_both_1) (m := cm__law_both_1) (env := [.t (roD rs'), .u, .u]) nD (fun i => (gR rs' i).ow) nD (List.range rs'.length) (fun i hi => by
    have x := ix_ro (List.mem_range.mp hi)
    have w := r_w (gR rs' i)
    simp [-y30, -y32, x, w, nD]) (fun i _ _ => ⟨by simp [nD], rfl⟩)
  have c2 := fun x1 : Sl => lf1m (i := 2) (t := ct__law_both_2) (m := cm__law_both_2) (env := [.t (roD rs'), x1, .u]) nD (fun i => !(gR rs' i).ow) nD (List.range rs'.length) (fun i hi => by
    have x := ix_ro (List.mem_range.mp hi)
    have w := r_w (gR rs' i)
    cases q : (gR rs' i).ow <;> simp [-y30, -y32, x, w, nD, q]) (fun i _ _ => ⟨by simp [nD], rfl⟩)
  have h2 : rg1 (rs'.length : Int) = true := rg1_lit _ (by omega)
  have h4 := rangeD_map rs'.length
  generalize ((List.range rs'.length).filter fun i => (gR rs' i).ow).map nD = A at *
  generalize ((List.range rs'.length).filter fun i => !(gR rs' i).ow).map nD = B at *
  generalize (List.range rs'.length).map nD = N at *
  simp only [roD] at c1 c2 ⊢
  refine run_ends (ends_sq (by simp [h2, h4, c1]; rfl) ?_)
  exact ends_is (by simp [h2, h4, c2]; rfl)
end Law
end
section
namespace Law
open PySem PySem.Spec PyProof.Rows L2 Vm
def rg (rs : List Rgh) (b : Bool) (i k : Nat) : Int := if b = true then rgLo rs i k else rgHi rs i k
def bi (rs : List Rgh) : List Nat := (List.range rs.length).filter fun i => (gR rs i).ow
def pi' (rs : List Rgh) : List Nat := (List.range rs.length).filter fun i => !(gR rs i).ow
def r2 (i k : Nat) : List Int := [(i : Int), (k : Int)]
def dueR (rs : List Rgh) (b : Bool) : List (List Int) := (bi rs).flatMap fun i => ((pi' rs).filter fun k => decide (0 < rg rs b i k)).map (r2 i)
theorem filt_true {α : Type} (l : List α) : (l.filter fun _ => true) = l := List.filter_eq_self.mpr fun _ _ => rfl
theorem perm_flat {α β : Type} {f g : α → List β} : ∀ {l : List α}, (∀ a ∈ l, (f a).Perm (g a)) → (l.flatMap f).Perm (l.flatMap g)
  | [], _ => .nil
  | a :: l, h => by
    rw [List.flatMap_cons, List.flatMap_cons]
    exact (h a (.head _)).append (perm_flat fun b hb => h b (.tail _ hb))
theorem ln_range {rs : List Rgh} : (ln (ac true rs)).Perm (List.range rs.length) := by
  have p := ln_perm (ac true rs)
  rw [ac_len, List.filter_eq_self.mpr fun i hi => lv_ac (List.mem_range.mp hi)] at p
  exact p
theorem bs_bi {rs : List Rgh} : (bs (ac true rs)).Perm (bi rs) := by rw [bs_ac]; exact ln_range.filter _
theorem ms_pi {rs : List Rgh} : (ms (ac true rs)).Perm (pi' rs) := by rw [ms_ac]; exact ln_range.filter _
theorem r2_lt {a b c d : Nat} (h : a < c ∨ (a = c ∧ b < d)) : leR (r2 a b) (r2 c d) = true := by
  unfold leR r2
  rw [decide_eq_true_eq, List.cons_le_cons_iff, List.cons_le_cons_iff]
  rcases h with h | ⟨h1, h2⟩
  · exact .inl (by omega)
  · exact .inr ⟨by omega, .inl (by omega)⟩
theorem due_sorted (rs : List Rgh) (b : Bool) : (dueR rs b).Pairwise fun x y => leR x y = true := by
  unfold dueR
  rw [List.pairwise_flatMap]
  refine ⟨fun i _ => ?_, ?_⟩
  · rw [List.pairwise_map]
    exact ((List.Pairwise.filter _ List.pairwise_lt_range).filter _).imp fun h => r2_lt (.inr ⟨rfl, h⟩)
  · refine (List.Pairwise.filter _ List.pairwise_lt_range).imp fun {i j} hij x hx y hy => ?_
    obtain ⟨k, _, rfl⟩ := List.mem_map.mp hx
    obtain ⟨l, _, rfl⟩ := List.mem_map.mp hy
    exact r2_lt (.inl hij)
theorem leR_anti2 {x y : List Int} (h1 : leR x y = true) (h2 : leR y x = true) : x = y := by
  unfold leR at *
  rw [decide_eq_true_eq] at *
  exact List.le_antisymm h1 h2
theorem sort_due (rs : List Rgh) (b : Bool) {xs : List (List Int)} (h : xs.Perm (dueR rs b)) : sortR xs = dueR rs b := by
  refine List.Perm.eq_of_pairwise (le := fun x y => leR x y = true) (fun x y _ _ a c => leR_anti2 a c) (List.pairwise_mergeSort (fun x y z h1 h2 => leR_trans x y z h1 h2) (fun x y => leR_total x y) xs) (due_sorted rs b) ((List.mergeSort_perm _ _).trans h)
abbrev pD2' (p : Nat × Nat) : D := .tup [nD p.1, nD p.2]
theorem pairs_from_ok {rs' : List Rgh} (hz : rs'.length ≤ 60) (b : Bool) : m_pairs_from [roD rs', .int (if b = true then 0 else 1)] = .ok (.lst ((dueR rs' b).map rowD)) := by
  have hz2 : rs'.length ≤ 1000 := by omega
  have lb := bill_ro hz2
  have lp := pay_ro hz2
  have bl : (bs (ac true rs')).length ≤ 60 := by rw [bs_bi.length_eq]; exact Nat.le_trans (List.length_filter_le _ _) (by rw [List.length_range]; exact hz)
  have ml : (ms (ac true rs')).length ≤ 60 := by rw [ms_pi.length_eq]; exact Nat.le_trans (List.length_filter_le _ _) (by rw [List.length_range]; exact hz)
  have c1 := lc22m (i := 3) (j := 4) (m := cm_pairs_from_1) (mi1 := ci_pairs_from_1) (t1 := mYes) (env := [.t (roD rs'), .t (.int (if b = true then 0 else 1)), .u, .u, .u, .u]) nD nD (fun _ => ms (ac true rs')) (fun _ _ => true) (fun i k => pD2' (i, k)) (bs (ac true rs')) (fun i hi => by
    refine ⟨?_, by omega, ?_⟩
    · generalize (ms (ac true rs')).map nD = M at *
      simp only [roD] at lp ⊢
      simp [lp]
    · rw [filt_true]
      exact lc1m (i := 4) (m := cm_pairs_from_1) (env := [.t (roD rs'), .t (.int (if b = true then 0 else 1)), .u, .t (nD i), .u, .u]) nD (fun k => pD2' (i, k)) (ms (ac true rs')) (fun k _ => ⟨by simp [nD], rfl⟩))
  have e1 : ((bs (ac true rs')).flatMap fun i => ((ms (ac true rs')).filter fun _ => true).map fun k => pD2' (i, k)) = ((bs (ac true rs')).flatMap fun i => (ms (ac true rs')).map fun k => (i, k)).map pD2' := by
    rw [List.map_flatMap]
    congr 1
    funext i
    rw [filt_true, List.map_map]
    rfl
  rw [e1] at c1
  have mem : ∀ p ∈ (bs (ac true rs')).flatMap (fun i => (ms (ac true rs')).map fun k => (i, k)), p.1 < rs'.length ∧ p.2 < rs'.length := fun p hp => by
    obtain ⟨i, hi, hp⟩ := List.mem_flatMap.mp hp
    obtain ⟨k, hk, rfl⟩ := List.mem_map.mp hp
    exact ⟨(bs_lt hi).1, (ms_lt hk).1⟩
  have c2 := fun x2 : Sl => lf1m (i := 5) (t := ct_pairs_from_1) (m := cm_pairs_from_2) (env := [.t (roD rs'), .t (.int (if b = true then 0 else 1)), x2, .u, .u, .u]) pD2' (fun p => decide (0 < rg rs' b p.1 p.2)) pD2' ((bs (ac true rs')).flatMap fun i => (ms (ac true rs')).map fun k => (i, k)) (fun p hp => by
    have r := range_of_ok hz2 (mem p hp).1 (mem p hp).2
    have z : ∀ x : Int, decide (1 ≤ x) = decide (0 < x) := fun x => decide_eq_decide.mpr (by omega)
    unfold rg
    cases b <;> simp [nD, r] <;> omega) (fun p _ _ => ⟨by simp, rfl⟩)
  have e2 : ∀ L : List (Nat × Nat), L.map pD2' = (L.map fun p => r2 p.1 p.2).map rowD := fun L => by rw [List.map_map]; rfl
  have pm : ((((bs (ac true rs')).flatMap fun i => (ms (ac true rs')).map fun k => (i, k)).filter fun p => decide (0 < rg rs' b p.1 p.2)).map fun p => r2 p.1 p.2).Perm (dueR rs' b) := by
    rw [List.filter_flatMap, List.map_flatMap]
    unfold dueR
    have f1 : (fun i => (((ms (ac true rs')).map fun k => (i, k)).filter fun p => decide (0 < rg rs' b p.1 p.2)).map fun p => r2 p.1 p.2) = fun i => ((ms (ac true rs')).filter fun k => decide (0 < rg rs' b i k)).map (r2 i) := by
      funext i
      rw [List.filter_map, List.map_map]
      rfl
    rw [f1]
    exact (List.Perm.flatMap_right _ bs_bi).trans (perm_flat fun i _ => (ms_pi.filter _).map _)
  have s1 : sortA (.lst ((((bs (ac true rs')).flatMap fun i => (ms (ac true rs')).map fun k => (i, k)).filter fun p => decide (0 < rg rs' b p.1 p.2)).map pD2')) = .ok (.lst ((dueR rs' b).map rowD)) := by
    have h := sortA_rows (bs := (((bs (ac true rs')).flatMap fun i => (ms (ac true rs')).map fun k => (i, k)).filter fun p => decide (0 < rg rs' b p.1 p.2)).map fun p => r2 p.1 p.2) (fun x hx => by
      obtain ⟨p, _, rfl⟩ := List.mem_map.mp hx
      exact fun z => (nomatch z))
    rw [e2, h, sort_due rs' b pm]
  have ll : ((bs (ac true rs')).flatMap fun i => (ms (ac true rs')).map fun k => (i, k)).length ≤ 3600 := by
    have h : ∀ B : List Nat, (B.flatMap fun i => (ms (ac true rs')).map fun k => (i, k)).length ≤ B.length * 60 := fun B => by
      induction B with
      | nil => simp
      | cons x B ih => rw [List.flatMap_cons, List.length_append, List.length_map, List.length_cons, Nat.succ_mul]; omega
    have := h (bs (ac true rs'))
    omega
  have sz : 100000 ≤ sizeLine := by decide
  have lz : (((bs (ac true rs')).flatMap fun i => (ms (ac true rs')).map fun k => (i, k)).map pD2').length ≤ sizeLine := by rw [List.length_map]; omega
  have bz : ((bs (ac true rs')).map nD).length ≤ 1000 := by rw [List.length_map]; omega
  generalize ((((bs (ac true rs')).flatMap fun i => (ms (ac true rs')).map fun k => (i, k)).filter fun p => decide (0 < rg rs' b p.1 p.2)).map pD2') = FL at *
  generalize (((bs (ac true rs')).flatMap fun i => (ms (ac true rs')).map fun k => (i, k)).map pD2') = PL at *
  generalize (bs (ac true rs')).map nD = BL at *
  generalize (dueR rs' b).map rowD = DL at *
  generalize (D.int (if b = true then 0 else 1)) = P at *
  refine run_ends (ends_sq (by simp [lb, bz, c1, lz]; rfl) ?_)
  exact ends_is (by simp [c2, s1]; rfl)
end Law
end
section
namespace Law
open PySem PySem.Spec PyProof.Rows L2 Vm
theorem sure_ok {rs' : List Rgh} (hz : rs'.length ≤ 60) (hr : ∀ r ∈ rs', 1 ≤ r.lo ∧ r.lo ≤ r.hi) : m_sure_pairs [roD rs'] = .ok (.lst ((dueR rs' true).map rowD)) := by
  have n := need_ro hr
  have p := pairs_from_ok hz true
  simp only [if_true] at p
  refine run_ends (ends_sq (by simp [n]; rfl) ?_)
  exact ends_is (by simp [p]; rfl)
theorem possible_ok {rs' : List Rgh} (hz : rs'.length ≤ 60) (hr : ∀ r ∈ rs', 1 ≤ r.lo ∧ r.lo ≤ r.hi) : m_possible_pairs [roD rs'] = .ok (.lst ((dueR rs' false).map rowD)) := by
  have n := need_ro hr
  have p := pairs_from_ok hz false
  simp only [Bool.false_eq_true, if_false] at p
  refine run_ends (ends_sq (by simp [n]; rfl) ?_)
  exact ends_is (by simp [p]; rfl)
theorem log_ok {x : Int} (h : x.natAbs ≤ 10 ^ 40) : x.natAbs.log2 < 1920 := by
  by_cases h0 : x.natAbs = 0
  · rw [h0]; decide
  · exact Nat.lt_of_lt_of_le ((Nat.log2_lt (k := 200) h0).mpr (Nat.lt_of_le_of_lt h (by decide))) (by decide)
theorem rows_num : ∀ {xs : List (List Int)}, (∀ x ∈ xs, ∃ i k : Nat, x = r2 i k ∧ i ≤ 60 ∧ k ≤ 60) → D.numL 7 (xs.map rowD) = true ∧ D.wtL (xs.map rowD) ≤ 3852 * xs.length
  | [], _ => ⟨rfl, by simp [D.wtL]⟩
  | x :: xs, h => by
    obtain ⟨i, k, rfl, h1, h2⟩ := h x (.head _)
    obtain ⟨a, b⟩ := rows_num fun y hy => h y (.tail _ hy)
    have l1 : i.log2 < 1920 := by simpa using log_ok (x := (i : Int)) (by omega)
    have l2 : k.log2 < 1920 := by simpa using log_ok (x := (k : Int)) (by omega)
    rw [List.map_cons]
    refine ⟨?_, ?_⟩
    · simp only [D.numL, Bool.and_eq_true]
      exact ⟨by simp [rowD, r2, D.num, D.numL, l1, l2], a⟩
    · have e : (rowD (r2 i k)).wt = 3850 := by simp [rowD, r2, D.wt, D.wtL]
      simp only [D.wtL, e, List.length_cons]
      omega
theorem due_mem {rs' : List Rgh} (hz : rs'.length ≤ 60) {b : Bool} : ∀ x ∈ dueR rs' b, ∃ i k : Nat, x = r2 i k ∧ i ≤ 60 ∧ k ≤ 60 := fun x hx => by
  obtain ⟨i, hi, hx⟩ := List.mem_flatMap.mp hx
  obtain ⟨k, hk, rfl⟩ := List.mem_map.mp hx
  have a := List.mem_range.mp (List.mem_filter.mp hi).1
  have c := List.mem_range.mp (List.mem_filter.mp (List.mem_filter.mp hk).1).1
  exact ⟨i, k, rfl, by omega, by omega⟩
theorem bi_len {rs' : List Rgh} : (bi rs').length ≤ rs'.length := Nat.le_trans (List.length_filter_le _ _) (by rw [List.length_range]; exact Nat.le_refl _)
theorem pi_len {rs' : List Rgh} : (pi' rs').length ≤ rs'.length := Nat.le_trans (List.length_filter_le _ _) (by rw [List.length_range]; exact Nat.le_refl _)
theorem flat_len {rs' : List Rgh} (hz : rs'.length ≤ 60) (b : Bool) : ∀ B : List Nat, (B.flatMap fun i => ((pi' rs').filter fun k => decide (0 < rg rs' b i k)).map (r2 i)).length ≤ B.length * 60
  | [] => by simp
  | x :: B => by
    have a := flat_len hz b B
    have c := List.length_filter_le (fun k => decide (0 < rg rs' b x k)) (pi' rs')
    have d := pi_len (rs' := rs')
    rw [List.flatMap_cons, List.length_append, List.length_map, List.length_cons, Nat.succ_mul]
    omega
theorem due_len {rs' : List Rgh} (hz : rs'.length ≤ 60) (b : Bool) : (dueR rs' b).length ≤ 3600 := by
  have a := flat_len hz b (bi rs')
  have c := bi_len (rs' := rs')
  unfold dueR
  omega
theorem same_due {rs' : List Rgh} (hz : rs'.length ≤ 60) (b : Bool) : m__law_same [.lst ((dueR rs' b).map rowD), .lst ((dueR rs' b).map rowD)] = .ok (.bl true) := by
  obtain ⟨a, c⟩ := rows_num (due_mem hz (b := b))
  have l := due_len hz b
  refine same_ok (by simp only [D.num]; exact a) ?_ (fun _ => rfl) (fun _ => rfl) rfl
  rw [sizeLine_eq]
  simp only [D.wt]
  have : 3852 * (dueR rs' b).length ≤ 3852 * 3600 := Nat.mul_le_mul_left _ l
  omega
theorem lists_loop {rs' : List Rgh} (hz : rs'.length ≤ 60) (hr : ∀ r ∈ rs', 1 ≤ r.lo ∧ r.lo ≤ r.hi) (b : Bool) {p x5 : Sl} : ∀ (R P : List Nat) (x4 : Sl), P ++ R = bi rs' → np x4 = true →
    ∃ e, forL (gmN 4) lb__law_lists_right_1 (R.map nD) [.t (roD rs'), p, .t (.int (if b = true then 0 else 1)), .t (.lst ((P.flatMap fun i => ((pi' rs').filter fun k => decide (0 < rg rs' b i k)).map (r2 i)).map rowD)), x4, x5, .t (.lst ((pi' rs').map nD)), .u] =
      .ok (.next, [.t (roD rs'), p, .t (.int (if b = true then 0 else 1)), .t (.lst ((dueR rs' b).map rowD)), e, x5, .t (.lst ((pi' rs').map nD)), .u])
  | [], P, x4, hP, h4 => ⟨x4, by rw [List.append_nil] at hP; subst hP; rfl⟩
  | i :: R, P, x4, hP, h4 => by
    have hi : i < rs'.length := List.mem_range.mp (List.mem_filter.mp (show i ∈ bi rs' by rw [← hP]; simp)).1
    obtain ⟨e, he⟩ := lists_loop hz hr b (p := p) (x5 := x5) R (P ++ [i]) (.t (.int i)) (by rw [← hP]; simp) rfl
    refine ⟨e, ?_⟩
    rw [List.map_cons]
    have c := fun x3 : Sl => lf1m (i := 7) (t := ct__law_lists_right_1) (m := cm__law_lists_right_1) (env := [.t (roD rs'), p, .t (.int (if b = true then 0 else 1)), x3, .t (.int i), x5, .t (.lst ((pi' rs').map nD)), .u]) nD (fun k => decide (0 < rg rs' b i k)) (fun k => rowD (r2 i k)) (pi' rs') (fun k hk => by
      have r := far_ok (by omega) hr hi (List.mem_range.mp (List.mem_filter.mp hk).1)
      unfold rg
      cases b <;> simp [nD, r]) (fun k _ _ => ⟨by simp [nD, rowD, r2], rfl⟩)
    have e1 : ∀ L : List Nat, L.map (fun k => rowD (r2 i k)) = (L.map (r2 i)).map rowD := fun L => by rw [List.map_map]; rfl
    have l0 := flat_len hz b P
    have pl : P.length ≤ 60 := by
      have := congrArg List.length hP
      have := bi_len (rs' := rs')
      rw [List.length_append] at *
      omega
    have l1 := List.length_filter_le (fun k => decide (0 < rg rs' b i k)) (pi' rs')
    have l2 := pi_len (rs' := rs')
    rw [List.flatMap_append, List.map_append, List.flatMap_cons, List.flatMap_nil, List.append_nil] at he
    have ls : ((P.flatMap fun i => ((pi' rs').filter fun k => decide (0 < rg rs' b i k)).map (r2 i)).map rowD).length + ((((pi' rs').filter fun k => decide (0 < rg rs' b i k)).map (r2 i)).map rowD).length ≤ 1000000 := by
      rw [List.length_map, List.length_map, List.length_map]; omega
    have c := fun x3 => e1 _ ▸ c x3
    generalize (P.flatMap fun i => ((pi' rs').filter fun k => decide (0 < rg rs' b i k)).map (r2 i)).map rowD = A at *
    generalize (((pi' rs').filter fun k => decide (0 < rg rs' b i k)).map (r2 i)).map rowD = B at *
    generalize (dueR rs' b).map rowD = DL at *
    generalize (pi' rs').map nD = PL at *
    generalize (D.int (if b = true then 0 else 1)) = V at *
    unfold forL
    have g : gmN 4 (nD i) [.t (roD rs'), p, .t V, .t (.lst A), x4, x5, .t (.lst PL), .u] = .ok [.t (roD rs'), p, .t V, .t (.lst A), .t (.int i), x5, .t (.lst PL), .u] := by simp [h4, nD]
    have st : lb__law_lists_right_1 [.t (roD rs'), p, .t V, .t (.lst A), .t (.int i), x5, .t (.lst PL), .u] = .ok (.next, [.t (roD rs'), p, .t V, .t (.lst (A ++ B)), .t (.int i), x5, .t (.lst PL), .u]) := by
      simp [c, ls]
    rw [g]
    simp only [noE_ok, y1, st]
    exact he
theorem lists_ok {rs' : List Rgh} (hz : rs'.length ≤ 60) (hr : ∀ r ∈ rs', 1 ≤ r.lo ∧ r.lo ≤ r.hi) (b : Bool) : m__law_lists_right [roD rs', .lst ((dueR rs' b).map rowD), .int (if b = true then 0 else 1)] = .ok (.bl true) := by
  have h := both_ok (rs' := rs') (by omega)
  have s := same_due hz b
  obtain ⟨e, q⟩ := lists_loop hz hr b (p := .t (.lst ((dueR rs' b).map rowD))) (x5 := .t (.lst ((bi rs').map nD))) (bi rs') [] .u rfl rfl
  have h : m__law_both [roD rs'] = .ok (.tup [.lst ((bi rs').map nD), .lst ((pi' rs').map nD)]) := h
  rw [List.flatMap_nil, List.map_nil] at q
  generalize (dueR rs' b).map rowD = DL at *
  generalize (pi' rs').map nD = PL at *
  generalize (bi rs').map nD = BL at *
  generalize (D.int (if b = true then 0 else 1)) = V at *
  refine run_ends (ends_sq (by simp [h]; rfl) (ends_sq (by simp; rfl) (ends_sq (by simp [q]; rfl) ?_)))
  exact ends_is (by simp [s]; rfl)
end Law
end
section
namespace Law
open PySem PySem.Spec PyProof.Rows L2 Vm
theorem bi_mem {rs' : List Rgh} {i : Nat} (h : i ∈ bi rs') : i < rs'.length ∧ (gR rs' i).ow = true := ⟨List.mem_range.mp (List.mem_filter.mp h).1, (List.mem_filter.mp h).2⟩
theorem pi_mem {rs' : List Rgh} {i : Nat} (h : i ∈ pi' rs') : i < rs'.length ∧ (gR rs' i).ow = false := ⟨List.mem_range.mp (List.mem_filter.mp h).1, by simpa using (List.mem_filter.mp h).2⟩
theorem rg_logs {rs' : List Rgh} (hr : ∀ r ∈ rs', Dr r) {i k : Nat} (hi : i < rs'.length) (hk : k < rs'.length) : (rgLo rs' i k).natAbs.log2 < 1920 ∧ (rgHi rs' i k).natAbs.log2 < 1920 := by
  obtain ⟨a1, a2, a3, _⟩ := hr _ (gR_mem hi)
  have b : ∀ s d m : Int, 0 ≤ d → 0 ≤ lapS s d m ∧ lapS s d m ≤ d := fun s d m h => by unfold lapS; omega
  constructor
  · refine log_ok ?_
    unfold rgLo
    have x := b (sF rs' Rgh.lo k - sF rs' Rgh.hi i) (gR rs' i).lo (gR rs' k).lo (by omega)
    have y := b (sF rs' Rgh.hi k - sF rs' Rgh.lo i) (gR rs' i).lo (gR rs' k).lo (by omega)
    omega
  · refine log_ok ?_
    unfold rgHi
    have x := b (nearS (sF rs' Rgh.lo k - sF rs' Rgh.hi i) (sF rs' Rgh.hi k - sF rs' Rgh.lo i)) (gR rs' i).hi (gR rs' k).hi (by omega)
    omega
theorem pick_at {n : Int} {s : D} {L : List Nat} (hn : n < 900000) (J : Jar n s) (h0 : L ≠ []) (hl : L.length ≤ 60) : ∃ (o : Int) (i : Nat) (s' : D), m__law_pick s [.int (L.length : Int)] = .ok (.int o, s') ∧ L2.atI (L.map nD) o = some (.int (i : Int)) ∧ i ∈ L ∧ Jar (n + 1) s' := by
  have hp : 0 < L.length := List.length_pos_iff.mpr h0
  obtain ⟨o, s', p, o0, o1, j⟩ := pick_ok (u := (L.length : Int)) (by omega) J (by omega) (by omega)
  have ho : o.toNat < L.length := by omega
  refine ⟨o, L[o.toNat], s', p, ?_, List.getElem_mem ho, j⟩
  have := atI_nat (L.map nD) o.toNat (by rw [List.length_map]; exact ho)
  rw [Int.toNat_of_nonneg o0, List.getElem_map] at this
  exact this
theorem turn_step {n : Int} {s : D} {rs' : List Rgh} (hn : n < 800000) (J : Jar n s) (hz : rs'.length ≤ 60) (hr : ∀ r ∈ rs', Dr r) (hb : bi rs' ≠ []) (hp : pi' rs' ≠ []) {x0 x1 x2 x4 x8 x9 x10 : Sl} (n9 : np x9 = true) (n10 : np x10 = true) :
    ∃ s' y9 y10, np y9 = true ∧ np y10 = true ∧ Jar (n + 2) s' ∧ lb_law_1 [x0, x1, x2, .l s, x4, .t (roD rs'), .t (.lst ((bi rs').map nD)), .t (.lst ((pi' rs').map nD)), x8, x9, x10] =
      .ok (.next, [x0, x1, x2, .l s', x4, .t (roD rs'), .t (.lst ((bi rs').map nD)), .t (.lst ((pi' rs').map nD)), x8, y9, y10]) := by
  have l1 := bi_len (rs' := rs')
  have l2 := pi_len (rs' := rs')
  obtain ⟨o, i, s1, p1, a1, mi, j1⟩ := pick_at (by omega) J hb (by omega)
  obtain ⟨q, k, s2, p2, a2, mk, j2⟩ := pick_at (by omega) j1 hp (by omega)
  obtain ⟨i1, i2⟩ := bi_mem mi
  obtain ⟨k1, k2⟩ := pi_mem mk
  have hr2 : ∀ r ∈ rs', 1 ≤ r.lo ∧ r.lo ≤ r.hi := fun r h => ⟨(hr r h).1, (hr r h).2.1⟩
  have r1 := pair_range_ok (by omega) hr2 i1 k1 i2 k2
  have f1 := far_ok (by omega) hr2 i1 k1
  obtain ⟨g1, g2⟩ := rg_logs hr i1 k1
  have sm := same_two g1 g2
  have e1 : ((bi rs').map nD).length = (bi rs').length := List.length_map _
  have e2 : ((pi' rs').map nD).length = (pi' rs').length := List.length_map _
  rw [← e1] at p1
  rw [← e2] at p2
  refine ⟨s2, .t (.int (i : Int)), .t (.int (k : Int)), rfl, rfl, j2.mono (by omega), ?_⟩
  clear e1 e2
  generalize (bi rs').map nD = B at *
  generalize (pi' rs').map nD = P at *
  generalize rgLo rs' i k = U at *
  generalize rgHi rs' i k = W at *
  refine sq_ok (e2 := [x0, x1, x2, .l s2, x4, .t (roD rs'), .t (.lst B), .t (.lst P), x8, .t (.int (i : Int)), .t (.int (k : Int))]) (by simp [mPar, p1, p2, a1, a2, n9, n10]) ?_
  simp [r1, f1, sm]
theorem turns {n : Int} {s : D} {rs' : List Rgh} (hn : n < 700000) (J : Jar n s) (hz : rs'.length ≤ 60) (hr : ∀ r ∈ rs', Dr r) (hb : bi rs' ≠ []) (hp : pi' rs' ≠ []) {x0 x1 x2 x4 x8 x9 x10 : Sl} (n8 : np x8 = true) (n9 : np x9 = true) (n10 : np x10 = true) :
    ∃ s' y8 y9 y10, np y8 = true ∧ np y9 = true ∧ np y10 = true ∧ Jar (n + 24) s' ∧ forL (gmN 8) lb_law_1 (rangeD 0 12) [x0, x1, x2, .l s, x4, .t (roD rs'), .t (.lst ((bi rs').map nD)), .t (.lst ((pi' rs').map nD)), x8, x9, x10] =
      .ok (.next, [x0, x1, x2, .l s', x4, .t (roD rs'), .t (.lst ((bi rs').map nD)), .t (.lst ((pi' rs').map nD)), y8, y9, y10]) := by
  obtain ⟨e', q, s', y8, y9, y10, rfl, m8, m9, m10, j⟩ := forL_inv (gv := gmN 8) (b := lb_law_1)
    (fun i e => ∃ (s' : D) (y8 y9 y10 : Sl), e = [x0, x1, x2, .l s', x4, .t (roD rs'), .t (.lst ((bi rs').map nD)), .t (.lst ((pi' rs').map nD)), y8, y9, y10] ∧ np y8 = true ∧ np y9 = true ∧ np y10 = true ∧ Jar (n + 2 * i) s')
    (rangeD 0 12) [x0, x1, x2, .l s, x4, .t (roD rs'), .t (.lst ((bi rs').map nD)), .t (.lst ((pi' rs').map nD)), x8, x9, x10] 0 ⟨s, x8, x9, x10, rfl, n8, n9, n10, J.mono (by omega)⟩ (fun i d e hi ⟨s', y8, y9, y10, he, m8, m9, m10, j⟩ => by
      subst he
      have hl := (List.getElem?_eq_some_iff.mp hi).1
      rw [rangeD_length] at hl
      rw [range_get hl] at hi
      cases hi
      rw [Nat.zero_add] at j
      obtain ⟨s2, z9, z10, k9, k10, j2, b⟩ := turn_step (by omega) j hz hr hb hp (x0 := x0) (x1 := x1) (x2 := x2) (x4 := x4) (x8 := .t (.int (i : Int))) m9 m10
      exact ⟨_, _, by simp [m8], .inl b, s2, .t (.int (i : Int)), z9, z10, rfl, rfl, k9, k10, j2.mono (by omega)⟩)
  rw [rangeD_length] at j
  exact ⟨s', y8, y9, y10, m8, m9, m10, j.mono (by omega), q⟩
theorem one_cell {c : Int} {d : D} {x1 x3 x4 x5 x6 x7 x8 x9 x10 : Sl} (n3 : np x3 = true) (n4 : np x4 = true) (n5 : np x5 = true) (n6 : np x6 = true) (n7 : np x7 = true) (n8 : np x8 = true) (n9 : np x9 = true) (n10 : np x10 = true) :
    ∃ y3 y4 y5 y6 y7 y8 y9 y10, np y3 = true ∧ np y4 = true ∧ np y5 = true ∧ np y6 = true ∧ np y7 = true ∧ np y8 = true ∧ np y9 = true ∧ np y10 = true ∧
      lb_law_2 [.t d, x1, .t (.int c), x3, x4, x5, x6, x7, x8, x9, x10] = .ok (.next, [.t d, x1, .t (.int c), y3, y4, y5, y6, y7, y8, y9, y10]) := by
  obtain ⟨s0, p0, j0⟩ := draws_ok c
  obtain ⟨a, s1, p1, a0, a1, j1⟩ := pick_ok (u := 4) (by omega) j0 (by decide) (by decide)
  obtain ⟨size, hs, sp0, sp1⟩ : ∃ many : Int, L2.atI [D.int 8, .int 8, .int 16, .int 40] a = some (.int many) ∧ 0 < many ∧ many ≤ 60 := by
    rcases (by omega : a = 0 ∨ a = 1 ∨ a = 2 ∨ a = 3) with rfl | rfl | rfl | rfl <;> exact ⟨_, rfl, by decide, by decide⟩
  obtain ⟨rs', s2, p2, j2, hz, hr⟩ := a_rough_ok (many := size) (by omega) j1 sp0 sp1
  have hr2 : ∀ r ∈ rs', 1 ≤ r.lo ∧ r.lo ≤ r.hi := fun r h => ⟨(hr r h).1, (hr r h).2.1⟩
  have hb : m__law_both [roD rs'] = .ok (.tup [.lst ((bi rs').map nD), .lst ((pi' rs').map nD)]) := both_ok (by omega)
  have nb := nats_ne (bi rs')
  have np' := nats_ne (pi' rs')
  have kR : kp (roD rs') = .ok (roD rs') := rfl
  have rng : rg1 12 = true := rg1_ok (by decide) (by decide)
  -- the turns
  have t : ∃ s3 y8 y9 y10, np y8 = true ∧ np y9 = true ∧ np y10 = true ∧ Jar (0 + 1 + 800 + 24) s3 ∧
      mIfS (mAndT (mTru (mBin neD (mVar 6) (mLst mNil))) (mTru (mBin neD (mVar 7) (mLst mNil)))) (mFor (mRng1 (mCons (mK (.int 12)) mNil)) (gmN 8) lb_law_1) mSk [.t d, x1, .t (.int c), .l s2, .t (.int size), .t (roD rs'), .t (.lst ((bi rs').map nD)), .t (.lst ((pi' rs').map nD)), x8, x9, x10] =
        .ok (.next, [.t d, x1, .t (.int c), .l s3, .t (.int size), .t (roD rs'), .t (.lst ((bi rs').map nD)), .t (.lst ((pi' rs').map nD)), y8, y9, y10]) := by
    by_cases h1 : bi rs' = []
    · refine ⟨s2, x8, x9, x10, n8, n9, n10, j2.mono (by omega), ?_⟩
      rw [h1] at nb
      simp at nb
      simp [h1, nb]
    · by_cases h2 : pi' rs' = []
      · refine ⟨s2, x8, x9, x10, n8, n9, n10, j2.mono (by omega), ?_⟩
        rw [h2] at np'
        have e1 : (bi rs').isEmpty = false := by cases q : bi rs' <;> first | exact absurd q h1 | rfl
        rw [e1] at nb
        generalize (bi rs').map nD = B at *
        simp at nb np'
        simp [h2, nb, np']
      · obtain ⟨s3, y8, y9, y10, m8, m9, m10, j3, q⟩ := turns (by omega) j2 hz hr h1 h2 (x0 := .t d) (x1 := x1) (x2 := .t (.int c)) (x4 := .t (.int size)) n8 n9 n10
        refine ⟨s3, y8, y9, y10, m8, m9, m10, j3.mono (by omega), ?_⟩
        have e1 : (bi rs').isEmpty = false := by cases q : bi rs' <;> first | exact absurd q h1 | rfl
        have e2 : (pi' rs').isEmpty = false := by cases q : pi' rs' <;> first | exact absurd q h2 | rfl
        rw [e1] at nb
        rw [e2] at np'
        generalize (bi rs').map nD = B at *
        generalize (pi' rs').map nD = P at *
        simp at nb np'
        simp [nb, np', rng, q]
  obtain ⟨s3, y8, y9, y10, m8, m9, m10, j3, t⟩ := t
  have su := sure_ok hz hr2
  have po := possible_ok hz hr2
  have lt := lists_ok hz hr2 true
  have lf := lists_ok hz hr2 false
  simp only [if_true, Bool.false_eq_true, if_false] at lt lf
  generalize (dueR rs' true).map rowD = D1 at *
  generalize (dueR rs' false).map rowD = D2 at *
  generalize (bi rs').map nD = B at *
  generalize (pi' rs').map nD = P at *
  obtain ⟨e, s4, p4, _, _, j4⟩ := pick_ok (u := 4) (by omega) j3 (by decide) (by decide)
  have fin : ∃ s5, mIfS (mOrT (mTru (mBin ltD (mVar 4) (mK (.int 17)))) (mTru (mBin eqD (mCallJ 2 m__law_pick (mCons (mVar 3) (mCons (mK (.int 4)) mNil))) (mK (.int 0))))) (mSq (mIfS (mNotT (mTru (mCall 3 m__law_lists_right (mCons (mVar 5) (mCons (mCall 1 m_sure_pairs (mCons (mVar 5) mNil)) (mCons (mK (.int 0)) mNil)))))) (mRet (mK (.bl false))) mSk)
    (mIfS (mNotT (mTru (mCall 3 m__law_lists_right (mCons (mVar 5) (mCons (mCall 1 m_possible_pairs (mCons (mVar 5) mNil)) (mCons (mK (.int 1)) mNil)))))) (mRet (mK (.bl false))) mSk)) mSk [.t d, x1, .t (.int c), .l s3, .t (.int size), .t (roD rs'), .t (.lst B), .t (.lst P), y8, y9, y10] = .ok (.next, [.t d, x1, .t (.int c), .l s5, .t (.int size), .t (roD rs'), .t (.lst B), .t (.lst P), y8, y9, y10]) := by
    by_cases h1 : size < 17
    · exact ⟨s3, by simp [h1, su, po, lt, lf]⟩
    · by_cases h2 : e = 0
      · exact ⟨s4, by simp [h1, p4, h2, su, po, lt, lf]⟩
      · exact ⟨s4, by simp [h1, p4, h2]⟩
  obtain ⟨s5, fin⟩ := fin
  refine ⟨.l s5, .t (.int size), .t (roD rs'), .t (.lst B), .t (.lst P), y8, y9, y10, rfl, rfl, rfl, rfl, rfl, m8, m9, m10, ?_⟩
  refine sq_ok (e2 := [.t d, x1, .t (.int c), .l s0, x4, x5, x6, x7, x8, x9, x10]) (by simp [p0, n3]) ?_
  refine sq_ok (e2 := [.t d, x1, .t (.int c), .l s1, .t (.int size), x5, x6, x7, x8, x9, x10]) (by simp [p1, hs, n4]) ?_
  refine sq_ok (e2 := [.t d, x1, .t (.int c), .l s2, .t (.int size), .t (roD rs'), x6, x7, x8, x9, x10]) (by simp [p2, kR, n5]) ?_
  refine sq_ok (e2 := [.t d, x1, .t (.int c), .l s2, .t (.int size), .t (roD rs'), .t (.lst B), .t (.lst P), x8, x9, x10]) (by simp [hb, n6, n7]) ?_
  refine sq_ok t ?_
  exact fin
theorem cells {d : D} {x1 : Sl} : ∀ (cs : List Int) (x2 x3 x4 x5 x6 x7 x8 x9 x10 : Sl), np x2 = true → np x3 = true → np x4 = true → np x5 = true → np x6 = true → np x7 = true → np x8 = true → np x9 = true → np x10 = true →
    ∃ e2, forL (gmN 2) lb_law_2 (cs.map D.int) [.t d, x1, x2, x3, x4, x5, x6, x7, x8, x9, x10] = .ok (.next, e2)
  | [], _, _, _, _, _, _, _, _, _, _, _, _, _, _, _, _, _, _ => ⟨_, rfl⟩
  | c :: cs, x2, x3, x4, x5, x6, x7, x8, x9, x10, n2, n3, n4, n5, n6, n7, n8, n9, n10 => by
    obtain ⟨y3, y4, y5, y6, y7, y8, y9, y10, m3, m4, m5, m6, m7, m8, m9, m10, b⟩ := one_cell (c := c) (d := d) (x1 := x1) n3 n4 n5 n6 n7 n8 n9 n10
    obtain ⟨e2, q⟩ := cells (d := d) (x1 := x1) cs (.t (.int c)) y3 y4 y5 y6 y7 y8 y9 y10 rfl m3 m4 m5 m6 m7 m8 m9 m10
    refine ⟨e2, ?_⟩
    rw [List.map_cons]
    unfold forL
    have g : gmN 2 (.int c) [.t d, x1, x2, x3, x4, x5, x6, x7, x8, x9, x10] = .ok [.t d, x1, .t (.int c), x3, x4, x5, x6, x7, x8, x9, x10] := by simp [n2]
    rw [g]
    simp only [noE_ok, y1, b]
    exact q
theorem law_true (ns : List Int) (h : ns.length ≤ 63) (d : D) (hd : d = .scr ns ∨ d = .lst (ns.map D.int)) : m_law [d] = .ok (.bl true) := by
  have hc : cutD (ns.map D.int) none (some 6) = (ns.take 6).map D.int := by
    rw [show (some 6 : Option Int) = some ((6 : Nat) : Int) from rfl, cut_head, List.map_take]
  let G : Int := 91747800983153295125247591601803511653906508055544150495268947522554118250
  obtain ⟨e2, q⟩ := cells (d := d) (x1 := .t (.int G)) (G :: ns.take 6) .u .u .u .u .u .u .u .u .u rfl rfl rfl rfl rfl rfl rfl rfl rfl
  have hz : 1 + min 6 ns.length ≤ 1000000 := by omega
  rcases hd with rfl | rfl
  · refine run_ends (ends_sq (by simp; rfl) ?_)
    refine ends_sq (by simp [hc, hz]; simp [G] at q; rw [q]) ?_
    exact ends_is (by simp; rfl)
  · refine run_ends (ends_sq (by simp; rfl) ?_)
    refine ends_sq (by simp [hc, hz]; simp [G] at q; rw [q]) ?_
    exact ends_is (by simp; rfl)
end Law
end
section
set_option maxRecDepth 100000
set_option maxHeartbeats 4000000
namespace Law
open PySem PySem.Spec PyProof.Rows L2 Vm
def topS (i : Nat) : Stmt := PySem.Challenge.pw_oldestbills_k32_pairs_of_great_sums.main.body.getD i (.Pass ⟨0, 0, 0, 0⟩)
abbrev s__law_draws : Stmt := topS 30
abbrev N__law_draws : List Str := ["cell"]
theorem sc__law_draws : FnScope N__law_draws ["cell"] (defScope s__law_draws) := ⟨rfl, rfl, rfl, by decide +kernel, rfl, by decide +kernel, by decide +kernel⟩
abbrev s__law_pick : Stmt := topS 31
abbrev N__law_pick : List Str := ["stock", "upto", "turn", "stir", "digit"]
theorem sc__law_pick : FnScope N__law_pick ["stock", "upto"] (defScope s__law_pick) := ⟨rfl, rfl, rfl, by decide +kernel, rfl, by decide +kernel, by decide +kernel⟩
abbrev s__law_wide : Stmt := topS 32
abbrev N__law_wide : List Str := ["stock", "upto", "whole", "turn"]
theorem sc__law_wide : FnScope N__law_wide ["stock", "upto"] (defScope s__law_wide) := ⟨rfl, rfl, rfl, by decide +kernel, rfl, by decide +kernel, by decide +kernel⟩
abbrev s__law_rough_of : Stmt := topS 35
abbrev N__law_rough_of : List Str := ["stock", "count", "span", "top", "width", "found", "turn", "word", "least"]
theorem sc__law_rough_of : FnScope N__law_rough_of ["stock", "count", "span", "top", "width"] (defScope s__law_rough_of) := ⟨rfl, rfl, rfl, by decide +kernel, rfl, by decide +kernel, by decide +kernel⟩
abbrev s__law_one_sided : Stmt := topS 36
abbrev N__law_one_sided : List Str := ["stock", "rows", "often", "way", "one"]
theorem sc__law_one_sided : FnScope N__law_one_sided ["stock", "rows", "often"] (defScope s__law_one_sided) := ⟨rfl, rfl, rfl, by decide +kernel, rfl, by decide +kernel, by decide +kernel⟩
abbrev s__law_a_rough : Stmt := topS 37
abbrev N__law_a_rough : List Str := ["stock", "many", "span", "top", "width", "found"]
theorem sc__law_a_rough : FnScope N__law_a_rough ["stock", "many"] (defScope s__law_a_rough) := ⟨rfl, rfl, rfl, by decide +kernel, rfl, by decide +kernel, by decide +kernel⟩
abbrev s__law_both : Stmt := topS 39
abbrev N__law_both : List Str := ["rough_here", "debts", "at"]
theorem sc__law_both : FnScope N__law_both ["rough_here"] (defScope s__law_both) := ⟨rfl, rfl, rfl, by decide +kernel, rfl, by decide +kernel, by decide +kernel⟩
abbrev s__law_same : Stmt := topS 33
abbrev N__law_same : List Str := ["back", "due"]
theorem sc__law_same : FnScope N__law_same ["back", "due"] (defScope s__law_same) := ⟨rfl, rfl, rfl, by decide +kernel, rfl, by decide +kernel, by decide +kernel⟩
abbrev s__law_older : Stmt := topS 34
abbrev N__law_older : List Str := ["jar", "at", "far"]
theorem sc__law_older : FnScope N__law_older ["jar", "at", "far"] (defScope s__law_older) := ⟨rfl, rfl, rfl, by decide +kernel, rfl, by decide +kernel, by decide +kernel⟩
abbrev s__law_ahead : Stmt := topS 38
abbrev N__law_ahead : List Str := ["rough_here", "at", "spots", "far"]
theorem sc__law_ahead : FnScope N__law_ahead ["rough_here", "at"] (defScope s__law_ahead) := ⟨rfl, rfl, rfl, by decide +kernel, rfl, by decide +kernel, by decide +kernel⟩
abbrev s__law_total : Stmt := topS 40
abbrev N__law_total : List Str := ["vague", "spots", "place", "at"]
theorem sc__law_total : FnScope N__law_total ["vague", "spots", "place"] (defScope s__law_total) := ⟨rfl, rfl, rfl, by decide +kernel, rfl, by decide +kernel, by decide +kernel⟩
abbrev s__law_far_range : Stmt := topS 41
abbrev N__law_far_range : List Str := ["vague", "debt", "coin", "begins", "others", "laps", "way", "room", "elder", "elder_coins", "end", "begin", "other"]
theorem sc__law_far_range : FnScope N__law_far_range ["vague", "debt", "coin"] (defScope s__law_far_range) := ⟨rfl, rfl, rfl, by decide +kernel, rfl, by decide +kernel, by decide +kernel⟩
abbrev s__law_lists_right : Stmt := topS 42
abbrev N__law_lists_right : List Str := ["vague", "pairs", "place", "due", "debt", "debts", "coins", "coin"]
theorem sc__law_lists_right : FnScope N__law_lists_right ["vague", "pairs", "place"] (defScope s__law_lists_right) := ⟨rfl, rfl, rfl, by decide +kernel, rfl, by decide +kernel, by decide +kernel⟩
abbrev s_has_word : Stmt := topS 8
abbrev N_has_word : List Str := ["value", "words"]
theorem sc_has_word : FnScope N_has_word ["value", "words"] (defScope s_has_word) := ⟨rfl, rfl, rfl, by decide +kernel, rfl, by decide +kernel, by decide +kernel⟩
abbrev s_is_integer : Stmt := topS 7
abbrev N_is_integer : List Str := ["value"]
theorem sc_is_integer : FnScope N_is_integer ["value"] (defScope s_is_integer) := ⟨rfl, rfl, rfl, by decide +kernel, rfl, by decide +kernel, by decide +kernel⟩
abbrev s_is_rough_entry : Stmt := topS 16
abbrev N_is_rough_entry : List Str := ["value", "part"]
theorem sc_is_rough_entry : FnScope N_is_rough_entry ["value"] (defScope s_is_rough_entry) := ⟨rfl, rfl, rfl, by decide +kernel, rfl, by decide +kernel, by decide +kernel⟩
abbrev s_is_rough : Stmt := topS 17
abbrev N_is_rough : List Str := ["value", "entry"]
theorem sc_is_rough : FnScope N_is_rough ["value"] (defScope s_is_rough) := ⟨rfl, rfl, rfl, by decide +kernel, rfl, by decide +kernel, by decide +kernel⟩
abbrev s_need_rough : Stmt := topS 18
abbrev N_need_rough : List Str := ["value"]
theorem sc_need_rough : FnScope N_need_rough ["value"] (defScope s_need_rough) := ⟨rfl, rfl, rfl, by decide +kernel, rfl, by decide +kernel, by decide +kernel⟩
abbrev s_line_of : Stmt := topS 12
abbrev N_line_of : List Str := ["account", "indexes", "at"]
theorem sc_line_of : FnScope N_line_of ["account"] (defScope s_line_of) := ⟨rfl, rfl, rfl, by decide +kernel, rfl, by decide +kernel, by decide +kernel⟩
abbrev s_bill_line : Stmt := topS 13
abbrev N_bill_line : List Str := ["account", "at"]
theorem sc_bill_line : FnScope N_bill_line ["account"] (defScope s_bill_line) := ⟨rfl, rfl, rfl, by decide +kernel, rfl, by decide +kernel, by decide +kernel⟩
abbrev s_payment_line : Stmt := topS 14
abbrev N_payment_line : List Str := ["account", "at"]
theorem sc_payment_line : FnScope N_payment_line ["account"] (defScope s_payment_line) := ⟨rfl, rfl, rfl, by decide +kernel, rfl, by decide +kernel, by decide +kernel⟩
abbrev s_bounds_of : Stmt := topS 20
abbrev N_bounds_of : List Str := ["rough", "indexes", "at"]
theorem sc_bounds_of : FnScope N_bounds_of ["rough", "indexes"] (defScope s_bounds_of) := ⟨rfl, rfl, rfl, by decide +kernel, rfl, by decide +kernel, by decide +kernel⟩
abbrev s_older_than : Stmt := topS 19
abbrev N_older_than : List Str := ["rough", "index", "along"]
theorem sc_older_than : FnScope N_older_than ["rough", "index"] (defScope s_older_than) := ⟨rfl, rfl, rfl, by decide +kernel, rfl, by decide +kernel, by decide +kernel⟩
abbrev s_shift_bounds : Stmt := topS 21
abbrev N_shift_bounds : List Str := ["rough", "bill", "payment", "low", "high", "low_paid", "high_paid"]
theorem sc_shift_bounds : FnScope N_shift_bounds ["rough", "bill", "payment"] (defScope s_shift_bounds) := ⟨rfl, rfl, rfl, by decide +kernel, rfl, by decide +kernel, by decide +kernel⟩
abbrev s_overlap : Stmt := topS 22
abbrev N_overlap : List Str := ["shift", "debt", "money"]
theorem sc_overlap : FnScope N_overlap ["shift", "debt", "money"] (defScope s_overlap) := ⟨rfl, rfl, rfl, by decide +kernel, rfl, by decide +kernel, by decide +kernel⟩
abbrev s_nearest_shift : Stmt := topS 23
abbrev N_nearest_shift : List Str := ["bounds"]
theorem sc_nearest_shift : FnScope N_nearest_shift ["bounds"] (defScope s_nearest_shift) := ⟨rfl, rfl, rfl, by decide +kernel, rfl, by decide +kernel, by decide +kernel⟩
abbrev s_range_of : Stmt := topS 24
abbrev N_range_of : List Str := ["rough", "bill", "payment", "bounds", "least", "debt", "money", "shift"]
theorem sc_range_of : FnScope N_range_of ["rough", "bill", "payment"] (defScope s_range_of) := ⟨rfl, rfl, rfl, by decide +kernel, rfl, by decide +kernel, by decide +kernel⟩
abbrev s_pairs_from : Stmt := topS 26
abbrev N_pairs_from : List Str := ["rough", "place", "pairs", "debt", "money", "pair"]
theorem sc_pairs_from : FnScope N_pairs_from ["rough", "place"] (defScope s_pairs_from) := ⟨rfl, rfl, rfl, by decide +kernel, rfl, by decide +kernel, by decide +kernel⟩
abbrev s_sure_pairs : Stmt := topS 27
abbrev N_sure_pairs : List Str := ["rough"]
theorem sc_sure_pairs : FnScope N_sure_pairs ["rough"] (defScope s_sure_pairs) := ⟨rfl, rfl, rfl, by decide +kernel, rfl, by decide +kernel, by decide +kernel⟩
abbrev s_possible_pairs : Stmt := topS 28
abbrev N_possible_pairs : List Str := ["rough"]
theorem sc_possible_pairs : FnScope N_possible_pairs ["rough"] (defScope s_possible_pairs) := ⟨rfl, rfl, rfl, by decide +kernel, rfl, by decide +kernel, by decide +kernel⟩
abbrev s_is_place : Stmt := topS 9
abbrev N_is_place : List Str := ["account", "value", "words"]
theorem sc_is_place : FnScope N_is_place ["account", "value", "words"] (defScope s_is_place) := ⟨rfl, rfl, rfl, by decide +kernel, rfl, by decide +kernel, by decide +kernel⟩
abbrev s_need_bill : Stmt := topS 10
abbrev N_need_bill : List Str := ["account", "value"]
theorem sc_need_bill : FnScope N_need_bill ["account", "value"] (defScope s_need_bill) := ⟨rfl, rfl, rfl, by decide +kernel, rfl, by decide +kernel, by decide +kernel⟩
abbrev s_need_payment : Stmt := topS 11
abbrev N_need_payment : List Str := ["account", "value"]
theorem sc_need_payment : FnScope N_need_payment ["account", "value"] (defScope s_need_payment) := ⟨rfl, rfl, rfl, by decide +kernel, rfl, by decide +kernel, by decide +kernel⟩
abbrev s_pair_range : Stmt := topS 25
abbrev N_pair_range : List Str := ["rough", "bill", "payment"]
theorem sc_pair_range : FnScope N_pair_range ["rough", "bill", "payment"] (defScope s_pair_range) := ⟨rfl, rfl, rfl, by decide +kernel, rfl, by decide +kernel, by decide +kernel⟩
abbrev s_law : Stmt := topS 43
abbrev N_law : List Str := ["script", "great", "cell", "stock", "size", "vague", "debts", "coins", "turn", "debt", "coin"]
theorem sc_law : FnScope N_law ["script"] (defScope s_law) := ⟨rfl, rfl, rfl, by decide +kernel, rfl, by decide +kernel, by decide +kernel⟩
theorem bt_all : bootBuiltins "all" = some (.builtin "all") := by decide +kernel
theorem bt_bool : bootBuiltins "bool" = some (.type "bool") := by decide +kernel
theorem bt_int : bootBuiltins "int" = some (.type "int") := by decide +kernel
theorem bt_len : bootBuiltins "len" = some (.builtin "len") := by decide +kernel
theorem bt_max : bootBuiltins "max" = some (.builtin "max") := by decide +kernel
theorem bt_min : bootBuiltins "min" = some (.builtin "min") := by decide +kernel
theorem bt_repr : bootBuiltins "repr" = some (.builtin "repr") := by decide +kernel
theorem bt_sorted : bootBuiltins "sorted" = some (.builtin "sorted") := by decide +kernel
theorem bt_str : bootBuiltins "str" = some (.type "str") := by decide +kernel
theorem bt_sum : bootBuiltins "sum" = some (.builtin "sum") := by decide +kernel
theorem bt_tuple : bootBuiltins "tuple" = some (.type "tuple") := by decide +kernel
/-- what the top has left -/
structure Txt (K : PySem.W.Frag) (mg : Str → Option Value) (base : Heap) (Tb : List (Addr × Str)) : Prop where
  f__law_draws : ∃ f fd, Fun K "_law_draws" "_law_draws" s__law_draws f fd ∧ mg "_law_draws" = some (.ref f)
  f__law_pick : ∃ f fd, Fun K "_law_pick" "_law_pick" s__law_pick f fd ∧ mg "_law_pick" = some (.ref f)
  f__law_wide : ∃ f fd, Fun K "_law_wide" "_law_wide" s__law_wide f fd ∧ mg "_law_wide" = some (.ref f)
  f__law_rough_of : ∃ f fd, Fun K "_law_rough_of" "_law_rough_of" s__law_rough_of f fd ∧ mg "_law_rough_of" = some (.ref f)
  f__law_one_sided : ∃ f fd, Fun K "_law_one_sided" "_law_one_sided" s__law_one_sided f fd ∧ mg "_law_one_sided" = some (.ref f)
  f__law_a_rough : ∃ f fd, Fun K "_law_a_rough" "_law_a_rough" s__law_a_rough f fd ∧ mg "_law_a_rough" = some (.ref f)
  f__law_both : ∃ f fd, Fun K "_law_both" "_law_both" s__law_both f fd ∧ mg "_law_both" = some (.ref f)
  f__law_same : ∃ f fd, Fun K "_law_same" "_law_same" s__law_same f fd ∧ mg "_law_same" = some (.ref f)
  f__law_older : ∃ f fd, Fun K "_law_older" "_law_older" s__law_older f fd ∧ mg "_law_older" = some (.ref f)
  f__law_ahead : ∃ f fd, Fun K "_law_ahead" "_law_ahead" s__law_ahead f fd ∧ mg "_law_ahead" = some (.ref f)
  f__law_total : ∃ f fd, Fun K "_law_total" "_law_total" s__law_total f fd ∧ mg "_law_total" = some (.ref f)
  f__law_far_range : ∃ f fd, Fun K "_law_far_range" "_law_far_range" s__law_far_range f fd ∧ mg "_law_far_range" = some (.ref f)
  f__law_lists_right : ∃ f fd, Fun K "_law_lists_right" "_law_lists_right" s__law_lists_right f fd ∧ mg "_law_lists_right" = some (.ref f)
  f_has_word : ∃ f fd, Fun K "has_word" "has_word" s_has_word f fd ∧ mg "has_word" = some (.ref f)
  f_is_integer : ∃ f fd, Fun K "is_integer" "is_integer" s_is_integer f fd ∧ mg "is_integer" = some (.ref f)
  f_is_rough_entry : ∃ f fd, Fun K "is_rough_entry" "is_rough_entry" s_is_rough_entry f fd ∧ mg "is_rough_entry" = some (.ref f)
  f_is_rough : ∃ f fd, Fun K "is_rough" "is_rough" s_is_rough f fd ∧ mg "is_rough" = some (.ref f)
  f_need_rough : ∃ f fd, Fun K "need_rough" "need_rough" s_need_rough f fd ∧ mg "need_rough" = some (.ref f)
  f_line_of : ∃ f fd c P, Fun K "line_of" "line_of" s_line_of f fd ∧ mg "line_of" = some (.ref f) ∧ fd.code = .ref c ∧ LamX.TabB base mg c P ∧ (P, lamN "line_of") ∈ Tb ∧ ∀ p ∈ Tb, p.1 = P → p.2 = lamN "line_of"
  f_bill_line : ∃ f fd, Fun K "bill_line" "bill_line" s_bill_line f fd ∧ mg "bill_line" = some (.ref f)
  f_payment_line : ∃ f fd, Fun K "payment_line" "payment_line" s_payment_line f fd ∧ mg "payment_line" = some (.ref f)
  f_bounds_of : ∃ f fd, Fun K "bounds_of" "bounds_of" s_bounds_of f fd ∧ mg "bounds_of" = some (.ref f)
  f_older_than : ∃ f fd, Fun K "older_than" "older_than" s_older_than f fd ∧ mg "older_than" = some (.ref f)
  f_shift_bounds : ∃ f fd, Fun K "shift_bounds" "shift_bounds" s_shift_bounds f fd ∧ mg "shift_bounds" = some (.ref f)
  f_overlap : ∃ f fd, Fun K "overlap" "overlap" s_overlap f fd ∧ mg "overlap" = some (.ref f)
  f_nearest_shift : ∃ f fd, Fun K "nearest_shift" "nearest_shift" s_nearest_shift f fd ∧ mg "nearest_shift" = some (.ref f)
  f_range_of : ∃ f fd, Fun K "range_of" "range_of" s_range_of f fd ∧ mg "range_of" = some (.ref f)
  f_pairs_from : ∃ f fd, Fun K "pairs_from" "pairs_from" s_pairs_from f fd ∧ mg "pairs_from" = some (.ref f)
  f_sure_pairs : ∃ f fd, Fun K "sure_pairs" "sure_pairs" s_sure_pairs f fd ∧ mg "sure_pairs" = some (.ref f)
  f_possible_pairs : ∃ f fd, Fun K "possible_pairs" "possible_pairs" s_possible_pairs f fd ∧ mg "possible_pairs" = some (.ref f)
  f_is_place : ∃ f fd, Fun K "is_place" "is_place" s_is_place f fd ∧ mg "is_place" = some (.ref f)
  f_need_bill : ∃ f fd, Fun K "need_bill" "need_bill" s_need_bill f fd ∧ mg "need_bill" = some (.ref f)
  f_need_payment : ∃ f fd, Fun K "need_payment" "need_payment" s_need_payment f fd ∧ mg "need_payment" = some (.ref f)
  f_pair_range : ∃ f fd, Fun K "pair_range" "pair_range" s_pair_range f fd ∧ mg "pair_range" = some (.ref f)
  f_law : ∃ f fd, Fun K "law" "law" s_law f fd ∧ mg "law" = some (.ref f)
  b_all : mg "all" = none
  b_bool : mg "bool" = none
  b_int : mg "int" = none
  b_isinstance : mg "isinstance" = none
  b_len : mg "len" = none
  b_max : mg "max" = none
  b_min : mg "min" = none
  b_range : mg "range" = none
  b_repr : mg "repr" = none
  b_sorted : mg "sorted" = none
  b_str : mg "str" = none
  b_sum : mg "sum" = none
  b_tuple : mg "tuple" = none
  e_InvalidBill : ExF K mg "InvalidBill"
  e_InvalidPayment : ExF K mg "InvalidPayment"
  e_InvalidRough : ExF K mg "InvalidRough"
  c_PAYING : CoF K mg "PAYING" (.tup [.str "pay", .str "named"])
section
variable {P : Program} {w : World} {K : PySem.W.Frag} {mg : Str → Option Value} {base : Heap} {Tb : List (Addr × Str)}
theorem w__law_draws (T : Txt K mg base Tb) : Body P w K Tb mg base N__law_draws "_law_draws" s__law_draws 0 true b__law_draws := fun f cdv A outer s H E M0 fr pa g => ⟨_, (ssm_one (sm_retF (ef_lst (am_cons (em_callB (call_max2 g.calm) cs_max2 (by rfl) T.b_max bt_max (am_cons (em_int) (am_cons (em_bin op_sub os_sub (em_callTy call_int1 cs_int (by rfl) T.b_int bt_int (am_cons (em_var 0) am_nil)) (em_bin op_pow os_pow (em_int) (em_int))) am_nil))) (am_cons (em_bin op_mod os_mod (em_callTy call_int1 cs_int (by rfl) T.b_int bt_int (am_cons (em_var 0) am_nil)) (em_int)) (am_cons (em_int) am_nil))))))⟩
theorem h__law_draws (T : Txt K mg base Tb) : Fn P w K mg base 1 "_law_draws" (spF K Tb mg 1 m__law_draws) := by
  obtain ⟨f, fd, F, hm⟩ := T.f__law_draws
  exact fnF F sc__law_draws rfl hm (F.binds (ps := ["cell"]) fun _ _ _ _ _ _ us hl => match us, hl with | [_], _ => rfl) (w__law_draws T)
theorem w__law_pick (T : Txt K mg base Tb) : Body P w K Tb mg base N__law_pick "_law_pick" s__law_pick 0 false b__law_pick := fun f cdv A outer s H E M0 fr pa g => ⟨_, (ssm_cons (sm_if (tm_cmp op_gt os_cmp (em_ix (iIx g) os_ixA (em_var 0) (em_int)) (em_int)) (ssm_cons (sm_set (i := 4) g (em_bin op_mod os_mod (em_callTy call_int1 cs_int (by rfl) T.b_int bt_int (am_cons (em_ix (iIx g) os_ixA (em_var 0) (em_int)) am_nil)) (em_var 1)))
    (ssm_cons (sm_put 0 g (em_int) (em_bin op_fdivW os_div (em_ix (iIx g) os_ixA (em_var 0) (em_int)) (em_var 1)))
    (ssm_one (sm_ret (em_var 4))))) ssm_nil)
    (ssm_cons (sm_put 0 g (em_int) (em_bin (oAdd g) os_addA (em_ix (iIx g) os_ixA (em_var 0) (em_int)) (em_int)))
    (ssm_cons (sm_set (i := 2) g (em_ix (iIx g) os_ixA (em_var 0) (em_int)))
    (ssm_cons (sm_set (i := 3) g (em_bin (oAdd g) os_addA (em_bin (oAdd g) os_addA (em_ix (iIx g) os_ixA (em_var 0) (em_int)) (em_bin op_mulW os_mul (em_bin op_mulW os_mul (em_int) (em_var 2)) (em_var 2))) (em_int)))
    (ssm_cons (sm_set (i := 3) g (em_bin (oAdd g) os_addA (em_bin op_mulW os_mul (em_var 3) (em_bin (oAdd g) os_addA (em_ix (iIx g) os_ixA (em_var 0) (em_int)) (em_bin op_mulW os_mul (em_int) (em_var 2)))) (em_var 2)))
    (ssm_cons (sm_set (i := 3) g (em_bin op_fdivW os_div (em_bin op_mod os_mod (em_callTy call_int1 cs_int (by rfl) T.b_int bt_int (am_cons (em_bin (oAdd g) os_addA (em_bin op_mulW os_mul (em_var 3) (em_var 3)) (em_bin op_mulW os_mul (em_int) (em_var 3))) am_nil)) (em_int)) (em_int)))
    (ssm_one (sm_ret (em_bin op_mod os_mod (em_bin op_fdivW os_div (em_bin op_mod os_mod (em_callTy call_int1 cs_int (by rfl) T.b_int bt_int (am_cons (em_bin op_mulW os_mul (em_var 3) (em_bin (oAdd g) os_addA (em_bin (oAdd g) os_addA (em_var 3) (em_bin op_mulW os_mul (em_int) (em_var 2))) (em_int))) am_nil)) (em_int)) (em_int)) (em_var 1))))))))))⟩
theorem h__law_pick (T : Txt K mg base Tb) : Fn P w K mg base 1 "_law_pick" (spJ K Tb 2 m__law_pick) := by
  obtain ⟨f, fd, F, hm⟩ := T.f__law_pick
  exact fnJ F sc__law_pick rfl hm (F.binds (ps := ["stock", "upto"]) fun _ _ _ _ _ _ us hl => match us, hl with | [_, _], _ => rfl) (w__law_pick T)
theorem w__law_wide (T : Txt K mg base Tb) : Body P w K Tb mg base N__law_wide "_law_wide" s__law_wide 1 false b__law_wide := fun f cdv A outer s H E M0 fr pa g => ⟨_, (ssm_cons (sm_if (tm_cmp op_le os_cmp (em_var 1) (em_bin op_pow os_pow (em_int) (em_int))) (ssm_one (sm_ret (em_callJ g (h__law_pick T) (am_cons (em_var 0) (am_cons (em_var 1) am_nil))))) ssm_nil)
    (ssm_cons (sm_set (i := 2) g (em_int))
    (ssm_cons (sm_for g (im_range1 g (am_cons (em_int) am_nil) T.b_range) (gm_name 3 g.nd) (ssm_one (sm_set (i := 2) g (em_bin (oAdd g) os_addA (em_bin op_mulW os_mul (em_var 2) (em_bin op_pow os_pow (em_int) (em_int))) (em_callJ g (h__law_pick T) (am_cons (em_var 0) (am_cons (em_bin op_pow os_pow (em_int) (em_int)) am_nil)))))))
    (ssm_one (sm_ret (em_bin op_mod os_mod (em_callTy call_int1 cs_int (by rfl) T.b_int bt_int (am_cons (em_var 2) am_nil)) (em_var 1)))))))⟩
theorem h__law_wide (T : Txt K mg base Tb) : Fn P w K mg base 2 "_law_wide" (spJ K Tb 2 m__law_wide) := by
  obtain ⟨f, fd, F, hm⟩ := T.f__law_wide
  exact fnJ F sc__law_wide rfl hm (F.binds (ps := ["stock", "upto"]) fun _ _ _ _ _ _ us hl => match us, hl with | [_, _], _ => rfl) (w__law_wide T)
theorem w__law_rough_of (T : Txt K mg base Tb) : Body P w K Tb mg base N__law_rough_of "_law_rough_of" s__law_rough_of 2 false b__law_rough_of := fun f cdv A outer s H E M0 fr pa g => ⟨_, (ssm_cons (sm_setL (i := 5) g (ef_lst am_nil))
    (ssm_cons (sm_for g (im_range1 g (am_cons (em_var 1) am_nil) T.b_range) (gm_name 6 g.nd) (ssm_cons (sm_set (i := 7) g (em_if (tm_cmp op_lt os_cmp (em_var 6) (em_int)) (em_ix (iIx g) os_ixA (em_of_ef (ef_lst (am_cons (em_str) (am_cons (em_str) am_nil)))) (em_bin op_mod os_mod (em_callTy call_int1 cs_int (by rfl) T.b_int bt_int (am_cons (em_var 6) am_nil)) (em_int))) (em_ix (iIx g) os_ixA (em_of_ef (ef_lst (am_cons (em_str) (am_cons (em_str) am_nil)))) (em_callJ g (h__law_pick T) (am_cons (em_var 0) (am_cons (em_int) am_nil))))))
    (ssm_cons (sm_set (i := 8) g (em_bin (oAdd g) os_addA (em_int) (em_callJ g (h__law_wide T) (am_cons (em_var 0) (am_cons (em_var 3) am_nil)))))
    (ssm_one (sm_expr (em_append 5 g (em_tup (am_cons (em_var 7) (am_cons (em_bin op_sub os_sub (em_callJ g (h__law_pick T) (am_cons (em_var 0) (am_cons (em_var 2) am_nil))) (em_bin op_fdivW os_div (em_var 2) (em_int))) (am_cons (em_var 8) (am_cons (em_bin (oAdd g) os_addA (em_var 8) (em_callJ g (h__law_wide T) (am_cons (em_var 0) (am_cons (em_var 4) am_nil)))) am_nil)))))))))))
    (ssm_one (sm_ret (em_callTy (cTuple g) cs_tuple (by rfl) T.b_tuple bt_tuple (am_cons (em_var 5) am_nil))))))⟩
theorem h__law_rough_of (T : Txt K mg base Tb) : Fn P w K mg base 3 "_law_rough_of" (spJ K Tb 5 m__law_rough_of) := by
  obtain ⟨f, fd, F, hm⟩ := T.f__law_rough_of
  exact fnJ F sc__law_rough_of rfl hm (F.binds (ps := ["stock", "count", "span", "top", "width"]) fun _ _ _ _ _ _ us hl => match us, hl with | [_, _, _, _, _], _ => rfl) (w__law_rough_of T)
theorem w__law_one_sided (T : Txt K mg base Tb) : Body P w K Tb mg base N__law_one_sided "_law_one_sided" s__law_one_sided 1 false b__law_one_sided := fun f cdv A outer s H E M0 fr pa g => ⟨_, (ssm_cons (sm_set (i := 3) g (em_callJ g (h__law_pick T) (am_cons (em_var 0) (am_cons (em_var 2) am_nil))))
    (ssm_one (sm_ret (em_callTy (cTuple g) cs_tuple (by rfl) T.b_tuple bt_tuple (am_cons (em_of_ef (ef_lc (own := [("one", 4)]) g (im_seq g (em_var 1)) (blkOk_by (N := N__law_one_sided) (sc := defScope s__law_one_sided) (by decide +kernel)) (fun _ _ _ _ _ g => (gm_name 4 g.nd)) (fun _ _ _ _ _ g => (tms_one (tm_wm (wm_or (tm_cmp op_gt os_cmp (em_var 3) (em_int)) (wm_or1 (tm_cmp (oEq g) os_eqA (em_cmp (oEq g) os_eqA (em_ix (iIx g) os_ixA (em_var 4) (em_int)) (em_str)) (em_cmp (oEq g) os_eqA (em_var 3) (em_int)))))))) (fun _ _ _ _ _ g => (em_var 4)))) am_nil)))))⟩
theorem h__law_one_sided (T : Txt K mg base Tb) : Fn P w K mg base 2 "_law_one_sided" (spJ K Tb 3 m__law_one_sided) := by
  obtain ⟨f, fd, F, hm⟩ := T.f__law_one_sided
  exact fnJ F sc__law_one_sided rfl hm (F.binds (ps := ["stock", "rows", "often"]) fun _ _ _ _ _ _ us hl => match us, hl with | [_, _, _], _ => rfl) (w__law_one_sided T)
theorem w__law_a_rough (T : Txt K mg base Tb) : Body P w K Tb mg base N__law_a_rough "_law_a_rough" s__law_a_rough 3 false b__law_a_rough := fun f cdv A outer s H E M0 fr pa g => ⟨_, (ssm_cons (sm_set (i := 2) g (em_ix (iIx g) os_ixA (em_of_ef (ef_lst (am_cons (em_int) (am_cons (em_int) (am_cons (em_int) (am_cons (em_int) am_nil)))))) (em_callJ g (h__law_pick T) (am_cons (em_var 0) (am_cons (em_int) am_nil)))))
    (ssm_cons (sm_set (i := 3) g (em_ix (iIx g) os_ixA (em_of_ef (ef_lst (am_cons (em_int) (am_cons (em_int) (am_cons (em_bin op_pow os_pow (em_int) (em_int)) (am_cons (em_bin op_mulW os_mul (em_int) (em_bin op_pow os_pow (em_int) (em_int))) am_nil)))))) (em_callJ g (h__law_pick T) (am_cons (em_var 0) (am_cons (em_int) am_nil)))))
    (ssm_cons (sm_set (i := 4) g (em_ix (iIx g) os_ixA (em_of_ef (ef_lst (am_cons (em_int) (am_cons (em_int) (am_cons (em_int) (am_cons (em_var 3) am_nil)))))) (em_callJ g (h__law_pick T) (am_cons (em_var 0) (am_cons (em_int) am_nil)))))
    (ssm_cons (sm_set (i := 5) g (em_callJ g (h__law_rough_of T) (am_cons (em_var 0) (am_cons (em_bin op_sub os_sub (em_var 1) (em_callJ g (h__law_pick T) (am_cons (em_var 0) (am_cons (em_bin (oAdd g) os_addA (em_var 1) (em_int)) am_nil)))) (am_cons (em_var 2) (am_cons (em_var 3) (am_cons (em_var 4) am_nil)))))))
    (ssm_one (sm_ret (em_callJ g (h__law_one_sided T) (am_cons (em_var 0) (am_cons (em_var 5) (am_cons (em_int) am_nil))))))))))⟩
theorem h__law_a_rough (T : Txt K mg base Tb) : Fn P w K mg base 4 "_law_a_rough" (spJ K Tb 2 m__law_a_rough) := by
  obtain ⟨f, fd, F, hm⟩ := T.f__law_a_rough
  exact fnJ F sc__law_a_rough rfl hm (F.binds (ps := ["stock", "many"]) fun _ _ _ _ _ _ us hl => match us, hl with | [_, _], _ => rfl) (w__law_a_rough T)
theorem w__law_both (T : Txt K mg base Tb) : Body P w K Tb mg base N__law_both "_law_both" s__law_both 0 false b__law_both := fun f cdv A outer s H E M0 fr pa g => ⟨_, (ssm_cons (sm_lcA (fresh := false) (i := 1) (own := [("at", 2)]) g (im_range1 g (am_cons (em_callB (cLen g) cs_len (by rfl) T.b_len bt_len (am_cons (em_var 0) am_nil)) am_nil) T.b_range) (blkOk_by (N := N__law_both) (sc := defScope s__law_both) (by decide +kernel)) (fun _ _ _ _ _ g => (gm_name 2 g.nd)) (fun _ _ _ _ _ g => (tms_one (tm_cmp (oEq g) os_eqA (em_ix (iIx g) os_ixA (em_ix (iIx g) os_ixA (em_var 0) (em_var 2)) (em_int)) (em_str)))) (fun _ _ _ _ _ g => (em_var 2)))
    (ssm_one (sm_ret (em_tup (am_cons (em_var 1) (am_cons (em_of_ef (ef_lc (own := [("at", 2)]) g (im_range1 g (am_cons (em_callB (cLen g) cs_len (by rfl) T.b_len bt_len (am_cons (em_var 0) am_nil)) am_nil) T.b_range) (blkOk_by (N := N__law_both) (sc := defScope s__law_both) (by decide +kernel)) (fun _ _ _ _ _ g => (gm_name 2 g.nd)) (fun _ _ _ _ _ g => (tms_one (tm_cmp (oEq g) os_eqA (em_ix (iIx g) os_ixA (em_ix (iIx g) os_ixA (em_var 0) (em_var 2)) (em_int)) (em_str)))) (fun _ _ _ _ _ g => (em_var 2)))) am_nil))))))⟩
theorem h__law_both (T : Txt K mg base Tb) : Fn P w K mg base 1 "_law_both" (spP K Tb mg 1 m__law_both) := by
  obtain ⟨f, fd, F, hm⟩ := T.f__law_both
  exact fnP F sc__law_both rfl hm (F.binds (ps := ["rough_here"]) fun _ _ _ _ _ _ us hl => match us, hl with | [_], _ => rfl) (w__law_both T)
theorem w__law_same (T : Txt K mg base Tb) : Body P w K Tb mg base N__law_same "_law_same" s__law_same 0 false b__law_same := fun f cdv A outer s H E M0 fr pa g => ⟨_, (ssm_one (sm_ret (em_cmp (oEq g) os_eqA (em_callB (cRepr g) cs_shwD (by rfl) T.b_repr bt_repr (am_cons (em_var 0) am_nil)) (em_callB (cRepr g) cs_shwD (by rfl) T.b_repr bt_repr (am_cons (em_var 1) am_nil)))))⟩
theorem h__law_same (T : Txt K mg base Tb) : Fn P w K mg base 1 "_law_same" (spP K Tb mg 2 m__law_same) := by
  obtain ⟨f, fd, F, hm⟩ := T.f__law_same
  exact fnP F sc__law_same rfl hm (F.binds (ps := ["back", "due"]) fun _ _ _ _ _ _ us hl => match us, hl with | [_, _], _ => rfl) (w__law_same T)
theorem w__law_older (T : Txt K mg base Tb) : Body P w K Tb mg base N__law_older "_law_older" s__law_older 0 false b__law_older := fun f cdv A outer s H E M0 fr pa g => ⟨_, (ssm_one (sm_ret (em_cmp (oLtT g) os_ltT (em_tup (am_cons (em_ix (iIx g) os_ixA (em_ix (iIx g) os_ixA (em_var 0) (em_var 1)) (em_int)) (am_cons (em_var 1) am_nil))) (em_tup (am_cons (em_ix (iIx g) os_ixA (em_ix (iIx g) os_ixA (em_var 0) (em_var 2)) (em_int)) (am_cons (em_var 2) am_nil))))))⟩
theorem h__law_older (T : Txt K mg base Tb) : Fn P w K mg base 1 "_law_older" (spP K Tb mg 3 m__law_older) := by
  obtain ⟨f, fd, F, hm⟩ := T.f__law_older
  exact fnP F sc__law_older rfl hm (F.binds (ps := ["jar", "at", "far"]) fun _ _ _ _ _ _ us hl => match us, hl with | [_, _, _], _ => rfl) (w__law_older T)
theorem w__law_ahead (T : Txt K mg base Tb) : Body P w K Tb mg base N__law_ahead "_law_ahead" s__law_ahead 1 false b__law_ahead := fun f cdv A outer s H E M0 fr pa g => ⟨_, (ssm_cons (sm_lcA (fresh := false) (i := 2) (own := [("far", 3)]) g (im_range1 g (am_cons (em_callB (cLen g) cs_len (by rfl) T.b_len bt_len (am_cons (em_var 0) am_nil)) am_nil) T.b_range) (blkOk_by (N := N__law_ahead) (sc := defScope s__law_ahead) (by decide +kernel)) (fun _ _ _ _ _ g => (gm_name 3 g.nd)) (fun _ _ _ _ _ g => (tms_one (tm_cmp (oEq g) os_eqA (em_ix (iIx g) os_ixA (em_ix (iIx g) os_ixA (em_var 0) (em_var 3)) (em_int)) (em_ix (iIx g) os_ixA (em_ix (iIx g) os_ixA (em_var 0) (em_var 1)) (em_int))))) (fun _ _ _ _ _ g => (em_var 3)))
    (ssm_one (sm_ret (em_of_ef (ef_lc (own := [("far", 3)]) g (im_seq g (em_var 2)) (blkOk_by (N := N__law_ahead) (sc := defScope s__law_ahead) (by decide +kernel)) (fun _ _ _ _ _ g => (gm_name 3 g.nd)) (fun _ _ _ _ _ g => (tms_one (tm_val (em_call g (h__law_older T) (am_cons (em_var 0) (am_cons (em_var 3) (am_cons (em_var 1) am_nil))))))) (fun _ _ _ _ _ g => (em_var 3)))))))⟩
theorem h__law_ahead (T : Txt K mg base Tb) : Fn P w K mg base 2 "_law_ahead" (spP K Tb mg 2 m__law_ahead) := by
  obtain ⟨f, fd, F, hm⟩ := T.f__law_ahead
  exact fnP F sc__law_ahead rfl hm (F.binds (ps := ["rough_here", "at"]) fun _ _ _ _ _ _ us hl => match us, hl with | [_, _], _ => rfl) (w__law_ahead T)
theorem w__law_total (T : Txt K mg base Tb) : Body P w K Tb mg base N__law_total "_law_total" s__law_total 0 false b__law_total := fun f cdv A outer s H E M0 fr pa g => ⟨_, (ssm_one (sm_ret (em_callB (cSumA g) cs_sumA (by rfl) T.b_sum bt_sum (am_cons (em_of_ef (ef_lc (own := [("at", 3)]) g (im_seq g (em_var 1)) (blkOk_by (N := N__law_total) (sc := defScope s__law_total) (by decide +kernel)) (fun _ _ _ _ _ g => (gm_name 3 g.nd)) (fun _ _ _ _ _ g => tms_nil) (fun _ _ _ _ _ g => (em_ix (iIx g) os_ixA (em_ix (iIx g) os_ixA (em_var 0) (em_var 3)) (em_var 2))))) am_nil))))⟩
theorem h__law_total (T : Txt K mg base Tb) : Fn P w K mg base 1 "_law_total" (spP K Tb mg 3 m__law_total) := by
  obtain ⟨f, fd, F, hm⟩ := T.f__law_total
  exact fnP F sc__law_total rfl hm (F.binds (ps := ["vague", "spots", "place"]) fun _ _ _ _ _ _ us hl => match us, hl with | [_, _, _], _ => rfl) (w__law_total T)
theorem w__law_far_range (T : Txt K mg base Tb) : Body P w K Tb mg base N__law_far_range "_law_far_range" s__law_far_range 2 false b__law_far_range := fun f cdv A outer s H E M0 fr pa g => ⟨_, (ssm_cons (sm_par 8 9 g (am_cons (em_call g (h__law_ahead T) (am_cons (em_var 0) (am_cons (em_var 1) am_nil))) (am_cons (em_call g (h__law_ahead T) (am_cons (em_var 0) (am_cons (em_var 2) am_nil))) am_nil)))
    (ssm_cons (sm_set (i := 3) g (em_of_ef (ef_lst (am_cons (em_call g (h__law_total T) (am_cons (em_var 0) (am_cons (em_var 8) (am_cons (em_int) am_nil)))) (am_cons (em_call g (h__law_total T) (am_cons (em_var 0) (am_cons (em_var 8) (am_cons (em_int) am_nil)))) am_nil)))))
    (ssm_cons (sm_set (i := 4) g (em_of_ef (ef_lst (am_cons (em_call g (h__law_total T) (am_cons (em_var 0) (am_cons (em_var 9) (am_cons (em_int) am_nil)))) (am_cons (em_call g (h__law_total T) (am_cons (em_var 0) (am_cons (em_var 9) (am_cons (em_int) am_nil)))) am_nil)))))
    (ssm_cons (sm_setL (i := 5) g (ef_lst am_nil))
    (ssm_cons (sm_for g (im_range1 g (am_cons (em_int) am_nil) T.b_range) (gm_name 6 g.nd) (ssm_cons (sm_par 11 12 g (am_cons (em_ix (iIx g) os_ixA (em_var 3) (em_bin op_mod os_mod (em_callTy call_int1 cs_int (by rfl) T.b_int bt_int (am_cons (em_var 6) am_nil)) (em_int))) (am_cons (em_ix (iIx g) os_ixA (em_var 4) (em_bin op_mod os_mod (em_bin op_fdivW os_div (em_var 6) (em_int)) (em_int))) am_nil)))
    (ssm_cons (sm_set (i := 10) g (em_callB (call_min2 g.calm) cs_min2 (by rfl) T.b_min bt_min (am_cons (em_bin (oAdd g) os_addA (em_var 11) (em_ix (iIx g) os_ixA (em_ix (iIx g) os_ixA (em_var 0) (em_var 1)) (em_bin (oAdd g) os_addA (em_int) (em_bin op_mod os_mod (em_bin op_fdivW os_div (em_var 6) (em_int)) (em_int))))) (am_cons (em_bin (oAdd g) os_addA (em_var 12) (em_ix (iIx g) os_ixA (em_ix (iIx g) os_ixA (em_var 0) (em_var 2)) (em_bin (oAdd g) os_addA (em_int) (em_bin op_fdivW os_div (em_var 6) (em_int))))) am_nil))))
    (ssm_one (sm_expr (em_append 5 g (em_callB (call_max2 g.calm) cs_max2 (by rfl) T.b_max bt_max (am_cons (em_int) (am_cons (em_bin op_sub os_sub (em_var 10) (em_callB (call_max2 g.calm) cs_max2 (by rfl) T.b_max bt_max (am_cons (em_var 11) (am_cons (em_var 12) am_nil)))) am_nil)))))))))
    (ssm_cons (sm_set (i := 7) g (em_callB (call_min2 g.calm) cs_min2 (by rfl) T.b_min bt_min (am_cons (em_bin op_sub os_sub (em_bin (oAdd g) os_addA (em_ix (iIx g) os_ixA (em_ix (iIx g) os_ixA (em_var 0) (em_var 1)) (em_int)) (em_ix (iIx g) os_ixA (em_var 3) (em_int))) (em_ix (iIx g) os_ixA (em_var 4) (em_int))) (am_cons (em_bin op_sub os_sub (em_bin (oAdd g) os_addA (em_ix (iIx g) os_ixA (em_ix (iIx g) os_ixA (em_var 0) (em_var 2)) (em_int)) (em_ix (iIx g) os_ixA (em_var 4) (em_int))) (em_ix (iIx g) os_ixA (em_var 3) (em_int))) am_nil))))
    (ssm_one (sm_ret (em_tup (am_cons (em_callB (cMinL g) cs_minL (by rfl) T.b_min bt_min (am_cons (em_var 5) am_nil)) (am_cons (em_callB (call_max2 g.calm) cs_max2 (by rfl) T.b_max bt_max (am_cons (em_int) (am_cons (em_callB (call_min2 g.calm) cs_min2 (by rfl) T.b_min bt_min (am_cons (em_var 7) (am_cons (em_callB (call_min2 g.calm) cs_min2 (by rfl) T.b_min bt_min (am_cons (em_ix (iIx g) os_ixA (em_ix (iIx g) os_ixA (em_var 0) (em_var 1)) (em_int)) (am_cons (em_ix (iIx g) os_ixA (em_ix (iIx g) os_ixA (em_var 0) (em_var 2)) (em_int)) am_nil))) am_nil))) am_nil))) am_nil)))))))))))⟩
theorem h__law_far_range (T : Txt K mg base Tb) : Fn P w K mg base 3 "_law_far_range" (spP K Tb mg 3 m__law_far_range) := by
  obtain ⟨f, fd, F, hm⟩ := T.f__law_far_range
  exact fnP F sc__law_far_range rfl hm (F.binds (ps := ["vague", "debt", "coin"]) fun _ _ _ _ _ _ us hl => match us, hl with | [_, _, _], _ => rfl) (w__law_far_range T)
theorem w__law_lists_right (T : Txt K mg base Tb) : Body P w K Tb mg base N__law_lists_right "_law_lists_right" s__law_lists_right 3 false b__law_lists_right := fun f cdv A outer s H E M0 fr pa g => ⟨_, (ssm_cons (sm_unp (em_call g (h__law_both T) (am_cons (em_var 0) am_nil)) (gm_tup g (gms_cons (gm_name 5 g.nd) (gms_cons (gm_name 6 g.nd) gms_nil))))
    (ssm_cons (sm_set (i := 3) g (em_of_ef (ef_lst am_nil)))
    (ssm_cons (sm_for g (im_seq g (em_var 5)) (gm_name 4 g.nd) (ssm_one (sm_set (i := 3) g (em_bin (oAdd g) os_addA (em_var 3) (em_of_ef (ef_lc (own := [("coin", 7)]) g (im_seq g (em_var 6)) (blkOk_by (N := N__law_lists_right) (sc := defScope s__law_lists_right) (by decide +kernel)) (fun _ _ _ _ _ g => (gm_name 7 g.nd)) (fun _ _ _ _ _ g => (tms_one (tm_cmp op_gt os_cmp (em_ix (iIx g) os_ixA (em_call g (h__law_far_range T) (am_cons (em_var 0) (am_cons (em_var 4) (am_cons (em_var 7) am_nil)))) (em_var 2)) (em_int)))) (fun _ _ _ _ _ g => (em_tup (am_cons (em_var 4) (am_cons (em_var 7) am_nil))))))))))
    (ssm_one (sm_ret (em_call g (h__law_same T) (am_cons (em_var 1) (am_cons (em_var 3) am_nil))))))))⟩
theorem h__law_lists_right (T : Txt K mg base Tb) : Fn P w K mg base 4 "_law_lists_right" (spP K Tb mg 3 m__law_lists_right) := by
  obtain ⟨f, fd, F, hm⟩ := T.f__law_lists_right
  exact fnP F sc__law_lists_right rfl hm (F.binds (ps := ["vague", "pairs", "place"]) fun _ _ _ _ _ _ us hl => match us, hl with | [_, _, _], _ => rfl) (w__law_lists_right T)
theorem w_has_word (T : Txt K mg base Tb) : Body P w K Tb mg base N_has_word "has_word" s_has_word 0 false b_has_word := fun f cdv A outer s H E M0 fr pa g => ⟨_, (ssm_one (sm_ret (em_and (em_isi g (by rfl) T.b_isinstance (by rfl) T.b_tuple bt_tuple (em_var 0)) (em_and (em_cmp op_gt os_cmp (em_callB (cLen g) cs_len (by rfl) T.b_len bt_len (am_cons (em_var 0) am_nil)) (em_int)) (em_and (em_isi g (by rfl) T.b_isinstance (by rfl) T.b_str bt_str (em_ix (iIx g) os_ixA (em_var 0) (em_int))) (em_one (em_cmp (oIn g) os_inA (em_ix (iIx g) os_ixA (em_var 0) (em_int)) (em_var 1))))))))⟩
theorem h_has_word (T : Txt K mg base Tb) : Fn P w K mg base 1 "has_word" (spP K Tb mg 2 m_has_word) := by
  obtain ⟨f, fd, F, hm⟩ := T.f_has_word
  exact fnP F sc_has_word rfl hm (F.binds (ps := ["value", "words"]) fun _ _ _ _ _ _ us hl => match us, hl with | [_, _], _ => rfl) (w_has_word T)
theorem w_is_integer (T : Txt K mg base Tb) : Body P w K Tb mg base N_is_integer "is_integer" s_is_integer 0 false b_is_integer := fun f cdv A outer s H E M0 fr pa g => ⟨_, (ssm_one (sm_ret (em_and (em_isi g (by rfl) T.b_isinstance (by rfl) T.b_int bt_int (em_var 0)) (em_one (em_not (em_isi g (by rfl) T.b_isinstance (by rfl) T.b_bool bt_bool (em_var 0)))))))⟩
theorem h_is_integer (T : Txt K mg base Tb) : Fn P w K mg base 1 "is_integer" (spP K Tb mg 1 m_is_integer) := by
  obtain ⟨f, fd, F, hm⟩ := T.f_is_integer
  exact fnP F sc_is_integer rfl hm (F.binds (ps := ["value"]) fun _ _ _ _ _ _ us hl => match us, hl with | [_], _ => rfl) (w_is_integer T)
theorem w_is_rough_entry (T : Txt K mg base Tb) : Body P w K Tb mg base N_is_rough_entry "is_rough_entry" s_is_rough_entry 1 false b_is_rough_entry := fun f cdv A outer s H E M0 fr pa g => ⟨_, (ssm_cons (sm_if (tm_wm (wm_or (tm_not (tm_val (em_call g (h_has_word T) (am_cons (em_var 0) (am_cons (em_tup (am_cons (em_str) (am_cons (em_str) am_nil))) am_nil))))) (wm_or1 (tm_cmp (oNe g) os_neA (em_callB (cLen g) cs_len (by rfl) T.b_len bt_len (am_cons (em_var 0) am_nil)) (em_int))))) (ssm_one (sm_ret (em_bl))) ssm_nil)
    (ssm_cons (sm_if (tm_not (tm_val (em_callB (cAll g) cs_all (by rfl) T.b_all bt_all (am_cons (em_of_ef (ef_lc (own := [("part", 1)]) g (im_seq g (em_slice g (em_var 0) (om_some (em_int)) om_none)) (blkOk_by (N := N_is_rough_entry) (sc := defScope s_is_rough_entry) (by decide +kernel)) (fun _ _ _ _ _ g => (gm_name 1 g.nd)) (fun _ _ _ _ _ g => tms_nil) (fun _ _ _ _ _ g => (em_call g (h_is_integer T) (am_cons (em_var 1) am_nil))))) am_nil)))) (ssm_one (sm_ret (em_bl))) ssm_nil)
    (ssm_one (sm_ret (em_chain op_le op_le os_cmp os_cmp (em_int) (em_ix (iIx g) os_ixA (em_var 0) (em_int)) (em_ix (iIx g) os_ixA (em_var 0) (em_int)))))))⟩
theorem h_is_rough_entry (T : Txt K mg base Tb) : Fn P w K mg base 2 "is_rough_entry" (spP K Tb mg 1 m_is_rough_entry) := by
  obtain ⟨f, fd, F, hm⟩ := T.f_is_rough_entry
  exact fnP F sc_is_rough_entry rfl hm (F.binds (ps := ["value"]) fun _ _ _ _ _ _ us hl => match us, hl with | [_], _ => rfl) (w_is_rough_entry T)
theorem w_is_rough (T : Txt K mg base Tb) : Body P w K Tb mg base N_is_rough "is_rough" s_is_rough 2 false b_is_rough := fun f cdv A outer s H E M0 fr pa g => ⟨_, (ssm_one (sm_ret (em_and (em_isi g (by rfl) T.b_isinstance (by rfl) T.b_tuple bt_tuple (em_var 0)) (em_one (em_callB (cAll g) cs_all (by rfl) T.b_all bt_all (am_cons (em_of_ef (ef_lc (own := [("entry", 1)]) g (im_seq g (em_var 0)) (blkOk_by (N := N_is_rough) (sc := defScope s_is_rough) (by decide +kernel)) (fun _ _ _ _ _ g => (gm_name 1 g.nd)) (fun _ _ _ _ _ g => tms_nil) (fun _ _ _ _ _ g => (em_call g (h_is_rough_entry T) (am_cons (em_var 1) am_nil))))) am_nil))))))⟩
theorem h_is_rough (T : Txt K mg base Tb) : Fn P w K mg base 3 "is_rough" (spP K Tb mg 1 m_is_rough) := by
  obtain ⟨f, fd, F, hm⟩ := T.f_is_rough
  exact fnP F sc_is_rough rfl hm (F.binds (ps := ["value"]) fun _ _ _ _ _ _ us hl => match us, hl with | [_], _ => rfl) (w_is_rough T)
theorem w_need_rough (T : Txt K mg base Tb) : Body P w K Tb mg base N_need_rough "need_rough" s_need_rough 3 false b_need_rough := fun f cdv A outer s H E M0 fr pa g => ⟨_, (ssm_one (sm_if (tm_not (tm_val (em_call g (h_is_rough T) (am_cons (em_var 0) am_nil)))) (ssm_one (Classical.choose_spec (sm_raise g T.e_InvalidRough))) ssm_nil))⟩
theorem h_need_rough (T : Txt K mg base Tb) : Fn P w K mg base 4 "need_rough" (spP K Tb mg 1 m_need_rough) := by
  obtain ⟨f, fd, F, hm⟩ := T.f_need_rough
  exact fnP F sc_need_rough rfl hm (F.binds (ps := ["value"]) fun _ _ _ _ _ _ us hl => match us, hl with | [_], _ => rfl) (w_need_rough T)
theorem w_line_of (T : Txt K mg base Tb) {c P0 : Addr} (TB : LamX.TabB base mg c P0) (mem : (P0, lamN "line_of") ∈ Tb) (one : ∀ p ∈ Tb, p.1 = P0 → p.2 = lamN "line_of") : BodyC P w K Tb mg base N_line_of "line_of" s_line_of 0 false c b_line_of := fun f A outer s H E M0 fr pa g => ⟨_, (ssm_cons (sm_lcA (fresh := false) (i := 1) (own := [("at", 2)]) g (im_range1 g (am_cons (em_callB (cLen g) cs_len (by rfl) T.b_len bt_len (am_cons (em_var 0) am_nil)) am_nil) T.b_range) (blkOk_by (N := N_line_of) (sc := defScope s_line_of) (by decide +kernel)) (fun _ _ _ _ _ g => (gm_name 2 g.nd)) (fun _ _ _ _ _ g => (tms_one (tm_cmp (oNe g) os_neA (em_ix (iIx g) os_ixA (em_ix (iIx g) os_ixA (em_var 0) (em_var 2)) (em_int)) (em_str)))) (fun _ _ _ _ _ g => (em_var 2)))
    (ssm_one (sm_ret (em_of_ef (ef_soLam (q := ⟨0, 0, 0, 0⟩) 0 g ⟨TB, rfl, mem, one⟩ (em_var 1) (by rfl) T.b_sorted bt_sorted)))))⟩
theorem h_line_of (T : Txt K mg base Tb) : Fn P w K mg base 1 "line_of" (spP K Tb mg 1 m_line_of) := by
  obtain ⟨f, fd, c, P0, F, hm, hc, TB, mem, one⟩ := T.f_line_of
  exact fnPc F hc sc_line_of rfl hm (F.binds (ps := ["account"]) fun _ _ _ _ _ _ us hl => match us, hl with | [_], _ => rfl) (w_line_of T TB mem one)
theorem w_bill_line (T : Txt K mg base Tb) : Body P w K Tb mg base N_bill_line "bill_line" s_bill_line 1 false b_bill_line := fun f cdv A outer s H E M0 fr pa g => ⟨_, (ssm_one (sm_ret (em_of_ef (ef_lc (own := [("at", 1)]) g (im_seq g (em_call g (h_line_of T) (am_cons (em_var 0) am_nil))) (blkOk_by (N := N_bill_line) (sc := defScope s_bill_line) (by decide +kernel)) (fun _ _ _ _ _ g => (gm_name 1 g.nd)) (fun _ _ _ _ _ g => (tms_one (tm_cmp (oEq g) os_eqA (em_ix (iIx g) os_ixA (em_ix (iIx g) os_ixA (em_var 0) (em_var 1)) (em_int)) (em_str)))) (fun _ _ _ _ _ g => (em_var 1))))))⟩
theorem h_bill_line (T : Txt K mg base Tb) : Fn P w K mg base 2 "bill_line" (spP K Tb mg 1 m_bill_line) := by
  obtain ⟨f, fd, F, hm⟩ := T.f_bill_line
  exact fnP F sc_bill_line rfl hm (F.binds (ps := ["account"]) fun _ _ _ _ _ _ us hl => match us, hl with | [_], _ => rfl) (w_bill_line T)
theorem w_payment_line (T : Txt K mg base Tb) : Body P w K Tb mg base N_payment_line "payment_line" s_payment_line 1 false b_payment_line := fun f cdv A outer s H E M0 fr pa g => ⟨_, (ssm_one (sm_ret (em_of_ef (ef_lc (own := [("at", 1)]) g (im_seq g (em_call g (h_line_of T) (am_cons (em_var 0) am_nil))) (blkOk_by (N := N_payment_line) (sc := defScope s_payment_line) (by decide +kernel)) (fun _ _ _ _ _ g => (gm_name 1 g.nd)) (fun _ _ _ _ _ g => (tms_one (tm_cmp (oNe g) os_neA (em_ix (iIx g) os_ixA (em_ix (iIx g) os_ixA (em_var 0) (em_var 1)) (em_int)) (em_str)))) (fun _ _ _ _ _ g => (em_var 1))))))⟩
theorem h_payment_line (T : Txt K mg base Tb) : Fn P w K mg base 2 "payment_line" (spP K Tb mg 1 m_payment_line) := by
  obtain ⟨f, fd, F, hm⟩ := T.f_payment_line
  exact fnP F sc_payment_line rfl hm (F.binds (ps := ["account"]) fun _ _ _ _ _ _ us hl => match us, hl with | [_], _ => rfl) (w_payment_line T)
theorem w_bounds_of (T : Txt K mg base Tb) : Body P w K Tb mg base N_bounds_of "bounds_of" s_bounds_of 0 false b_bounds_of := fun f cdv A outer s H E M0 fr pa g => ⟨_, (ssm_one (sm_ret (em_tup (am_cons (em_callB (cSumA g) cs_sumA (by rfl) T.b_sum bt_sum (am_cons (em_of_ef (ef_lc (own := [("at", 2)]) g (im_seq g (em_var 1)) (blkOk_by (N := N_bounds_of) (sc := defScope s_bounds_of) (by decide +kernel)) (fun _ _ _ _ _ g => (gm_name 2 g.nd)) (fun _ _ _ _ _ g => tms_nil) (fun _ _ _ _ _ g => (em_ix (iIx g) os_ixA (em_ix (iIx g) os_ixA (em_var 0) (em_var 2)) (em_int))))) am_nil)) (am_cons (em_callB (cSumA g) cs_sumA (by rfl) T.b_sum bt_sum (am_cons (em_of_ef (ef_lc (own := [("at", 2)]) g (im_seq g (em_var 1)) (blkOk_by (N := N_bounds_of) (sc := defScope s_bounds_of) (by decide +kernel)) (fun _ _ _ _ _ g => (gm_name 2 g.nd)) (fun _ _ _ _ _ g => tms_nil) (fun _ _ _ _ _ g => (em_ix (iIx g) os_ixA (em_ix (iIx g) os_ixA (em_var 0) (em_var 2)) (em_int))))) am_nil)) am_nil)))))⟩
theorem h_bounds_of (T : Txt K mg base Tb) : Fn P w K mg base 1 "bounds_of" (spP K Tb mg 2 m_bounds_of) := by
  obtain ⟨f, fd, F, hm⟩ := T.f_bounds_of
  exact fnP F sc_bounds_of rfl hm (F.binds (ps := ["rough", "indexes"]) fun _ _ _ _ _ _ us hl => match us, hl with | [_, _], _ => rfl) (w_bounds_of T)
theorem w_older_than (T : Txt K mg base Tb) : Body P w K Tb mg base N_older_than "older_than" s_older_than 2 false b_older_than := fun f cdv A outer s H E M0 fr pa g => ⟨_, (ssm_cons (sm_set (i := 2) g (em_if (tm_cmp (oEq g) os_eqA (em_ix (iIx g) os_ixA (em_ix (iIx g) os_ixA (em_var 0) (em_var 1)) (em_int)) (em_str)) (em_call g (h_bill_line T) (am_cons (em_var 0) am_nil)) (em_call g (h_payment_line T) (am_cons (em_var 0) am_nil))))
    (ssm_one (sm_ret (em_slice g (em_var 2) om_none (om_some (em_index g (em_var 2) (em_var 1)))))))⟩
theorem h_older_than (T : Txt K mg base Tb) : Fn P w K mg base 3 "older_than" (spP K Tb mg 2 m_older_than) := by
  obtain ⟨f, fd, F, hm⟩ := T.f_older_than
  exact fnP F sc_older_than rfl hm (F.binds (ps := ["rough", "index"]) fun _ _ _ _ _ _ us hl => match us, hl with | [_, _], _ => rfl) (w_older_than T)
theorem w_shift_bounds (T : Txt K mg base Tb) : Body P w K Tb mg base N_shift_bounds "shift_bounds" s_shift_bounds 3 false b_shift_bounds := fun f cdv A outer s H E M0 fr pa g => ⟨_, (ssm_cons (sm_unp (em_call g (h_bounds_of T) (am_cons (em_var 0) (am_cons (em_call g (h_older_than T) (am_cons (em_var 0) (am_cons (em_var 1) am_nil))) am_nil))) (gm_tup g (gms_cons (gm_name 3 g.nd) (gms_cons (gm_name 4 g.nd) gms_nil))))
    (ssm_cons (sm_unp (em_call g (h_bounds_of T) (am_cons (em_var 0) (am_cons (em_call g (h_older_than T) (am_cons (em_var 0) (am_cons (em_var 2) am_nil))) am_nil))) (gm_tup g (gms_cons (gm_name 5 g.nd) (gms_cons (gm_name 6 g.nd) gms_nil))))
    (ssm_one (sm_ret (em_tup (am_cons (em_bin op_sub os_sub (em_var 5) (em_var 4)) (am_cons (em_bin op_sub os_sub (em_var 6) (em_var 3)) am_nil)))))))⟩
theorem h_shift_bounds (T : Txt K mg base Tb) : Fn P w K mg base 4 "shift_bounds" (spP K Tb mg 3 m_shift_bounds) := by
  obtain ⟨f, fd, F, hm⟩ := T.f_shift_bounds
  exact fnP F sc_shift_bounds rfl hm (F.binds (ps := ["rough", "bill", "payment"]) fun _ _ _ _ _ _ us hl => match us, hl with | [_, _, _], _ => rfl) (w_shift_bounds T)
theorem w_overlap (T : Txt K mg base Tb) : Body P w K Tb mg base N_overlap "overlap" s_overlap 0 false b_overlap := fun f cdv A outer s H E M0 fr pa g => ⟨_, (ssm_one (sm_ret (em_callB (call_max2 g.calm) cs_max2 (by rfl) T.b_max bt_max (am_cons (em_int) (am_cons (em_callB (call_min2 g.calm) cs_min2 (by rfl) T.b_min bt_min (am_cons (em_bin op_sub os_sub (em_var 1) (em_callB (call_max2 g.calm) cs_max2 (by rfl) T.b_max bt_max (am_cons (em_int) (am_cons (em_var 0) am_nil)))) (am_cons (em_bin op_sub os_sub (em_var 2) (em_callB (call_max2 g.calm) cs_max2 (by rfl) T.b_max bt_max (am_cons (em_int) (am_cons (em_bin op_sub os_sub (em_int) (em_var 0)) am_nil)))) am_nil))) am_nil)))))⟩
theorem h_overlap (T : Txt K mg base Tb) : Fn P w K mg base 1 "overlap" (spP K Tb mg 3 m_overlap) := by
  obtain ⟨f, fd, F, hm⟩ := T.f_overlap
  exact fnP F sc_overlap rfl hm (F.binds (ps := ["shift", "debt", "money"]) fun _ _ _ _ _ _ us hl => match us, hl with | [_, _, _], _ => rfl) (w_overlap T)
theorem w_nearest_shift (T : Txt K mg base Tb) : Body P w K Tb mg base N_nearest_shift "nearest_shift" s_nearest_shift 0 false b_nearest_shift := fun f cdv A outer s H E M0 fr pa g => ⟨_, (ssm_one (sm_ret (em_callB (call_max2 g.calm) cs_max2 (by rfl) T.b_max bt_max (am_cons (em_ix (iIx g) os_ixA (em_var 0) (em_int)) (am_cons (em_callB (call_min2 g.calm) cs_min2 (by rfl) T.b_min bt_min (am_cons (em_int) (am_cons (em_ix (iIx g) os_ixA (em_var 0) (em_int)) am_nil))) am_nil)))))⟩
theorem h_nearest_shift (T : Txt K mg base Tb) : Fn P w K mg base 1 "nearest_shift" (spP K Tb mg 1 m_nearest_shift) := by
  obtain ⟨f, fd, F, hm⟩ := T.f_nearest_shift
  exact fnP F sc_nearest_shift rfl hm (F.binds (ps := ["bounds"]) fun _ _ _ _ _ _ us hl => match us, hl with | [_], _ => rfl) (w_nearest_shift T)
theorem w_range_of (T : Txt K mg base Tb) : Body P w K Tb mg base N_range_of "range_of" s_range_of 4 false b_range_of := fun f cdv A outer s H E M0 fr pa g => ⟨_, (ssm_cons (sm_set (i := 3) g (em_call g (h_shift_bounds T) (am_cons (em_var 0) (am_cons (em_var 1) (am_cons (em_var 2) am_nil)))))
    (ssm_cons (sm_unp (em_tup (am_cons (em_ix (iIx g) os_ixA (em_var 0) (em_var 1)) (am_cons (em_ix (iIx g) os_ixA (em_var 0) (em_var 2)) am_nil))) (gm_tup g (gms_cons (gm_name 5 g.nd) (gms_cons (gm_name 6 g.nd) gms_nil))))
    (ssm_cons (sm_set (i := 4) g (em_callB (cMinL g) cs_minL (by rfl) T.b_min bt_min (am_cons (em_of_ef (ef_lc (own := [("shift", 7)]) g (im_seq g (em_var 3)) (blkOk_by (N := N_range_of) (sc := defScope s_range_of) (by decide +kernel)) (fun _ _ _ _ _ g => (gm_name 7 g.nd)) (fun _ _ _ _ _ g => tms_nil) (fun _ _ _ _ _ g => (em_call g (h_overlap T) (am_cons (em_var 7) (am_cons (em_ix (iIx g) os_ixA (em_var 5) (em_int)) (am_cons (em_ix (iIx g) os_ixA (em_var 6) (em_int)) am_nil))))))) am_nil)))
    (ssm_one (sm_ret (em_tup (am_cons (em_var 4) (am_cons (em_call g (h_overlap T) (am_cons (em_call g (h_nearest_shift T) (am_cons (em_var 3) am_nil)) (am_cons (em_ix (iIx g) os_ixA (em_var 5) (em_int)) (am_cons (em_ix (iIx g) os_ixA (em_var 6) (em_int)) am_nil)))) am_nil))))))))⟩
theorem h_range_of (T : Txt K mg base Tb) : Fn P w K mg base 5 "range_of" (spP K Tb mg 3 m_range_of) := by
  obtain ⟨f, fd, F, hm⟩ := T.f_range_of
  exact fnP F sc_range_of rfl hm (F.binds (ps := ["rough", "bill", "payment"]) fun _ _ _ _ _ _ us hl => match us, hl with | [_, _, _], _ => rfl) (w_range_of T)
theorem w_pairs_from (T : Txt K mg base Tb) : Body P w K Tb mg base N_pairs_from "pairs_from" s_pairs_from 5 false b_pairs_from := fun f cdv A outer s H E M0 fr pa g => ⟨_, (ssm_cons (sm_lcA2 (fresh := false) (i := 2) (own := [("debt", 3), ("money", 4)]) (vs1 := [4]) g (im_seq g (em_call g (h_bill_line T) (am_cons (em_var 0) am_nil))) (blkOk_by (N := N_pairs_from) (sc := defScope s_pairs_from) (by decide +kernel)) (by decide) (fun _ _ _ _ _ g => (gm_name 3 g.nd)) (fun _ _ _ _ _ g => tms_nil) (fun _ _ _ _ _ g => (im_seq g (em_call g (h_payment_line T) (am_cons (em_var 0) am_nil)))) (fun _ _ _ _ _ g => (gm_name 4 g.nd)) (fun _ _ _ _ _ g => tms_nil) (fun _ _ _ _ _ g => (em_tup (am_cons (em_var 3) (am_cons (em_var 4) am_nil)))))
    (ssm_one (sm_ret (em_of_ef (ef_callB (cSortA g) cf_sortA (by rfl) T.b_sorted bt_sorted (am_cons (em_of_ef (ef_lc (own := [("pair", 5)]) g (im_seq g (em_var 2)) (blkOk_by (N := N_pairs_from) (sc := defScope s_pairs_from) (by decide +kernel)) (fun _ _ _ _ _ g => (gm_name 5 g.nd)) (fun _ _ _ _ _ g => (tms_one (tm_cmp op_ge os_cmp (em_ix (iIx g) os_ixA (em_call g (h_range_of T) (am_cons (em_var 0) (am_cons (em_ix (iIx g) os_ixA (em_var 5) (em_int)) (am_cons (em_ix (iIx g) os_ixA (em_var 5) (em_int)) am_nil)))) (em_var 1)) (em_int)))) (fun _ _ _ _ _ g => (em_var 5)))) am_nil))))))⟩
theorem h_pairs_from (T : Txt K mg base Tb) : Fn P w K mg base 6 "pairs_from" (spP K Tb mg 2 m_pairs_from) := by
  obtain ⟨f, fd, F, hm⟩ := T.f_pairs_from
  exact fnP F sc_pairs_from rfl hm (F.binds (ps := ["rough", "place"]) fun _ _ _ _ _ _ us hl => match us, hl with | [_, _], _ => rfl) (w_pairs_from T)
theorem w_sure_pairs (T : Txt K mg base Tb) : Body P w K Tb mg base N_sure_pairs "sure_pairs" s_sure_pairs 6 false b_sure_pairs := fun f cdv A outer s H E M0 fr pa g => ⟨_, (ssm_cons (sm_expr (em_call g (h_need_rough T) (am_cons (em_var 0) am_nil)))
    (ssm_one (sm_ret (em_call g (h_pairs_from T) (am_cons (em_var 0) (am_cons (em_int) am_nil))))))⟩
theorem h_sure_pairs (T : Txt K mg base Tb) : Fn P w K mg base 7 "sure_pairs" (spP K Tb mg 1 m_sure_pairs) := by
  obtain ⟨f, fd, F, hm⟩ := T.f_sure_pairs
  exact fnP F sc_sure_pairs rfl hm (F.binds (ps := ["rough"]) fun _ _ _ _ _ _ us hl => match us, hl with | [_], _ => rfl) (w_sure_pairs T)
theorem w_possible_pairs (T : Txt K mg base Tb) : Body P w K Tb mg base N_possible_pairs "possible_pairs" s_possible_pairs 6 false b_possible_pairs := fun f cdv A outer s H E M0 fr pa g => ⟨_, (ssm_cons (sm_expr (em_call g (h_need_rough T) (am_cons (em_var 0) am_nil)))
    (ssm_one (sm_ret (em_call g (h_pairs_from T) (am_cons (em_var 0) (am_cons (em_int) am_nil))))))⟩
theorem h_possible_pairs (T : Txt K mg base Tb) : Fn P w K mg base 7 "possible_pairs" (spP K Tb mg 1 m_possible_pairs) := by
  obtain ⟨f, fd, F, hm⟩ := T.f_possible_pairs
  exact fnP F sc_possible_pairs rfl hm (F.binds (ps := ["rough"]) fun _ _ _ _ _ _ us hl => match us, hl with | [_], _ => rfl) (w_possible_pairs T)
theorem w_is_place (T : Txt K mg base Tb) : Body P w K Tb mg base N_is_place "is_place" s_is_place 1 false b_is_place := fun f cdv A outer s H E M0 fr pa g => ⟨_, (ssm_one (sm_ret (em_and (em_call g (h_is_integer T) (am_cons (em_var 1) am_nil)) (em_and (em_chain op_le op_lt os_cmp os_cmp (em_int) (em_var 1) (em_callB (cLen g) cs_len (by rfl) T.b_len bt_len (am_cons (em_var 0) am_nil))) (em_one (em_cmp (oIn g) os_inA (em_ix (iIx g) os_ixA (em_ix (iIx g) os_ixA (em_var 0) (em_var 1)) (em_int)) (em_var 2)))))))⟩
theorem h_is_place (T : Txt K mg base Tb) : Fn P w K mg base 2 "is_place" (spP K Tb mg 3 m_is_place) := by
  obtain ⟨f, fd, F, hm⟩ := T.f_is_place
  exact fnP F sc_is_place rfl hm (F.binds (ps := ["account", "value", "words"]) fun _ _ _ _ _ _ us hl => match us, hl with | [_, _, _], _ => rfl) (w_is_place T)
theorem w_need_bill (T : Txt K mg base Tb) : Body P w K Tb mg base N_need_bill "need_bill" s_need_bill 2 false b_need_bill := fun f cdv A outer s H E M0 fr pa g => ⟨_, (ssm_one (sm_if (tm_not (tm_val (em_call g (h_is_place T) (am_cons (em_var 0) (am_cons (em_var 1) (am_cons (em_tup (am_cons (em_str) am_nil)) am_nil)))))) (ssm_one (Classical.choose_spec (sm_raise g T.e_InvalidBill))) ssm_nil))⟩
theorem h_need_bill (T : Txt K mg base Tb) : Fn P w K mg base 3 "need_bill" (spP K Tb mg 2 m_need_bill) := by
  obtain ⟨f, fd, F, hm⟩ := T.f_need_bill
  exact fnP F sc_need_bill rfl hm (F.binds (ps := ["account", "value"]) fun _ _ _ _ _ _ us hl => match us, hl with | [_, _], _ => rfl) (w_need_bill T)
theorem w_need_payment (T : Txt K mg base Tb) : Body P w K Tb mg base N_need_payment "need_payment" s_need_payment 2 false b_need_payment := fun f cdv A outer s H E M0 fr pa g => ⟨_, (ssm_one (sm_if (tm_not (tm_val (em_call g (h_is_place T) (am_cons (em_var 0) (am_cons (em_var 1) (am_cons (em_con g T.c_PAYING) am_nil)))))) (ssm_one (Classical.choose_spec (sm_raise g T.e_InvalidPayment))) ssm_nil))⟩
theorem h_need_payment (T : Txt K mg base Tb) : Fn P w K mg base 3 "need_payment" (spP K Tb mg 2 m_need_payment) := by
  obtain ⟨f, fd, F, hm⟩ := T.f_need_payment
  exact fnP F sc_need_payment rfl hm (F.binds (ps := ["account", "value"]) fun _ _ _ _ _ _ us hl => match us, hl with | [_, _], _ => rfl) (w_need_payment T)
theorem w_pair_range (T : Txt K mg base Tb) : Body P w K Tb mg base N_pair_range "pair_range" s_pair_range 5 false b_pair_range := fun f cdv A outer s H E M0 fr pa g => ⟨_, (ssm_cons (sm_expr (em_call g (h_need_rough T) (am_cons (em_var 0) am_nil)))
    (ssm_cons (sm_expr (em_call g (h_need_bill T) (am_cons (em_var 0) (am_cons (em_var 1) am_nil))))
    (ssm_cons (sm_expr (em_call g (h_need_payment T) (am_cons (em_var 0) (am_cons (em_var 2) am_nil))))
    (ssm_one (sm_ret (em_call g (h_range_of T) (am_cons (em_var 0) (am_cons (em_var 1) (am_cons (em_var 2) am_nil)))))))))⟩
theorem h_pair_range (T : Txt K mg base Tb) : Fn P w K mg base 6 "pair_range" (spP K Tb mg 3 m_pair_range) := by
  obtain ⟨f, fd, F, hm⟩ := T.f_pair_range
  exact fnP F sc_pair_range rfl hm (F.binds (ps := ["rough", "bill", "payment"]) fun _ _ _ _ _ _ us hl => match us, hl with | [_, _, _], _ => rfl) (w_pair_range T)
theorem w_law (T : Txt K mg base Tb) : Body P w K Tb mg base N_law "law" s_law 7 false b_law := fun f cdv A outer s H E M0 fr pa g => ⟨_, (ssm_cons (sm_set (i := 1) g (em_int))
    (ssm_cons (sm_for g (im_seq g (em_bin (oAdd g) os_addA (em_of_ef (ef_lst (am_cons (em_var 1) am_nil))) (em_slice g (em_var 0) om_none (om_some (em_int))))) (gm_name 2 g.nd) (ssm_cons (sm_setL (i := 3) g (ef_call g (h__law_draws T) (am_cons (em_var 2) am_nil)))
    (ssm_cons (sm_set (i := 4) g (em_ix (iIx g) os_ixA (em_of_ef (ef_lst (am_cons (em_int) (am_cons (em_int) (am_cons (em_int) (am_cons (em_int) am_nil)))))) (em_callJ g (h__law_pick T) (am_cons (em_var 3) (am_cons (em_int) am_nil)))))
    (ssm_cons (sm_set (i := 5) g (em_callJ g (h__law_a_rough T) (am_cons (em_var 3) (am_cons (em_var 4) am_nil))))
    (ssm_cons (sm_unp (em_call g (h__law_both T) (am_cons (em_var 5) am_nil)) (gm_tup g (gms_cons (gm_name 6 g.nd) (gms_cons (gm_name 7 g.nd) gms_nil))))
    (ssm_cons (sm_if (tm_wm (wm_and (tm_cmp (oNe g) os_neA (em_var 6) (em_of_ef (ef_lst am_nil))) (wm_and1 (tm_cmp (oNe g) os_neA (em_var 7) (em_of_ef (ef_lst am_nil)))))) (ssm_one (sm_for g (im_range1 g (am_cons (em_int) am_nil) T.b_range) (gm_name 8 g.nd) (ssm_cons (sm_par 9 10 g (am_cons (em_ix (iIx g) os_ixA (em_var 6) (em_callJ g (h__law_pick T) (am_cons (em_var 3) (am_cons (em_callB (cLen g) cs_len (by rfl) T.b_len bt_len (am_cons (em_var 6) am_nil)) am_nil)))) (am_cons (em_ix (iIx g) os_ixA (em_var 7) (em_callJ g (h__law_pick T) (am_cons (em_var 3) (am_cons (em_callB (cLen g) cs_len (by rfl) T.b_len bt_len (am_cons (em_var 7) am_nil)) am_nil)))) am_nil)))
    (ssm_one (sm_if (tm_not (tm_val (em_call g (h__law_same T) (am_cons (em_call g (h_pair_range T) (am_cons (em_var 5) (am_cons (em_var 9) (am_cons (em_var 10) am_nil)))) (am_cons (em_call g (h__law_far_range T) (am_cons (em_var 5) (am_cons (em_var 9) (am_cons (em_var 10) am_nil)))) am_nil))))) (ssm_one (sm_ret (em_bl))) ssm_nil))))) ssm_nil)
    (ssm_one (sm_if (tm_wm (wm_or (tm_cmp op_lt os_cmp (em_var 4) (em_int)) (wm_or1 (tm_cmp (oEq g) os_eqA (em_callJ g (h__law_pick T) (am_cons (em_var 3) (am_cons (em_int) am_nil))) (em_int))))) (ssm_cons (sm_if (tm_not (tm_val (em_call g (h__law_lists_right T) (am_cons (em_var 5) (am_cons (em_call g (h_sure_pairs T) (am_cons (em_var 5) am_nil)) (am_cons (em_int) am_nil)))))) (ssm_one (sm_ret (em_bl))) ssm_nil)
    (ssm_one (sm_if (tm_not (tm_val (em_call g (h__law_lists_right T) (am_cons (em_var 5) (am_cons (em_call g (h_possible_pairs T) (am_cons (em_var 5) am_nil)) (am_cons (em_int) am_nil)))))) (ssm_one (sm_ret (em_bl))) ssm_nil))) ssm_nil))))))))
    (ssm_one (sm_ret (em_bl)))))⟩
theorem h_law (T : Txt K mg base Tb) : Fn P w K mg base 8 "law" (spP K Tb mg 1 m_law) := by
  obtain ⟨f, fd, F, hm⟩ := T.f_law
  exact fnP F sc_law rfl hm (F.binds (ps := ["script"]) fun _ _ _ _ _ _ us hl => match us, hl with | [_], _ => rfl) (w_law T)
end
theorem txt_mk {K : PySem.W.Frag} {h : Heap} {mg : Str → Option Value} (X : K.In h) (G : h.Ns mainGlobals mg)
    {f0 : Addr} {od0 an0 : Option Addr} {sl0 : Array (Option Value)} {oc0 kV0 dc0 pm0 cd0 ct0 : Value}
    (a0 : PySem.W.nsIn K mainGlobals "_law_draws" = some (some (.ref f0))) (l0 : K.lookup f0 = some ⟨oc0, od0, .func (PySem.W.fnOf "_law_draws" "_law_draws" (defArgs s__law_draws) (defBody s__law_draws) (defScope s__law_draws) .none kV0 dc0 pm0 an0 cd0 ct0), sl0⟩) (c0 : PySem.W.codeIn K cd0 "_law_draws" = true) (k0 : PySem.W.keepIn K (.ref f0) = true)
    {f1 : Addr} {od1 an1 : Option Addr} {sl1 : Array (Option Value)} {oc1 kV1 dc1 pm1 cd1 ct1 : Value}
    (a1 : PySem.W.nsIn K mainGlobals "_law_pick" = some (some (.ref f1))) (l1 : K.lookup f1 = some ⟨oc1, od1, .func (PySem.W.fnOf "_law_pick" "_law_pick" (defArgs s__law_pick) (defBody s__law_pick) (defScope s__law_pick) .none kV1 dc1 pm1 an1 cd1 ct1), sl1⟩) (c1 : PySem.W.codeIn K cd1 "_law_pick" = true) (k1 : PySem.W.keepIn K (.ref f1) = true)
    {f2 : Addr} {od2 an2 : Option Addr} {sl2 : Array (Option Value)} {oc2 kV2 dc2 pm2 cd2 ct2 : Value}
    (a2 : PySem.W.nsIn K mainGlobals "_law_wide" = some (some (.ref f2))) (l2 : K.lookup f2 = some ⟨oc2, od2, .func (PySem.W.fnOf "_law_wide" "_law_wide" (defArgs s__law_wide) (defBody s__law_wide) (defScope s__law_wide) .none kV2 dc2 pm2 an2 cd2 ct2), sl2⟩) (c2 : PySem.W.codeIn K cd2 "_law_wide" = true) (k2 : PySem.W.keepIn K (.ref f2) = true)
    {f3 : Addr} {od3 an3 : Option Addr} {sl3 : Array (Option Value)} {oc3 kV3 dc3 pm3 cd3 ct3 : Value}
    (a3 : PySem.W.nsIn K mainGlobals "_law_rough_of" = some (some (.ref f3))) (l3 : K.lookup f3 = some ⟨oc3, od3, .func (PySem.W.fnOf "_law_rough_of" "_law_rough_of" (defArgs s__law_rough_of) (defBody s__law_rough_of) (defScope s__law_rough_of) .none kV3 dc3 pm3 an3 cd3 ct3), sl3⟩) (c3 : PySem.W.codeIn K cd3 "_law_rough_of" = true) (k3 : PySem.W.keepIn K (.ref f3) = true)
    {f4 : Addr} {od4 an4 : Option Addr} {sl4 : Array (Option Value)} {oc4 kV4 dc4 pm4 cd4 ct4 : Value}
    (a4 : PySem.W.nsIn K mainGlobals "_law_one_sided" = some (some (.ref f4))) (l4 : K.lookup f4 = some ⟨oc4, od4, .func (PySem.W.fnOf "_law_one_sided" "_law_one_sided" (defArgs s__law_one_sided) (defBody s__law_one_sided) (defScope s__law_one_sided) .none kV4 dc4 pm4 an4 cd4 ct4), sl4⟩) (c4 : PySem.W.codeIn K cd4 "_law_one_sided" = true) (k4 : PySem.W.keepIn K (.ref f4) = true)
    {f5 : Addr} {od5 an5 : Option Addr} {sl5 : Array (Option Value)} {oc5 kV5 dc5 pm5 cd5 ct5 : Value}
    (a5 : PySem.W.nsIn K mainGlobals "_law_a_rough" = some (some (.ref f5))) (l5 : K.lookup f5 = some ⟨oc5, od5, .func (PySem.W.fnOf "_law_a_rough" "_law_a_rough" (defArgs s__law_a_rough) (defBody s__law_a_rough) (defScope s__law_a_rough) .none kV5 dc5 pm5 an5 cd5 ct5), sl5⟩) (c5 : PySem.W.codeIn K cd5 "_law_a_rough" = true) (k5 : PySem.W.keepIn K (.ref f5) = true)
    {f6 : Addr} {od6 an6 : Option Addr} {sl6 : Array (Option Value)} {oc6 kV6 dc6 pm6 cd6 ct6 : Value}
    (a6 : PySem.W.nsIn K mainGlobals "_law_both" = some (some (.ref f6))) (l6 : K.lookup f6 = some ⟨oc6, od6, .func (PySem.W.fnOf "_law_both" "_law_both" (defArgs s__law_both) (defBody s__law_both) (defScope s__law_both) .none kV6 dc6 pm6 an6 cd6 ct6), sl6⟩) (c6 : PySem.W.codeIn K cd6 "_law_both" = true) (k6 : PySem.W.keepIn K (.ref f6) = true)
    {f7 : Addr} {od7 an7 : Option Addr} {sl7 : Array (Option Value)} {oc7 kV7 dc7 pm7 cd7 ct7 : Value}
    (a7 : PySem.W.nsIn K mainGlobals "_law_same" = some (some (.ref f7))) (l7 : K.lookup f7 = some ⟨oc7, od7, .func (PySem.W.fnOf "_law_same" "_law_same" (defArgs s__law_same) (defBody s__law_same) (defScope s__law_same) .none kV7 dc7 pm7 an7 cd7 ct7), sl7⟩) (c7 : PySem.W.codeIn K cd7 "_law_same" = true) (k7 : PySem.W.keepIn K (.ref f7) = true)
    {f8 : Addr} {od8 an8 : Option Addr} {sl8 : Array (Option Value)} {oc8 kV8 dc8 pm8 cd8 ct8 : Value}
    (a8 : PySem.W.nsIn K mainGlobals "_law_older" = some (some (.ref f8))) (l8 : K.lookup f8 = some ⟨oc8, od8, .func (PySem.W.fnOf "_law_older" "_law_older" (defArgs s__law_older) (defBody s__law_older) (defScope s__law_older) .none kV8 dc8 pm8 an8 cd8 ct8), sl8⟩) (c8 : PySem.W.codeIn K cd8 "_law_older" = true) (k8 : PySem.W.keepIn K (.ref f8) = true)
    {f9 : Addr} {od9 an9 : Option Addr} {sl9 : Array (Option Value)} {oc9 kV9 dc9 pm9 cd9 ct9 : Value}
    (a9 : PySem.W.nsIn K mainGlobals "_law_ahead" = some (some (.ref f9))) (l9 : K.lookup f9 = some ⟨oc9, od9, .func (PySem.W.fnOf "_law_ahead" "_law_ahead" (defArgs s__law_ahead) (defBody s__law_ahead) (defScope s__law_ahead) .none kV9 dc9 pm9 an9 cd9 ct9), sl9⟩) (c9 : PySem.W.codeIn K cd9 "_law_ahead" = true) (k9 : PySem.W.keepIn K (.ref f9) = true)
    {f10 : Addr} {od10 an10 : Option Addr} {sl10 : Array (Option Value)} {oc10 kV10 dc10 pm10 cd10 ct10 : Value}
    (a10 : PySem.W.nsIn K mainGlobals "_law_total" = some (some (.ref f10))) (l10 : K.lookup f10 = some ⟨oc10, od10, .func (PySem.W.fnOf "_law_total" "_law_total" (defArgs s__law_total) (defBody s__law_total) (defScope s__law_total) .none kV10 dc10 pm10 an10 cd10 ct10), sl10⟩) (c10 : PySem.W.codeIn K cd10 "_law_total" = true) (k10 : PySem.W.keepIn K (.ref f10) = true)
    {f11 : Addr} {od11 an11 : Option Addr} {sl11 : Array (Option Value)} {oc11 kV11 dc11 pm11 cd11 ct11 : Value}
    (a11 : PySem.W.nsIn K mainGlobals "_law_far_range" = some (some (.ref f11))) (l11 : K.lookup f11 = some ⟨oc11, od11, .func (PySem.W.fnOf "_law_far_range" "_law_far_range" (defArgs s__law_far_range) (defBody s__law_far_range) (defScope s__law_far_range) .none kV11 dc11 pm11 an11 cd11 ct11), sl11⟩) (c11 : PySem.W.codeIn K cd11 "_law_far_range" = true) (k11 : PySem.W.keepIn K (.ref f11) = true)
    {f12 : Addr} {od12 an12 : Option Addr} {sl12 : Array (Option Value)} {oc12 kV12 dc12 pm12 cd12 ct12 : Value}
    (a12 : PySem.W.nsIn K mainGlobals "_law_lists_right" = some (some (.ref f12))) (l12 : K.lookup f12 = some ⟨oc12, od12, .func (PySem.W.fnOf "_law_lists_right" "_law_lists_right" (defArgs s__law_lists_right) (defBody s__law_lists_right) (defScope s__law_lists_right) .none kV12 dc12 pm12 an12 cd12 ct12), sl12⟩) (c12 : PySem.W.codeIn K cd12 "_law_lists_right" = true) (k12 : PySem.W.keepIn K (.ref f12) = true)
    {f13 : Addr} {od13 an13 : Option Addr} {sl13 : Array (Option Value)} {oc13 kV13 dc13 pm13 cd13 ct13 : Value}
    (a13 : PySem.W.nsIn K mainGlobals "has_word" = some (some (.ref f13))) (l13 : K.lookup f13 = some ⟨oc13, od13, .func (PySem.W.fnOf "has_word" "has_word" (defArgs s_has_word) (defBody s_has_word) (defScope s_has_word) .none kV13 dc13 pm13 an13 cd13 ct13), sl13⟩) (c13 : PySem.W.codeIn K cd13 "has_word" = true) (k13 : PySem.W.keepIn K (.ref f13) = true)
    {f14 : Addr} {od14 an14 : Option Addr} {sl14 : Array (Option Value)} {oc14 kV14 dc14 pm14 cd14 ct14 : Value}
    (a14 : PySem.W.nsIn K mainGlobals "is_integer" = some (some (.ref f14))) (l14 : K.lookup f14 = some ⟨oc14, od14, .func (PySem.W.fnOf "is_integer" "is_integer" (defArgs s_is_integer) (defBody s_is_integer) (defScope s_is_integer) .none kV14 dc14 pm14 an14 cd14 ct14), sl14⟩) (c14 : PySem.W.codeIn K cd14 "is_integer" = true) (k14 : PySem.W.keepIn K (.ref f14) = true)
    {f15 : Addr} {od15 an15 : Option Addr} {sl15 : Array (Option Value)} {oc15 kV15 dc15 pm15 cd15 ct15 : Value}
    (a15 : PySem.W.nsIn K mainGlobals "is_rough_entry" = some (some (.ref f15))) (l15 : K.lookup f15 = some ⟨oc15, od15, .func (PySem.W.fnOf "is_rough_entry" "is_rough_entry" (defArgs s_is_rough_entry) (defBody s_is_rough_entry) (defScope s_is_rough_entry) .none kV15 dc15 pm15 an15 cd15 ct15), sl15⟩) (c15 : PySem.W.codeIn K cd15 "is_rough_entry" = true) (k15 : PySem.W.keepIn K (.ref f15) = true)
    {f16 : Addr} {od16 an16 : Option Addr} {sl16 : Array (Option Value)} {oc16 kV16 dc16 pm16 cd16 ct16 : Value}
    (a16 : PySem.W.nsIn K mainGlobals "is_rough" = some (some (.ref f16))) (l16 : K.lookup f16 = some ⟨oc16, od16, .func (PySem.W.fnOf "is_rough" "is_rough" (defArgs s_is_rough) (defBody s_is_rough) (defScope s_is_rough) .none kV16 dc16 pm16 an16 cd16 ct16), sl16⟩) (c16 : PySem.W.codeIn K cd16 "is_rough" = true) (k16 : PySem.W.keepIn K (.ref f16) = true)
    {f17 : Addr} {od17 an17 : Option Addr} {sl17 : Array (Option Value)} {oc17 kV17 dc17 pm17 cd17 ct17 : Value}
    (a17 : PySem.W.nsIn K mainGlobals "need_rough" = some (some (.ref f17))) (l17 : K.lookup f17 = some ⟨oc17, od17, .func (PySem.W.fnOf "need_rough" "need_rough" (defArgs s_need_rough) (defBody s_need_rough) (defScope s_need_rough) .none kV17 dc17 pm17 an17 cd17 ct17), sl17⟩) (c17 : PySem.W.codeIn K cd17 "need_rough" = true) (k17 : PySem.W.keepIn K (.ref f17) = true)
    {f18 : Addr} {od18 an18 : Option Addr} {sl18 : Array (Option Value)} {oc18 kV18 dc18 pm18 cd18 ct18 : Value}
    (a18 : PySem.W.nsIn K mainGlobals "line_of" = some (some (.ref f18))) (l18 : K.lookup f18 = some ⟨oc18, od18, .func (PySem.W.fnOf "line_of" "line_of" (defArgs s_line_of) (defBody s_line_of) (defScope s_line_of) .none kV18 dc18 pm18 an18 cd18 ct18), sl18⟩) (c18 : PySem.W.codeIn K cd18 "line_of" = true) (k18 : PySem.W.keepIn K (.ref f18) = true)
    {f19 : Addr} {od19 an19 : Option Addr} {sl19 : Array (Option Value)} {oc19 kV19 dc19 pm19 cd19 ct19 : Value}
    (a19 : PySem.W.nsIn K mainGlobals "bill_line" = some (some (.ref f19))) (l19 : K.lookup f19 = some ⟨oc19, od19, .func (PySem.W.fnOf "bill_line" "bill_line" (defArgs s_bill_line) (defBody s_bill_line) (defScope s_bill_line) .none kV19 dc19 pm19 an19 cd19 ct19), sl19⟩) (c19 : PySem.W.codeIn K cd19 "bill_line" = true) (k19 : PySem.W.keepIn K (.ref f19) = true)
    {f20 : Addr} {od20 an20 : Option Addr} {sl20 : Array (Option Value)} {oc20 kV20 dc20 pm20 cd20 ct20 : Value}
    (a20 : PySem.W.nsIn K mainGlobals "payment_line" = some (some (.ref f20))) (l20 : K.lookup f20 = some ⟨oc20, od20, .func (PySem.W.fnOf "payment_line" "payment_line" (defArgs s_payment_line) (defBody s_payment_line) (defScope s_payment_line) .none kV20 dc20 pm20 an20 cd20 ct20), sl20⟩) (c20 : PySem.W.codeIn K cd20 "payment_line" = true) (k20 : PySem.W.keepIn K (.ref f20) = true)
    {f21 : Addr} {od21 an21 : Option Addr} {sl21 : Array (Option Value)} {oc21 kV21 dc21 pm21 cd21 ct21 : Value}
    (a21 : PySem.W.nsIn K mainGlobals "bounds_of" = some (some (.ref f21))) (l21 : K.lookup f21 = some ⟨oc21, od21, .func (PySem.W.fnOf "bounds_of" "bounds_of" (defArgs s_bounds_of) (defBody s_bounds_of) (defScope s_bounds_of) .none kV21 dc21 pm21 an21 cd21 ct21), sl21⟩) (c21 : PySem.W.codeIn K cd21 "bounds_of" = true) (k21 : PySem.W.keepIn K (.ref f21) = true)
    {f22 : Addr} {od22 an22 : Option Addr} {sl22 : Array (Option Value)} {oc22 kV22 dc22 pm22 cd22 ct22 : Value}
    (a22 : PySem.W.nsIn K mainGlobals "older_than" = some (some (.ref f22))) (l22 : K.lookup f22 = some ⟨oc22, od22, .func (PySem.W.fnOf "older_than" "older_than" (defArgs s_older_than) (defBody s_older_than) (defScope s_older_than) .none kV22 dc22 pm22 an22 cd22 ct22), sl22⟩) (c22 : PySem.W.codeIn K cd22 "older_than" = true) (k22 : PySem.W.keepIn K (.ref f22) = true)
    {f23 : Addr} {od23 an23 : Option Addr} {sl23 : Array (Option Value)} {oc23 kV23 dc23 pm23 cd23 ct23 : Value}
    (a23 : PySem.W.nsIn K mainGlobals "shift_bounds" = some (some (.ref f23))) (l23 : K.lookup f23 = some ⟨oc23, od23, .func (PySem.W.fnOf "shift_bounds" "shift_bounds" (defArgs s_shift_bounds) (defBody s_shift_bounds) (defScope s_shift_bounds) .none kV23 dc23 pm23 an23 cd23 ct23), sl23⟩) (c23 : PySem.W.codeIn K cd23 "shift_bounds" = true) (k23 : PySem.W.keepIn K (.ref f23) = true)
    {f24 : Addr} {od24 an24 : Option Addr} {sl24 : Array (Option Value)} {oc24 kV24 dc24 pm24 cd24 ct24 : Value}
    (a24 : PySem.W.nsIn K mainGlobals "overlap" = some (some (.ref f24))) (l24 : K.lookup f24 = some ⟨oc24, od24, .func (PySem.W.fnOf "overlap" "overlap" (defArgs s_overlap) (defBody s_overlap) (defScope s_overlap) .none kV24 dc24 pm24 an24 cd24 ct24), sl24⟩) (c24 : PySem.W.codeIn K cd24 "overlap" = true) (k24 : PySem.W.keepIn K (.ref f24) = true)
    {f25 : Addr} {od25 an25 : Option Addr} {sl25 : Array (Option Value)} {oc25 kV25 dc25 pm25 cd25 ct25 : Value}
    (a25 : PySem.W.nsIn K mainGlobals "nearest_shift" = some (some (.ref f25))) (l25 : K.lookup f25 = some ⟨oc25, od25, .func (PySem.W.fnOf "nearest_shift" "nearest_shift" (defArgs s_nearest_shift) (defBody s_nearest_shift) (defScope s_nearest_shift) .none kV25 dc25 pm25 an25 cd25 ct25), sl25⟩) (c25 : PySem.W.codeIn K cd25 "nearest_shift" = true) (k25 : PySem.W.keepIn K (.ref f25) = true)
    {f26 : Addr} {od26 an26 : Option Addr} {sl26 : Array (Option Value)} {oc26 kV26 dc26 pm26 cd26 ct26 : Value}
    (a26 : PySem.W.nsIn K mainGlobals "range_of" = some (some (.ref f26))) (l26 : K.lookup f26 = some ⟨oc26, od26, .func (PySem.W.fnOf "range_of" "range_of" (defArgs s_range_of) (defBody s_range_of) (defScope s_range_of) .none kV26 dc26 pm26 an26 cd26 ct26), sl26⟩) (c26 : PySem.W.codeIn K cd26 "range_of" = true) (k26 : PySem.W.keepIn K (.ref f26) = true)
    {f27 : Addr} {od27 an27 : Option Addr} {sl27 : Array (Option Value)} {oc27 kV27 dc27 pm27 cd27 ct27 : Value}
    (a27 : PySem.W.nsIn K mainGlobals "pairs_from" = some (some (.ref f27))) (l27 : K.lookup f27 = some ⟨oc27, od27, .func (PySem.W.fnOf "pairs_from" "pairs_from" (defArgs s_pairs_from) (defBody s_pairs_from) (defScope s_pairs_from) .none kV27 dc27 pm27 an27 cd27 ct27), sl27⟩) (c27 : PySem.W.codeIn K cd27 "pairs_from" = true) (k27 : PySem.W.keepIn K (.ref f27) = true)
    {f28 : Addr} {od28 an28 : Option Addr} {sl28 : Array (Option Value)} {oc28 kV28 dc28 pm28 cd28 ct28 : Value}
    (a28 : PySem.W.nsIn K mainGlobals "sure_pairs" = some (some (.ref f28))) (l28 : K.lookup f28 = some ⟨oc28, od28, .func (PySem.W.fnOf "sure_pairs" "sure_pairs" (defArgs s_sure_pairs) (defBody s_sure_pairs) (defScope s_sure_pairs) .none kV28 dc28 pm28 an28 cd28 ct28), sl28⟩) (c28 : PySem.W.codeIn K cd28 "sure_pairs" = true) (k28 : PySem.W.keepIn K (.ref f28) = true)
    {f29 : Addr} {od29 an29 : Option Addr} {sl29 : Array (Option Value)} {oc29 kV29 dc29 pm29 cd29 ct29 : Value}
    (a29 : PySem.W.nsIn K mainGlobals "possible_pairs" = some (some (.ref f29))) (l29 : K.lookup f29 = some ⟨oc29, od29, .func (PySem.W.fnOf "possible_pairs" "possible_pairs" (defArgs s_possible_pairs) (defBody s_possible_pairs) (defScope s_possible_pairs) .none kV29 dc29 pm29 an29 cd29 ct29), sl29⟩) (c29 : PySem.W.codeIn K cd29 "possible_pairs" = true) (k29 : PySem.W.keepIn K (.ref f29) = true)
    {f30 : Addr} {od30 an30 : Option Addr} {sl30 : Array (Option Value)} {oc30 kV30 dc30 pm30 cd30 ct30 : Value}
    (a30 : PySem.W.nsIn K mainGlobals "is_place" = some (some (.ref f30))) (l30 : K.lookup f30 = some ⟨oc30, od30, .func (PySem.W.fnOf "is_place" "is_place" (defArgs s_is_place) (defBody s_is_place) (defScope s_is_place) .none kV30 dc30 pm30 an30 cd30 ct30), sl30⟩) (c30 : PySem.W.codeIn K cd30 "is_place" = true) (k30 : PySem.W.keepIn K (.ref f30) = true)
    {f31 : Addr} {od31 an31 : Option Addr} {sl31 : Array (Option Value)} {oc31 kV31 dc31 pm31 cd31 ct31 : Value}
    (a31 : PySem.W.nsIn K mainGlobals "need_bill" = some (some (.ref f31))) (l31 : K.lookup f31 = some ⟨oc31, od31, .func (PySem.W.fnOf "need_bill" "need_bill" (defArgs s_need_bill) (defBody s_need_bill) (defScope s_need_bill) .none kV31 dc31 pm31 an31 cd31 ct31), sl31⟩) (c31 : PySem.W.codeIn K cd31 "need_bill" = true) (k31 : PySem.W.keepIn K (.ref f31) = true)
    {f32 : Addr} {od32 an32 : Option Addr} {sl32 : Array (Option Value)} {oc32 kV32 dc32 pm32 cd32 ct32 : Value}
    (a32 : PySem.W.nsIn K mainGlobals "need_payment" = some (some (.ref f32))) (l32 : K.lookup f32 = some ⟨oc32, od32, .func (PySem.W.fnOf "need_payment" "need_payment" (defArgs s_need_payment) (defBody s_need_payment) (defScope s_need_payment) .none kV32 dc32 pm32 an32 cd32 ct32), sl32⟩) (c32 : PySem.W.codeIn K cd32 "need_payment" = true) (k32 : PySem.W.keepIn K (.ref f32) = true)
    {f33 : Addr} {od33 an33 : Option Addr} {sl33 : Array (Option Value)} {oc33 kV33 dc33 pm33 cd33 ct33 : Value}
    (a33 : PySem.W.nsIn K mainGlobals "pair_range" = some (some (.ref f33))) (l33 : K.lookup f33 = some ⟨oc33, od33, .func (PySem.W.fnOf "pair_range" "pair_range" (defArgs s_pair_range) (defBody s_pair_range) (defScope s_pair_range) .none kV33 dc33 pm33 an33 cd33 ct33), sl33⟩) (c33 : PySem.W.codeIn K cd33 "pair_range" = true) (k33 : PySem.W.keepIn K (.ref f33) = true)
    {f34 : Addr} {od34 an34 : Option Addr} {sl34 : Array (Option Value)} {oc34 kV34 dc34 pm34 cd34 ct34 : Value}
    (a34 : PySem.W.nsIn K mainGlobals "law" = some (some (.ref f34))) (l34 : K.lookup f34 = some ⟨oc34, od34, .func (PySem.W.fnOf "law" "law" (defArgs s_law) (defBody s_law) (defScope s_law) .none kV34 dc34 pm34 an34 cd34 ct34), sl34⟩) (c34 : PySem.W.codeIn K cd34 "law" = true) (k34 : PySem.W.keepIn K (.ref f34) = true)
    {C18 : Addr} (q18 : cd18 = .ref C18) (r18 : PySem.W.codeHdIn K C18 (tabO K C18) = true)
    (z0 : PySem.W.nsIn K mainGlobals "all" = some none)
    (z1 : PySem.W.nsIn K mainGlobals "bool" = some none)
    (z2 : PySem.W.nsIn K mainGlobals "int" = some none)
    (z3 : PySem.W.nsIn K mainGlobals "isinstance" = some none)
    (z4 : PySem.W.nsIn K mainGlobals "len" = some none)
    (z5 : PySem.W.nsIn K mainGlobals "max" = some none)
    (z6 : PySem.W.nsIn K mainGlobals "min" = some none)
    (z7 : PySem.W.nsIn K mainGlobals "range" = some none)
    (z8 : PySem.W.nsIn K mainGlobals "repr" = some none)
    (z9 : PySem.W.nsIn K mainGlobals "sorted" = some none)
    (z10 : PySem.W.nsIn K mainGlobals "str" = some none)
    (z11 : PySem.W.nsIn K mainGlobals "sum" = some none)
    (z12 : PySem.W.nsIn K mainGlobals "tuple" = some none)
    {O0 : Addr} {o0 : Obj} (ga0 : PySem.W.nsIn K mainGlobals "PAYING" = some (some (.ref O0))) (gb0 : K.lookup O0 = some o0) (gc0 : conO o0 [.str "pay", .str "named"] = true)
    {E0 : Addr} (ea0 : PySem.W.nsIn K mainGlobals "InvalidBill" = some (some (.ref E0))) (eb0 : PySem.W.excIn K E0 [.type "ValueError", .type "Exception", .type "BaseException", .type "object"] "ValueError.__new__" = true) (ec0 : PySem.W.keepIn K (.ref E0) = true) (ed0 : PySem.W.subIn K (.ref E0) (.type "BaseException") = some true) (ee0 : PySem.W.typeIn K (.ref E0) = some (.type "type"))
    {E1 : Addr} (ea1 : PySem.W.nsIn K mainGlobals "InvalidPayment" = some (some (.ref E1))) (eb1 : PySem.W.excIn K E1 [.type "ValueError", .type "Exception", .type "BaseException", .type "object"] "ValueError.__new__" = true) (ec1 : PySem.W.keepIn K (.ref E1) = true) (ed1 : PySem.W.subIn K (.ref E1) (.type "BaseException") = some true) (ee1 : PySem.W.typeIn K (.ref E1) = some (.type "type"))
    {E2 : Addr} (ea2 : PySem.W.nsIn K mainGlobals "InvalidRough" = some (some (.ref E2))) (eb2 : PySem.W.excIn K E2 [.type "ValueError", .type "Exception", .type "BaseException", .type "object"] "ValueError.__new__" = true) (ec2 : PySem.W.keepIn K (.ref E2) = true) (ed2 : PySem.W.subIn K (.ref E2) (.type "BaseException") = some true) (ee2 : PySem.W.typeIn K (.ref E2) = some (.type "type"))
     {base : Heap} (TBs : ∀ p ∈ ([(C18, tabO K C18)] : List (Addr × Addr)), LamX.TabB base mg p.1 p.2) : Txt K mg base [(tabO K C18, lamN "line_of")] where
  f__law_draws := ⟨_, _, fun_mk (st := s__law_draws) l0 c0 k0, PySem.W.mg_of X G a0⟩
  f__law_pick := ⟨_, _, fun_mk (st := s__law_pick) l1 c1 k1, PySem.W.mg_of X G a1⟩
  f__law_wide := ⟨_, _, fun_mk (st := s__law_wide) l2 c2 k2, PySem.W.mg_of X G a2⟩
  f__law_rough_of := ⟨_, _, fun_mk (st := s__law_rough_of) l3 c3 k3, PySem.W.mg_of X G a3⟩
  f__law_one_sided := ⟨_, _, fun_mk (st := s__law_one_sided) l4 c4 k4, PySem.W.mg_of X G a4⟩
  f__law_a_rough := ⟨_, _, fun_mk (st := s__law_a_rough) l5 c5 k5, PySem.W.mg_of X G a5⟩
  f__law_both := ⟨_, _, fun_mk (st := s__law_both) l6 c6 k6, PySem.W.mg_of X G a6⟩
  f__law_same := ⟨_, _, fun_mk (st := s__law_same) l7 c7 k7, PySem.W.mg_of X G a7⟩
  f__law_older := ⟨_, _, fun_mk (st := s__law_older) l8 c8 k8, PySem.W.mg_of X G a8⟩
  f__law_ahead := ⟨_, _, fun_mk (st := s__law_ahead) l9 c9 k9, PySem.W.mg_of X G a9⟩
  f__law_total := ⟨_, _, fun_mk (st := s__law_total) l10 c10 k10, PySem.W.mg_of X G a10⟩
  f__law_far_range := ⟨_, _, fun_mk (st := s__law_far_range) l11 c11 k11, PySem.W.mg_of X G a11⟩
  f__law_lists_right := ⟨_, _, fun_mk (st := s__law_lists_right) l12 c12 k12, PySem.W.mg_of X G a12⟩
  f_has_word := ⟨_, _, fun_mk (st := s_has_word) l13 c13 k13, PySem.W.mg_of X G a13⟩
  f_is_integer := ⟨_, _, fun_mk (st := s_is_integer) l14 c14 k14, PySem.W.mg_of X G a14⟩
  f_is_rough_entry := ⟨_, _, fun_mk (st := s_is_rough_entry) l15 c15 k15, PySem.W.mg_of X G a15⟩
  f_is_rough := ⟨_, _, fun_mk (st := s_is_rough) l16 c16 k16, PySem.W.mg_of X G a16⟩
  f_need_rough := ⟨_, _, fun_mk (st := s_need_rough) l17 c17 k17, PySem.W.mg_of X G a17⟩
  f_line_of := ⟨_, _, C18, tabO K C18, fun_mk (st := s_line_of) l18 c18 k18, PySem.W.mg_of X G a18, q18, TBs (C18, tabO K C18) (by simp), by simp, fun p hp e => by
    simp only [List.mem_cons, List.not_mem_nil, or_false] at hp
    rcases hp with rfl
    · exact rfl⟩
  f_bill_line := ⟨_, _, fun_mk (st := s_bill_line) l19 c19 k19, PySem.W.mg_of X G a19⟩
  f_payment_line := ⟨_, _, fun_mk (st := s_payment_line) l20 c20 k20, PySem.W.mg_of X G a20⟩
  f_bounds_of := ⟨_, _, fun_mk (st := s_bounds_of) l21 c21 k21, PySem.W.mg_of X G a21⟩
  f_older_than := ⟨_, _, fun_mk (st := s_older_than) l22 c22 k22, PySem.W.mg_of X G a22⟩
  f_shift_bounds := ⟨_, _, fun_mk (st := s_shift_bounds) l23 c23 k23, PySem.W.mg_of X G a23⟩
  f_overlap := ⟨_, _, fun_mk (st := s_overlap) l24 c24 k24, PySem.W.mg_of X G a24⟩
  f_nearest_shift := ⟨_, _, fun_mk (st := s_nearest_shift) l25 c25 k25, PySem.W.mg_of X G a25⟩
  f_range_of := ⟨_, _, fun_mk (st := s_range_of) l26 c26 k26, PySem.W.mg_of X G a26⟩
  f_pairs_from := ⟨_, _, fun_mk (st := s_pairs_from) l27 c27 k27, PySem.W.mg_of X G a27⟩
  f_sure_pairs := ⟨_, _, fun_mk (st := s_sure_pairs) l28 c28 k28, PySem.W.mg_of X G a28⟩
  f_possible_pairs := ⟨_, _, fun_mk (st := s_possible_pairs) l29 c29 k29, PySem.W.mg_of X G a29⟩
  f_is_place := ⟨_, _, fun_mk (st := s_is_place) l30 c30 k30, PySem.W.mg_of X G a30⟩
  f_need_bill := ⟨_, _, fun_mk (st := s_need_bill) l31 c31 k31, PySem.W.mg_of X G a31⟩
  f_need_payment := ⟨_, _, fun_mk (st := s_need_payment) l32 c32 k32, PySem.W.mg_of X G a32⟩
  f_pair_range := ⟨_, _, fun_mk (st := s_pair_range) l33 c33 k33, PySem.W.mg_of X G a33⟩
  f_law := ⟨_, _, fun_mk (st := s_law) l34 c34 k34, PySem.W.mg_of X G a34⟩
  b_all := PySem.W.mg_none_of X G z0
  b_bool := PySem.W.mg_none_of X G z1
  b_int := PySem.W.mg_none_of X G z2
  b_isinstance := PySem.W.mg_none_of X G z3
  b_len := PySem.W.mg_none_of X G z4
  b_max := PySem.W.mg_none_of X G z5
  b_min := PySem.W.mg_none_of X G z6
  b_range := PySem.W.mg_none_of X G z7
  b_repr := PySem.W.mg_none_of X G z8
  b_sorted := PySem.W.mg_none_of X G z9
  b_str := PySem.W.mg_none_of X G z10
  b_sum := PySem.W.mg_none_of X G z11
  b_tuple := PySem.W.mg_none_of X G z12
  c_PAYING := con_tup (PySem.W.mg_of X G ga0) gb0 gc0
  e_InvalidBill := ⟨E0, PySem.W.mg_of X G ea0, eb0, ec0, ed0, ee0⟩
  e_InvalidPayment := ⟨E1, PySem.W.mg_of X G ea1, eb1, ec1, ed1, ee1⟩
  e_InvalidRough := ⟨E2, PySem.W.mg_of X G ea2, eb2, ec2, ed2, ee2⟩
theorem at_mk {l : PySem.W.OpenLaw} {w : World} {K : PySem.W.Frag} {h : Heap} {mg : Str → Option Value} (X : K.In h) (G : h.Ns mainGlobals mg)
    {f0 : Addr} {od0 an0 : Option Addr} {sl0 : Array (Option Value)} {oc0 kV0 dc0 pm0 cd0 ct0 : Value}
    (a0 : PySem.W.nsIn K mainGlobals "_law_draws" = some (some (.ref f0))) (l0 : K.lookup f0 = some ⟨oc0, od0, .func (PySem.W.fnOf "_law_draws" "_law_draws" (defArgs s__law_draws) (defBody s__law_draws) (defScope s__law_draws) .none kV0 dc0 pm0 an0 cd0 ct0), sl0⟩) (c0 : PySem.W.codeIn K cd0 "_law_draws" = true) (k0 : PySem.W.keepIn K (.ref f0) = true)
    {f1 : Addr} {od1 an1 : Option Addr} {sl1 : Array (Option Value)} {oc1 kV1 dc1 pm1 cd1 ct1 : Value}
    (a1 : PySem.W.nsIn K mainGlobals "_law_pick" = some (some (.ref f1))) (l1 : K.lookup f1 = some ⟨oc1, od1, .func (PySem.W.fnOf "_law_pick" "_law_pick" (defArgs s__law_pick) (defBody s__law_pick) (defScope s__law_pick) .none kV1 dc1 pm1 an1 cd1 ct1), sl1⟩) (c1 : PySem.W.codeIn K cd1 "_law_pick" = true) (k1 : PySem.W.keepIn K (.ref f1) = true)
    {f2 : Addr} {od2 an2 : Option Addr} {sl2 : Array (Option Value)} {oc2 kV2 dc2 pm2 cd2 ct2 : Value}
    (a2 : PySem.W.nsIn K mainGlobals "_law_wide" = some (some (.ref f2))) (l2 : K.lookup f2 = some ⟨oc2, od2, .func (PySem.W.fnOf "_law_wide" "_law_wide" (defArgs s__law_wide) (defBody s__law_wide) (defScope s__law_wide) .none kV2 dc2 pm2 an2 cd2 ct2), sl2⟩) (c2 : PySem.W.codeIn K cd2 "_law_wide" = true) (k2 : PySem.W.keepIn K (.ref f2) = true)
    {f3 : Addr} {od3 an3 : Option Addr} {sl3 : Array (Option Value)} {oc3 kV3 dc3 pm3 cd3 ct3 : Value}
    (a3 : PySem.W.nsIn K mainGlobals "_law_rough_of" = some (some (.ref f3))) (l3 : K.lookup f3 = some ⟨oc3, od3, .func (PySem.W.fnOf "_law_rough_of" "_law_rough_of" (defArgs s__law_rough_of) (defBody s__law_rough_of) (defScope s__law_rough_of) .none kV3 dc3 pm3 an3 cd3 ct3), sl3⟩) (c3 : PySem.W.codeIn K cd3 "_law_rough_of" = true) (k3 : PySem.W.keepIn K (.ref f3) = true)
    {f4 : Addr} {od4 an4 : Option Addr} {sl4 : Array (Option Value)} {oc4 kV4 dc4 pm4 cd4 ct4 : Value}
    (a4 : PySem.W.nsIn K mainGlobals "_law_one_sided" = some (some (.ref f4))) (l4 : K.lookup f4 = some ⟨oc4, od4, .func (PySem.W.fnOf "_law_one_sided" "_law_one_sided" (defArgs s__law_one_sided) (defBody s__law_one_sided) (defScope s__law_one_sided) .none kV4 dc4 pm4 an4 cd4 ct4), sl4⟩) (c4 : PySem.W.codeIn K cd4 "_law_one_sided" = true) (k4 : PySem.W.keepIn K (.ref f4) = true)
    {f5 : Addr} {od5 an5 : Option Addr} {sl5 : Array (Option Value)} {oc5 kV5 dc5 pm5 cd5 ct5 : Value}
    (a5 : PySem.W.nsIn K mainGlobals "_law_a_rough" = some (some (.ref f5))) (l5 : K.lookup f5 = some ⟨oc5, od5, .func (PySem.W.fnOf "_law_a_rough" "_law_a_rough" (defArgs s__law_a_rough) (defBody s__law_a_rough) (defScope s__law_a_rough) .none kV5 dc5 pm5 an5 cd5 ct5), sl5⟩) (c5 : PySem.W.codeIn K cd5 "_law_a_rough" = true) (k5 : PySem.W.keepIn K (.ref f5) = true)
    {f6 : Addr} {od6 an6 : Option Addr} {sl6 : Array (Option Value)} {oc6 kV6 dc6 pm6 cd6 ct6 : Value}
    (a6 : PySem.W.nsIn K mainGlobals "_law_both" = some (some (.ref f6))) (l6 : K.lookup f6 = some ⟨oc6, od6, .func (PySem.W.fnOf "_law_both" "_law_both" (defArgs s__law_both) (defBody s__law_both) (defScope s__law_both) .none kV6 dc6 pm6 an6 cd6 ct6), sl6⟩) (c6 : PySem.W.codeIn K cd6 "_law_both" = true) (k6 : PySem.W.keepIn K (.ref f6) = true)
    {f7 : Addr} {od7 an7 : Option Addr} {sl7 : Array (Option Value)} {oc7 kV7 dc7 pm7 cd7 ct7 : Value}
    (a7 : PySem.W.nsIn K mainGlobals "_law_same" = some (some (.ref f7))) (l7 : K.lookup f7 = some ⟨oc7, od7, .func (PySem.W.fnOf "_law_same" "_law_same" (defArgs s__law_same) (defBody s__law_same) (defScope s__law_same) .none kV7 dc7 pm7 an7 cd7 ct7), sl7⟩) (c7 : PySem.W.codeIn K cd7 "_law_same" = true) (k7 : PySem.W.keepIn K (.ref f7) = true)
    {f8 : Addr} {od8 an8 : Option Addr} {sl8 : Array (Option Value)} {oc8 kV8 dc8 pm8 cd8 ct8 : Value}
    (a8 : PySem.W.nsIn K mainGlobals "_law_older" = some (some (.ref f8))) (l8 : K.lookup f8 = some ⟨oc8, od8, .func (PySem.W.fnOf "_law_older" "_law_older" (defArgs s__law_older) (defBody s__law_older) (defScope s__law_older) .none kV8 dc8 pm8 an8 cd8 ct8), sl8⟩) (c8 : PySem.W.codeIn K cd8 "_law_older" = true) (k8 : PySem.W.keepIn K (.ref f8) = true)
    {f9 : Addr} {od9 an9 : Option Addr} {sl9 : Array (Option Value)} {oc9 kV9 dc9 pm9 cd9 ct9 : Value}
    (a9 : PySem.W.nsIn K mainGlobals "_law_ahead" = some (some (.ref f9))) (l9 : K.lookup f9 = some ⟨oc9, od9, .func (PySem.W.fnOf "_law_ahead" "_law_ahead" (defArgs s__law_ahead) (defBody s__law_ahead) (defScope s__law_ahead) .none kV9 dc9 pm9 an9 cd9 ct9), sl9⟩) (c9 : PySem.W.codeIn K cd9 "_law_ahead" = true) (k9 : PySem.W.keepIn K (.ref f9) = true)
    {f10 : Addr} {od10 an10 : Option Addr} {sl10 : Array (Option Value)} {oc10 kV10 dc10 pm10 cd10 ct10 : Value}
    (a10 : PySem.W.nsIn K mainGlobals "_law_total" = some (some (.ref f10))) (l10 : K.lookup f10 = some ⟨oc10, od10, .func (PySem.W.fnOf "_law_total" "_law_total" (defArgs s__law_total) (defBody s__law_total) (defScope s__law_total) .none kV10 dc10 pm10 an10 cd10 ct10), sl10⟩) (c10 : PySem.W.codeIn K cd10 "_law_total" = true) (k10 : PySem.W.keepIn K (.ref f10) = true)
    {f11 : Addr} {od11 an11 : Option Addr} {sl11 : Array (Option Value)} {oc11 kV11 dc11 pm11 cd11 ct11 : Value}
    (a11 : PySem.W.nsIn K mainGlobals "_law_far_range" = some (some (.ref f11))) (l11 : K.lookup f11 = some ⟨oc11, od11, .func (PySem.W.fnOf "_law_far_range" "_law_far_range" (defArgs s__law_far_range) (defBody s__law_far_range) (defScope s__law_far_range) .none kV11 dc11 pm11 an11 cd11 ct11), sl11⟩) (c11 : PySem.W.codeIn K cd11 "_law_far_range" = true) (k11 : PySem.W.keepIn K (.ref f11) = true)
    {f12 : Addr} {od12 an12 : Option Addr} {sl12 : Array (Option Value)} {oc12 kV12 dc12 pm12 cd12 ct12 : Value}
    (a12 : PySem.W.nsIn K mainGlobals "_law_lists_right" = some (some (.ref f12))) (l12 : K.lookup f12 = some ⟨oc12, od12, .func (PySem.W.fnOf "_law_lists_right" "_law_lists_right" (defArgs s__law_lists_right) (defBody s__law_lists_right) (defScope s__law_lists_right) .none kV12 dc12 pm12 an12 cd12 ct12), sl12⟩) (c12 : PySem.W.codeIn K cd12 "_law_lists_right" = true) (k12 : PySem.W.keepIn K (.ref f12) = true)
    {f13 : Addr} {od13 an13 : Option Addr} {sl13 : Array (Option Value)} {oc13 kV13 dc13 pm13 cd13 ct13 : Value}
    (a13 : PySem.W.nsIn K mainGlobals "has_word" = some (some (.ref f13))) (l13 : K.lookup f13 = some ⟨oc13, od13, .func (PySem.W.fnOf "has_word" "has_word" (defArgs s_has_word) (defBody s_has_word) (defScope s_has_word) .none kV13 dc13 pm13 an13 cd13 ct13), sl13⟩) (c13 : PySem.W.codeIn K cd13 "has_word" = true) (k13 : PySem.W.keepIn K (.ref f13) = true)
    {f14 : Addr} {od14 an14 : Option Addr} {sl14 : Array (Option Value)} {oc14 kV14 dc14 pm14 cd14 ct14 : Value}
    (a14 : PySem.W.nsIn K mainGlobals "is_integer" = some (some (.ref f14))) (l14 : K.lookup f14 = some ⟨oc14, od14, .func (PySem.W.fnOf "is_integer" "is_integer" (defArgs s_is_integer) (defBody s_is_integer) (defScope s_is_integer) .none kV14 dc14 pm14 an14 cd14 ct14), sl14⟩) (c14 : PySem.W.codeIn K cd14 "is_integer" = true) (k14 : PySem.W.keepIn K (.ref f14) = true)
    {f15 : Addr} {od15 an15 : Option Addr} {sl15 : Array (Option Value)} {oc15 kV15 dc15 pm15 cd15 ct15 : Value}
    (a15 : PySem.W.nsIn K mainGlobals "is_rough_entry" = some (some (.ref f15))) (l15 : K.lookup f15 = some ⟨oc15, od15, .func (PySem.W.fnOf "is_rough_entry" "is_rough_entry" (defArgs s_is_rough_entry) (defBody s_is_rough_entry) (defScope s_is_rough_entry) .none kV15 dc15 pm15 an15 cd15 ct15), sl15⟩) (c15 : PySem.W.codeIn K cd15 "is_rough_entry" = true) (k15 : PySem.W.keepIn K (.ref f15) = true)
    {f16 : Addr} {od16 an16 : Option Addr} {sl16 : Array (Option Value)} {oc16 kV16 dc16 pm16 cd16 ct16 : Value}
    (a16 : PySem.W.nsIn K mainGlobals "is_rough" = some (some (.ref f16))) (l16 : K.lookup f16 = some ⟨oc16, od16, .func (PySem.W.fnOf "is_rough" "is_rough" (defArgs s_is_rough) (defBody s_is_rough) (defScope s_is_rough) .none kV16 dc16 pm16 an16 cd16 ct16), sl16⟩) (c16 : PySem.W.codeIn K cd16 "is_rough" = true) (k16 : PySem.W.keepIn K (.ref f16) = true)
    {f17 : Addr} {od17 an17 : Option Addr} {sl17 : Array (Option Value)} {oc17 kV17 dc17 pm17 cd17 ct17 : Value}
    (a17 : PySem.W.nsIn K mainGlobals "need_rough" = some (some (.ref f17))) (l17 : K.lookup f17 = some ⟨oc17, od17, .func (PySem.W.fnOf "need_rough" "need_rough" (defArgs s_need_rough) (defBody s_need_rough) (defScope s_need_rough) .none kV17 dc17 pm17 an17 cd17 ct17), sl17⟩) (c17 : PySem.W.codeIn K cd17 "need_rough" = true) (k17 : PySem.W.keepIn K (.ref f17) = true)
    {f18 : Addr} {od18 an18 : Option Addr} {sl18 : Array (Option Value)} {oc18 kV18 dc18 pm18 cd18 ct18 : Value}
    (a18 : PySem.W.nsIn K mainGlobals "line_of" = some (some (.ref f18))) (l18 : K.lookup f18 = some ⟨oc18, od18, .func (PySem.W.fnOf "line_of" "line_of" (defArgs s_line_of) (defBody s_line_of) (defScope s_line_of) .none kV18 dc18 pm18 an18 cd18 ct18), sl18⟩) (c18 : PySem.W.codeIn K cd18 "line_of" = true) (k18 : PySem.W.keepIn K (.ref f18) = true)
    {f19 : Addr} {od19 an19 : Option Addr} {sl19 : Array (Option Value)} {oc19 kV19 dc19 pm19 cd19 ct19 : Value}
    (a19 : PySem.W.nsIn K mainGlobals "bill_line" = some (some (.ref f19))) (l19 : K.lookup f19 = some ⟨oc19, od19, .func (PySem.W.fnOf "bill_line" "bill_line" (defArgs s_bill_line) (defBody s_bill_line) (defScope s_bill_line) .none kV19 dc19 pm19 an19 cd19 ct19), sl19⟩) (c19 : PySem.W.codeIn K cd19 "bill_line" = true) (k19 : PySem.W.keepIn K (.ref f19) = true)
    {f20 : Addr} {od20 an20 : Option Addr} {sl20 : Array (Option Value)} {oc20 kV20 dc20 pm20 cd20 ct20 : Value}
    (a20 : PySem.W.nsIn K mainGlobals "payment_line" = some (some (.ref f20))) (l20 : K.lookup f20 = some ⟨oc20, od20, .func (PySem.W.fnOf "payment_line" "payment_line" (defArgs s_payment_line) (defBody s_payment_line) (defScope s_payment_line) .none kV20 dc20 pm20 an20 cd20 ct20), sl20⟩) (c20 : PySem.W.codeIn K cd20 "payment_line" = true) (k20 : PySem.W.keepIn K (.ref f20) = true)
    {f21 : Addr} {od21 an21 : Option Addr} {sl21 : Array (Option Value)} {oc21 kV21 dc21 pm21 cd21 ct21 : Value}
    (a21 : PySem.W.nsIn K mainGlobals "bounds_of" = some (some (.ref f21))) (l21 : K.lookup f21 = some ⟨oc21, od21, .func (PySem.W.fnOf "bounds_of" "bounds_of" (defArgs s_bounds_of) (defBody s_bounds_of) (defScope s_bounds_of) .none kV21 dc21 pm21 an21 cd21 ct21), sl21⟩) (c21 : PySem.W.codeIn K cd21 "bounds_of" = true) (k21 : PySem.W.keepIn K (.ref f21) = true)
    {f22 : Addr} {od22 an22 : Option Addr} {sl22 : Array (Option Value)} {oc22 kV22 dc22 pm22 cd22 ct22 : Value}
    (a22 : PySem.W.nsIn K mainGlobals "older_than" = some (some (.ref f22))) (l22 : K.lookup f22 = some ⟨oc22, od22, .func (PySem.W.fnOf "older_than" "older_than" (defArgs s_older_than) (defBody s_older_than) (defScope s_older_than) .none kV22 dc22 pm22 an22 cd22 ct22), sl22⟩) (c22 : PySem.W.codeIn K cd22 "older_than" = true) (k22 : PySem.W.keepIn K (.ref f22) = true)
    {f23 : Addr} {od23 an23 : Option Addr} {sl23 : Array (Option Value)} {oc23 kV23 dc23 pm23 cd23 ct23 : Value}
    (a23 : PySem.W.nsIn K mainGlobals "shift_bounds" = some (some (.ref f23))) (l23 : K.lookup f23 = some ⟨oc23, od23, .func (PySem.W.fnOf "shift_bounds" "shift_bounds" (defArgs s_shift_bounds) (defBody s_shift_bounds) (defScope s_shift_bounds) .none kV23 dc23 pm23 an23 cd23 ct23), sl23⟩) (c23 : PySem.W.codeIn K cd23 "shift_bounds" = true) (k23 : PySem.W.keepIn K (.ref f23) = true)
    {f24 : Addr} {od24 an24 : Option Addr} {sl24 : Array (Option Value)} {oc24 kV24 dc24 pm24 cd24 ct24 : Value}
    (a24 : PySem.W.nsIn K mainGlobals "overlap" = some (some (.ref f24))) (l24 : K.lookup f24 = some ⟨oc24, od24, .func (PySem.W.fnOf "overlap" "overlap" (defArgs s_overlap) (defBody s_overlap) (defScope s_overlap) .none kV24 dc24 pm24 an24 cd24 ct24), sl24⟩) (c24 : PySem.W.codeIn K cd24 "overlap" = true) (k24 : PySem.W.keepIn K (.ref f24) = true)
    {f25 : Addr} {od25 an25 : Option Addr} {sl25 : Array (Option Value)} {oc25 kV25 dc25 pm25 cd25 ct25 : Value}
    (a25 : PySem.W.nsIn K mainGlobals "nearest_shift" = some (some (.ref f25))) (l25 : K.lookup f25 = some ⟨oc25, od25, .func (PySem.W.fnOf "nearest_shift" "nearest_shift" (defArgs s_nearest_shift) (defBody s_nearest_shift) (defScope s_nearest_shift) .none kV25 dc25 pm25 an25 cd25 ct25), sl25⟩) (c25 : PySem.W.codeIn K cd25 "nearest_shift" = true) (k25 : PySem.W.keepIn K (.ref f25) = true)
    {f26 : Addr} {od26 an26 : Option Addr} {sl26 : Array (Option Value)} {oc26 kV26 dc26 pm26 cd26 ct26 : Value}
    (a26 : PySem.W.nsIn K mainGlobals "range_of" = some (some (.ref f26))) (l26 : K.lookup f26 = some ⟨oc26, od26, .func (PySem.W.fnOf "range_of" "range_of" (defArgs s_range_of) (defBody s_range_of) (defScope s_range_of) .none kV26 dc26 pm26 an26 cd26 ct26), sl26⟩) (c26 : PySem.W.codeIn K cd26 "range_of" = true) (k26 : PySem.W.keepIn K (.ref f26) = true)
    {f27 : Addr} {od27 an27 : Option Addr} {sl27 : Array (Option Value)} {oc27 kV27 dc27 pm27 cd27 ct27 : Value}
    (a27 : PySem.W.nsIn K mainGlobals "pairs_from" = some (some (.ref f27))) (l27 : K.lookup f27 = some ⟨oc27, od27, .func (PySem.W.fnOf "pairs_from" "pairs_from" (defArgs s_pairs_from) (defBody s_pairs_from) (defScope s_pairs_from) .none kV27 dc27 pm27 an27 cd27 ct27), sl27⟩) (c27 : PySem.W.codeIn K cd27 "pairs_from" = true) (k27 : PySem.W.keepIn K (.ref f27) = true)
    {f28 : Addr} {od28 an28 : Option Addr} {sl28 : Array (Option Value)} {oc28 kV28 dc28 pm28 cd28 ct28 : Value}
    (a28 : PySem.W.nsIn K mainGlobals "sure_pairs" = some (some (.ref f28))) (l28 : K.lookup f28 = some ⟨oc28, od28, .func (PySem.W.fnOf "sure_pairs" "sure_pairs" (defArgs s_sure_pairs) (defBody s_sure_pairs) (defScope s_sure_pairs) .none kV28 dc28 pm28 an28 cd28 ct28), sl28⟩) (c28 : PySem.W.codeIn K cd28 "sure_pairs" = true) (k28 : PySem.W.keepIn K (.ref f28) = true)
    {f29 : Addr} {od29 an29 : Option Addr} {sl29 : Array (Option Value)} {oc29 kV29 dc29 pm29 cd29 ct29 : Value}
    (a29 : PySem.W.nsIn K mainGlobals "possible_pairs" = some (some (.ref f29))) (l29 : K.lookup f29 = some ⟨oc29, od29, .func (PySem.W.fnOf "possible_pairs" "possible_pairs" (defArgs s_possible_pairs) (defBody s_possible_pairs) (defScope s_possible_pairs) .none kV29 dc29 pm29 an29 cd29 ct29), sl29⟩) (c29 : PySem.W.codeIn K cd29 "possible_pairs" = true) (k29 : PySem.W.keepIn K (.ref f29) = true)
    {f30 : Addr} {od30 an30 : Option Addr} {sl30 : Array (Option Value)} {oc30 kV30 dc30 pm30 cd30 ct30 : Value}
    (a30 : PySem.W.nsIn K mainGlobals "is_place" = some (some (.ref f30))) (l30 : K.lookup f30 = some ⟨oc30, od30, .func (PySem.W.fnOf "is_place" "is_place" (defArgs s_is_place) (defBody s_is_place) (defScope s_is_place) .none kV30 dc30 pm30 an30 cd30 ct30), sl30⟩) (c30 : PySem.W.codeIn K cd30 "is_place" = true) (k30 : PySem.W.keepIn K (.ref f30) = true)
    {f31 : Addr} {od31 an31 : Option Addr} {sl31 : Array (Option Value)} {oc31 kV31 dc31 pm31 cd31 ct31 : Value}
    (a31 : PySem.W.nsIn K mainGlobals "need_bill" = some (some (.ref f31))) (l31 : K.lookup f31 = some ⟨oc31, od31, .func (PySem.W.fnOf "need_bill" "need_bill" (defArgs s_need_bill) (defBody s_need_bill) (defScope s_need_bill) .none kV31 dc31 pm31 an31 cd31 ct31), sl31⟩) (c31 : PySem.W.codeIn K cd31 "need_bill" = true) (k31 : PySem.W.keepIn K (.ref f31) = true)
    {f32 : Addr} {od32 an32 : Option Addr} {sl32 : Array (Option Value)} {oc32 kV32 dc32 pm32 cd32 ct32 : Value}
    (a32 : PySem.W.nsIn K mainGlobals "need_payment" = some (some (.ref f32))) (l32 : K.lookup f32 = some ⟨oc32, od32, .func (PySem.W.fnOf "need_payment" "need_payment" (defArgs s_need_payment) (defBody s_need_payment) (defScope s_need_payment) .none kV32 dc32 pm32 an32 cd32 ct32), sl32⟩) (c32 : PySem.W.codeIn K cd32 "need_payment" = true) (k32 : PySem.W.keepIn K (.ref f32) = true)
    {f33 : Addr} {od33 an33 : Option Addr} {sl33 : Array (Option Value)} {oc33 kV33 dc33 pm33 cd33 ct33 : Value}
    (a33 : PySem.W.nsIn K mainGlobals "pair_range" = some (some (.ref f33))) (l33 : K.lookup f33 = some ⟨oc33, od33, .func (PySem.W.fnOf "pair_range" "pair_range" (defArgs s_pair_range) (defBody s_pair_range) (defScope s_pair_range) .none kV33 dc33 pm33 an33 cd33 ct33), sl33⟩) (c33 : PySem.W.codeIn K cd33 "pair_range" = true) (k33 : PySem.W.keepIn K (.ref f33) = true)
    {f34 : Addr} {od34 an34 : Option Addr} {sl34 : Array (Option Value)} {oc34 kV34 dc34 pm34 cd34 ct34 : Value}
    (a34 : PySem.W.nsIn K mainGlobals "law" = some (some (.ref f34))) (l34 : K.lookup f34 = some ⟨oc34, od34, .func (PySem.W.fnOf "law" "law" (defArgs s_law) (defBody s_law) (defScope s_law) .none kV34 dc34 pm34 an34 cd34 ct34), sl34⟩) (c34 : PySem.W.codeIn K cd34 "law" = true) (k34 : PySem.W.keepIn K (.ref f34) = true)
    {C18 : Addr} (q18 : cd18 = .ref C18) (r18 : PySem.W.codeHdIn K C18 (tabO K C18) = true)
    (z0 : PySem.W.nsIn K mainGlobals "all" = some none)
    (z1 : PySem.W.nsIn K mainGlobals "bool" = some none)
    (z2 : PySem.W.nsIn K mainGlobals "int" = some none)
    (z3 : PySem.W.nsIn K mainGlobals "isinstance" = some none)
    (z4 : PySem.W.nsIn K mainGlobals "len" = some none)
    (z5 : PySem.W.nsIn K mainGlobals "max" = some none)
    (z6 : PySem.W.nsIn K mainGlobals "min" = some none)
    (z7 : PySem.W.nsIn K mainGlobals "range" = some none)
    (z8 : PySem.W.nsIn K mainGlobals "repr" = some none)
    (z9 : PySem.W.nsIn K mainGlobals "sorted" = some none)
    (z10 : PySem.W.nsIn K mainGlobals "str" = some none)
    (z11 : PySem.W.nsIn K mainGlobals "sum" = some none)
    (z12 : PySem.W.nsIn K mainGlobals "tuple" = some none)
    {O0 : Addr} {o0 : Obj} (ga0 : PySem.W.nsIn K mainGlobals "PAYING" = some (some (.ref O0))) (gb0 : K.lookup O0 = some o0) (gc0 : conO o0 [.str "pay", .str "named"] = true)
    {E0 : Addr} (ea0 : PySem.W.nsIn K mainGlobals "InvalidBill" = some (some (.ref E0))) (eb0 : PySem.W.excIn K E0 [.type "ValueError", .type "Exception", .type "BaseException", .type "object"] "ValueError.__new__" = true) (ec0 : PySem.W.keepIn K (.ref E0) = true) (ed0 : PySem.W.subIn K (.ref E0) (.type "BaseException") = some true) (ee0 : PySem.W.typeIn K (.ref E0) = some (.type "type"))
    {E1 : Addr} (ea1 : PySem.W.nsIn K mainGlobals "InvalidPayment" = some (some (.ref E1))) (eb1 : PySem.W.excIn K E1 [.type "ValueError", .type "Exception", .type "BaseException", .type "object"] "ValueError.__new__" = true) (ec1 : PySem.W.keepIn K (.ref E1) = true) (ed1 : PySem.W.subIn K (.ref E1) (.type "BaseException") = some true) (ee1 : PySem.W.typeIn K (.ref E1) = some (.type "type"))
    {E2 : Addr} (ea2 : PySem.W.nsIn K mainGlobals "InvalidRough" = some (some (.ref E2))) (eb2 : PySem.W.excIn K E2 [.type "ValueError", .type "Exception", .type "BaseException", .type "object"] "ValueError.__new__" = true) (ec2 : PySem.W.keepIn K (.ref E2) = true) (ed2 : PySem.W.subIn K (.ref E2) (.type "BaseException") = some true) (ee2 : PySem.W.typeIn K (.ref E2) = some (.type "type"))
    
    (t18 : K.lookup (tabO K C18) = none) {ts : List Addr} (TS : ∀ P ∈ ts, h.get? P = some (PySem.W.tabObj #[])) (u18 : tabO K C18 ∈ ts) {fa : Addr} (hfa : mg "law" = some (.ref fa)) (LT : ∀ ns : List Int, ns.length ≤ 63 → ∀ d : D, d = .scr ns ∨ d = .lst (ns.map D.int) → m_law [d] = .ok (.bl true)) : Vm.LawAtS l w K (L2.CX l.prog w) 8 63 "script" mg fa h := by
  have hm := PySem.W.mg_of X G a34
  have e := hfa.symm.trans hm
  cases e
  obtain ⟨fd, F⟩ : ∃ fd, Fun K "law" "law" s_law f34 fd := ⟨_, fun_mk (st := s_law) l34 c34 k34⟩
  have b : ∀ (s : Shared) (u : Value), BindsTo s fd ⟨[u], []⟩ [("script", u)] := by
    obtain ⟨oc, od, kV, doc, pm, an, cdv, ct, osl, rfl, lk, hcd⟩ := F.ex
    exact fun s v => .of_eq rfl
  refine ⟨fd, [(C18, tabO K C18)], spL K [(tabO K C18, lamN "line_of")] m_law, fun p hp => ?_, fun p hp => ?_, fun p hp => ?_, b, fun H a ns hl hb hH hS => law_spT (Nat.le_trans hl (by decide)) (tabs_nil hH ?_) hS (LT ns hl _ (.inl rfl)) (LT ns hl _ (.inr rfl)), fun base X G TBs => ?_⟩
  · simp only [List.mem_cons, List.not_mem_nil, or_false] at hp
    rcases hp with rfl
    · exact TS _ u18
  · simp only [List.mem_cons, List.not_mem_nil, or_false] at hp
    rcases hp with rfl
    · exact t18
  · simp only [List.mem_cons, List.not_mem_nil, or_false] at hp
    rcases hp with rfl
    · exact PySem.W.codeHd_of_K X r18
  · simp
  · exact (fnP_ok F sc_law rfl (w_law (txt_mk X G a0 l0 c0 k0 a1 l1 c1 k1 a2 l2 c2 k2 a3 l3 c3 k3 a4 l4 c4 k4 a5 l5 c5 k5 a6 l6 c6 k6 a7 l7 c7 k7 a8 l8 c8 k8 a9 l9 c9 k9 a10 l10 c10 k10 a11 l11 c11 k11 a12 l12 c12 k12 a13 l13 c13 k13 a14 l14 c14 k14 a15 l15 c15 k15 a16 l16 c16 k16 a17 l17 c17 k17 a18 l18 c18 k18 a19 l19 c19 k19 a20 l20 c20 k20 a21 l21 c21 k21 a22 l22 c22 k22 a23 l23 c23 k23 a24 l24 c24 k24 a25 l25 c25 k25 a26 l26 c26 k26 a27 l27 c27 k27 a28 l28 c28 k28 a29 l29 c29 k29 a30 l30 c30 k30 a31 l31 c31 k31 a32 l32 c32 k32 a33 l33 c33 k33 a34 l34 c34 k34 q18 r18 z0 z1 z2 z3 z4 z5 z6 z7 z8 z9 z10 z11 z12 ga0 gb0 gc0 ea0 eb0 ec0 ed0 ee0 ea1 eb1 ec1 ed1 ee1 ea2 eb2 ec2 ed2 ee2 TBs))).imp fun vs H Q E ⟨hl, ht, M, ds, tk, r, q⟩ => ⟨hl, ht, M, ds, tk, r, q.imp (fun d z => z) fun c z => z.elim⟩
end Law
end
set_option maxRecDepth 100000
open PySem PySem.W PyProof.Rows
set_option maxHeartbeats 0 in
theorem PySem.Challenge.cw_oldestbills_k32_pairs_of_great_sums_holds : PySem.Challenge.rw_oldestbills_k32_pairs_of_great_sums.Holds := by
  w_on; o_law; k_head; (case hw => w_witness2)
  k_fill
  refine Vm.walk_ofTs (l := PySem.Challenge.rw_oldestbills_k32_pairs_of_great_sums) (n := 63) (k := 8) (x := "script") (CX := fun w => L2.CX PySem.Challenge.rw_oldestbills_k32_pairs_of_great_sums.prog w) rfl (by decide) rfl ⟨⟨rfl, by decide, by decide⟩, rfl⟩ (fun w h Y => PySem.W.km_in_of Y) ?F (fun _ _ _ _ _ h => Vm.cx_law h)
  case F =>
    intro w mg fa h Y KX G hmg
    have TS := PySem.W.km_tabs_of Y
    refine' Law.at_mk KX G ?a0 ?l0 ?c0 ?k0 ?a1 ?l1 ?c1 ?k1 ?a2 ?l2 ?c2 ?k2 ?a3 ?l3 ?c3 ?k3 ?a4 ?l4 ?c4 ?k4 ?a5 ?l5 ?c5 ?k5 ?a6 ?l6 ?c6 ?k6 ?a7 ?l7 ?c7 ?k7 ?a8 ?l8 ?c8 ?k8 ?a9 ?l9 ?c9 ?k9 ?a10 ?l10 ?c10 ?k10 ?a11 ?l11 ?c11 ?k11 ?a12 ?l12 ?c12 ?k12 ?a13 ?l13 ?c13 ?k13 ?a14 ?l14 ?c14 ?k14 ?a15 ?l15 ?c15 ?k15 ?a16 ?l16 ?c16 ?k16 ?a17 ?l17 ?c17 ?k17 ?a18 ?l18 ?c18 ?k18 ?a19 ?l19 ?c19 ?k19 ?a20 ?l20 ?c20 ?k20 ?a21 ?l21 ?c21 ?k21 ?a22 ?l22 ?c22 ?k22 ?a23 ?l23 ?c23 ?k23 ?a24 ?l24 ?c24 ?k24 ?a25 ?l25 ?c25 ?k25 ?a26 ?l26 ?c26 ?k26 ?a27 ?l27 ?c27 ?k27 ?a28 ?l28 ?c28 ?k28 ?a29 ?l29 ?c29 ?k29 ?a30 ?l30 ?c30 ?k30 ?a31 ?l31 ?c31 ?k31 ?a32 ?l32 ?c32 ?k32 ?a33 ?l33 ?c33 ?k33 ?a34 ?l34 ?c34 ?k34 ?q18 ?r18 ?z0 ?z1 ?z2 ?z3 ?z4 ?z5 ?z6 ?z7 ?z8 ?z9 ?z10 ?z11 ?z12 ?ga0 ?gb0 ?gc0 ?ea0 ?eb0 ?ec0 ?ed0 ?ee0 ?ea1 ?eb1 ?ec1 ?ed1 ?ee1 ?ea2 ?eb2 ?ec2 ?ed2 ?ee2 ?t18 TS ?u18 hmg Law.law_true
    (case a0 => k_is); (case l0 => k_is); (case c0 => k_is); (case k0 => k_is); (case a1 => k_is); (case l1 => k_is); (case c1 => k_is); (case k1 => k_is); (case a2 => k_is); (case l2 => k_is); (case c2 => k_is); (case k2 => k_is); (case a3 => k_is); (case l3 => k_is); (case c3 => k_is); (case k3 => k_is); (case a4 => k_is); (case l4 => k_is); (case c4 => k_is); (case k4 => k_is); (case a5 => k_is); (case l5 => k_is); (case c5 => k_is); (case k5 => k_is); (case a6 => k_is); (case l6 => k_is); (case c6 => k_is); (case k6 => k_is); (case a7 => k_is); (case l7 => k_is); (case c7 => k_is); (case k7 => k_is); (case a8 => k_is); (case l8 => k_is); (case c8 => k_is); (case k8 => k_is); (case a9 => k_is); (case l9 => k_is); (case c9 => k_is); (case k9 => k_is); (case a10 => k_is); (case l10 => k_is); (case c10 => k_is); (case k10 => k_is); (case a11 => k_is); (case l11 => k_is); (case c11 => k_is); (case k11 => k_is); (case a12 => k_is); (case l12 => k_is); (case c12 => k_is); (case k12 => k_is); (case a13 => k_is); (case l13 => k_is); (case c13 => k_is); (case k13 => k_is); (case a14 => k_is); (case l14 => k_is); (case c14 => k_is); (case k14 => k_is); (case a15 => k_is); (case l15 => k_is); (case c15 => k_is); (case k15 => k_is); (case a16 => k_is); (case l16 => k_is); (case c16 => k_is); (case k16 => k_is); (case a17 => k_is); (case l17 => k_is); (case c17 => k_is); (case k17 => k_is); (case a18 => k_is); (case l18 => k_is); (case c18 => k_is); (case k18 => k_is); (case a19 => k_is); (case l19 => k_is); (case c19 => k_is); (case k19 => k_is); (case a20 => k_is); (case l20 => k_is); (case c20 => k_is); (case k20 => k_is); (case a21 => k_is); (case l21 => k_is); (case c21 => k_is); (case k21 => k_is); (case a22 => k_is); (case l22 => k_is); (case c22 => k_is); (case k22 => k_is); (case a23 => k_is); (case l23 => k_is); (case c23 => k_is); (case k23 => k_is); (case a24 => k_is); (case l24 => k_is); (case c24 => k_is); (case k24 => k_is); (case a25 => k_is); (case l25 => k_is); (case c25 => k_is); (case k25 => k_is); (case a26 => k_is); (case l26 => k_is); (case c26 => k_is); (case k26 => k_is); (case a27 => k_is); (case l27 => k_is); (case c27 => k_is); (case k27 => k_is); (case a28 => k_is); (case l28 => k_is); (case c28 => k_is); (case k28 => k_is); (case a29 => k_is); (case l29 => k_is); (case c29 => k_is); (case k29 => k_is); (case a30 => k_is); (case l30 => k_is); (case c30 => k_is); (case k30 => k_is); (case a31 => k_is); (case l31 => k_is); (case c31 => k_is); (case k31 => k_is); (case a32 => k_is); (case l32 => k_is); (case c32 => k_is); (case k32 => k_is); (case a33 => k_is); (case l33 => k_is); (case c33 => k_is); (case k33 => k_is); (case a34 => k_is); (case l34 => k_is); (case c34 => k_is); (case k34 => k_is); (case q18 => exact rfl); (case r18 => kernel_rfl); (case z0 => k_is); (case z1 => k_is); (case z2 => k_is); (case z3 => k_is); (case z4 => k_is); (case z5 => k_is); (case z6 => k_is); (case z7 => k_is); (case z8 => k_is); (case z9 => k_is); (case z10 => k_is); (case z11 => k_is); (case z12 => k_is); (case ga0 => k_is); (case gb0 => k_is); (case gc0 => kernel_rfl); (case ea0 => k_is); (case eb0 => k_exc); (case ec0 => k_is); (case ed0 => k_is); (case ee0 => k_is); (case ea1 => k_is); (case eb1 => k_exc); (case ec1 => k_is); (case ed1 => k_is); (case ee1 => k_is); (case ea2 => k_is); (case eb2 => k_exc); (case ec2 => k_is); (case ed2 => k_is); (case ee2 => k_is); (case t18 => kernel_rfl); (case u18 => (simp only [List.mem_cons, List.not_mem_nil, or_false]; kernel_rfl))
