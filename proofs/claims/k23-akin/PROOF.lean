import PyProof.Rows.All
import Wide.All
import OpenK.AllK
import Wide.FinOn
import HandS.ForMost
import HandS.Exc
import HandS.TryOnly
import HandS.ExcOwn
import HandS.WordsExc
import HandS.Wide
import HandS.SortInts
import HandS.IsInst
import HandS.RaiseMore
import HandS.Lambda
import HandS.EndTab
import HandS.ExcValue
import HandS.ExcIs
import HandS.TupAny
import HandS.TupLe
import HandS.Deep
import HandS.Small
import HandS.Style
import HandS.Conv
import HandS.EndBits
import HandS.More
import HandS.SetFor
import HandS.Strs
import PyProof.TupleIter
import HandS.Iter
import HandS.Zip
import KE.SortKeyHeap
import KE.RegKIsAll
import HandS.Dict
import HandS.TryMany
import KE.RegKTryMore
import HandS.TupMul
import HandS.TupSets
import HandS.DictComp
import PyProof.LongRange
import PyProof.ListRange
import PySem.Challenge.RW_oldestbills_k23_akin
set_option Elab.async false
set_option linter.all false
section
set_option maxRecDepth 100000
set_option maxHeartbeats 4000000
/-! Vm, part A: data, results, how data lie in the abstract heap, slots, the relation. -/
namespace Vm
open PySem PySem.Spec PyProof.Rows L2

inductive D where
  | non
  | bl (b : Bool)
  | int (i : Int)
  | str (x : Str)
  | tup (xs : List D)
  | lst (xs : List D)
  | dic (kvs : List (Key × D))
  | dct (kvs : List (List Key × D))
  | own (i : Nat)
  | scr (ns : List Int)
  | exc (c : Str)

inductive Res (α : Type) where
  | ok (a : α)
  | err (c : Str)
  | bad

def Res.bind {α β : Type} (r : Res α) (f : α → Res β) : Res β :=
  match r with
  | .ok a => f a
  | .err c => .err c
  | .bad => .bad
instance : Monad Res where
  pure := Res.ok
  bind := Res.bind
theorem ok_bind {α β : Type} (a : α) (f : α → Res β) : (Res.ok a >>= f) = f a := rfl
theorem err_bind {α β : Type} (c : Str) (f : α → Res β) : ((Res.err c : Res α) >>= f) = Res.err c := rfl
theorem bad_bind {α β : Type} (f : α → Res β) : ((Res.bad : Res α) >>= f) = Res.bad := rfl
theorem pure_ok {α : Type} (a : α) : (pure a : Res α) = Res.ok a := rfl

def Res.Wp {α : Type} (r : Res α) (P : α → Prop) (E : Str → Prop) : Prop :=
  match r with
  | .ok a => P a
  | .err c => E c
  | .bad => False
theorem wp_ok {α : Type} {a : α} {P : α → Prop} {E : Str → Prop} : (Res.ok a).Wp P E = P a := rfl
theorem wp_err {α : Type} {c : Str} {P : α → Prop} {E : Str → Prop} : (Res.err c : Res α).Wp P E = E c := rfl
theorem wp_bad {α : Type} {P : α → Prop} {E : Str → Prop} : (Res.bad : Res α).Wp P E = False := rfl
theorem wp_bind {α β : Type} {r : Res α} {f : α → Res β} {P : β → Prop} {E : Str → Prop} : (r >>= f).Wp P E = r.Wp (fun a => (f a).Wp P E) E := by
  cases r <;> rfl
theorem Res.Wp.imp {α : Type} {r : Res α} {P P' : α → Prop} {E E' : Str → Prop} (h : r.Wp P E) (hp : ∀ a, P a → P' a) (he : ∀ c, E c → E' c) : r.Wp P' E' := by
  cases r with
  | ok a => exact hp a h
  | err c => exact he c h
  | bad => exact h

/-! ### how data lie -/
/-- the script: locked, or of the written part -/
def ScrAt (K : PySem.W.Frag) (H : Hp) (a : Addr) (xs : List V) : Prop := (∃ o, H a = some (.frz o (.lst xs))) ∨
  ∃ (o : Obj) (its : Array Value) (n : Nat), K.lookup a = some o ∧ o.cls = .type "list" ∧ o.dict = none ∧ o.data = .seq its n ∧ its.size ≤ sizeLine ∧ Vals xs its.toList
theorem ScrAt.sq {K : PySem.W.Frag} {H : Hp} {a : Addr} {xs : List V} (h : ScrAt K H a xs) : SqL K H a xs := h.imp (fun h => .inr h) id
def ty6 : List String := ["int", "bool", "str", "tuple", "list", "dict"]
/-- the class D of the name c, an own exception -/
structure ExD (K : PySem.W.Frag) (c : Str) (D : Addr) : Prop where
  ns : PySem.W.nsIn K mainGlobals c = some (some (.ref D))
  ex : ExcC K D
  no : ∀ n ∈ ty6, PySem.W.kitOne K (.ref D) (.type n) = some false
inductive Rp (K : PySem.W.Frag) (H : Hp) (M : Addr → Prop) : D → V → Prop
  | non : Rp K H M .non .non
  | bl (b : Bool) : Rp K H M (.bl b) (.bl b)
  | int (i : Int) : Rp K H M (.int i) (.int i)
  | str (x : Str) : Rp K H M (.str x) (.str x)
  | tup {a : Addr} {vs : List V} {ds : List D} (h : SqT K H a vs) (hl : vs.length = ds.length) (hz : ds.length ≤ sizeLine)
      (hi : ∀ (i : Nat) (d : D) (v : V), ds[i]? = some d → vs[i]? = some v → Rp K H M d v) : Rp K H M (.tup ds) (.ref a)
  | lst {a : Addr} {vs : List V} {ds : List D} (h : H a = some (.lst vs)) (hm : ¬ M a) (hl : vs.length = ds.length) (hz : ds.length ≤ sizeLine)
      (hi : ∀ (i : Nat) (d : D) (v : V), ds[i]? = some d → vs[i]? = some v → Rp K H M d v) : Rp K H M (.lst ds) (.ref a)
  | scr {a : Addr} {ns : List Int} (h : ScrAt K H a (ns.map V.int)) (hz : ns.length ≤ sizeLine) : Rp K H M (.scr ns) (.ref a)
  | exc {a : Addr} {c : Str} {D : Addr} (h : H a = some (ExO (.ref D) a)) (hm : ¬ M a) (hd : ExD K c D) : Rp K H M (.exc c) (.ref a)
  | dic {a : Addr} {vs : List (Key × V)} {ds : List (Key × D)} (h : Rd H a (.dK vs)) (hm : ¬ M a) (hl : vs.length = ds.length) (hz : ds.length ≤ sizeLine)
      (hk : ∀ (i : Nat) (p : Key × D) (q : Key × V), ds[i]? = some p → vs[i]? = some q → q.1 = p.1)
      (hi : ∀ (i : Nat) (p : Key × D) (q : Key × V), ds[i]? = some p → vs[i]? = some q → Rp K H M p.2 q.2) : Rp K H M (.dic ds) (.ref a)
  | dct {a : Addr} {vs : List (List Key × V)} {ds : List (List Key × D)} (h : Rd H a (.dT vs)) (hm : ¬ M a) (hl : vs.length = ds.length) (hz : ds.length ≤ sizeLine)
      (hk : ∀ (i : Nat) (p : List Key × D) (q : List Key × V), ds[i]? = some p → vs[i]? = some q → q.1 = p.1)
      (hi : ∀ (i : Nat) (p : List Key × D) (q : List Key × V), ds[i]? = some p → vs[i]? = some q → Rp K H M p.2 q.2) : Rp K H M (.dct ds) (.ref a)

/-- a list of data -/
structure RpL (K : PySem.W.Frag) (H : Hp) (M : Addr → Prop) (ds : List D) (vs : List V) : Prop where
  len : vs.length = ds.length
  item : ∀ (i : Nat) (d : D) (v : V), ds[i]? = some d → vs[i]? = some v → Rp K H M d v
structure RpK {κ : Type} (K : PySem.W.Frag) (H : Hp) (M : Addr → Prop) (ds : List (κ × D)) (vs : List (κ × V)) : Prop where
  len : vs.length = ds.length
  key : ∀ (i : Nat) (p : κ × D) (q : κ × V), ds[i]? = some p → vs[i]? = some q → q.1 = p.1
  item : ∀ (i : Nat) (p : κ × D) (q : κ × V), ds[i]? = some p → vs[i]? = some q → Rp K H M p.2 q.2

section
variable {K : PySem.W.Frag} {H H' H2 : Hp} {M M' : Addr → Prop} {d : D} {v : V} {ds es : List D} {vs ws : List V} {a p : Addr}

/-- the heap goes on: what M does not hold stays, tuples and locked things stay, nothing gets lost -/
structure Ext (M : Addr → Prop) (H H' : Hp) : Prop where
  stay : ∀ b o, H b = some o → ¬ M b → (∀ ps, o ≠ .tbl ps) → H' b = some o
  tups : ∀ b xs, H b = some (.tup xs) → H' b = some (.tup xs)
  frzs : ∀ b o u, H b = some (.frz o u) → H' b = some (.frz o u)
  trk : ∀ b, H b ≠ none → H' b ≠ none
theorem Ext.refl : Ext M H H := ⟨fun _ _ h _ _ => h, fun _ _ h => h, fun _ _ _ h => h, fun _ h => h⟩
theorem Ext.trans (x : Ext M H H') (y : Ext M H' H2) : Ext M H H2 :=
  ⟨fun b o h n t => y.stay b o (x.stay b o h n t) n t, fun b xs h => y.tups b xs (x.tups b xs h), fun b o u h => y.frzs b o u (x.frzs b o u h), fun b h => y.trk b (x.trk b h)⟩
theorem Ext.mono (x : Ext M H H') (h : ∀ a, M a → M' a) : Ext M' H H' := ⟨fun b o e n t => x.stay b o e (fun z => n (h b z)) t, x.tups, x.frzs, x.trk⟩
/-- what a call leaves: all but the tables stays -/
structure Sme (T : List (Addr × Str)) (H H' : Hp) : Prop where
  stay : ∀ b o, H b = some o → (∀ ps, o ≠ .tbl ps) → H' b = some o
  trk : ∀ b, H b ≠ none → H' b ≠ none
  tabs : LamX.Tabs T H → LamX.Tabs T H'
theorem Sme.of {T : List (Addr × Str)} (e : Same H H') : Sme T H H' := ⟨fun b o h _ => e b o h, fun b h => by
  cases q : H b with
  | none => exact absurd q h
  | some o => rw [e b o q]; exact (fun z => nomatch z), fun t => t.ext fun b o h => e b o h⟩
theorem Ext.of_sme {T : List (Addr × Str)} (e : Sme T H H') : Ext M H H' := ⟨fun b o h _ t => e.stay b o h t, fun b xs h => e.stay b _ h fun _ z => (nomatch z), fun b o u h => e.stay b _ h fun _ z => (nomatch z), e.trk⟩
theorem Ext.of_same (e : Same H H') : Ext M H H' := ⟨fun b o h _ _ => e b o h, fun b xs h => e b _ h, fun b o u h => e b _ h, fun b h => by
  cases q : H b with
  | none => exact absurd q h
  | some o => rw [e b o q]; exact fun z => nomatch z⟩
theorem same_new {o : HO} (h : H p = none) : Same H (upd H p o) := fun b x e => by
  rw [upd_ne (ne_of_none e h)]
  exact e
theorem Ext.sq {xs : List V} (x : Ext M H H') (h : SqT K H a xs) : SqT K H' a xs := by
  rcases h with (h | ⟨o, h⟩) | h
  · exact .inl (.inl (x.tups _ _ h))
  · exact .inl (.inr ⟨o, x.frzs _ _ _ h⟩)
  · exact .inr h
theorem Ext.scr {xs : List V} (x : Ext M H H') (h : ScrAt K H a xs) : ScrAt K H' a xs := by
  rcases h with ⟨o, h⟩ | h
  · exact .inl ⟨o, x.frzs _ _ _ h⟩
  · exact .inr h
theorem Ext.rd {kvs : List (Key × V)} (x : Ext M H H') (h : Rd H a (.dK kvs)) (hm : ¬ M a) : Rd H' a (.dK kvs) := h.imp (fun h => x.stay _ _ h hm fun _ z => nomatch z) fun ⟨o, h⟩ => ⟨o, x.frzs _ _ _ h⟩
theorem Ext.rdT {kvs : List (List Key × V)} (x : Ext M H H') (h : Rd H a (.dT kvs)) (hm : ¬ M a) : Rd H' a (.dT kvs) := h.imp (fun h => x.stay _ _ h hm fun _ z => nomatch z) fun ⟨o, h⟩ => ⟨o, x.frzs _ _ _ h⟩
theorem rd_ne {u : HO} (h : Rd H a u) (e : H a = none) : False := by
  rcases h with h | ⟨o, h⟩
  · rw [h] at e; cases e
  · rw [h] at e; cases e
/-- data stay, where the set of what may change grows by new addresses alone -/
theorem Rp.ext (x : Ext M H H') (hM : ∀ b, M' b → M b ∨ H b = none) (h : Rp K H M d v) : Rp K H' M' d v := by
  induction h with
  | non => exact .non
  | bl b => exact .bl b
  | int i => exact .int i
  | str y => exact .str y
  | tup h hl hz _ ih => exact .tup (x.sq h) hl hz ih
  | lst h hm hl hz _ ih => exact .lst (x.stay _ _ h hm fun _ z => nomatch z) (fun z => (hM _ z).elim hm fun e => by rw [h] at e; cases e) hl hz ih
  | scr h hz => exact .scr (x.scr h) hz
  | exc h hm hd => exact .exc (x.stay _ _ h hm fun _ z => by unfold ExO at z; cases z) (fun z => (hM _ z).elim hm fun e => by rw [h] at e; cases e) hd
  | dic h hm hl hz hk _ ih => exact .dic (x.rd h hm) (fun z => (hM _ z).elim hm fun e => rd_ne h e) hl hz hk ih
  | dct h hm hl hz hk _ ih => exact .dct (x.rdT h hm) (fun z => (hM _ z).elim hm fun e => rd_ne h e) hl hz hk ih
theorem Rp.same (e : Same H H') (h : Rp K H M d v) : Rp K H' M d v := h.ext (.of_same e) fun _ z => .inl z
theorem Rp.less (hM : ∀ b, M' b → M b) (h : Rp K H M d v) : Rp K H M' d v := h.ext .refl fun b z => .inl (hM b z)
theorem RpL.ext (x : Ext M H H') (hM : ∀ b, M' b → M b ∨ H b = none) (h : RpL K H M ds vs) : RpL K H' M' ds vs := ⟨h.len, fun i d v e f => (h.item i d v e f).ext x hM⟩
theorem RpL.same (e : Same H H') (h : RpL K H M ds vs) : RpL K H' M ds vs := h.ext (.of_same e) fun _ z => .inl z
theorem RpL.less (hM : ∀ b, M' b → M b) (h : RpL K H M ds vs) : RpL K H M' ds vs := h.ext .refl fun b z => .inl (hM b z)
theorem RpK.ext {κ : Type} {ds : List (κ × D)} {vs : List (κ × V)} (x : Ext M H H') (hM : ∀ b, M' b → M b ∨ H b = none) (h : RpK K H M ds vs) : RpK K H' M' ds vs := ⟨h.len, h.key, fun i d v e f => (h.item i d v e f).ext x hM⟩
theorem RpL.nil : RpL K H M [] [] := ⟨rfl, fun i d v e _ => by simp at e⟩
theorem RpL.cons (h : Rp K H M d v) (r : RpL K H M ds vs) : RpL K H M (d :: ds) (v :: vs) := by
  refine ⟨by simp [r.len], fun i e f h1 h2 => ?_⟩
  cases i with
  | zero => simp at h1 h2; subst h1 h2; exact h
  | succ i => exact r.item i e f (by simpa using h1) (by simpa using h2)
theorem RpL.nil_inv (r : RpL K H M [] vs) : vs = [] := List.length_eq_zero_iff.mp r.len
theorem RpL.cons_inv (r : RpL K H M (d :: ds) vs) : ∃ v ws, vs = v :: ws ∧ Rp K H M d v ∧ RpL K H M ds ws := by
  cases vs with
  | nil => have := r.len; simp at this
  | cons v ws => exact ⟨v, ws, rfl, r.item 0 d v rfl rfl, by have := r.len; simpa using this, fun i e f h1 h2 => r.item (i + 1) e f (by simpa using h1) (by simpa using h2)⟩
theorem RpL.append (r : RpL K H M ds vs) (q : RpL K H M es ws) : RpL K H M (ds ++ es) (vs ++ ws) := by
  refine ⟨by simp [r.len, q.len], fun i e f h1 h2 => ?_⟩
  by_cases h : i < ds.length
  · rw [List.getElem?_append_left h] at h1
    rw [List.getElem?_append_left (by rw [r.len]; exact h)] at h2
    exact r.item i e f h1 h2
  · rw [List.getElem?_append_right (by omega)] at h1
    rw [List.getElem?_append_right (by rw [r.len]; omega), r.len] at h2
    exact q.item _ e f h1 h2
theorem RpL.one (h : Rp K H M d v) : RpL K H M [d] [v] := .cons h .nil
theorem RpL.take (r : RpL K H M ds vs) (n : Nat) : RpL K H M (ds.take n) (vs.take n) := by
  refine ⟨by simp [r.len], fun i e f h1 h2 => ?_⟩
  rw [List.getElem?_take] at h1 h2
  split at h1
  · rename_i h; rw [if_pos h] at h2; exact r.item i e f h1 h2
  · cases h1
theorem RpL.drop (r : RpL K H M ds vs) (n : Nat) : RpL K H M (ds.drop n) (vs.drop n) := by
  refine ⟨by simp [r.len], fun i e f h1 h2 => ?_⟩
  rw [List.getElem?_drop] at h1 h2
  exact r.item _ e f h1 h2
theorem RpL.set (r : RpL K H M ds vs) (n : Nat) (h : Rp K H M d v) : RpL K H M (ds.set n d) (vs.set n v) := by
  refine ⟨by simp [r.len], fun i e f h1 h2 => ?_⟩
  rw [List.getElem?_set] at h1 h2
  rw [r.len] at h2
  split at h1
  · rename_i hi
    subst hi
    rw [if_pos rfl] at h2
    split at h1
    · rename_i hn
      rw [if_pos hn] at h2
      cases h1
      cases h2
      exact h
    · cases h1
  · rename_i hi
    rw [if_neg hi] at h2
    exact r.item i e f h1 h2
theorem RpL.at1 (r : RpL K H M ds vs) {i : Nat} (h : ds[i]? = some d) : ∃ v, vs[i]? = some v ∧ Rp K H M d v := by
  have hi : i < vs.length := by
    rw [r.len]
    exact (List.getElem?_eq_some_iff.mp h).1
  exact ⟨vs[i], List.getElem?_eq_getElem hi, r.item i d _ h (List.getElem?_eq_getElem hi)⟩
theorem RpL.at2 (r : RpL K H M ds vs) {i : Nat} (h : vs[i]? = some v) : ∃ d, ds[i]? = some d ∧ Rp K H M d v := by
  have hi : i < ds.length := by
    rw [← r.len]
    exact (List.getElem?_eq_some_iff.mp h).1
  exact ⟨ds[i], List.getElem?_eq_getElem hi, r.item i _ v (List.getElem?_eq_getElem hi) h⟩
theorem RpL.ints {ns : List Int} : ∀ {vs : List V}, RpL K H M (ns.map D.int) vs → vs = ns.map V.int := by
  induction ns with
  | nil => intro vs r; exact r.nil_inv
  | cons n ns ih =>
    intro vs r
    obtain ⟨v, ws, rfl, h, q⟩ := RpL.cons_inv r
    cases h
    rw [ih q]
    rfl
theorem RpL.of_ints {ns : List Int} : RpL K H M (ns.map D.int) (ns.map V.int) := by
  refine ⟨by simp, fun i d v h1 h2 => ?_⟩
  rw [List.getElem?_map] at h1 h2
  cases q : ns[i]? with
  | none => rw [q] at h1; cases h1
  | some n => rw [q] at h1 h2; cases h1; cases h2; exact .int n
theorem RpL.bls {bs : List Bool} : ∀ {vs : List V}, RpL K H M (bs.map D.bl) vs → vs = bs.map V.bl := by
  induction bs with
  | nil => intro vs r; exact r.nil_inv
  | cons n ns ih =>
    intro vs r
    obtain ⟨v, ws, rfl, h, q⟩ := RpL.cons_inv r
    cases h
    rw [ih q]
    rfl

/-- what may be read: the root may be in M, its items are not -/
inductive Ro (K : PySem.W.Frag) (H : Hp) (M : Addr → Prop) : D → V → Prop
  | non : Ro K H M .non .non
  | bl (b : Bool) : Ro K H M (.bl b) (.bl b)
  | int (i : Int) : Ro K H M (.int i) (.int i)
  | str (x : Str) : Ro K H M (.str x) (.str x)
  | tup {a : Addr} {vs : List V} {ds : List D} (h : SqT K H a vs) (hz : ds.length ≤ sizeLine) (r : RpL K H M ds vs) : Ro K H M (.tup ds) (.ref a)
  | lst {a : Addr} {vs : List V} {ds : List D} (h : H a = Option.some (.lst vs)) (hz : ds.length ≤ sizeLine) (r : RpL K H M ds vs) : Ro K H M (.lst ds) (.ref a)
  | scr {a : Addr} {ns : List Int} (h : ScrAt K H a (ns.map V.int)) (hz : ns.length ≤ sizeLine) : Ro K H M (.scr ns) (.ref a)
  | exc {a : Addr} {c : Str} {D : Addr} (h : H a = Option.some (ExO (.ref D) a)) (hd : ExD K c D) : Ro K H M (.exc c) (.ref a)
  | dic {a : Addr} {vs : List (Key × V)} {ds : List (Key × D)} (h : Rd H a (.dK vs)) (hz : ds.length ≤ sizeLine) (r : RpK K H M ds vs) : Ro K H M (.dic ds) (.ref a)
  | dct {a : Addr} {vs : List (List Key × V)} {ds : List (List Key × D)} (h : Rd H a (.dT vs)) (hz : ds.length ≤ sizeLine) (r : RpK K H M ds vs) : Ro K H M (.dct ds) (.ref a)
theorem Rp.ro (h : Rp K H M d v) : Ro K H M d v := by
  cases h with
  | non => exact .non
  | bl b => exact .bl b
  | int i => exact .int i
  | str y => exact .str y
  | tup h hl hz hi => exact .tup h hz ⟨hl, hi⟩
  | lst h hm hl hz hi => exact .lst h hz ⟨hl, hi⟩
  | scr h hz => exact .scr h hz
  | exc h hm hd => exact .exc h hd
  | dic h hm hl hz hk hi => exact .dic h hz ⟨hl, hk, hi⟩
  | dct h hm hl hz hk hi => exact .dct h hz ⟨hl, hk, hi⟩
theorem Rp.tup' {vs : List V} {ds : List D} (h : SqT K H a vs) (hz : ds.length ≤ sizeLine) (r : RpL K H M ds vs) : Rp K H M (.tup ds) (.ref a) := .tup h r.len hz r.item
theorem Rp.lst' {vs : List V} {ds : List D} (h : H a = Option.some (.lst vs)) (hm : ¬ M a) (hz : ds.length ≤ sizeLine) (r : RpL K H M ds vs) : Rp K H M (.lst ds) (.ref a) := .lst h hm r.len hz r.item
theorem Ro.same (e : Same H H') (h : Ro K H M d v) : Ro K H' M d v := by
  cases h with
  | non => exact .non
  | bl b => exact .bl b
  | int i => exact .int i
  | str y => exact .str y
  | tup h hz r => exact .tup ((Ext.of_same (M := M) e).sq h) hz (r.same e)
  | lst h hz r => exact .lst (e _ _ h) hz (r.same e)
  | scr h hz => exact .scr ((Ext.of_same (M := M) e).scr h) hz
  | exc h hd => exact .exc (e _ _ h) hd
  | dic h hz r => exact .dic (h.imp (e _ _) fun ⟨o, q⟩ => ⟨o, e _ _ q⟩) hz (r.ext (.of_same e) fun _ z => .inl z)
  | dct h hz r => exact .dct (h.imp (e _ _) fun ⟨o, q⟩ => ⟨o, e _ _ q⟩) hz (r.ext (.of_same e) fun _ z => .inl z)
theorem Ro.ext (x : Ext M H H') (h : Ro K H M d v) (hr : ∀ a o, v = .ref a → H a = Option.some o → H' a = Option.some o) : Ro K H' M d v := by
  cases h with
  | non => exact .non
  | bl b => exact .bl b
  | int i => exact .int i
  | str y => exact .str y
  | tup h hz r => exact .tup (x.sq h) hz (r.ext x fun _ z => .inl z)
  | lst h hz r => exact .lst (hr _ _ rfl h) hz (r.ext x fun _ z => .inl z)
  | scr h hz => exact .scr (x.scr h) hz
  | exc h hd => exact .exc (hr _ _ rfl h) hd
  | dic h hz r => exact .dic (h.imp (hr _ _ rfl) fun ⟨o, q⟩ => ⟨o, hr _ _ rfl q⟩) hz (r.ext x fun _ z => .inl z)
  | dct h hz r => exact .dct (h.imp (hr _ _ rfl) fun ⟨o, q⟩ => ⟨o, hr _ _ rfl q⟩) hz (r.ext x fun _ z => .inl z)
end

/-! ### slots -/
inductive Sl where
  | u
  | t (d : D)
  | l (d : D)
  | p (d : D)
  | r (d : D)
abbrev Sls := List Sl
def Sl.isOwn : Sl → Bool
  | .l _ => true
  | .p _ => true
  | .r _ => true
  | _ => false
def Sl.isMut : Sl → Bool
  | .l _ => true
  | .p _ => true
  | _ => false
theorem Sl.isMut.own {s : Sl} (h : s.isMut = true) : s.isOwn = true := by cases s <;> first | rfl | cases h
abbrev Ev := Sls → Res (D × Sls)
abbrev Ev1 := Sls → Res (Bool × Sls)
abbrev Evs := Sls → Res (List D × Sls)

structure Cfg where
  K : PySem.W.Frag
  mg : Str → Option Value
  H0 : Hp
  /-- what callers hold and may change later -/
  M0 : Addr → Prop
  /-- what this def may change of what stood -/
  fr : Addr → Prop
  pa : Nat → Addr
  fresh : Bool
  /-- the tables of code objects that lambdas are put into -/
  T : List (Addr × Str)

/-- with other addresses that others hold -/
abbrev Cfg.w (C : Cfg) (M0 : Addr → Prop) : Cfg := { C with M0 := M0 }
def Ow (env : Sls) (ad : Nat → Addr) (a : Addr) : Prop := ∃ (i : Nat) (s : Sl), env[i]? = some s ∧ s.isOwn = true ∧ ad i = a
def Mo (C : Cfg) (env : Sls) (ad : Nat → Addr) (a : Addr) : Prop := C.M0 a ∨ Ow env ad a

def CellOk (K : PySem.W.Frag) (H : Hp) (M : Addr → Prop) (d : D) (a : Addr) : Prop :=
  match d with
  | .lst ds => ds.length ≤ sizeLine ∧ ∃ vs, H a = some (.lst vs) ∧ RpL K H M ds vs
  | .dic ds => ds.length ≤ sizeLine ∧ ∃ vs, H a = some (.dK vs) ∧ RpK K H M ds vs
  | .dct ds => ds.length ≤ sizeLine ∧ ∃ vs, H a = some (.dT vs) ∧ RpK K H M ds vs
  | _ => False
theorem CellOk.ro {K : PySem.W.Frag} {H : Hp} {M : Addr → Prop} {d : D} {a : Addr} (h : CellOk K H M d a) : Ro K H M d (.ref a) := by
  cases d with
  | lst ds => obtain ⟨z, vs, h, r⟩ := h; exact .lst h z r
  | dic ds => obtain ⟨z, vs, h, r⟩ := h; exact .dic (.inl h) z r
  | dct ds => obtain ⟨z, vs, h, r⟩ := h; exact .dct (.inl h) z r
  | _ => exact h.elim
theorem CellOk.ext {K : PySem.W.Frag} {H H' : Hp} {M M' : Addr → Prop} {d : D} {a : Addr} (h : CellOk K H M d a) (e : H' a = H a) (x : Ext M H H') (hM : ∀ b, M' b → M b ∨ H b = none) : CellOk K H' M' d a := by
  cases d with
  | lst ds => obtain ⟨z, vs, h, r⟩ := h; exact ⟨z, vs, e.trans h, r.ext x hM⟩
  | dic ds => obtain ⟨z, vs, h, r⟩ := h; exact ⟨z, vs, e.trans h, r.ext x hM⟩
  | dct ds => obtain ⟨z, vs, h, r⟩ := h; exact ⟨z, vs, e.trans h, r.ext x hM⟩
  | _ => exact h.elim
theorem CellOk.trk {K : PySem.W.Frag} {H : Hp} {M : Addr → Prop} {d : D} {a : Addr} (h : CellOk K H M d a) : H a ≠ none := by
  cases d with
  | lst ds => obtain ⟨z, vs, h, r⟩ := h; rw [h]; exact fun z => nomatch z
  | dic ds => obtain ⟨z, vs, h, r⟩ := h; rw [h]; exact fun z => nomatch z
  | dct ds => obtain ⟨z, vs, h, r⟩ := h; rw [h]; exact fun z => nomatch z
  | _ => exact h.elim
/-- an owned cell is no tuple and nothing locked -/
theorem CellOk.kind {K : PySem.W.Frag} {H : Hp} {M : Addr → Prop} {d : D} {a : Addr} (h : CellOk K H M d a) : (∀ xs, H a ≠ some (.tup xs)) ∧ ∀ o u, H a ≠ some (.frz o u) := by
  cases d with
  | lst ds => obtain ⟨z, vs, h, r⟩ := h; rw [h]; exact ⟨(fun _ z => by cases z), (fun _ _ z => by cases z)⟩
  | dic ds => obtain ⟨z, vs, h, r⟩ := h; rw [h]; exact ⟨(fun _ z => by cases z), (fun _ _ z => by cases z)⟩
  | dct ds => obtain ⟨z, vs, h, r⟩ := h; rw [h]; exact ⟨(fun _ z => by cases z), (fun _ _ z => by cases z)⟩
  | _ => exact h.elim
theorem CellOk.notbl {K : PySem.W.Frag} {H : Hp} {M : Addr → Prop} {d : D} {a : Addr} (h : CellOk K H M d a) {o : HO} (e : H a = some o) : ∀ ps, o ≠ .tbl ps := by
  cases d with
  | lst ds => obtain ⟨z, vs, h, r⟩ := h; rw [h] at e; cases e; exact fun _ z => nomatch z
  | dic ds => obtain ⟨z, vs, h, r⟩ := h; rw [h] at e; cases e; exact fun _ z => nomatch z
  | dct ds => obtain ⟨z, vs, h, r⟩ := h; rw [h] at e; cases e; exact fun _ z => nomatch z
  | _ => exact h.elim
theorem CellOk.mut {K : PySem.W.Frag} {H : Hp} {M : Addr → Prop} {d : D} {a : Addr} (h : CellOk K H M d a) : True := True.intro

def SlOk (C : Cfg) (H : Hp) (M : Addr → Prop) (v : Option V) (s : Sl) (a : Addr) : Prop :=
  match s with
  | .u => True
  | .t d => ∃ x, v = some x ∧ Rp C.K H M d x
  | .l d => v = some (.ref a) ∧ CellOk C.K H M d a
  | .p d => v = some (.ref a) ∧ CellOk C.K H M d a
  | .r d => v = some (.ref a) ∧ CellOk C.K H M d a

structure RE (C : Cfg) (ad : Nat → Addr) (H : Hp) (σ : L2.St) (env : Sls) : Prop where
  len : σ.length = env.length
  sl : ∀ (i : Nat) (s : Sl), env[i]? = some s → SlOk C H (Mo C env ad) (σ[i]?.join) s (ad i)
  inj : ∀ (i j : Nat) (s t : Sl), env[i]? = some s → env[j]? = some t → s.isOwn = true → t.isOwn = true → ad i = ad j → i = j
  loc : ∀ (i : Nat) (d : D), (env[i]? = some (.l d) ∨ env[i]? = some (.r d)) → C.H0 (ad i) = none ∧ ¬ C.M0 (ad i)
  par : ∀ (i : Nat) (d : D), env[i]? = some (.p d) → ad i = C.pa i ∧ C.fr (C.pa i)
  same : ∀ b o, C.H0 b = some o → ¬ C.fr b → (∀ ps, o ≠ .tbl ps) → H b = some o
  frk : ∀ b, C.fr b → ∃ o, C.H0 b = some o ∧ (∀ xs, o ≠ .tup xs) ∧ ∀ q u, o ≠ .frz q u
  trk : ∀ b, C.H0 b ≠ none → H b ≠ none
  m0 : ∀ a, C.M0 a → H a ≠ none
  tabs : LamX.Tabs C.T H

section
variable {C : Cfg} {ad : Nat → Addr} {H H' : Hp} {σ : L2.St} {env env' : Sls}
theorem RE.cell (R : RE C ad H σ env) {i : Nat} {s : Sl} (h : env[i]? = some s) (o : s.isOwn = true) : ∃ d, (s = .l d ∨ s = .p d ∨ s = .r d) ∧ σ[i]? = some (some (V.ref (ad i))) ∧ CellOk C.K H (Mo C env ad) d (ad i) := by
  have q := R.sl i s h
  have hi : i < σ.length := by
    rw [R.len]
    exact (List.getElem?_eq_some_iff.mp h).1
  have e : σ[i]? = some σ[i] := List.getElem?_eq_getElem hi
  cases s with
  | u => cases o
  | t d => cases o
  | l d =>
    obtain ⟨q1, q2⟩ := q
    rw [e] at q1 ⊢
    exact ⟨d, .inl rfl, congrArg some q1, q2⟩
  | p d =>
    obtain ⟨q1, q2⟩ := q
    rw [e] at q1 ⊢
    exact ⟨d, .inr (.inl rfl), congrArg some q1, q2⟩
  | r d =>
    obtain ⟨q1, q2⟩ := q
    rw [e] at q1 ⊢
    exact ⟨d, .inr (.inr rfl), congrArg some q1, q2⟩
theorem RE.mtrk (R : RE C ad H σ env) {a : Addr} (h : Mo C env ad a) : H a ≠ none := by
  rcases h with h | ⟨i, s, e, o, rfl⟩
  · exact R.m0 a h
  · obtain ⟨d, _, _, c⟩ := R.cell e o
    exact c.trk
theorem RE.mfree (R : RE C ad H σ env) {a : Addr} (h : H a = none) : ¬ Mo C env ad a := fun z => R.mtrk z h
/-- the heap has grown -/
theorem RE.grow (R : RE C ad H σ env) (e : Same H H') : RE C ad H' σ env := by
  refine ⟨R.len, fun i s h => ?_, R.inj, R.loc, R.par, fun b o h n t => e b o (R.same b o h n t), R.frk, fun b h => (Ext.of_same (M := fun _ => True) e).trk b (R.trk b h), fun b h => (Ext.of_same (M := fun _ => True) e).trk b (R.m0 b h), R.tabs.ext fun b o h => e b o h⟩
  have q := R.sl i s h
  cases s with
  | u => trivial
  | t d =>
    obtain ⟨x, h1, h2⟩ := q
    exact ⟨x, h1, h2.same e⟩
  | l d =>
    obtain ⟨h1, h2⟩ := q
    refine ⟨h1, h2.ext ?_ (.of_same e) fun _ z => .inl z⟩
    cases q : H (ad i) with
    | none => exact absurd q h2.trk
    | some o => exact e _ _ q
  | p d =>
    obtain ⟨h1, h2⟩ := q
    refine ⟨h1, h2.ext ?_ (.of_same e) fun _ z => .inl z⟩
    cases q : H (ad i) with
    | none => exact absurd q h2.trk
    | some o => exact e _ _ q
  | r d =>
    obtain ⟨h1, h2⟩ := q
    refine ⟨h1, h2.ext ?_ (.of_same e) fun _ z => .inl z⟩
    cases q : H (ad i) with
    | none => exact absurd q h2.trk
    | some o => exact e _ _ q
/-- with one more address that others hold -/
def Cfg.add (C : Cfg) (a : Addr) : Cfg := { C with M0 := fun b => C.M0 b ∨ b = a }
theorem mo_add {a b : Addr} : Mo (C.add a) env ad b ↔ Mo C env ad b ∨ b = a := by
  constructor
  · rintro ((z | z) | z)
    · exact .inl (.inl z)
    · exact .inr z
    · exact .inl (.inr z)
  · rintro ((z | z) | z)
    · exact .inl (.inl z)
    · exact .inr z
    · exact .inl (.inr z)
theorem SlOk.ext {M M' : Addr → Prop} {v : Option V} {s : Sl} {a : Addr} (h : SlOk C H M v s a) (e : s.isOwn = true → H' a = H a) (x : Ext M H H') (hM : ∀ b, M' b → M b ∨ H b = none) : SlOk C H' M' v s a := by
  cases s with
  | u => trivial
  | t d =>
    obtain ⟨y, h1, h2⟩ := h
    exact ⟨y, h1, h2.ext x hM⟩
  | l d => exact ⟨h.1, h.2.ext (e rfl) x hM⟩
  | p d => exact ⟨h.1, h.2.ext (e rfl) x hM⟩
  | r d => exact ⟨h.1, h.2.ext (e rfl) x hM⟩
theorem same_at (e : Same H H') {a : Addr} (h : H a ≠ none) : H' a = H a := by
  cases q : H a with
  | none => exact absurd q h
  | some o => exact e _ _ q
theorem RE.growAdd (R : RE C ad H σ env) (e : Same H H') {a : Addr} (hn : H a = none) (hs : H' a ≠ none) : RE (C.add a) ad H' σ env := by
  have G := R.grow e
  refine ⟨R.len, fun i s h => ?_, R.inj, fun i d h => ⟨(R.loc i d h).1, fun z => z.elim (R.loc i d h).2 fun z => ?_⟩, R.par, G.same, R.frk, G.trk, fun b z => z.elim (G.m0 b) fun z => z ▸ hs, G.tabs⟩
  rotate_left
  · rcases h with h | h
    · exact R.mtrk (.inr ⟨i, _, h, rfl, rfl⟩) (z ▸ hn)
    · exact R.mtrk (.inr ⟨i, _, h, rfl, rfl⟩) (z ▸ hn)
  refine SlOk.ext (R.sl i s h) (fun o => same_at e (R.mtrk (.inr ⟨i, s, h, o, rfl⟩))) (.of_same e) fun b z => ?_
  rcases mo_add.mp z with z | z
  · exact .inl z
  · exact .inr (z ▸ hn)
theorem RE.own_sme (R : RE C ad H σ env) (e : Sme C.T H H') {i : Nat} {s : Sl} (h : env[i]? = some s) (o : s.isOwn = true) : H' (ad i) = H (ad i) := by
  obtain ⟨d, _, _, c⟩ := R.cell h o
  cases q : H (ad i) with
  | none => exact absurd q c.trk
  | some u => exact e.stay _ _ q (c.notbl q)
theorem RE.growS (R : RE C ad H σ env) (e : Sme C.T H H') : RE C ad H' σ env :=
  ⟨R.len, fun i s h => SlOk.ext (R.sl i s h) (R.own_sme e h) (.of_sme e) fun _ z => .inl z, R.inj, R.loc, R.par, fun b o h n t => e.stay b o (R.same b o h n t) t, R.frk, fun b h => e.trk b (R.trk b h), fun b h => e.trk b (R.m0 b h), e.tabs R.tabs⟩
theorem RE.growAddS (R : RE C ad H σ env) (e : Sme C.T H H') {a : Addr} (hn : H a = none) (hs : H' a ≠ none) : RE (C.add a) ad H' σ env := by
  have G := R.growS e
  refine ⟨R.len, fun i s h => ?_, R.inj, fun i d h => ⟨(R.loc i d h).1, fun z => z.elim (R.loc i d h).2 fun z => ?_⟩, R.par, G.same, R.frk, G.trk, fun b z => z.elim (G.m0 b) fun z => z ▸ hs, G.tabs⟩
  rotate_left
  · rcases h with h | h
    · exact R.mtrk (.inr ⟨i, _, h, rfl, rfl⟩) (z ▸ hn)
    · exact R.mtrk (.inr ⟨i, _, h, rfl, rfl⟩) (z ▸ hn)
  refine SlOk.ext (R.sl i s h) (R.own_sme e h) (.of_sme e) fun b z => ?_
  rcases mo_add.mp z with z | z
  · exact .inl z
  · exact .inr (z ▸ hn)
theorem RE.unadd {a : Addr} (R : RE (C.add a) ad H σ env) : RE C ad H σ env :=
  ⟨R.len, fun i s h => SlOk.ext (C := C) (R.sl i s h) (fun _ => rfl) .refl fun b z => .inl (mo_add.mpr (.inl z)), R.inj, fun i d h => ⟨(R.loc i d h).1, fun z => (R.loc i d h).2 (.inl z)⟩, R.par, R.same, R.frk, R.trk, fun b z => R.m0 b (.inl z), R.tabs⟩
end
end Vm
end
section
set_option maxRecDepth 100000
set_option maxHeartbeats 4000000
/-! Vm, part B: steps of the relation; expressions. -/
namespace Vm
open PySem PySem.Spec PyProof.Rows L2

/-! ### steps -/
section
variable {C : Cfg} {ad : Nat → Addr} {H H' H2 : Hp} {σ : L2.St} {env env' env2 : Sls}
structure Stp (C : Cfg) (ad : Nat → Addr) (H : Hp) (env : Sls) (H' : Hp) (env' : Sls) : Prop where
  ext : Ext (Ow env ad) H H'
  ow : ∀ a, Ow env' ad a → Ow env ad a
theorem Stp.mo (x : Stp C ad H env H' env') : ∀ a, Mo C env' ad a → Mo C env ad a := fun a h => h.imp id (x.ow a)
theorem Stp.extM (x : Stp C ad H env H' env') : Ext (Mo C env ad) H H' := x.ext.mono fun _ h => .inr h
theorem Stp.refl : Stp C ad H env H env := ⟨.refl, fun _ h => h⟩
theorem Stp.trans (x : Stp C ad H env H' env') (y : Stp C ad H' env' H2 env2) : Stp C ad H env H2 env2 := ⟨x.ext.trans (y.ext.mono x.ow), fun a h => x.ow a (y.ow a h)⟩
theorem Stp.grow (e : Same H H') : Stp C ad H env H' env := ⟨.of_same e, fun _ h => h⟩
theorem Stp.growS {T : List (Addr × Str)} (e : Sme T H H') : Stp C ad H env H' env := ⟨.of_sme e, fun _ h => h⟩
theorem Stp.rp (x : Stp C ad H env H' env') {d : D} {v : V} (h : Rp C.K H (Mo C env ad) d v) : Rp C.K H' (Mo C env' ad) d v := h.ext x.extM fun b z => .inl (x.mo b z)

/-- a value at hand -/
def VR (C : Cfg) (ad : Nat → Addr) (H : Hp) (σ : L2.St) (env : Sls) (d : D) (v : V) : Prop :=
  match d with
  | .own i => σ[i]? = some (some v)
  | d => Rp C.K H (Mo C env ad) d v
theorem VR.of {d : D} {v : V} (h : Rp C.K H (Mo C env ad) d v) : VR C ad H σ env d v := by
  cases h with
  | non => exact .non
  | bl b => exact .bl b
  | int i => exact .int i
  | str y => exact .str y
  | tup h hl hz hi => exact .tup h hl hz hi
  | lst h hm hl hz hi => exact .lst h hm hl hz hi
  | scr h hz => exact .scr h hz
  | exc h hm hd => exact .exc h hm hd
  | dic h hm hl hz hk hi => exact .dic h hm hl hz hk hi
  | dct h hm hl hz hk hi => exact .dct h hm hl hz hk hi
theorem VR.stp (x : Stp C ad H env H' env') {d : D} {v : V} (h : VR C ad H σ env d v) : VR C ad H' σ env' d v := by
  cases d with
  | own i => exact h
  | _ => exact x.rp h

/-- what a value at hand is, for reading -/
def rs (env : Sls) (d : D) : Res D :=
  match d with
  | .own i => (match env[i]? with
    | some (.t d) => .ok d
    | some (.l d) => .ok d
    | some (.p d) => .ok d
    | some (.r d) => .ok d
    | _ => .bad)
  | d => .ok d
/-- for keeping: not an owned cell's name -/
def kp (d : D) : Res D :=
  match d with
  | .own _ => .bad
  | d => .ok d
theorem RE.rs (R : RE C ad H σ env) {d : D} {v : V} (h : VR C ad H σ env d v) {P : D → Prop} {E : Str → Prop} (w : (rs env d).Wp P E) : ∃ d', rs env d = .ok d' ∧ P d' ∧ Ro C.K H (Mo C env ad) d' v := by
  cases d with
  | own i =>
    have h1 : σ[i]? = some (some v) := h
    cases q : env[i]? with
    | none => simp only [Vm.rs, q] at w; exact w.elim
    | some s =>
      have z := R.sl i s q
      rw [h1] at z
      cases s with
      | u => simp only [Vm.rs, q] at w; exact w.elim
      | t d =>
        simp only [Vm.rs, q] at w ⊢
        obtain ⟨x, e, r⟩ := z
        cases e
        exact ⟨d, rfl, w, r.ro⟩
      | l d =>
        simp only [Vm.rs, q] at w ⊢
        obtain ⟨e, r⟩ := z
        cases e
        exact ⟨d, rfl, w, r.ro⟩
      | p d =>
        simp only [Vm.rs, q] at w ⊢
        obtain ⟨e, r⟩ := z
        cases e
        exact ⟨d, rfl, w, r.ro⟩
      | r d =>
        simp only [Vm.rs, q] at w ⊢
        obtain ⟨e, r⟩ := z
        cases e
        exact ⟨d, rfl, w, r.ro⟩
  | _ => exact ⟨_, rfl, w, Rp.ro h⟩
theorem kp_rp {d : D} {v : V} (h : VR C ad H σ env d v) {P : D → Prop} {E : Str → Prop} (w : (kp d).Wp P E) : kp d = .ok d ∧ P d ∧ Rp C.K H (Mo C env ad) d v := by
  cases d with
  | own i => exact w.elim
  | _ => exact ⟨rfl, w, h⟩

/-- a cell's content anew, perhaps with a grown heap -/
def Sl.put (s : Sl) (d : D) : Sl :=
  match s with
  | .l _ => .l d
  | .p _ => .p d
  | s => s
theorem put_own {s : Sl} {d : D} : (s.put d).isOwn = s.isOwn := by cases s <;> rfl
theorem ow_put {i : Nat} {s : Sl} {d : D} (h : env[i]? = some s) : ∀ a, Ow (env.set i (s.put d)) ad a ↔ Ow env ad a := by
  intro a
  have hi : i < env.length := (List.getElem?_eq_some_iff.mp h).1
  constructor
  · rintro ⟨j, t, e, o, rfl⟩
    by_cases hj : i = j
    · subst hj
      rw [List.getElem?_set_self hi] at e
      cases e
      rw [put_own] at o
      exact ⟨i, s, h, o, rfl⟩
    · rw [List.getElem?_set_ne hj] at e
      exact ⟨j, t, e, o, rfl⟩
  · rintro ⟨j, t, e, o, rfl⟩
    by_cases hj : i = j
    · subst hj
      rw [h] at e
      cases e
      exact ⟨i, s.put d, List.getElem?_set_self hi, by rw [put_own]; exact o, rfl⟩
    · exact ⟨j, t, by rw [List.getElem?_set_ne hj]; exact e, o, rfl⟩
theorem mo_put {i : Nat} {s : Sl} {d : D} (h : env[i]? = some s) : ∀ a, Mo C (env.set i (s.put d)) ad a ↔ Mo C env ad a := fun a =>
  ⟨fun z => z.imp id (ow_put h a).mp, fun z => z.imp id (ow_put h a).mpr⟩
theorem RE.put' (R : RE C ad H σ env) {i : Nat} {s : Sl} {d : D} (h : env[i]? = some s) (hmu : s.isMut = true) (k : ∀ b o, H b = some o → b ≠ ad i → (∀ ps, o ≠ .tbl ps) → H' b = some o) (tk : ∀ b, H b ≠ none → H' b ≠ none) (tb : LamX.Tabs C.T H')
    (c : CellOk C.K H' (Mo C env ad) d (ad i)) : RE C ad H' σ (env.set i (s.put d)) ∧ Stp C ad H env H' (env.set i (s.put d)) := by
  have hi : i < env.length := (List.getElem?_eq_some_iff.mp h).1
  have ho : s.isOwn = true := Sl.isMut.own hmu
  obtain ⟨d0, hd0, hσ, c0⟩ := R.cell h ho
  have hM : Ow env ad (ad i) := ⟨i, s, h, ho, rfl⟩
  have xo : Ext (Ow env ad) H H' := by
    refine ⟨fun b o hb hn t => k b o hb (fun e => hn (e ▸ hM)) t, fun b xs hb => k b _ hb (fun e => ?_) fun _ z => (nomatch z), fun b o u hb => k b _ hb (fun e => ?_) fun _ z => (nomatch z), tk⟩
    · rw [e] at hb; exact c0.kind.1 _ hb
    · rw [e] at hb; exact c0.kind.2 _ _ hb
  have x : Ext (Mo C env ad) H H' := xo.mono fun _ z => .inr z
  have mo := mo_put (C := C) (ad := ad) (d := d) h
  refine ⟨⟨by rw [List.length_set]; exact R.len, fun j t e => ?_, fun j j' t t' e e' o o' q => ?_, fun j t e => ?_, fun j t e => ?_, fun b o e n nt => ?_, R.frk, fun b e => tk b (R.trk b e), fun b e => tk b (R.m0 b e), tb⟩, ⟨xo, fun a z => (ow_put h a).mp z⟩⟩
  · by_cases hj : i = j
    · subst hj
      rw [List.getElem?_set_self hi] at e
      have c' : CellOk C.K H' (Mo C (env.set i (s.put d)) ad) d (ad i) := c.ext rfl .refl fun b z => .inl ((mo b).mp z)
      cases s with
      | u => cases ho
      | t _ => cases ho
      | l _ => cases e; exact ⟨by rw [hσ]; rfl, c'⟩
      | p _ => cases e; exact ⟨by rw [hσ]; rfl, c'⟩
      | r _ => cases hmu
    · rw [List.getElem?_set_ne hj] at e
      have q := R.sl j t e
      have mo' : ∀ b, Mo C (env.set i (s.put d)) ad b → Mo C env ad b ∨ H b = none := fun b z => .inl ((mo b).mp z)
      cases t with
      | u => trivial
      | t f =>
        obtain ⟨y, q1, q2⟩ := q
        exact ⟨y, q1, q2.ext x mo'⟩
      | l f =>
        obtain ⟨q1, q2⟩ := q
        refine ⟨q1, q2.ext ?_ x mo'⟩
        cases z : H (ad j) with
        | none => exact absurd z q2.trk
        | some o => exact k _ o z (fun w => hj (R.inj _ _ _ _ h e ho rfl w.symm)) (q2.notbl z)
      | p f =>
        obtain ⟨q1, q2⟩ := q
        refine ⟨q1, q2.ext ?_ x mo'⟩
        cases z : H (ad j) with
        | none => exact absurd z q2.trk
        | some o => exact k _ o z (fun w => hj (R.inj _ _ _ _ h e ho rfl w.symm)) (q2.notbl z)
      | r f =>
        obtain ⟨q1, q2⟩ := q
        refine ⟨q1, q2.ext ?_ x mo'⟩
        cases z : H (ad j) with
        | none => exact absurd z q2.trk
        | some o => exact k _ o z (fun w => hj (R.inj _ _ _ _ h e ho rfl w.symm)) (q2.notbl z)
  · have st : ∀ (m : Nat) (r : Sl), (env.set i (s.put d))[m]? = some r → r.isOwn = true → ∃ r' : Sl, env[m]? = some r' ∧ r'.isOwn = true := fun m r a b => by
      by_cases hm : i = m
      · subst hm
        rw [List.getElem?_set_self hi] at a
        cases a
        exact ⟨s, h, ho⟩
      · rw [List.getElem?_set_ne hm] at a
        exact ⟨r, a, b⟩
    obtain ⟨r, a1, a2⟩ := st _ _ e o
    obtain ⟨r', b1, b2⟩ := st _ _ e' o'
    exact R.inj _ _ _ _ a1 b1 a2 b2 q
  · by_cases hj : i = j
    · subst hj
      rw [List.getElem?_set_self hi] at e
      cases s with
      | u => cases ho
      | t _ => cases ho
      | l f => exact R.loc i f (.inl h)
      | p f => rcases e with e | e <;> cases e
      | r f => cases hmu
    · rw [List.getElem?_set_ne hj] at e
      exact R.loc j t e
  · by_cases hj : i = j
    · subst hj
      rw [List.getElem?_set_self hi] at e
      cases s with
      | u => cases ho
      | t _ => cases ho
      | l f => cases e
      | p f => exact R.par i f h
      | r f => cases hmu
    · rw [List.getElem?_set_ne hj] at e
      exact R.par j t e
  · refine k b o (R.same b o e n nt) (fun z => ?_) nt
    cases s with
    | u => cases ho
    | t _ => cases ho
    | l f => rw [z, (R.loc i f (.inl h)).1] at e; cases e
    | p f =>
      obtain ⟨p1, p2⟩ := R.par i f h
      exact n (by rw [z, p1]; exact p2)
    | r f => cases hmu

theorem RE.put (R : RE C ad H σ env) {i : Nat} {s : Sl} {d : D} (h : env[i]? = some s) (hmu : s.isMut = true) (k : ∀ b o, H b = some o → b ≠ ad i → H' b = some o)
    (c : CellOk C.K H' (Mo C env ad) d (ad i)) : RE C ad H' σ (env.set i (s.put d)) ∧ Stp C ad H env H' (env.set i (s.put d)) := by
  have ho : s.isOwn = true := Sl.isMut.own hmu
  obtain ⟨d0, hd0, hσ, c0⟩ := R.cell h ho
  refine R.put' h hmu (fun b o e n _ => k b o e n) (fun b hb => ?_) (fun p hp => ?_) c
  · by_cases e : b = ad i
    · rw [e]; exact c.trk
    · cases q : H b with
      | none => exact absurd q hb
      | some o => rw [k b o q e]; exact fun z => nomatch z
  · obtain ⟨ps, e1, e2, e3⟩ := R.tabs p hp
    have n : ∀ b o, H b = some o → (∀ vs, o ≠ .lst vs) → (∀ vs, o ≠ .dK vs) → (∀ vs, o ≠ .dT vs) → b ≠ ad i := fun b o e n1 n2 n3 z => by
      rw [z] at e
      cases d0 with
      | lst ds => obtain ⟨_, vs, q, _⟩ := c0; rw [q] at e; cases e; exact n1 _ rfl
      | dic ds => obtain ⟨_, vs, q, _⟩ := c0; rw [q] at e; cases e; exact n2 _ rfl
      | dct ds => obtain ⟨_, vs, q, _⟩ := c0; rw [q] at e; cases e; exact n3 _ rfl
      | _ => exact c0.elim
    refine ⟨ps, k _ _ e1 (n _ _ e1 (fun _ z => nomatch z) (fun _ z => nomatch z) fun _ z => nomatch z), e2, fun pos cv hc => ?_⟩
    obtain ⟨c', q1, q2⟩ := e3 pos cv hc
    exact ⟨c', q1, k _ _ q2 (n _ _ q2 (fun _ z => by unfold LamX.CodeO at z; cases z) (fun _ z => by unfold LamX.CodeO at z; cases z) fun _ z => by unfold LamX.CodeO at z; cases z)⟩

/-- a slot is set to data -/
def notPar (env : Sls) (i : Nat) : Bool :=
  match env[i]? with
  | some (.p _) => false
  | some _ => true
  | none => false
theorem ow_set {i : Nat} {s : Sl} (hs : s.isOwn = false) : ∀ a, Ow (env.set i s) ad a → Ow env ad a := by
  rintro a ⟨j, t, e, o, rfl⟩
  by_cases hj : i = j
  · subst hj
    rw [List.getElem?_set] at e
    rw [if_pos rfl] at e
    split at e
    · cases e; rw [hs] at o; cases o
    · cases e
  · rw [List.getElem?_set_ne hj] at e
    exact ⟨j, t, e, o, rfl⟩
theorem mo_set {i : Nat} {s : Sl} (hs : s.isOwn = false) : ∀ a, Mo C (env.set i s) ad a → Mo C env ad a := fun a z => z.imp id (ow_set hs a)
/-- .. a slot is set, the heap stays -/
theorem RE.setS (R : RE C ad H σ env) {i : Nat} {s : Sl} {v : Option V} (hs : s.isOwn = false) (hv : SlOk C H (Mo C env ad) v s (ad i)) : RE C ad H (σ.set i v) (env.set i s) := by
  have mo := mo_set (C := C) (ad := ad) (env := env) (i := i) hs
  have mo' : ∀ b, Mo C (env.set i s) ad b → Mo C env ad b ∨ H b = none := fun b z => .inl (mo b z)
  have low : ∀ v s a, SlOk C H (Mo C env ad) v s a → SlOk C H (Mo C (env.set i s) ad) v s a → True := fun _ _ _ _ _ => True.intro
  have down : ∀ v t a, SlOk C H (Mo C env ad) v t a → SlOk C H (Mo C (env.set i s) ad) v t a := fun v t a z => by
    cases t with
    | u => trivial
    | t f => obtain ⟨y, q1, q2⟩ := z; exact ⟨y, q1, q2.ext .refl mo'⟩
    | l f => obtain ⟨q1, q2⟩ := z; exact ⟨q1, q2.ext rfl .refl mo'⟩
    | p f => obtain ⟨q1, q2⟩ := z; exact ⟨q1, q2.ext rfl .refl mo'⟩
    | r f => obtain ⟨q1, q2⟩ := z; exact ⟨q1, q2.ext rfl .refl mo'⟩
  have old : ∀ (m : Nat) (r : Sl), (env.set i s)[m]? = some r → r.isOwn = true → m ≠ i ∧ env[m]? = some r := fun m r a b => by
    by_cases hm : i = m
    · subst hm
      rw [List.getElem?_set, if_pos rfl] at a
      split at a
      · cases a; rw [hs] at b; cases b
      · cases a
    · rw [List.getElem?_set_ne hm] at a
      exact ⟨fun z => hm z.symm, a⟩
  refine ⟨by rw [List.length_set, List.length_set]; exact R.len, fun j t e => ?_, fun j j' t t' e e' o o' q => ?_, fun j t e => R.loc j t (e.imp (fun e => (old j _ e rfl).2) fun e => (old j _ e rfl).2), fun j t e => R.par j t (old j _ e rfl).2, R.same, R.frk, R.trk, R.m0, R.tabs⟩
  · by_cases hj : i = j
    · subst hj
      rw [List.getElem?_set, if_pos rfl] at e
      split at e
      · rename_i hi
        cases e
        rw [List.getElem?_set_self (by rw [R.len]; exact hi)]
        exact down _ _ _ hv
      · cases e
    · rw [List.getElem?_set_ne hj] at e ⊢
      exact down _ _ _ (R.sl j t e)
  · exact R.inj _ _ _ _ (old _ _ e o).2 (old _ _ e' o').2 o o' q
/-- a slot gets a new cell -/
def adSet (ad : Nat → Addr) (i : Nat) (a : Addr) : Nat → Addr := fun j => if j = i then a else ad j
theorem RE.setL {a : Addr} (R : RE (C.add a) ad H σ env) {i : Nat} {d : D} (h0 : C.H0 a = none) (hn : ¬ Mo C env ad a) (hi : i < env.length)
    (c : CellOk C.K H (Mo (C.add a) env ad) d a) : RE C (adSet ad i a) H (σ.set i (some (.ref a))) (env.set i (.l d)) := by
  have mo : ∀ b, Mo C (env.set i (.l d)) (adSet ad i a) b → Mo (C.add a) env ad b := by
    rintro b (z | ⟨j, t, e, o, rfl⟩)
    · exact .inl (.inl z)
    · by_cases hj : j = i
      · exact .inl (.inr (by unfold adSet; rw [if_pos hj]))
      · rw [List.getElem?_set_ne (Ne.symm hj)] at e
        exact .inr ⟨j, t, e, o, by unfold adSet; rw [if_neg hj]⟩
  refine ⟨by rw [List.length_set, List.length_set]; exact R.len, fun j t e => ?_, fun j j' t t' e e' o o' q => ?_, fun j t e => ?_, fun j t e => ?_, R.same, R.frk, R.trk, fun b z => R.m0 b (.inl z), R.tabs⟩
  · by_cases hj : j = i
    · subst hj
      rw [List.getElem?_set_self hi] at e
      cases e
      rw [List.getElem?_set_self (by rw [R.len]; exact hi)]
      have ea : adSet ad j a j = a := by unfold adSet; rw [if_pos rfl]
      rw [ea]
      exact ⟨rfl, c.ext rfl .refl fun b z => .inl (mo b z)⟩
    · rw [List.getElem?_set_ne (Ne.symm hj)] at e ⊢
      have ea : adSet ad i a j = ad j := by unfold adSet; rw [if_neg hj]
      rw [ea]
      exact SlOk.ext (C := C) (R.sl j t e) (fun _ => rfl) .refl fun b z => .inl (mo b z)
  · by_cases hj : j = i
    · by_cases hj' : j' = i
      · rw [hj, hj']
      · rw [List.getElem?_set_ne (Ne.symm hj')] at e'
        unfold adSet at q
        rw [if_pos hj, if_neg hj'] at q
        exact absurd (.inr ⟨j', t', e', o', q.symm⟩) hn
    · rw [List.getElem?_set_ne (Ne.symm hj)] at e
      by_cases hj' : j' = i
      · unfold adSet at q
        rw [if_neg hj, if_pos hj'] at q
        exact absurd (.inr ⟨j, t, e, o, q⟩) hn
      · rw [List.getElem?_set_ne (Ne.symm hj')] at e'
        unfold adSet at q
        rw [if_neg hj, if_neg hj'] at q
        exact R.inj _ _ _ _ e e' o o' q
  · by_cases hj : j = i
    · unfold adSet; rw [if_pos hj]; exact ⟨h0, fun z => hn (.inl z)⟩
    · rw [List.getElem?_set_ne (Ne.symm hj)] at e
      unfold adSet; rw [if_neg hj]
      exact ⟨(R.loc j t e).1, fun z => (R.loc j t e).2 (.inl z)⟩
  · by_cases hj : j = i
    · subst hj
      rw [List.getElem?_set_self hi] at e
      cases e
    · rw [List.getElem?_set_ne (Ne.symm hj)] at e
      have ea : adSet ad i a j = ad j := by unfold adSet; rw [if_neg hj]
      rw [ea]
      exact R.par j t e
end
end Vm
end
section
set_option maxRecDepth 100000
set_option maxHeartbeats 4000000
/-! Vm, part C: the judgements, names, constants, operators, tests, calls of built-ins, displays. -/
namespace Vm
open PySem PySem.Spec PyProof.Rows L2

/-- the def's surroundings -/
structure Gd (X : Cx) (C : Cfg) (W : WX) (k : Nat) : Prop where
  kE : X.K = C.K
  mE : X.mg = C.mg
  calm : X.calm = true
  tk : Takes X W
  room : Room k X.A
  nd : X.N.Nodup

def Er (C : Cfg) (ad : Nat → Addr) (σ : L2.St) (W : WX) (c : Str) : Prop := ∀ cls dd H' env', C.mg c = some cls → RE C ad H' σ env' → W cls dd σ H'

structure EM (X : Cx) (C : Cfg) (W : WX) (e : Expr) (t : TE) (m : Ev) : Prop where
  pe : PE X e t
  sn : ∀ (M0 : Addr → Prop) (ad : Nat → Addr) (σ : L2.St) (H : Hp) (env : Sls) (Q : VK), RE (C.w M0) ad H σ env →
    (m env).Wp (fun r => ∀ v H', RE (C.w M0) ad H' σ r.2 → Stp (C.w M0) ad H env H' r.2 → VR (C.w M0) ad H' σ r.2 r.1 v → Q v H') (Er (C.w M0) ad σ W) → t σ H Q
/-- a new list or dict -/
structure EF (X : Cx) (C : Cfg) (W : WX) (e : Expr) (t : TE) (m : Ev) : Prop where
  pe : PE X e t
  sn : ∀ (M0 : Addr → Prop) (ad : Nat → Addr) (σ : L2.St) (H : Hp) (env : Sls) (Q : VK), RE (C.w M0) ad H σ env →
    (m env).Wp (fun r => ∀ a H', H a = none → RE ((C.w M0).add a) ad H' σ r.2 → Stp (C.w M0) ad H env H' r.2 → CellOk C.K H' (Mo ((C.w M0).add a) r.2 ad) r.1 a → Q (.ref a) H') (Er (C.w M0) ad σ W) → t σ H Q
structure TM (X : Cx) (C : Cfg) (W : WX) (e : Expr) (t : TT) (m : Ev1) : Prop where
  pe : PT X e t
  sn : ∀ (M0 : Addr → Prop) (ad : Nat → Addr) (σ : L2.St) (H : Hp) (env : Sls) (Q : Bool → Hp → Prop), RE (C.w M0) ad H σ env →
    (m env).Wp (fun r => ∀ H', RE (C.w M0) ad H' σ r.2 → Stp (C.w M0) ad H env H' r.2 → Q r.1 H') (Er (C.w M0) ad σ W) → t σ H Q
/-- a test of and, or -/
structure WM (X : Cx) (C : Cfg) (W : WX) (e : Expr) (t : TT) (m : Ev1) : Prop where
  pe : PW X e t
  sn : ∀ (M0 : Addr → Prop) (ad : Nat → Addr) (σ : L2.St) (H : Hp) (env : Sls) (Q : Bool → Hp → Prop), RE (C.w M0) ad H σ env →
    (m env).Wp (fun r => ∀ H', RE (C.w M0) ad H' σ r.2 → Stp (C.w M0) ad H env H' r.2 → Q r.1 H') (Er (C.w M0) ad σ W) → t σ H Q
/-- the arguments' values at hand -/
structure VRL (C : Cfg) (ad : Nat → Addr) (H : Hp) (σ : L2.St) (env : Sls) (ds : List D) (vs : List V) : Prop where
  len : vs.length = ds.length
  item : ∀ (i : Nat) (d : D) (v : V), ds[i]? = some d → vs[i]? = some v → VR C ad H σ env d v
structure AM (X : Cx) (C : Cfg) (W : WX) (es : List Expr) (t : TA) (m : Evs) : Prop where
  pe : PA X es t
  sn : ∀ (M0 : Addr → Prop) (ad : Nat → Addr) (σ : L2.St) (H : Hp) (env : Sls) (Q : List V → Hp → Prop), RE (C.w M0) ad H σ env →
    (m env).Wp (fun r => ∀ vs H', RE (C.w M0) ad H' σ r.2 → Stp (C.w M0) ad H env H' r.2 → VRL (C.w M0) ad H' σ r.2 r.1 vs → Q vs H') (Er (C.w M0) ad σ W) → t σ H Q

section
variable {C : Cfg} {ad : Nat → Addr} {H H' H2 : Hp} {σ : L2.St} {env env' env2 : Sls} {ds : List D} {vs : List V}
theorem VRL.nil : VRL C ad H σ env [] [] := ⟨rfl, fun i d v e _ => by simp at e⟩
theorem VRL.cons {d : D} {v : V} (h : VR C ad H σ env d v) (r : VRL C ad H σ env ds vs) : VRL C ad H σ env (d :: ds) (v :: vs) := by
  refine ⟨by simp [r.len], fun i e f h1 h2 => ?_⟩
  cases i with
  | zero => simp at h1 h2; subst h1 h2; exact h
  | succ i => exact r.item i e f (by simpa using h1) (by simpa using h2)
theorem VRL.nil_inv (r : VRL C ad H σ env [] vs) : vs = [] := List.length_eq_zero_iff.mp r.len
theorem VRL.cons_inv {d : D} (r : VRL C ad H σ env (d :: ds) vs) : ∃ v ws, vs = v :: ws ∧ VR C ad H σ env d v ∧ VRL C ad H σ env ds ws := by
  cases vs with
  | nil => have := r.len; simp at this
  | cons v ws => exact ⟨v, ws, rfl, r.item 0 d v rfl rfl, by have := r.len; simpa using this, fun i e f h1 h2 => r.item (i + 1) e f (by simpa using h1) (by simpa using h2)⟩
/-- values for reading -/
structure RoL (K : PySem.W.Frag) (H : Hp) (M : Addr → Prop) (ds : List D) (vs : List V) : Prop where
  len : vs.length = ds.length
  item : ∀ (i : Nat) (d : D) (v : V), ds[i]? = some d → vs[i]? = some v → Ro K H M d v
theorem RoL.nil {K : PySem.W.Frag} {M : Addr → Prop} : RoL K H M [] [] := ⟨rfl, fun i d v e _ => by simp at e⟩
theorem RoL.cons {K : PySem.W.Frag} {M : Addr → Prop} {d : D} {v : V} (h : Ro K H M d v) (r : RoL K H M ds vs) : RoL K H M (d :: ds) (v :: vs) := by
  refine ⟨by simp [r.len], fun i e f h1 h2 => ?_⟩
  cases i with
  | zero => simp at h1 h2; subst h1 h2; exact h
  | succ i => exact r.item i e f (by simpa using h1) (by simpa using h2)
theorem RoL.nil_inv {K : PySem.W.Frag} {M : Addr → Prop} (r : RoL K H M [] vs) : vs = [] := List.length_eq_zero_iff.mp r.len
theorem RoL.cons_inv {K : PySem.W.Frag} {M : Addr → Prop} {d : D} (r : RoL K H M (d :: ds) vs) : ∃ v ws, vs = v :: ws ∧ Ro K H M d v ∧ RoL K H M ds ws := by
  cases vs with
  | nil => have := r.len; simp at this
  | cons v ws => exact ⟨v, ws, rfl, r.item 0 d v rfl rfl, by have := r.len; simpa using this, fun i e f h1 h2 => r.item (i + 1) e f (by simpa using h1) (by simpa using h2)⟩
theorem RoL.one {K : PySem.W.Frag} {M : Addr → Prop} {d : D} (r : RoL K H M [d] vs) : ∃ v, vs = [v] ∧ Ro K H M d v := by
  obtain ⟨v, ws, rfl, h, q⟩ := r.cons_inv
  rw [q.nil_inv]
  exact ⟨v, rfl, h⟩
theorem RoL.two {K : PySem.W.Frag} {M : Addr → Prop} {d e : D} (r : RoL K H M [d, e] vs) : ∃ v u, vs = [v, u] ∧ Ro K H M d v ∧ Ro K H M e u := by
  obtain ⟨v, ws, rfl, h, q⟩ := r.cons_inv
  obtain ⟨u, rfl, h2⟩ := q.one
  exact ⟨v, u, rfl, h, h2⟩
def rsL (env : Sls) : List D → Res (List D)
  | [] => .ok []
  | d :: ds => do
    let x ← rs env d
    let xs ← rsL env ds
    pure (x :: xs)
def kpL : List D → Res (List D)
  | [] => .ok []
  | d :: ds => do
    let x ← kp d
    let xs ← kpL ds
    pure (x :: xs)
theorem RE.rsL (R : RE C ad H σ env) : ∀ {ds : List D} {vs : List V}, VRL C ad H σ env ds vs → ∀ {P : List D → Prop} {E : Str → Prop}, (rsL env ds).Wp P E → ∃ d', P d' ∧ RoL C.K H (Mo C env ad) d' vs
  | [], vs, r, P, E, w => by rw [r.nil_inv]; exact ⟨[], w, .nil⟩
  | d :: ds, vs, r, P, E, w => by
    obtain ⟨v, ws, rfl, h, q⟩ := r.cons_inv
    unfold Vm.rsL at w
    rw [wp_bind] at w
    obtain ⟨d', _, w1, h1⟩ := R.rs h w
    rw [wp_bind] at w1
    obtain ⟨ds', w2, h2⟩ := RE.rsL R q w1
    exact ⟨d' :: ds', w2, .cons h1 h2⟩
theorem kpL_rp : ∀ {ds : List D} {vs : List V}, VRL C ad H σ env ds vs → ∀ {P : List D → Prop} {E : Str → Prop}, (kpL ds).Wp P E → P ds ∧ RpL C.K H (Mo C env ad) ds vs
  | [], vs, r, P, E, w => by rw [r.nil_inv]; exact ⟨w, .nil⟩
  | d :: ds, vs, r, P, E, w => by
    obtain ⟨v, ws, rfl, h, q⟩ := r.cons_inv
    unfold kpL at w
    rw [wp_bind] at w
    obtain ⟨_, w1, h1⟩ := kp_rp h w
    rw [wp_bind] at w1
    obtain ⟨w2, h2⟩ := kpL_rp q w1
    exact ⟨w2, .cons h1 h2⟩
end

section
variable {X : Cx} {C : Cfg} {W : WX} {k : Nat} {a b e : Expr} {es rest : List Expr} {ta tb tc : TE} {ma mb mc m : Ev} {pos : Pos}
/-- what follows goes on with the error's wish -/
theorem EM.sn' (h : EM X C W e ta m) {M0 : Addr → Prop} {ad : Nat → Addr} {σ : L2.St} {H : Hp} {env : Sls} {Q : VK} {α : Type} {f : D × Sls → Res α} {P : α → Prop} (R : RE (C.w M0) ad H σ env)
    (w : (m env >>= f).Wp P (Er (C.w M0) ad σ W)) (hq : ∀ (r : D × Sls) v H', RE (C.w M0) ad H' σ r.2 → Stp (C.w M0) ad H env H' r.2 → VR (C.w M0) ad H' σ r.2 r.1 v → (f r).Wp P (Er (C.w M0) ad σ W) → Q v H') : ta σ H Q := by
  rw [wp_bind] at w
  exact h.sn M0 ad σ H env Q R (w.imp (fun r z v H' R' S' V' => hq r v H' R' S' V' z) fun _ z => z)
theorem TM.sn' {t : TT} {m : Ev1} (h : TM X C W e t m) {M0 : Addr → Prop} {ad : Nat → Addr} {σ : L2.St} {H : Hp} {env : Sls} {Q : Bool → Hp → Prop} {α : Type} {f : Bool × Sls → Res α} {P : α → Prop} (R : RE (C.w M0) ad H σ env)
    (w : (m env >>= f).Wp P (Er (C.w M0) ad σ W)) (hq : ∀ (r : Bool × Sls) H', RE (C.w M0) ad H' σ r.2 → Stp (C.w M0) ad H env H' r.2 → (f r).Wp P (Er (C.w M0) ad σ W) → Q r.1 H') : t σ H Q := by
  rw [wp_bind] at w
  exact h.sn M0 ad σ H env Q R (w.imp (fun r z H' R' S' => hq r H' R' S' z) fun _ z => z)
theorem WM.sn' {t : TT} {m : Ev1} (h : WM X C W e t m) {M0 : Addr → Prop} {ad : Nat → Addr} {σ : L2.St} {H : Hp} {env : Sls} {Q : Bool → Hp → Prop} {α : Type} {f : Bool × Sls → Res α} {P : α → Prop} (R : RE (C.w M0) ad H σ env)
    (w : (m env >>= f).Wp P (Er (C.w M0) ad σ W)) (hq : ∀ (r : Bool × Sls) H', RE (C.w M0) ad H' σ r.2 → Stp (C.w M0) ad H env H' r.2 → (f r).Wp P (Er (C.w M0) ad σ W) → Q r.1 H') : t σ H Q := by
  rw [wp_bind] at w
  exact h.sn M0 ad σ H env Q R (w.imp (fun r z H' R' S' => hq r H' R' S' z) fun _ z => z)
theorem AM.sn' {t : TA} {m : Evs} (h : AM X C W es t m) {M0 : Addr → Prop} {ad : Nat → Addr} {σ : L2.St} {H : Hp} {env : Sls} {Q : List V → Hp → Prop} {α : Type} {f : List D × Sls → Res α} {P : α → Prop} (R : RE (C.w M0) ad H σ env)
    (w : (m env >>= f).Wp P (Er (C.w M0) ad σ W)) (hq : ∀ (r : List D × Sls) vs H', RE (C.w M0) ad H' σ r.2 → Stp (C.w M0) ad H env H' r.2 → VRL (C.w M0) ad H' σ r.2 r.1 vs → (f r).Wp P (Er (C.w M0) ad σ W) → Q vs H') : t σ H Q := by
  rw [wp_bind] at w
  exact h.sn M0 ad σ H env Q R (w.imp (fun r z v H' R' S' V' => hq r v H' R' S' V' z) fun _ z => z)
theorem em_of_ef (h : EF X C W e ta m) : EM X C W e ta m := by
  refine ⟨h.pe, fun M0 ad σ H env Q R w => h.sn M0 ad σ H env Q R (w.imp (fun r z a H' hn R' S' c => ?_) fun _ z => z)⟩
  refine z (.ref a) H' R'.unadd S' (VR.of ?_)
  have hm : ¬ Mo (C.w M0) r.2 ad a := fun q => R.mfree hn (S'.mo a q)
  have lo : ∀ b, Mo (C.w M0) r.2 ad b → Mo ((C.w M0).add a) r.2 ad b := fun b q => mo_add.mpr (.inl q)
  cases hd : r.1 with
  | lst ds =>
    rw [hd] at c
    obtain ⟨q1, vs, q2, q3⟩ := c
    exact .lst' q2 hm q1 (q3.less lo)
  | dic ds =>
    rw [hd] at c
    obtain ⟨q1, vs, q2, q3⟩ := c
    exact .dic (.inl q2) hm q3.len q1 q3.key fun i p q e f => (q3.item i p q e f).less lo
  | dct ds =>
    rw [hd] at c
    obtain ⟨q1, vs, q2, q3⟩ := c
    exact .dct (.inl q2) hm q3.len q1 q3.key fun i p q e f => (q3.item i p q e f).less lo
  | _ => rw [hd] at c; exact c.elim

/-! ### names, constants -/
def mVar (i : Nat) : Ev := fun env =>
  match env[i]? with
  | some (.t d) => .ok (d, env)
  | some (.l _) => .ok (.own i, env)
  | some (.p _) => .ok (.own i, env)
  | some (.r _) => .ok (.own i, env)
  | _ => .bad
theorem em_var (i : Nat) {x : Str} (hN : X.N[i]? = some x := by rfl) (hv : Vis X.env.scope x := by first | exact Or.inl rfl | exact Or.inr (Or.inl rfl) | exact Or.inr (Or.inr rfl)) (hd : (x == ("__debug__" : Str)) = false := by decide)
    (hcd : (x == ("__classdict__" : Str)) = false := by decide) : EM X C W (.Name x pos) (tVar i) (mVar i) := by
  refine ⟨pe_var hN hv hd hcd, fun M0 ad σ H env Q R w => ?_⟩
  unfold mVar at w
  cases q : env[i]? with
  | none => rw [q] at w; exact w.elim
  | some s =>
    rw [q] at w
    have z := R.sl i s q
    have hi : i < σ.length := by rw [R.len]; exact (List.getElem?_eq_some_iff.mp q).1
    have e : σ[i]? = some σ[i] := List.getElem?_eq_getElem hi
    cases s with
    | u => exact w.elim
    | t d =>
      obtain ⟨x, e1, r⟩ := z
      rw [e] at e1
      have e2 : σ[i] = some x := e1
      exact ⟨x, by rw [e, e2], w x H R .refl (.of r)⟩
    | l d =>
      obtain ⟨e1, r⟩ := z
      rw [e] at e1
      have e2 : σ[i] = some (.ref (ad i)) := e1
      exact ⟨.ref (ad i), by rw [e, e2], w _ H R .refl (by show σ[i]? = _; rw [e, e2])⟩
    | p d =>
      obtain ⟨e1, r⟩ := z
      rw [e] at e1
      have e2 : σ[i] = some (.ref (ad i)) := e1
      exact ⟨.ref (ad i), by rw [e, e2], w _ H R .refl (by show σ[i]? = _; rw [e, e2])⟩
    | r d =>
      obtain ⟨e1, r⟩ := z
      rw [e] at e1
      have e2 : σ[i] = some (.ref (ad i)) := e1
      exact ⟨.ref (ad i), by rw [e, e2], w _ H R .refl (by show σ[i]? = _; rw [e, e2])⟩
/-- an own cell of the def, given away for good: from then on it is data -/
def mGive (i : Nat) : Ev := fun env =>
  match env[i]? with
  | some (.l d) => .ok (d, env.set i (.t d))
  | _ => .bad
theorem RE.give {ad : Nat → Addr} {σ : L2.St} {H : Hp} {env : Sls} (R : RE C ad H σ env) {i : Nat} {d : D} (h : env[i]? = some (.l d)) :
    RE C ad H σ (env.set i (.t d)) ∧ Stp C ad H env H (env.set i (.t d)) ∧ Rp C.K H (Mo C (env.set i (.t d)) ad) d (.ref (ad i)) ∧ σ[i]? = some (some (.ref (ad i))) := by
  have hi : i < env.length := (List.getElem?_eq_some_iff.mp h).1
  obtain ⟨d0, hd0, hσ, c0⟩ := R.cell h rfl
  have e0 : d0 = d := by
    rcases hd0 with z | z | z
    · cases z; rfl
    · cases z
    · cases z
  subst e0
  have mo := mo_set (C := C) (ad := ad) (env := env) (i := i) (s := .t d0) rfl
  have hnot : ¬ Mo C (env.set i (.t d0)) ad (ad i) := by
    rintro (q | ⟨j, t, e, o, q⟩)
    · exact (R.loc i d0 (.inl h)).2 q
    · by_cases hj : i = j
      · subst hj
        rw [List.getElem?_set_self hi] at e
        cases e
        cases o
      · rw [List.getElem?_set_ne hj] at e
        exact hj (R.inj _ _ _ _ h e rfl o q.symm)
  have low : ∀ b, Mo C (env.set i (.t d0)) ad b → Mo C env ad b := mo
  have rp : Rp C.K H (Mo C (env.set i (.t d0)) ad) d0 (.ref (ad i)) := by
    cases d0 with
    | lst ds => obtain ⟨q1, vs, q2, q3⟩ := c0; exact .lst' q2 hnot q1 (q3.less low)
    | dic ds => obtain ⟨q1, vs, q2, q3⟩ := c0; exact .dic (.inl q2) hnot q3.len q1 q3.key fun j p q e f => (q3.item j p q e f).less low
    | dct ds => obtain ⟨q1, vs, q2, q3⟩ := c0; exact .dct (.inl q2) hnot q3.len q1 q3.key fun j p q e f => (q3.item j p q e f).less low
    | _ => exact c0.elim
  have down : ∀ v t a, SlOk C H (Mo C env ad) v t a → SlOk C H (Mo C (env.set i (.t d0)) ad) v t a := fun v t a z => SlOk.ext (C := C) z (fun _ => rfl) .refl fun b q => .inl (low b q)
  have old : ∀ (m : Nat) (r : Sl), (env.set i (.t d0))[m]? = some r → r.isOwn = true → m ≠ i ∧ env[m]? = some r := fun m r x y => by
    by_cases hm : i = m
    · subst hm
      rw [List.getElem?_set_self hi] at x
      cases x
      cases y
    · rw [List.getElem?_set_ne hm] at x
      exact ⟨fun z => hm z.symm, x⟩
  refine ⟨⟨by rw [List.length_set]; exact R.len, fun j t e => ?_, fun j j' t t' e e' o o' q => ?_, fun j t e => R.loc j t (e.imp (fun e => (old j _ e rfl).2) fun e => (old j _ e rfl).2), fun j t e => R.par j t (old j _ e rfl).2, R.same, R.frk, R.trk, R.m0, R.tabs⟩, ⟨.refl, ow_set rfl⟩, rp, hσ⟩
  · by_cases hj : i = j
    · subst hj
      rw [List.getElem?_set_self hi] at e
      cases e
      exact ⟨_, by rw [hσ]; rfl, rp⟩
    · rw [List.getElem?_set_ne hj] at e
      exact down _ _ _ (R.sl j t e)
  · exact R.inj _ _ _ _ (old _ _ e o).2 (old _ _ e' o').2 o o' q
theorem em_give (i : Nat) {x : Str} (hN : X.N[i]? = some x := by rfl) (hv : Vis X.env.scope x := by first | exact Or.inl rfl | exact Or.inr (Or.inl rfl) | exact Or.inr (Or.inr rfl)) (hd : (x == ("__debug__" : Str)) = false := by decide)
    (hcd : (x == ("__classdict__" : Str)) = false := by decide) : EM X C W (.Name x pos) (tVar i) (mGive i) := by
  refine ⟨pe_var hN hv hd hcd, fun M0 ad σ H env Q R w => ?_⟩
  unfold mGive at w
  cases q : env[i]? with
  | none => rw [q] at w; exact w.elim
  | some s =>
    rw [q] at w
    cases s with
    | l d =>
      obtain ⟨R', S', r, e⟩ := R.give q
      exact ⟨_, e, w _ H R' S' (.of r)⟩
    | _ => exact w.elim
def mK (d : D) : Ev := fun env => .ok (d, env)
theorem em_int {i : Int} {j : Nat} : EM X C W (.Constant (.int i) j pos) (tC (.int i)) (mK (.int i)) := ⟨pe_int, fun M0 ad σ H env Q R w => w _ H R .refl (.of (.int i))⟩
theorem em_bl {i : Bool} {j : Nat} : EM X C W (.Constant (.bool i) j pos) (tC (.bl i)) (mK (.bl i)) := ⟨pe_bl, fun M0 ad σ H env Q R w => w _ H R .refl (.of (.bl i))⟩
theorem em_non {j : Nat} : EM X C W (.Constant .none j pos) (tC .non) (mK .non) := ⟨pe_non, fun M0 ad σ H env Q R w => w _ H R .refl (.of .non)⟩
theorem em_str {i : Str} {j : Nat} : EM X C W (.Constant (.str i) j pos) (tC (.str i)) (mK (.str i)) := ⟨pe_str, fun M0 ad σ H env Q R w => w _ H R .refl (.of (.str i))⟩
/-- a constant of the module -/
theorem em_glob {x : Str} {v : V} {u : Value} {d : D} (hg : Gl X x) (hm : X.mg x = some u) (r : RelV v u) (hr : ∀ H M, Rp C.K H M d v) (hd : (x == ("__debug__" : Str)) = false := by decide) : EM X C W (.Name x pos) (tC v) (mK d) :=
  ⟨pe_glob hg hm r hd, fun M0 ad σ H env Q R w => w _ H R .refl (.of (hr _ _))⟩

/-! ### operators -/
/-- an operation by values: what it asks of data -/
def OpS (K : PySem.W.Frag) (r : R2) (g : D → D → Res D) : Prop := ∀ (H : Hp) (M : Addr → Prop) (x y : V) (dx dy : D) (Q : VK), (∀ a, M a → H a ≠ none) → Ro K H M dx x → Ro K H M dy y →
  (g dx dy).Wp (fun d => ∀ v H', Same H H' → Rp K H' M d v → Q v H') (fun _ => False) → r x y H Q
def mBin (g : D → D → Res D) (ma mb : Ev) : Ev := fun env => do
  let r1 ← ma env
  let r2 ← mb r1.2
  let x ← rs r2.2 r1.1
  let y ← rs r2.2 r2.1
  let d ← match g x y with
    | .err _ => .bad
    | z => z
  pure (d, r2.2)
theorem bin_sn {r : R2} {g : D → D → Res D} (ho : OpS C.K r g) (ha : EM X C W a ta ma) (hb : EM X C W b tb mb) {M0 : Addr → Prop} {ad : Nat → Addr} {σ : L2.St} {H : Hp} {env : Sls} {Q : VK} (R : RE (C.w M0) ad H σ env)
    (w : (mBin g ma mb env).Wp (fun r => ∀ v H', RE (C.w M0) ad H' σ r.2 → Stp (C.w M0) ad H env H' r.2 → VR (C.w M0) ad H' σ r.2 r.1 v → Q v H') (Er (C.w M0) ad σ W)) : tOp r ta tb σ H Q := by
  unfold mBin at w
  refine ha.sn' R w fun r1 v1 H1 R1 S1 V1 w1 => ?_
  refine hb.sn' R1 w1 fun r2 v2 H2 R2 S2 V2 w2 => ?_
  rw [wp_bind] at w2
  obtain ⟨x, _, w3, rx⟩ := R2.rs (V1.stp S2) w2
  rw [wp_bind] at w3
  obtain ⟨y, _, w4, ry⟩ := R2.rs V2 w3
  refine ho H2 (Mo (C.w M0) r2.2 ad) v1 v2 x y Q (fun a z => R2.mtrk z) rx ry ?_
  cases q : g x y with
  | ok d =>
    rw [q] at w4
    exact fun v H' e r => w4 v H' (R2.grow e) ((S1.trans S2).trans (.grow e)) (.of r)
  | err c => rw [q] at w4; exact w4.elim
  | bad => rw [q] at w4; exact w4.elim
theorem em_bin {op : Operator} {r : R2} {g : D → D → Res D} (hr : OpR X (binaryOp op) r) (ho : OpS C.K r g) (ha : EM X C W a ta ma) (hb : EM X C W b tb mb) : EM X C W (.BinOp a op b pos) (tOp r ta tb) (mBin g ma mb) :=
  ⟨pe_op hr ha.pe hb.pe, fun M0 ad σ H env Q R w => bin_sn ho ha hb R w⟩
theorem em_cmp {op : CmpOp} {r : R2} {g : D → D → Res D} (hr : OpR X (compareOp op) r) (ho : OpS C.K r g) (ha : EM X C W a ta ma) (hb : EM X C W b tb mb) (hm : behindInMarks op b = false := by rfl) : EM X C W (.Compare a [op] [b] pos) (tOp r ta tb) (mBin g ma mb) :=
  ⟨pe_cmpR hr ha.pe hb.pe hm, fun M0 ad σ H env Q R w => bin_sn ho ha hb R w⟩
/-- its truth, where it is a bool -/
def mTru (m : Ev) : Ev1 := fun env => do
  let r ← m env
  match r.1 with
  | .bl b => pure (b, r.2)
  | _ => .bad
theorem tm_cmp {op : CmpOp} {r : R2} {g : D → D → Res D} (hr : OpR X (compareOp op) r) (ho : OpS C.K r g) (ha : EM X C W a ta ma) (hb : EM X C W b tb mb) (hm : behindInMarks op b = false := by rfl) : TM X C W (.Compare a [op] [b] pos) (tTest (tOp r ta tb)) (mTru (mBin g ma mb)) := by
  refine ⟨pt_cmpR hr ha.pe hb.pe hm, fun M0 ad σ H env Q R w => ?_⟩
  refine bin_sn ho ha hb R ?_
  unfold mTru at w
  rw [wp_bind] at w
  refine w.imp (fun r z v H' R' S' V' => ?_) fun _ z => z
  cases hd : r.1 with
  | bl k =>
    rw [hd] at z V'
    cases V'
    exact ⟨k, rfl, z H' R' S'⟩
  | _ => rw [hd] at z; exact z.elim
theorem tm_val {t : TE} {m : Ev} (h : EM X C W e t m) (he : ∀ whole, isTrue e X.env whole = (do let v ← whole; standAt e.pos; holding [v] (truthy v)) := by intro _; rfl) : TM X C W e (tB t) (mTru m) := by
  refine ⟨pt_val h.pe he, fun M0 ad σ H env Q R w => ?_⟩
  refine h.sn' (f := fun r => match r.1 with | .bl b => pure (b, r.2) | _ => .bad) R w fun r v H' R' S' V' z => ?_
  cases hd : r.1 with
  | bl k =>
    rw [hd] at z V'
    cases V'
    exact ⟨k, rfl, z H' R' S'⟩
  | _ => rw [hd] at z; exact z.elim
def mNotT (m : Ev1) : Ev1 := fun env => do
  let r ← m env
  pure (!r.1, r.2)
theorem tm_not {t : TT} {m : Ev1} (h : TM X C W a t m) : TM X C W (.UnaryOp .Not a pos) (tNot t) (mNotT m) :=
  ⟨pt_not h.pe, fun M0 ad σ H env Q R w => h.sn' (f := fun r => pure (!r.1, r.2)) R w fun r H' R' S' z => z H' R' S'⟩
theorem wm_and1 {t : TT} {m : Ev1} (h : TM X C W a t m) : WM X C W (.BoolOp .And [a] pos) t m := ⟨pw_and1 h.pe, h.sn⟩
theorem wm_or1 {t : TT} {m : Ev1} (h : TM X C W a t m) : WM X C W (.BoolOp .Or [a] pos) t m := ⟨pw_or1 h.pe, h.sn⟩
def mAndT (m n : Ev1) : Ev1 := fun env => do
  let r ← m env
  if r.1 = true then n r.2 else pure (false, r.2)
def mOrT (m n : Ev1) : Ev1 := fun env => do
  let r ← m env
  if r.1 = true then pure (true, r.2) else n r.2
theorem wm_and {t u : TT} {m n : Ev1} (h : TM X C W a t m) (h2 : WM X C W (.BoolOp .And (b :: rest) pos) u n) : WM X C W (.BoolOp .And (a :: b :: rest) pos) (tAnd t u) (mAndT m n) := by
  refine ⟨pw_and h.pe h2.pe, fun M0 ad σ H env Q R w => ?_⟩
  refine h.sn' (f := fun r => if r.1 = true then n r.2 else pure (false, r.2)) R w fun r H' R' S' z => ?_
  split
  · rename_i e
    rw [if_pos e] at z
    exact h2.sn M0 ad σ H' r.2 Q R' (z.imp (fun q y H2 R2 S2 => y H2 R2 (S'.trans S2)) fun _ y => y)
  · rename_i e
    rw [if_neg e] at z
    exact z H' R' S'
theorem wm_or {t u : TT} {m n : Ev1} (h : TM X C W a t m) (h2 : WM X C W (.BoolOp .Or (b :: rest) pos) u n) : WM X C W (.BoolOp .Or (a :: b :: rest) pos) (tOr t u) (mOrT m n) := by
  refine ⟨pw_or h.pe h2.pe, fun M0 ad σ H env Q R w => ?_⟩
  refine h.sn' (f := fun r => if r.1 = true then pure (true, r.2) else n r.2) R w fun r H' R' S' z => ?_
  split
  · rename_i e
    rw [if_pos e] at z
    exact z H' R' S'
  · rename_i e
    rw [if_neg e] at z
    exact h2.sn M0 ad σ H' r.2 Q R' (z.imp (fun q y H2 R2 S2 => y H2 R2 (S'.trans S2)) fun _ y => y)
theorem tm_wm {t : TT} {m : Ev1} (h : WM X C W e t m) : TM X C W e t m := ⟨h.pe.pt, h.sn⟩
/-- and, or, not as values (bools) -/
theorem em_one {op : BoolOp} {t : TE} {m : Ev} (h : EM X C W a t m) : EM X C W (.BoolOp op [a] pos) t m := ⟨pe_one h.pe, h.sn⟩
def mAndV (m n : Ev) : Ev := fun env => do
  let r ← m env
  match r.1 with
  | .bl true => n r.2
  | .bl false => pure (.bl false, r.2)
  | _ => .bad
def mOrV (m n : Ev) : Ev := fun env => do
  let r ← m env
  match r.1 with
  | .bl true => pure (.bl true, r.2)
  | .bl false => n r.2
  | _ => .bad
def mNotV (m : Ev) : Ev := fun env => do
  let r ← m env
  match r.1 with
  | .bl b => pure (.bl (!b), r.2)
  | _ => .bad
theorem em_and {t u : TE} {m n : Ev} (h : EM X C W a t m) (h2 : EM X C W (.BoolOp .And (b :: rest) pos) u n) : EM X C W (.BoolOp .And (a :: b :: rest) pos) (tAndV t u) (mAndV m n) := by
  refine ⟨pe_and h.pe h2.pe, fun M0 ad σ H env Q R w => ?_⟩
  refine h.sn' (f := fun r => match r.1 with | .bl true => n r.2 | .bl false => pure (.bl false, r.2) | _ => .bad) R w fun r v H' R' S' V' z => ?_
  cases hd : r.1 with
  | bl k =>
    rw [hd] at z V'
    cases V'
    cases k with
    | true => exact ⟨true, rfl, h2.sn M0 ad σ H' r.2 Q R' (z.imp (fun q y v2 H2 R2 S2 => y v2 H2 R2 (S'.trans S2)) fun _ y => y)⟩
    | false => exact ⟨false, rfl, z _ H' R' S' (.of (.bl false))⟩
  | _ => rw [hd] at z; exact z.elim
theorem em_or {t u : TE} {m n : Ev} (h : EM X C W a t m) (h2 : EM X C W (.BoolOp .Or (b :: rest) pos) u n) : EM X C W (.BoolOp .Or (a :: b :: rest) pos) (tOrV t u) (mOrV m n) := by
  refine ⟨pe_or h.pe h2.pe, fun M0 ad σ H env Q R w => ?_⟩
  refine h.sn' (f := fun r => match r.1 with | .bl true => pure (.bl true, r.2) | .bl false => n r.2 | _ => .bad) R w fun r v H' R' S' V' z => ?_
  cases hd : r.1 with
  | bl k =>
    rw [hd] at z V'
    cases V'
    cases k with
    | false => exact ⟨false, rfl, h2.sn M0 ad σ H' r.2 Q R' (z.imp (fun q y v2 H2 R2 S2 => y v2 H2 R2 (S'.trans S2)) fun _ y => y)⟩
    | true => exact ⟨true, rfl, z _ H' R' S' (.of (.bl true))⟩
  | _ => rw [hd] at z; exact z.elim
theorem em_not {t : TE} {m : Ev} (h : EM X C W a t m) : EM X C W (.UnaryOp .Not a pos) (tNotV t) (mNotV m) := by
  refine ⟨pe_not h.pe, fun M0 ad σ H env Q R w => ?_⟩
  unfold mNotV at w
  refine h.sn' R w fun r v H' R' S' V' z => ?_
  cases hd : r.1 with
  | bl k =>
    rw [hd] at z V'
    cases V'
    exact ⟨k, rfl, z _ H' R' S' (.of (.bl _))⟩
  | _ => rw [hd] at z; exact z.elim
def mIf (mt : Ev1) (ma mb : Ev) : Ev := fun env => do
  let r ← mt env
  if r.1 = true then ma r.2 else mb r.2
theorem em_if {c : Expr} {t : TT} {mt : Ev1} (h : TM X C W c t mt) (ha : EM X C W a ta ma) (hb : EM X C W b tb mb) : EM X C W (.IfExp c a b pos) (tIf t ta tb) (mIf mt ma mb) := by
  refine ⟨pe_ifExp h.pe ha.pe hb.pe, fun M0 ad σ H env Q R w => ?_⟩
  refine h.sn' (f := fun r => if r.1 = true then ma r.2 else mb r.2) R w fun r H' R' S' z => ?_
  split
  · rename_i e
    rw [if_pos e] at z
    exact ha.sn M0 ad σ H' r.2 Q R' (z.imp (fun q y v2 H2 R2 S2 => y v2 H2 R2 (S'.trans S2)) fun _ y => y)
  · rename_i e
    rw [if_neg e] at z
    exact hb.sn M0 ad σ H' r.2 Q R' (z.imp (fun q y v2 H2 R2 S2 => y v2 H2 R2 (S'.trans S2)) fun _ y => y)
/-- a op b op c -/
def mChain (g g' : D → D → Res D) (ma mb mc : Ev) : Ev := fun env => do
  let r1 ← ma env
  let r2 ← mb r1.2
  let x ← rs r2.2 r1.1
  let y ← rs r2.2 r2.1
  match g x y with
  | .ok (.bl true) =>
    let r3 ← mc r2.2
    let y ← rs r3.2 r2.1
    let z ← rs r3.2 r3.1
    match g' y z with
    | .ok d => pure (d, r3.2)
    | _ => .bad
  | .ok (.bl false) => pure (.bl false, r2.2)
  | _ => .bad

/-! ### arguments, calls of built-ins -/
def mNil : Evs := fun env => .ok ([], env)
def mCons (m : Ev) (ms : Evs) : Evs := fun env => do
  let r1 ← m env
  let r2 ← ms r1.2
  pure (r1.1 :: r2.1, r2.2)
theorem am_nil : AM X C W [] tNil mNil := ⟨pa_nil, fun M0 ad σ H env Q R w => w [] H R .refl .nil⟩
theorem am_cons {te : TE} {t : TA} {m : Ev} {ms : Evs} (h : EM X C W e te m) (hr : AM X C W es t ms) (hs : starEach (e :: es) X.env = (false, eval e X.env) :: starEach es X.env := by rfl) : AM X C W (e :: es) (tCons te t) (mCons m ms) := by
  refine ⟨pa_cons h.pe hr.pe hs, fun M0 ad σ H env Q R w => ?_⟩
  unfold mCons at w
  refine h.sn' R w fun r1 v1 H1 R1 S1 V1 w1 => ?_
  refine hr.sn' R1 w1 fun r2 vs H2 R2 S2 V2 w2 => ?_
  exact w2 (v1 :: vs) H2 R2 (S1.trans S2) (.cons (V1.stp S2) V2)
def CallS (K : PySem.W.Frag) (r : List V → Hp → VK → Prop) (g : List D → Res D) : Prop := ∀ (H : Hp) (M : Addr → Prop) (vs : List V) (ds : List D) (Q : VK), (∀ a, M a → H a ≠ none) → RoL K H M ds vs →
  (g ds).Wp (fun d => ∀ v H', Same H H' → Rp K H' M d v → Q v H') (fun _ => False) → r vs H Q
def mCallB (g : List D → Res D) (ms : Evs) : Ev := fun env => do
  let r ← ms env
  let xs ← rsL r.2 r.1
  match g xs with
  | .ok d => pure (d, r.2)
  | _ => .bad
theorem callB_sn {r : List V → Hp → VK → Prop} {g : List D → Res D} {t : TA} {ms : Evs} (ho : CallS C.K r g) (ha : AM X C W es t ms) {M0 : Addr → Prop} {ad : Nat → Addr} {σ : L2.St} {H : Hp} {env : Sls} {Q : VK} (R : RE (C.w M0) ad H σ env)
    (w : (mCallB g ms env).Wp (fun r => ∀ v H', RE (C.w M0) ad H' σ r.2 → Stp (C.w M0) ad H env H' r.2 → VR (C.w M0) ad H' σ r.2 r.1 v → Q v H') (Er (C.w M0) ad σ W)) : tCB r t σ H Q := by
  unfold mCallB at w
  refine ha.sn' R w fun r1 vs H1 R1 S1 V1 w1 => ?_
  rw [wp_bind] at w1
  obtain ⟨xs, w2, rx⟩ := R1.rsL V1 w1
  refine ho H1 (Mo (C.w M0) r1.2 ad) vs xs Q (fun a z => R1.mtrk z) rx ?_
  cases q : g xs with
  | ok d =>
    rw [q] at w2
    exact fun v H' e r => w2 v H' (R1.grow e) (S1.trans (.grow e)) (.of r)
  | err c => rw [q] at w2; exact w2.elim
  | bad => rw [q] at w2; exact w2.elim
theorem em_callB {id : String} {x : Str} {p : Pos} {r : List V → Hp → VK → Prop} {g : List D → Res D} {t : TA} {ms : Evs} (hc : CallR X (.builtin id) r) (ho : CallS C.K r g) (hg : Gl X x) (hm : X.mg x = none) (hv : bootBuiltins x = some (.builtin id)) (ha : AM X C W (e :: es) t ms)
    (hn : x ≠ "__name__" := by decide) (hdb : (x == ("__debug__" : Str)) = false := by decide) (he : starEach (e :: es) X.env = (false, eval e X.env) :: starEach es X.env := by rfl) (hpl : (backTo pos (starEach es X.env)).any (·.1) = false := by rfl) :
    EM X C W (.Call (.Name x p) (e :: es) [] pos) (tCB r t) (mCallB g ms) :=
  ⟨pe_callB hc hg hm hv ha.pe hn hdb he hpl, fun M0 ad σ H env Q R w => callB_sn ho ha R w⟩
theorem em_callTy {T : String} {x : Str} {p : Pos} {r : List V → Hp → VK → Prop} {g : List D → Res D} {t : TA} {ms : Evs} (hc : CallR X (.type T) r) (ho : CallS C.K r g) (hg : Gl X x) (hm : X.mg x = none) (hv : bootBuiltins x = some (.type T)) (ha : AM X C W (e :: es) t ms)
    (hn : x ≠ "__name__" := by decide) (hdb : (x == ("__debug__" : Str)) = false := by decide) (he : starEach (e :: es) X.env = (false, eval e X.env) :: starEach es X.env := by rfl) (hpl : (backTo pos (starEach es X.env)).any (·.1) = false := by rfl) :
    EM X C W (.Call (.Name x p) (e :: es) [] pos) (tCB r t) (mCallB g ms) :=
  ⟨pe_callTy hc hg hm hv ha.pe hn hdb he hpl, fun M0 ad σ H env Q R w => callB_sn ho ha R w⟩
end
end Vm
end
section
set_option maxRecDepth 100000
set_option maxHeartbeats 4000000
/-! Vm, part D: operators and built-ins over data; displays, subscripts, slices. -/
namespace Vm
open PySem PySem.Spec PyProof.Rows L2

/-! ### a new list from an operation -/
def OpF (K : PySem.W.Frag) (r : R2) (g : D → D → Res D) : Prop := ∀ (H : Hp) (M : Addr → Prop) (x y : V) (dx dy : D) (Q : VK), (∀ a, M a → H a ≠ none) → Ro K H M dx x → Ro K H M dy y →
  (g dx dy).Wp (fun d => ∀ a H', H a = none → Same H H' → CellOk K H' (fun b => M b ∨ b = a) d a → Q (.ref a) H') (fun _ => False) → r x y H Q
def CallF (K : PySem.W.Frag) (r : List V → Hp → VK → Prop) (g : List D → Res D) : Prop := ∀ (H : Hp) (M : Addr → Prop) (vs : List V) (ds : List D) (Q : VK), (∀ a, M a → H a ≠ none) → RoL K H M ds vs →
  (g ds).Wp (fun d => ∀ a H', H a = none → Same H H' → CellOk K H' (fun b => M b ∨ b = a) d a → Q (.ref a) H') (fun _ => False) → r vs H Q
theorem cell_rp {K : PySem.W.Frag} {H : Hp} {M M' : Addr → Prop} {d : D} {a : Addr} (c : CellOk K H M d a) (hn : ¬ M' a) (lo : ∀ b, M' b → M b) : Rp K H M' d (.ref a) := by
  cases d with
  | lst ds =>
    obtain ⟨q1, vs, q2, q3⟩ := c
    exact .lst' q2 hn q1 (q3.less lo)
  | dic ds =>
    obtain ⟨q1, vs, q2, q3⟩ := c
    exact .dic (.inl q2) hn q3.len q1 q3.key fun i p q e f => (q3.item i p q e f).less lo
  | dct ds =>
    obtain ⟨q1, vs, q2, q3⟩ := c
    exact .dct (.inl q2) hn q3.len q1 q3.key fun i p q e f => (q3.item i p q e f).less lo
  | _ => exact c.elim
theorem OpF.toS {K : PySem.W.Frag} {r : R2} {g : D → D → Res D} (h : OpF K r g) : OpS K r g := fun H M x y dx dy Q tk rx ry w =>
  h H M x y dx dy Q tk rx ry (w.imp (fun d z a H' hn e c => z _ H' e (cell_rp c (fun q => tk a q hn) fun b q => .inl q)) fun _ z => z)
theorem CallF.toS {K : PySem.W.Frag} {r : List V → Hp → VK → Prop} {g : List D → Res D} (h : CallF K r g) : CallS K r g := fun H M vs ds Q tk rx w =>
  h H M vs ds Q tk rx (w.imp (fun d z a H' hn e c => z _ H' e (cell_rp c (fun q => tk a q hn) fun b q => .inl q)) fun _ z => z)
/-- a list just laid -/
theorem cell_new {K : PySem.W.Frag} {H : Hp} {M : Addr → Prop} {ds : List D} {vs : List V} {a : Addr} (r : RpL K H M ds vs) (hn : H a = none) (hz : ds.length ≤ sizeLine) : CellOk K (upd H a (.lst vs)) (fun b => M b ∨ b = a) (.lst ds) a := by
  refine ⟨hz, vs, upd_same, r.ext (.of_same (same_new hn)) fun b z => ?_⟩
  rcases z with z | z
  · exact .inl z
  · exact .inr (z ▸ hn)
section
variable {X : Cx} {C : Cfg} {W : WX} {k : Nat} {a b e : Expr} {es rest : List Expr} {ta tb tc : TE} {ma mb mc m : Ev} {pos : Pos}
theorem binF_sn {r : R2} {g : D → D → Res D} (ho : OpF C.K r g) (ha : EM X C W a ta ma) (hb : EM X C W b tb mb) {M0 : Addr → Prop} {ad : Nat → Addr} {σ : L2.St} {H : Hp} {env : Sls} {Q : VK} (R : RE (C.w M0) ad H σ env)
    (w : (mBin g ma mb env).Wp (fun r => ∀ a H', H a = none → RE ((C.w M0).add a) ad H' σ r.2 → Stp (C.w M0) ad H env H' r.2 → CellOk C.K H' (Mo ((C.w M0).add a) r.2 ad) r.1 a → Q (.ref a) H') (Er (C.w M0) ad σ W)) : tOp r ta tb σ H Q := by
  unfold mBin at w
  refine ha.sn' R w fun r1 v1 H1 R1 S1 V1 w1 => ?_
  refine hb.sn' R1 w1 fun r2 v2 H2 R2 S2 V2 w2 => ?_
  rw [wp_bind] at w2
  obtain ⟨x, _, w3, rx⟩ := R2.rs (V1.stp S2) w2
  rw [wp_bind] at w3
  obtain ⟨y, _, w4, ry⟩ := R2.rs V2 w3
  refine ho H2 (Mo (C.w M0) r2.2 ad) v1 v2 x y Q (fun a z => R2.mtrk z) rx ry ?_
  cases q : g x y with
  | ok d =>
    rw [q] at w4
    refine fun p H' hn e c => w4 p H' ?_ (R2.growAdd e hn c.trk) ((S1.trans S2).trans (.grow e)) (c.ext rfl .refl fun b z => .inl (mo_add.mp z))
    cases z : H p with
    | none => rfl
    | some o => exact absurd hn ((S1.trans S2).ext.trk p (by rw [z]; exact fun z => nomatch z))
  | err c => rw [q] at w4; exact w4.elim
  | bad => rw [q] at w4; exact w4.elim
theorem ef_bin {op : Operator} {r : R2} {g : D → D → Res D} (hr : OpR X (binaryOp op) r) (ho : OpF C.K r g) (ha : EM X C W a ta ma) (hb : EM X C W b tb mb) : EF X C W (.BinOp a op b pos) (tOp r ta tb) (mBin g ma mb) :=
  ⟨pe_op hr ha.pe hb.pe, fun M0 ad σ H env Q R w => binF_sn ho ha hb R w⟩
theorem callF_sn {r : List V → Hp → VK → Prop} {g : List D → Res D} {t : TA} {ms : Evs} (ho : CallF C.K r g) (ha : AM X C W es t ms) {M0 : Addr → Prop} {ad : Nat → Addr} {σ : L2.St} {H : Hp} {env : Sls} {Q : VK} (R : RE (C.w M0) ad H σ env)
    (w : (mCallB g ms env).Wp (fun r => ∀ a H', H a = none → RE ((C.w M0).add a) ad H' σ r.2 → Stp (C.w M0) ad H env H' r.2 → CellOk C.K H' (Mo ((C.w M0).add a) r.2 ad) r.1 a → Q (.ref a) H') (Er (C.w M0) ad σ W)) : tCB r t σ H Q := by
  unfold mCallB at w
  refine ha.sn' R w fun r1 vs H1 R1 S1 V1 w1 => ?_
  rw [wp_bind] at w1
  obtain ⟨xs, w2, rx⟩ := R1.rsL V1 w1
  refine ho H1 (Mo (C.w M0) r1.2 ad) vs xs Q (fun a z => R1.mtrk z) rx ?_
  cases q : g xs with
  | ok d =>
    rw [q] at w2
    refine fun p H' hn e c => w2 p H' ?_ (R1.growAdd e hn c.trk) (S1.trans (.grow e)) (c.ext rfl .refl fun b z => .inl (mo_add.mp z))
    cases z : H p with
    | none => rfl
    | some o => exact absurd hn (S1.ext.trk p (by rw [z]; exact fun z => nomatch z))
  | err c => rw [q] at w2; exact w2.elim
  | bad => rw [q] at w2; exact w2.elim
theorem ef_callB {id : String} {x : Str} {p : Pos} {r : List V → Hp → VK → Prop} {g : List D → Res D} {t : TA} {ms : Evs} (hc : CallR X (.builtin id) r) (ho : CallF C.K r g) (hg : Gl X x) (hm : X.mg x = none) (hv : bootBuiltins x = some (.builtin id)) (ha : AM X C W (e :: es) t ms)
    (hn : x ≠ "__name__" := by decide) (hdb : (x == ("__debug__" : Str)) = false := by decide) (he : starEach (e :: es) X.env = (false, eval e X.env) :: starEach es X.env := by rfl) (hpl : (backTo pos (starEach es X.env)).any (·.1) = false := by rfl) :
    EF X C W (.Call (.Name x p) (e :: es) [] pos) (tCB r t) (mCallB g ms) :=
  ⟨pe_callB hc hg hm hv ha.pe hn hdb he hpl, fun M0 ad σ H env Q R w => callF_sn ho ha R w⟩
theorem ef_callTy {T : String} {x : Str} {p : Pos} {r : List V → Hp → VK → Prop} {g : List D → Res D} {t : TA} {ms : Evs} (hc : CallR X (.type T) r) (ho : CallF C.K r g) (hg : Gl X x) (hm : X.mg x = none) (hv : bootBuiltins x = some (.type T)) (ha : AM X C W (e :: es) t ms)
    (hn : x ≠ "__name__" := by decide) (hdb : (x == ("__debug__" : Str)) = false := by decide) (he : starEach (e :: es) X.env = (false, eval e X.env) :: starEach es X.env := by rfl) (hpl : (backTo pos (starEach es X.env)).any (·.1) = false := by rfl) :
    EF X C W (.Call (.Name x p) (e :: es) [] pos) (tCB r t) (mCallB g ms) :=
  ⟨pe_callTy hc hg hm hv ha.pe hn hdb he hpl, fun M0 ad σ H env Q R w => callF_sn ho ha R w⟩

/-! ### displays -/
def mTup (ms : Evs) : Ev := fun env => do
  let r ← ms env
  let xs ← kpL r.1
  if xs.length ≤ sizeLine then pure (.tup xs, r.2) else .bad
def mLst (ms : Evs) : Ev := fun env => do
  let r ← ms env
  let xs ← kpL r.1
  if xs.length ≤ sizeLine then pure (.lst xs, r.2) else .bad
theorem em_tup {t : TA} {ms : Evs} {x1} (h : AM X C W es t ms) : EM X C W (.Tuple es x1 pos) (tTup t) (mTup ms) := by
  refine ⟨pe_tup h.pe, fun M0 ad σ H env Q R w => ?_⟩
  unfold mTup at w
  refine h.sn' R w fun r1 vs H1 R1 S1 V1 w1 => ?_
  rw [wp_bind] at w1
  obtain ⟨w2, rx⟩ := kpL_rp V1 w1
  split at w2
  · rename_i hz
    refine ⟨by rw [rx.len]; exact hz, fun p hn => w2 _ _ (R1.grow (same_new hn)) (S1.trans (.grow (same_new hn))) (.of (.tup' (.of upd_same) hz (rx.same (same_new hn))))⟩
  · exact w2.elim
theorem ef_lst {t : TA} {ms : Evs} (h : AM X C W es t ms) : EF X C W (.List es pos) (tLst t) (mLst ms) := by
  refine ⟨pe_lst h.pe, fun M0 ad σ H env Q R w => ?_⟩
  unfold mLst at w
  refine h.sn' R w fun r1 vs H1 R1 S1 V1 w1 => ?_
  rw [wp_bind] at w1
  obtain ⟨w2, rx⟩ := kpL_rp V1 w1
  split at w2
  · rename_i hz
    refine ⟨by rw [rx.len]; exact hz, fun p hn => w2 p _ ?_ (R1.growAdd (same_new hn) hn (by rw [upd_same]; exact fun z => nomatch z)) (S1.trans (.grow (same_new hn))) ((cell_new rx hn hz).ext rfl .refl fun b z => .inl (mo_add.mp z))⟩
    cases z : H p with
    | none => rfl
    | some o => exact absurd hn (S1.ext.trk p (by rw [z]; exact fun z => nomatch z))
  · exact w2.elim
/-- {} -/
def mDic0 : Ev := fun env => .ok (.dic [], env)
theorem ef_dic0 : EF X C W (.Dict [] [] pos) tDNewK mDic0 := by
  refine ⟨pe_dnewK, fun M0 ad σ H env Q R w => ?_⟩
  refine fun p hn => w p _ hn (R.growAdd (same_new hn) hn (by rw [upd_same]; exact fun z => nomatch z)) (.grow (same_new hn)) ⟨Nat.zero_le _, [], upd_same, rfl, fun i p q e _ => by simp at e, fun i p q e _ => by simp at e⟩

/-! ### subscripts -/
theorem em_ix {r : R2} {g : D → D → Res D} (hr : IxR X r) (ho : OpS C.K r g) (ha : EM X C W a ta ma) (hb : EM X C W b tb mb) (hs : PlainIx b := by intro _ _; rfl) : EM X C W (.Subscript a b pos) (tOp r ta tb) (mBin g ma mb) :=
  ⟨pe_ix hr ha.pe hb.pe hs, fun M0 ad σ H env Q R w => bin_sn ho ha hb R w⟩
end

/-! ### arithmetic -/
section
variable {K : PySem.W.Frag}
theorem Ro.int_inv {H : Hp} {M : Addr → Prop} {i : Int} {v : V} (h : Ro K H M (.int i) v) : v = .int i := by cases h; rfl
theorem Ro.bl_inv {H : Hp} {M : Addr → Prop} {i : Bool} {v : V} (h : Ro K H M (.bl i) v) : v = .bl i := by cases h; rfl
theorem Ro.str_inv {H : Hp} {M : Addr → Prop} {i : Str} {v : V} (h : Ro K H M (.str i) v) : v = .str i := by cases h; rfl
theorem Ro.non_inv {H : Hp} {M : Addr → Prop} {v : V} (h : Ro K H M .non v) : v = .non := by cases h; rfl
theorem Ro.lst_inv {H : Hp} {M : Addr → Prop} {ds : List D} {v : V} (h : Ro K H M (.lst ds) v) : ∃ a vs, v = .ref a ∧ H a = some (.lst vs) ∧ ds.length ≤ sizeLine ∧ RpL K H M ds vs := by cases h; exact ⟨_, _, rfl, by assumption, by assumption, by assumption⟩
theorem Ro.tup_inv {H : Hp} {M : Addr → Prop} {ds : List D} {v : V} (h : Ro K H M (.tup ds) v) : ∃ a vs, v = .ref a ∧ SqT K H a vs ∧ ds.length ≤ sizeLine ∧ RpL K H M ds vs := by cases h; exact ⟨_, _, rfl, by assumption, by assumption, by assumption⟩
theorem Ro.dic_inv {H : Hp} {M : Addr → Prop} {ds : List (Key × D)} {v : V} (h : Ro K H M (.dic ds) v) : ∃ a vs, v = .ref a ∧ Rd H a (.dK vs) ∧ ds.length ≤ sizeLine ∧ RpK K H M ds vs := by cases h; exact ⟨_, _, rfl, by assumption, by assumption, by assumption⟩
theorem Ro.dct_inv {H : Hp} {M : Addr → Prop} {ds : List (List Key × D)} {v : V} (h : Ro K H M (.dct ds) v) : ∃ a vs, v = .ref a ∧ Rd H a (.dT vs) ∧ ds.length ≤ sizeLine ∧ RpK K H M ds vs := by cases h; exact ⟨_, _, rfl, by assumption, by assumption, by assumption⟩

def addI (x y : D) : Res D := match x, y with
  | .int i, .int j => .ok (.int (i + j))
  | _, _ => .bad
def catL (x y : D) : Res D := match x, y with
  | .lst a, .lst b => if a.length + b.length ≤ sizeLine then .ok (.lst (a ++ b)) else .bad
  | _, _ => .bad
def addD (x y : D) : Res D := match x, y with
  | .int i, .int j => .ok (.int (i + j))
  | .str a, .str b => if a.length + b.length ≤ sizeLine then .ok (.str (a ++ b)) else .bad
  | .lst a, .lst b => if a.length + b.length ≤ sizeLine then .ok (.lst (a ++ b)) else .bad
  | .tup a, .tup b => if a.length + b.length ≤ sizeLine then .ok (.tup (a ++ b)) else .bad
  | _, _ => .bad
theorem os_catL : OpF K rCat catL := by
  intro H M x y dx dy Q tk rx ry w
  cases dx with
  | lst a =>
    cases dy with
    | lst b =>
      obtain ⟨p, vs, rfl, h1, z1, q1⟩ := rx.lst_inv
      obtain ⟨q, ws, rfl, h2, z2, q2⟩ := ry.lst_inv
      simp only [catL] at w
      split at w
      · rename_i hz
        refine ⟨p, q, vs, ws, rfl, rfl, h1, h2, by rw [q1.len, q2.len]; exact hz, fun o hn => w o _ hn (same_new hn) (cell_new (q1.append q2) hn (by rw [List.length_append]; exact hz))⟩
      · exact w.elim
    | _ => exact w.elim
  | _ => exact w.elim
def rAddA (K : PySem.W.Frag) : R2 := fun x y H Q => (rI0 fun i j => .int (i + j)) x y H Q ∨ (fun x y H Q => ∃ i j, x = .str i ∧ y = .str j ∧ i.length + j.length ≤ sizeLine ∧ Q (.str (i ++ j)) H : R2) x y H Q ∨ rCat x y H Q ∨ rCatA K x y H Q
theorem or_addA {X : Cx} : OpR X (binaryOp .Add) (rAddA X.K) := op_add.or (op_add_str.or (op_cat.or op_catA))
theorem os_addA : OpS K (rAddA K) addD := by
  intro H M x y dx dy Q tk rx ry w
  cases dx with
  | int i =>
    cases dy with
    | int j => rw [rx.int_inv, ry.int_inv]; exact .inl ⟨i, j, rfl, rfl, w _ _ (.refl _) (.int _)⟩
    | _ => exact w.elim
  | str i =>
    cases dy with
    | str j =>
      rw [rx.str_inv, ry.str_inv]
      simp only [addD] at w
      split at w
      · rename_i hz
        exact .inr (.inl ⟨i, j, rfl, rfl, hz, w _ _ (.refl _) (.str _)⟩)
      · exact w.elim
    | _ => exact w.elim
  | lst i =>
    cases dy with
    | lst j =>
      refine .inr (.inr (.inl (os_catL.toS H M x y _ _ Q tk rx ry ?_)))
      exact w
    | _ => exact w.elim
  | tup i =>
    cases dy with
    | tup j =>
      obtain ⟨p, vs, rfl, h1, z1, q1⟩ := rx.tup_inv
      obtain ⟨q, ws, rfl, h2, z2, q2⟩ := ry.tup_inv
      simp only [addD] at w
      split at w
      · rename_i hz
        refine .inr (.inr (.inr ⟨p, q, vs, ws, rfl, rfl, h1, h2, by rw [q1.len, q2.len]; exact hz, fun e => ?_, fun _ e => ?_, fun _ _ o hn => w _ _ (same_new hn) (.tup' (.of upd_same) (by rw [List.length_append]; exact hz) ((q1.append q2).same (same_new hn)))⟩))
        · subst e
          have e2 : i = [] := List.length_eq_zero_iff.mp q1.len.symm
          subst e2
          exact w _ _ (.refl _) (.tup' h2 z2 q2)
        · subst e
          have e2 : j = [] := List.length_eq_zero_iff.mp q2.len.symm
          subst e2
          rw [List.append_nil] at w
          exact w _ _ (.refl _) (.tup' h1 z1 q1)
      · exact w.elim
    | _ => exact w.elim
  | _ => exact w.elim
def subD (x y : D) : Res D := match x, y with
  | .int i, .int j => .ok (.int (i - j))
  | _, _ => .bad
def mulD (x y : D) : Res D := match x, y with
  | .int i, .int j => if i.natAbs.log2 + j.natAbs.log2 < 1000000 then .ok (.int (i * j)) else .bad
  | _, _ => .bad
def divD (x y : D) : Res D := match x, y with
  | .int i, .int j => if 0 < j ∧ j.natAbs.log2 < 9000 then .ok (.int (i / j)) else .bad
  | _, _ => .bad
def modD (x y : D) : Res D := match x, y with
  | .int i, .int j => if 0 < j then .ok (.int (i % j)) else .bad
  | _, _ => .bad
def powD (x y : D) : Res D := match x, y with
  | .int i, .int j => if 0 ≤ j ∧ j ≤ 1000000 ∧ i.natAbs < 2 ^ 64 then .ok (.int (i ^ j.toNat)) else .bad
  | _, _ => .bad
theorem os_I {C : Int → Int → Prop} [∀ i j, Decidable (C i j)] {g : Int → Int → Int} : OpS K (rI C fun i j => .int (g i j)) (fun x y => match x, y with | .int i, .int j => if C i j then .ok (.int (g i j)) else .bad | _, _ => .bad) := by
  intro H M x y dx dy Q tk rx ry w
  cases dx with
  | int i =>
    cases dy with
    | int j =>
      rw [rx.int_inv, ry.int_inv]
      by_cases c : C i j
      · simp only [if_pos c] at w
        exact ⟨i, j, rfl, rfl, c, w _ _ (.refl _) (.int _)⟩
      · simp only [if_neg c] at w
        exact w.elim
    | _ => exact w.elim
  | _ => exact w.elim
theorem os_sub : OpS K (rI0 fun i j => .int (i - j)) subD := by
  intro H M x y dx dy Q tk rx ry w
  cases dx with
  | int i =>
    cases dy with
    | int j => rw [rx.int_inv, ry.int_inv]; exact ⟨i, j, rfl, rfl, w _ _ (.refl _) (.int _)⟩
    | _ => exact w.elim
  | _ => exact w.elim
theorem os_mul : OpS K (rI CMulW fun i j => .int (i * j)) mulD := by
  have := os_I (K := K) (C := fun i j => i.natAbs.log2 + j.natAbs.log2 < 1000000) (g := fun i j => i * j)
  intro H M x y dx dy Q tk rx ry w
  obtain ⟨i, j, e1, e2, c, q⟩ := this H M x y dx dy Q tk rx ry (by cases dx <;> cases dy <;> exact w)
  exact ⟨i, j, e1, e2, c, q⟩
theorem os_div : OpS K (rI CDivW fun i j => .int (i / j)) divD := by
  have := os_I (K := K) (C := fun i j => 0 < j ∧ j.natAbs.log2 < 9000) (g := fun i j => i / j)
  intro H M x y dx dy Q tk rx ry w
  obtain ⟨i, j, e1, e2, c, q⟩ := this H M x y dx dy Q tk rx ry (by cases dx <;> cases dy <;> exact w)
  exact ⟨i, j, e1, e2, c, q⟩
theorem os_mod : OpS K (rI (fun _ j => 0 < j) fun i j => .int (i % j)) modD := by
  have := os_I (K := K) (C := fun i j => 0 < j) (g := fun i j => i % j)
  intro H M x y dx dy Q tk rx ry w
  obtain ⟨i, j, e1, e2, c, q⟩ := this H M x y dx dy Q tk rx ry (by cases dx <;> cases dy <;> exact w)
  exact ⟨i, j, e1, e2, c, q⟩
theorem os_pow : OpS K (rI CPow fun i j => .int (i ^ j.toNat)) powD := by
  have := os_I (K := K) (C := fun i j => 0 ≤ j ∧ j ≤ 1000000 ∧ i.natAbs < 2 ^ 64) (g := fun i j => i ^ j.toNat)
  intro H M x y dx dy Q tk rx ry w
  obtain ⟨i, j, e1, e2, c, q⟩ := this H M x y dx dy Q tk rx ry (by cases dx <;> cases dy <;> exact w)
  exact ⟨i, j, e1, e2, c, q⟩

/-! ### comparisons -/
def cmpD (p : Int → Int → Bool) (x y : D) : Res D := match x, y with
  | .int i, .int j => .ok (.bl (p i j))
  | _, _ => .bad
abbrev ltD := cmpD fun i j => decide (i < j)
abbrev leD := cmpD fun i j => decide (i ≤ j)
abbrev gtD := cmpD fun i j => decide (j < i)
abbrev geD := cmpD fun i j => decide (j ≤ i)
theorem os_cmp {p : Int → Int → Bool} : OpS K (rI0 fun i j => .bl (p i j)) (cmpD p) := by
  intro H M x y dx dy Q tk rx ry w
  cases dx with
  | int i =>
    cases dy with
    | int j => rw [rx.int_inv, ry.int_inv]; exact ⟨i, j, rfl, rfl, w _ _ (.refl _) (.bl _)⟩
    | _ => exact w.elim
  | _ => exact w.elim
/-- is None, is not None, is True .. (the right side a written one) -/
def isD (x y : D) : Res D := match x, y with
  | x, .non => (match x with
    | .non => .ok (.bl true)
    | .own _ => .bad
    | _ => .ok (.bl false))
  | .bl a, .bl b => .ok (.bl (decide (a = b)))
  | _, _ => .bad
def isntD (x y : D) : Res D := match x, y with
  | x, .non => (match x with
    | .non => .ok (.bl false)
    | .own _ => .bad
    | _ => .ok (.bl true))
  | .bl a, .bl b => .ok (.bl (!decide (a = b)))
  | _, _ => .bad
def rIsA : R2 := fun x y H Q => (fun x y H Q => y = .non ∧ Q (.bl (decide (x = .non))) H : R2) x y H Q ∨ rIsB x y H Q
def rIsntA : R2 := fun x y H Q => (fun x y H Q => y = .non ∧ Q (.bl (!decide (x = .non))) H : R2) x y H Q ∨ rNotB x y H Q
theorem or_isA {X : Cx} : OpR X (compareOp .Is) rIsA := op_isN.or op_isBl
theorem or_isntA {X : Cx} : OpR X (compareOp .IsNot) rIsntA := op_notN.or op_notBl
theorem os_isA : OpS K rIsA isD := by
  intro H M x y dx dy Q tk rx ry w
  cases dy with
  | non =>
    rw [ry.non_inv]
    refine .inl ⟨rfl, ?_⟩
    cases rx <;> exact w _ _ (.refl _) (.bl _)
  | bl b =>
    cases dx with
    | bl a => rw [rx.bl_inv, ry.bl_inv]; exact .inr ⟨a, b, rfl, rfl, w _ _ (.refl _) (.bl _)⟩
    | _ => exact w.elim
  | _ => cases dx <;> exact w.elim
theorem os_isntA : OpS K rIsntA isntD := by
  intro H M x y dx dy Q tk rx ry w
  cases dy with
  | non =>
    rw [ry.non_inv]
    refine .inl ⟨rfl, ?_⟩
    cases rx <;> exact w _ _ (.refl _) (.bl _)
  | bl b =>
    cases dx with
    | bl a => rw [rx.bl_inv, ry.bl_inv]; exact .inr ⟨a, b, rfl, rfl, w _ _ (.refl _) (.bl _)⟩
    | _ => exact w.elim
  | _ => cases dx <;> exact w.elim

/-! ### == -/
mutual
def D.py : D → PyData
  | .non => .none
  | .bl b => .bool b
  | .int i => .int i
  | .str x => .str x
  | .tup xs => .tuple (D.pyL xs)
  | .lst xs => .list (D.pyL xs)
  | .dic _ => .dict []
  | .dct _ => .dict []
  | .own _ => .dict []
  | .scr ns => .list (ns.map PyData.int)
  | .exc _ => .dict []
def D.pyL : List D → List PyData
  | [] => []
  | x :: xs => x.py :: D.pyL xs
end
theorem canLay_cons {x : PyData} {xs : List PyData} : PyData.canLayAll0 (x :: xs) = (x.canLay0 && PyData.canLayAll0 xs) := by simp only [PyData.canLayAll0]
theorem dpAll_of {H : Hp} : ∀ {ds : List D} {vs : List V}, vs.length = ds.length → (∀ (i : Nat) (d : D) (v : V), ds[i]? = some d → vs[i]? = some v → d.py.canLay0 = true → Dp K H v d.py) → PyData.canLayAll0 (D.pyL ds) = true → DpAll K H vs (D.pyL ds)
  | [], vs, hl, h, c => by rw [List.length_eq_zero_iff.mp hl]; exact .nil
  | d :: ds, [], hl, h, c => by simp at hl
  | d :: ds, v :: vs, hl, h, c => by
    have c' : (d.py.canLay0 && PyData.canLayAll0 (D.pyL ds)) = true := by rw [← canLay_cons]; exact c
    rw [Bool.and_eq_true] at c'
    exact .cons (h 0 d v rfl rfl c'.1) (dpAll_of (by simpa using hl) (fun i e u h1 h2 => h (i + 1) e u (by simpa using h1) (by simpa using h2)) c'.2)
theorem scr_dp {H : Hp} {a : Addr} {ns : List Int} (h : ScrAt K H a (ns.map V.int)) : Dp K H (.ref a) (.list (ns.map PyData.int)) := by
  refine .lst h.sq ?_
  clear h
  induction ns with
  | nil => exact .nil
  | cons n ns ih => exact .cons (.int n) ih
theorem Rp.dp {H : Hp} {M : Addr → Prop} {d : D} {v : V} (h : Rp K H M d v) : d.py.canLay0 = true → Dp K H v d.py := by
  induction h with
  | non => exact fun _ => .non
  | bl b => exact fun _ => .bl b
  | int i => exact fun _ => .int i
  | str y => exact fun _ => .str y
  | tup h hl hz _ ih => exact fun c => .tup h (dpAll_of hl ih (by simpa only [D.py, PyData.canLay0] using c))
  | lst h hm hl hz _ ih => exact fun c => .lst (.of h) (dpAll_of hl ih (by simpa only [D.py, PyData.canLay0] using c))
  | scr h hz => exact fun _ => scr_dp h
  | exc h hm hd => exact fun c => by simp only [D.py, PyData.canLay0] at c; cases c
  | dic h hm hl hz hk _ ih => exact fun c => by simp only [D.py, PyData.canLay0] at c; cases c
  | dct h hm hl hz hk _ ih => exact fun c => by simp only [D.py, PyData.canLay0] at c; cases c
theorem Ro.dp {H : Hp} {M : Addr → Prop} {d : D} {v : V} (h : Ro K H M d v) (c : d.py.canLay0 = true) : Dp K H v d.py := by
  cases h with
  | non => exact .non
  | bl b => exact .bl b
  | int i => exact .int i
  | str y => exact .str y
  | tup h hz r => exact .tup h (dpAll_of r.len (fun i d v e f => (r.item i d v e f).dp) (by simpa only [D.py, PyData.canLay0] using c))
  | lst h hz r => exact .lst (.of h) (dpAll_of r.len (fun i d v e f => (r.item i d v e f).dp) (by simpa only [D.py, PyData.canLay0] using c))
  | scr h hz => exact scr_dp h
  | exc h hd => simp only [D.py, PyData.canLay0] at c; cases c
  | dic h hz r => simp only [D.py, PyData.canLay0] at c; cases c
  | dct h hz r => simp only [D.py, PyData.canLay0] at c; cases c
def eqD (x y : D) : Res D := match x, y with
  | .int i, .int j => .ok (.bl (decide (i = j)))
  | .str i, .str j => .ok (.bl (decide (i = j)))
  | x, y => if SeqAt.shaped x.py = true ∧ SeqAt.shaped y.py = true then .ok (.bl (PyData.eqv x.py y.py)) else .bad
def neD (x y : D) : Res D := match x, y with
  | .int i, .int j => .ok (.bl (!decide (i = j)))
  | .str i, .str j => .ok (.bl (!decide (i = j)))
  | x, y => if SeqAt.shaped x.py = true ∧ SeqAt.shaped y.py = true then .ok (.bl (!PyData.eqv x.py y.py)) else .bad
def rEqA (K : PySem.W.Frag) : R2 := fun x y H Q => rEq x y H Q ∨ rEqD K x y H Q
def rNeA (K : PySem.W.Frag) : R2 := fun x y H Q => rNe x y H Q ∨ rNeD K x y H Q
theorem or_eqA {X : Cx} {k : Nat} (hr : Room k X.A) : OpR X (compareOp .Eq) (rEqA X.K) := op_eq.or (op_eqD hr.units)
theorem or_neA {X : Cx} {k : Nat} (hr : Room k X.A) : OpR X (compareOp .NotEq) (rNeA X.K) := op_ne.or (op_neD hr.units)
theorem os_eqA : OpS K (rEqA K) eqD := by
  intro H M x y dx dy Q tk rx ry w
  have gen : (if SeqAt.shaped dx.py = true ∧ SeqAt.shaped dy.py = true then Res.ok (D.bl (PyData.eqv dx.py dy.py)) else .bad).Wp (fun d => ∀ v H', Same H H' → Rp K H' M d v → Q v H') (fun _ => False) → rEqA K x y H Q := by
    intro w
    split at w
    · rename_i hc
      exact .inr ⟨_, _, rx.dp (SeqAt.canLay_of_shaped hc.1), ry.dp (SeqAt.canLay_of_shaped hc.2), hc.1, hc.2, w _ _ (.refl _) (.bl _)⟩
    · exact w.elim
  cases dx with
  | int i =>
    cases dy with
    | int j =>
      rw [rx.int_inv, ry.int_inv]
      refine .inl ⟨rfl, ?_⟩
      rw [dec_int, Bool.beq_eq_decide_eq]
      exact w _ _ (.refl _) (.bl _)
    | _ => exact gen w
  | str i =>
    cases dy with
    | str j =>
      rw [rx.str_inv, ry.str_inv]
      refine .inl ⟨rfl, ?_⟩
      rw [dec_str, Bool.beq_eq_decide_eq]
      exact w _ _ (.refl _) (.bl _)
    | _ => exact gen w
  | _ => exact gen (by cases dy <;> exact w)
theorem os_neA : OpS K (rNeA K) neD := by
  intro H M x y dx dy Q tk rx ry w
  have gen : (if SeqAt.shaped dx.py = true ∧ SeqAt.shaped dy.py = true then Res.ok (D.bl (!PyData.eqv dx.py dy.py)) else .bad).Wp (fun d => ∀ v H', Same H H' → Rp K H' M d v → Q v H') (fun _ => False) → rNeA K x y H Q := by
    intro w
    split at w
    · rename_i hc
      exact .inr ⟨_, _, rx.dp (SeqAt.canLay_of_shaped hc.1), ry.dp (SeqAt.canLay_of_shaped hc.2), hc.1, hc.2, w _ _ (.refl _) (.bl _)⟩
    · exact w.elim
  cases dx with
  | int i =>
    cases dy with
    | int j =>
      rw [rx.int_inv, ry.int_inv]
      refine .inl ⟨rfl, ?_⟩
      rw [dec_int, Bool.beq_eq_decide_eq]
      exact w _ _ (.refl _) (.bl _)
    | _ => exact gen w
  | str i =>
    cases dy with
    | str j =>
      rw [rx.str_inv, ry.str_inv]
      refine .inl ⟨rfl, ?_⟩
      rw [dec_str, Bool.beq_eq_decide_eq]
      exact w _ _ (.refl _) (.bl _)
    | _ => exact gen w
  | _ => exact gen (by cases dy <;> exact w)

/-! ### a[i] -/
theorem RpL.atI {H : Hp} {M : Addr → Prop} {ds : List D} {vs : List V} (r : RpL K H M ds vs) {i : Int} {d : D} (h : L2.atI ds i = some d) : ∃ v, L2.atI vs i = some v ∧ Rp K H M d v := by
  unfold L2.atI at h ⊢
  rw [r.len]
  cases e : ixN ds.length i with
  | none => rw [e] at h; cases h
  | some j =>
    rw [e] at h
    exact r.at1 h
def ixD (x y : D) : Res D := match x, y with
  | .lst xs, .int i => (match L2.atI xs i with | some d => .ok d | none => .bad)
  | .tup xs, .int i => (match L2.atI xs i with | some d => .ok d | none => .bad)
  | .str x, .int i => if x.length ≤ sizeLine then (match L2.atI x.cps.toList i with | some c => .ok (.str ⟨#[c]⟩) | none => .bad) else .bad
  | _, _ => .bad
theorem os_ix : OpS K (rIx K) ixD := by
  intro H M x y dx dy Q tk rx ry w
  cases dy with
  | int i =>
    rw [ry.int_inv]
    cases dx with
    | lst xs =>
      obtain ⟨p, vs, rfl, h1, z1, q1⟩ := rx.lst_inv
      simp only [ixD] at w
      cases e : L2.atI xs i with
      | none => rw [e] at w; exact w.elim
      | some d =>
        rw [e] at w
        obtain ⟨v, e2, r⟩ := q1.atI e
        exact .inl ⟨p, vs, i, v, rfl, rfl, .of h1, e2, w _ _ (.refl _) r⟩
    | tup xs =>
      obtain ⟨p, vs, rfl, h1, z1, q1⟩ := rx.tup_inv
      simp only [ixD] at w
      cases e : L2.atI xs i with
      | none => rw [e] at w; exact w.elim
      | some d =>
        rw [e] at w
        obtain ⟨v, e2, r⟩ := q1.atI e
        exact .inr (.inl ⟨p, vs, i, v, rfl, rfl, h1, e2, w _ _ (.refl _) r⟩)
    | str x =>
      rw [rx.str_inv]
      simp only [ixD] at w
      split at w
      · rename_i hz
        cases e : L2.atI x.cps.toList i with
        | none => rw [e] at w; exact w.elim
        | some c =>
          rw [e] at w
          exact .inr (.inr ⟨x, i, c, rfl, rfl, hz, e, w _ _ (.refl _) (.str _)⟩)
      · exact w.elim
    | _ => exact w.elim
  | _ => cases dx <;> exact w.elim
end
end Vm
end
section
set_option maxRecDepth 100000
set_option maxHeartbeats 4000000
/-! Vm, part E: built-ins by name, slices. -/
namespace Vm
open PySem PySem.Spec PyProof.Rows L2

section
variable {K : PySem.W.Frag}
def one (g : D → Res D) (ds : List D) : Res D := match ds with
  | [x] => g x
  | _ => .bad
def two (g : D → D → Res D) (ds : List D) : Res D := match ds with
  | [x, y] => g x y
  | _ => .bad
/-! ### len -/
def lenD (x : D) : Res D := match x with
  | .lst xs => .ok (.int xs.length)
  | .tup xs => .ok (.int xs.length)
  | .str x => if x.length ≤ sizeLine then .ok (.int x.length) else .bad
  | .dic xs => .ok (.int xs.length)
  | .scr ns => .ok (.int ns.length)
  | _ => .bad
def rLenA (K : PySem.W.Frag) : List V → Hp → VK → Prop := fun xs H Q => (fun xs H Q => ∃ x n, xs = [x] ∧ LenV K x H n ∧ Q (.int n) H : List V → Hp → VK → Prop) xs H Q ∨ (fun xs H Q => ∃ a kvs, xs = [V.ref a] ∧ Rd H a (.dK kvs) ∧ Q (.int kvs.length) H : List V → Hp → VK → Prop) xs H Q
theorem call_lenRd {X : Cx} : CallR X (.builtin "len") (fun xs H Q => ∃ a kvs, xs = [V.ref a] ∧ Rd H a (.dK kvs) ∧ Q (.int kvs.length) H) := by
  intro pins s σ H xs us Q I r h
  obtain ⟨a, kvs, rfl, ha, q⟩ := h
  obtain ⟨u, rfl, ru⟩ := vals1 r
  cases ru
  exact d_len I (ha.imp id id) fun t s' I' => ⟨.int kvs.length, H, I', ⟨t, rfl⟩, q⟩
theorem cr_lenA {X : Cx} : CallR X (.builtin "len") (rLenA X.K) := call_len.or call_lenRd
theorem cs_len : CallS K (rLenA K) (one lenD) := by
  intro H M vs ds Q tk r w
  match ds, r, w with
  | [d], r, w =>
    obtain ⟨v, rfl, rv⟩ := r.one
    cases d with
    | lst xs =>
      obtain ⟨a, us, rfl, h, z, q⟩ := rv.lst_inv
      exact .inl ⟨_, us.length, rfl, .inl ⟨us, .of h, rfl⟩, by rw [q.len]; exact w _ _ (.refl _) (.int _)⟩
    | tup xs =>
      obtain ⟨a, us, rfl, h, z, q⟩ := rv.tup_inv
      exact .inl ⟨_, us.length, rfl, .inr ⟨us, h, rfl⟩, by rw [q.len]; exact w _ _ (.refl _) (.int _)⟩
    | str x =>
      rw [rv.str_inv]
      simp only [one, lenD] at w
      split at w
      · rename_i hz
        exact .inl ⟨_, x.length, rfl, ⟨hz, rfl⟩, w _ _ (.refl _) (.int _)⟩
      · exact w.elim
    | dic xs =>
      obtain ⟨a, us, rfl, h, z, q⟩ := rv.dic_inv
      exact .inr ⟨a, us, rfl, h, by rw [q.len]; exact w _ _ (.refl _) (.int _)⟩
    | scr ns =>
      cases rv with
      | scr h hz => exact .inl ⟨_, (ns.map V.int).length, rfl, .inl ⟨_, h.sq, rfl⟩, by rw [List.length_map]; exact w _ _ (.refl _) (.int _)⟩
    | _ => exact w.elim
  | [], _, w => exact w.elim
  | _ :: _ :: _, _, w => exact w.elim

/-! ### max, min, abs, int, repr, str -/
def maxD (x y : D) : Res D := match x, y with
  | .int i, .int j => .ok (.int (if j > i then j else i))
  | _, _ => .bad
def minD (x y : D) : Res D := match x, y with
  | .int i, .int j => .ok (.int (if j < i then j else i))
  | _, _ => .bad
theorem cs_max2 : CallS K (fun xs H Q => ∃ i j, xs = [.int i, .int j] ∧ Q (.int (if j > i then j else i)) H) (two maxD) := by
  intro H M vs ds Q tk r w
  match ds, r, w with
  | [d, e], r, w =>
    obtain ⟨v, u, rfl, rv, ru⟩ := r.two
    cases d with
    | int i =>
      cases e with
      | int j => rw [rv.int_inv, ru.int_inv]; exact ⟨i, j, rfl, w _ _ (.refl _) (.int _)⟩
      | _ => exact w.elim
    | _ => exact w.elim
  | [], _, w => exact w.elim
  | [_], _, w => exact w.elim
  | _ :: _ :: _ :: _, _, w => exact w.elim
theorem cs_min2 : CallS K (fun xs H Q => ∃ i j, xs = [.int i, .int j] ∧ Q (.int (if j < i then j else i)) H) (two minD) := by
  intro H M vs ds Q tk r w
  match ds, r, w with
  | [d, e], r, w =>
    obtain ⟨v, u, rfl, rv, ru⟩ := r.two
    cases d with
    | int i =>
      cases e with
      | int j => rw [rv.int_inv, ru.int_inv]; exact ⟨i, j, rfl, w _ _ (.refl _) (.int _)⟩
      | _ => exact w.elim
    | _ => exact w.elim
  | [], _, w => exact w.elim
  | [_], _, w => exact w.elim
  | _ :: _ :: _ :: _, _, w => exact w.elim
def intD (x : D) : Res D := match x with
  | .int i => .ok (.int i)
  | .bl k => .ok (.int (if k then 1 else 0))
  | _ => .bad
theorem cs_int : CallS K (fun xs H Q => (∃ i, xs = [.int i] ∧ Q (.int i) H) ∨ ∃ k, xs = [.bl k] ∧ Q (.int (if k then 1 else 0)) H) (one intD) := by
  intro H M vs ds Q tk r w
  match ds, r, w with
  | [d], r, w =>
    obtain ⟨v, rfl, rv⟩ := r.one
    cases d with
    | int i => rw [rv.int_inv]; exact .inl ⟨i, rfl, w _ _ (.refl _) (.int _)⟩
    | bl k => rw [rv.bl_inv]; exact .inr ⟨k, rfl, w _ _ (.refl _) (.int _)⟩
    | _ => exact w.elim
  | [], _, w => exact w.elim
  | _ :: _ :: _, _, w => exact w.elim
def absD (x : D) : Res D := match x with
  | .int i => .ok (.int (if i < 0 then -i else i))
  | _ => .bad
theorem cs_abs : CallS K (fun xs H Q => ∃ i, xs = [.int i] ∧ Q (.int (if i < 0 then -i else i)) H) (one absD) := by
  intro H M vs ds Q tk r w
  match ds, r, w with
  | [d], r, w =>
    obtain ⟨v, rfl, rv⟩ := r.one
    cases d with
    | int i => rw [rv.int_inv]; exact ⟨i, rfl, w _ _ (.refl _) (.int _)⟩
    | _ => exact w.elim
  | [], _, w => exact w.elim
  | _ :: _ :: _, _, w => exact w.elim
/-- str, repr of intsD -/
def strI (x : D) : Res D := match x with
  | .int i => if i.natAbs.log2 < 1920 then .ok (.str (toString i)) else .bad
  | _ => .bad
theorem cs_strI : CallS K (fun xs H Q => ∃ i, xs = [.int i] ∧ i.natAbs.log2 < 1920 ∧ Q (.str (toString i)) H) (one strI) := by
  intro H M vs ds Q tk r w
  match ds, r, w with
  | [d], r, w =>
    obtain ⟨v, rfl, rv⟩ := r.one
    cases d with
    | int i =>
      rw [rv.int_inv]
      simp only [one, strI] at w
      split at w
      · rename_i hz
        exact ⟨i, rfl, hz, w _ _ (.refl _) (.str _)⟩
      · exact w.elim
    | _ => exact w.elim
  | [], _, w => exact w.elim
  | _ :: _ :: _, _, w => exact w.elim

/-! ### sum, all, any, max, min, sorted of lists -/
def intsD : List D → Option (List Int)
  | [] => some []
  | .int i :: ds => (intsD ds).map (i :: ·)
  | _ => none
def blsD : List D → Option (List Bool)
  | [] => some []
  | .bl i :: ds => (blsD ds).map (i :: ·)
  | _ => none
theorem ints_eq : ∀ {ds : List D} {ns : List Int}, intsD ds = some ns → ds = ns.map D.int
  | [], ns, h => by cases h; rfl
  | .int i :: ds, ns, h => by
    simp only [intsD] at h
    cases q : intsD ds with
    | none => rw [q] at h; cases h
    | some ms => rw [q] at h; cases h; rw [ints_eq q]; rfl
theorem bls_eq : ∀ {ds : List D} {ns : List Bool}, blsD ds = some ns → ds = ns.map D.bl
  | [], ns, h => by cases h; rfl
  | .bl i :: ds, ns, h => by
    simp only [blsD] at h
    cases q : blsD ds with
    | none => rw [q] at h; cases h
    | some ms => rw [q] at h; cases h; rw [bls_eq q]; rfl
theorem ints_map : ∀ ns : List Int, intsD (ns.map D.int) = some ns
  | [] => rfl
  | n :: ns => by simp only [List.map_cons, intsD, ints_map ns]; rfl
theorem bls_map : ∀ ns : List Bool, blsD (ns.map D.bl) = some ns
  | [] => rfl
  | n :: ns => by simp only [List.map_cons, blsD, bls_map ns]; rfl
def onI (g : List Int → Res D) (x : D) : Res D := match x with
  | .lst ds => (match intsD ds with | some ns => g ns | none => .bad)
  | _ => .bad
def onB (g : List Bool → Res D) (x : D) : Res D := match x with
  | .lst ds => (match blsD ds with | some ns => g ns | none => .bad)
  | _ => .bad
theorem onI_inv {g : List Int → Res D} {x : D} {P : D → Prop} {E : Str → Prop} (w : (onI g x).Wp P E) : ∃ ns : List Int, x = .lst (ns.map D.int) ∧ (g ns).Wp P E := by
  cases x with
  | lst ds =>
    simp only [onI] at w
    cases q : intsD ds with
    | none => rw [q] at w; exact w.elim
    | some ns => rw [q] at w; exact ⟨ns, by rw [ints_eq q], w⟩
  | _ => exact w.elim
theorem onB_inv {g : List Bool → Res D} {x : D} {P : D → Prop} {E : Str → Prop} (w : (onB g x).Wp P E) : ∃ ns : List Bool, x = .lst (ns.map D.bl) ∧ (g ns).Wp P E := by
  cases x with
  | lst ds =>
    simp only [onB] at w
    cases q : blsD ds with
    | none => rw [q] at w; exact w.elim
    | some ns => rw [q] at w; exact ⟨ns, by rw [bls_eq q], w⟩
  | _ => exact w.elim
theorem one_inv {g : D → Res D} {ds : List D} {P : D → Prop} {E : Str → Prop} (w : (one g ds).Wp P E) : ∃ d, ds = [d] ∧ (g d).Wp P E := by
  match ds, w with
  | [d], w => exact ⟨d, rfl, w⟩
  | [], w => exact w.elim
  | _ :: _ :: _, w => exact w.elim
theorem cs_sum : CallS K (rSum K) (one (onI fun ns => .ok (.int ns.sum))) := by
  intro H M vs ds Q tk r w
  obtain ⟨d, rfl, w1⟩ := one_inv w
  obtain ⟨v, rfl, rv⟩ := r.one
  obtain ⟨ns, rfl, w2⟩ := onI_inv w1
  obtain ⟨a, us, rfl, h, z, q⟩ := rv.lst_inv
  rw [q.ints] at h
  exact ⟨a, ns, rfl, .of h, w2 _ _ (.refl _) (.int _)⟩
theorem cs_all : CallS K (rAll K) (one (onB fun ns => .ok (.bl (ns.all id)))) := by
  intro H M vs ds Q tk r w
  obtain ⟨d, rfl, w1⟩ := one_inv w
  obtain ⟨v, rfl, rv⟩ := r.one
  obtain ⟨ns, rfl, w2⟩ := onB_inv w1
  obtain ⟨a, us, rfl, h, z, q⟩ := rv.lst_inv
  rw [q.bls] at h
  exact ⟨a, ns, rfl, .of h, w2 _ _ (.refl _) (.bl _)⟩
theorem cs_any : CallS K (rAny K) (one (onB fun ns => .ok (.bl (ns.any id)))) := by
  intro H M vs ds Q tk r w
  obtain ⟨d, rfl, w1⟩ := one_inv w
  obtain ⟨v, rfl, rv⟩ := r.one
  obtain ⟨ns, rfl, w2⟩ := onB_inv w1
  obtain ⟨a, us, rfl, h, z, q⟩ := rv.lst_inv
  rw [q.bls] at h
  exact ⟨a, ns, rfl, .of h, w2 _ _ (.refl _) (.bl _)⟩
def maxL : List Int → Res D
  | [] => .bad
  | n :: ns => .ok (.int (ns.foldl max n))
def minL : List Int → Res D
  | [] => .bad
  | n :: ns => .ok (.int (ns.foldl min n))
theorem foldl_max : ∀ (ns : List Int) (n : Int), (ns.foldl max n = n ∨ ns.foldl max n ∈ ns) ∧ n ≤ ns.foldl max n ∧ ∀ y ∈ ns, y ≤ ns.foldl max n
  | [], n => ⟨.inl rfl, Int.le_refl _, fun _ h => by cases h⟩
  | m :: ns, n => by
    obtain ⟨h1, h2, h3⟩ := foldl_max ns (max n m)
    refine ⟨?_, Int.le_trans (Int.le_max_left _ _) h2, fun y hy => ?_⟩
    · show ns.foldl max (max n m) = n ∨ _
      rcases h1 with h1 | h1
      · by_cases c : n ≤ m
        · exact .inr (by rw [List.foldl_cons, h1, Int.max_eq_right c]; exact List.mem_cons_self)
        · exact .inl (by rw [h1]; exact Int.max_eq_left (by omega))
      · exact .inr (List.mem_cons_of_mem _ h1)
    · rcases List.mem_cons.mp hy with e | e
      · rw [e]; exact Int.le_trans (Int.le_max_right _ _) h2
      · exact h3 y e
theorem foldl_min : ∀ (ns : List Int) (n : Int), (ns.foldl min n = n ∨ ns.foldl min n ∈ ns) ∧ ns.foldl min n ≤ n ∧ ∀ y ∈ ns, ns.foldl min n ≤ y
  | [], n => ⟨.inl rfl, Int.le_refl _, fun _ h => by cases h⟩
  | m :: ns, n => by
    obtain ⟨h1, h2, h3⟩ := foldl_min ns (min n m)
    refine ⟨?_, Int.le_trans h2 (Int.min_le_left _ _), fun y hy => ?_⟩
    · show ns.foldl min (min n m) = n ∨ _
      rcases h1 with h1 | h1
      · by_cases c : m ≤ n
        · exact .inr (by rw [List.foldl_cons, h1, Int.min_eq_right c]; exact List.mem_cons_self)
        · exact .inl (by rw [h1]; exact Int.min_eq_left (by omega))
      · exact .inr (List.mem_cons_of_mem _ h1)
    · rcases List.mem_cons.mp hy with e | e
      · rw [e]; exact Int.le_trans h2 (Int.min_le_right _ _)
      · exact h3 y e
theorem cs_maxL : CallS K (rMax K) (one (onI maxL)) := by
  intro H M vs ds Q tk r w
  obtain ⟨d, rfl, w1⟩ := one_inv w
  obtain ⟨v, rfl, rv⟩ := r.one
  obtain ⟨ns, rfl, w2⟩ := onI_inv w1
  obtain ⟨a, us, rfl, h, z, q⟩ := rv.lst_inv
  rw [q.ints] at h
  cases ns with
  | nil => exact w2.elim
  | cons n ns =>
    refine ⟨a, n :: ns, rfl, .of h, by simp, fun m hm hy => ?_⟩
    obtain ⟨h1, h2, h3⟩ := foldl_max ns n
    have e : m = ns.foldl max n := by
      refine Int.le_antisymm ?_ ?_
      · rcases List.mem_cons.mp hm with e | e
        · rw [e]; exact h2
        · exact h3 m e
      · rcases h1 with h1 | h1
        · rw [h1]; exact hy n List.mem_cons_self
        · exact hy _ (List.mem_cons_of_mem _ h1)
    rw [e]
    exact w2 _ _ (.refl _) (.int _)
theorem cs_minL : CallS K (rMin K) (one (onI minL)) := by
  intro H M vs ds Q tk r w
  obtain ⟨d, rfl, w1⟩ := one_inv w
  obtain ⟨v, rfl, rv⟩ := r.one
  obtain ⟨ns, rfl, w2⟩ := onI_inv w1
  obtain ⟨a, us, rfl, h, z, q⟩ := rv.lst_inv
  rw [q.ints] at h
  cases ns with
  | nil => exact w2.elim
  | cons n ns =>
    refine ⟨a, n :: ns, rfl, .of h, by simp, fun m hm hy => ?_⟩
    obtain ⟨h1, h2, h3⟩ := foldl_min ns n
    have e : m = ns.foldl min n := by
      refine Int.le_antisymm ?_ ?_
      · rcases h1 with h1 | h1
        · rw [h1]; exact hy n List.mem_cons_self
        · exact hy _ (List.mem_cons_of_mem _ h1)
      · rcases List.mem_cons.mp hm with e | e
        · rw [e]; exact h2
        · exact h3 m e
    rw [e]
    exact w2 _ _ (.refl _) (.int _)
theorem ksame {a b : List Int} (hp : a.Perm b) (ha : a.Pairwise (· ≤ ·)) (hb : b.Pairwise (· ≤ ·)) : a = b := hp.eq_of_pairwise (fun x y _ _ h1 h2 => Int.le_antisymm h1 h2) ha hb
def sortI (ns : List Int) : List Int := ns.mergeSort fun a b => decide (a ≤ b)
theorem sortI_perm (ns : List Int) : (sortI ns).Perm ns := List.mergeSort_perm _ _
theorem sortI_sorted (ns : List Int) : (sortI ns).Pairwise (· ≤ ·) := by
  have h := List.pairwise_mergeSort (le := fun a b : Int => decide (a ≤ b)) (fun a b c h1 h2 => by simp at *; omega) (fun a b => by simp; omega) ns
  exact h.imp fun h => by simpa using h
theorem cf_sortI : CallF K (rSortedI K) (one (onI fun ns => .ok (.lst ((sortI ns).map D.int)))) := by
  intro H M vs ds Q tk r w
  obtain ⟨d, rfl, w1⟩ := one_inv w
  obtain ⟨v, rfl, rv⟩ := r.one
  obtain ⟨ns, rfl, w2⟩ := onI_inv w1
  obtain ⟨a, us, rfl, h, z, q⟩ := rv.lst_inv
  rw [q.ints] at h
  refine ⟨a, ns, rfl, .of h, fun ns' p hp hs hn => ?_⟩
  have e : ns' = sortI ns := ksame (hp.trans (sortI_perm ns).symm) hs (sortI_sorted ns)
  rw [e]
  refine w2 p _ hn (same_new hn) (cell_new .of_ints hn ?_)
  rw [List.length_map, (sortI_perm ns).length_eq]
  simpa using z
/-- tuple(x), list(x) -/
def tupD (x : D) : Res D := match x with
  | .lst xs => .ok (.tup xs)
  | .tup xs => .ok (.tup xs)
  | _ => .bad
def lstD (x : D) : Res D := match x with
  | .lst xs => .ok (.lst xs)
  | .tup xs => .ok (.lst xs)
  | _ => .bad
theorem cs_tuple : CallS K (fun xs H Q => ∃ p ys, xs = [.ref p] ∧ ((SqL K H p ys ∧ ∀ l, H l = none → Q (.ref l) (upd H l (.tup ys))) ∨ (SqT K H p ys ∧ Q (.ref p) H))) (one tupD) := by
  intro H M vs ds Q tk r w
  obtain ⟨d, rfl, w1⟩ := one_inv w
  obtain ⟨v, rfl, rv⟩ := r.one
  cases d with
  | lst xs =>
    obtain ⟨a, us, rfl, h, z, q⟩ := rv.lst_inv
    exact ⟨a, us, rfl, .inl ⟨.of h, fun l hn => w1 _ _ (same_new hn) (.tup' (.of upd_same) z (q.same (same_new hn)))⟩⟩
  | tup xs =>
    obtain ⟨a, us, rfl, h, z, q⟩ := rv.tup_inv
    exact ⟨a, us, rfl, .inr ⟨h, w1 _ _ (.refl _) (.tup' h z q)⟩⟩
  | _ => exact w1.elim
theorem cf_list : CallF K (fun xs H Q => ∃ p ys, xs = [.ref p] ∧ (SqL K H p ys ∨ SqT K H p ys) ∧ ∀ l, H l = none → Q (.ref l) (upd H l (.lst ys))) (one lstD) := by
  intro H M vs ds Q tk r w
  obtain ⟨d, rfl, w1⟩ := one_inv w
  obtain ⟨v, rfl, rv⟩ := r.one
  cases d with
  | lst xs =>
    obtain ⟨a, us, rfl, h, z, q⟩ := rv.lst_inv
    exact ⟨a, us, rfl, .inl (.of h), fun l hn => w1 _ _ hn (same_new hn) (cell_new q hn z)⟩
  | tup xs =>
    obtain ⟨a, us, rfl, h, z, q⟩ := rv.tup_inv
    exact ⟨a, us, rfl, .inr h, fun l hn => w1 _ _ hn (same_new hn) (cell_new q hn z)⟩
  | _ => exact w1.elim
/-- sorted(d), a dict with int keys -/
def keysI : List (Key × D) → Option (List Int)
  | [] => some []
  | (.inl i, _) :: ds => (keysI ds).map (i :: ·)
  | _ => none
theorem keysI_eq : ∀ {ds : List (Key × D)} {ns : List Int}, keysI ds = some ns → ds.map (·.1) = ns.map Sum.inl
  | [], ns, h => by cases h; rfl
  | (.inl i, _) :: ds, ns, h => by
    simp only [keysI] at h
    cases q : keysI ds with
    | none => rw [q] at h; cases h
    | some ms => rw [q] at h; cases h; rw [List.map_cons, keysI_eq q]; rfl
def sortDI (x : D) : Res D := match x with
  | .dic ds => (match keysI ds with | some ns => if ns.length < 64 then .ok (.lst ((sortI ns).map D.int)) else .bad | none => .bad)
  | _ => .bad
theorem RpK.keys {H : Hp} {M : Addr → Prop} {ds : List (Key × D)} {vs : List (Key × V)} (r : RpK K H M ds vs) : vs.map (·.1) = ds.map (·.1) := by
  refine List.ext_getElem? fun i => ?_
  rw [List.getElem?_map, List.getElem?_map]
  cases e : ds[i]? with
  | none =>
    have : vs[i]? = none := List.getElem?_eq_none_iff.mpr (by rw [r.len]; exact List.getElem?_eq_none_iff.mp e)
    rw [this]; rfl
  | some p =>
    have hi : i < vs.length := by rw [r.len]; exact (List.getElem?_eq_some_iff.mp e).1
    have e2 : vs[i]? = some vs[i] := List.getElem?_eq_getElem hi
    rw [e2]
    exact congrArg some (r.key i p _ e e2)
theorem cf_sortDI : CallF K (fun xs H Q => ∃ (a : Addr) (kvs : List (Key × V)) (ks : List Int), xs = [.ref a] ∧ Rd H a (.dK kvs) ∧ kvs.map (·.1) = ks.map Sum.inl ∧ ks.length < 64 ∧ ∀ (ys : List Int) (p : Addr), ys.Perm ks → ys.Pairwise (· ≤ ·) → H p = none → Q (.ref p) (upd H p (.lst (ys.map V.int)))) (one sortDI) := by
  intro H M vs ds Q tk r w
  obtain ⟨d, rfl, w1⟩ := one_inv w
  obtain ⟨v, rfl, rv⟩ := r.one
  cases d with
  | dic xs =>
    obtain ⟨a, us, rfl, h, z, q⟩ := rv.dic_inv
    simp only [sortDI] at w1
    cases e : keysI xs with
    | none => rw [e] at w1; exact w1.elim
    | some ns =>
      rw [e] at w1
      simp only at w1
      split at w1
      · rename_i hz
        refine ⟨a, us, ns, rfl, h, by rw [q.keys, keysI_eq e], hz, fun ys p hp hs hn => ?_⟩
        have e : ys = sortI ns := ksame (hp.trans (sortI_perm ns).symm) hs (sortI_sorted ns)
        rw [e]
        refine w1 p _ hn (same_new hn) (cell_new .of_ints hn ?_)
        rw [List.length_map, (sortI_perm ns).length_eq]
        exact small64 hz
      · exact w1.elim
  | _ => exact w1.elim
/-- d[k], k in d -/
def dkey (y : D) : Option Key := match y with
  | .int i => some (.inl i)
  | .str x => some (.inr x)
  | _ => none
def valD {κ : Type} [DecidableEq κ] (ds : List (κ × D)) (k : κ) : Option D := (ds.find? fun kv => decide (kv.1 = k)).map (·.2)
def putD {κ : Type} [DecidableEq κ] (ds : List (κ × D)) (k : κ) (v : D) : List (κ × D) :=
  if (ds.any fun kv => decide (kv.1 = k)) = true then ds.map (fun kv => if kv.1 = k then (kv.1, v) else kv) else ds ++ [(k, v)]
theorem RpK.nil {κ : Type} {H : Hp} {M : Addr → Prop} : RpK (κ := κ) K H M [] [] := ⟨rfl, fun i p q e _ => by simp at e, fun i p q e _ => by simp at e⟩
theorem RpK.cons_inv {κ : Type} [DecidableEq κ] {H : Hp} {M : Addr → Prop} {p : κ × D} {ds : List (κ × D)} {vs : List (κ × V)} (r : RpK K H M (p :: ds) vs) : ∃ v ws, vs = (p.1, v) :: ws ∧ Rp K H M p.2 v ∧ RpK K H M ds ws := by
  cases vs with
  | nil => have := r.len; simp at this
  | cons v ws =>
    have e := r.key 0 p v rfl rfl
    exact ⟨v.2, ws, by rw [← e], r.item 0 p v rfl rfl, by have := r.len; simpa using this, fun i e f h1 h2 => r.key (i + 1) e f (by simpa using h1) (by simpa using h2), fun i e f h1 h2 => r.item (i + 1) e f (by simpa using h1) (by simpa using h2)⟩
theorem RpK.cons {κ : Type} [DecidableEq κ] {H : Hp} {M : Addr → Prop} {k : κ} {d : D} {v : V} {ds : List (κ × D)} {vs : List (κ × V)} (h : Rp K H M d v) (r : RpK K H M ds vs) : RpK K H M ((k, d) :: ds) ((k, v) :: vs) := by
  refine ⟨by simp [r.len], fun i e f h1 h2 => ?_, fun i e f h1 h2 => ?_⟩
  · cases i with
    | zero => simp at h1 h2; subst h1 h2; rfl
    | succ i => exact r.key i e f (by simpa using h1) (by simpa using h2)
  · cases i with
    | zero => simp at h1 h2; subst h1 h2; exact h
    | succ i => exact r.item i e f (by simpa using h1) (by simpa using h2)
theorem RpK.val {κ : Type} [DecidableEq κ] {H : Hp} {M : Addr → Prop} {k : κ} : ∀ {ds : List (κ × D)} {vs : List (κ × V)}, RpK K H M ds vs → (∀ d, valD ds k = some d → ∃ v, valV vs k = some v ∧ Rp K H M d v) ∧ (valD ds k = none → valV vs k = none)
  | [], vs, r => by
    have e : vs = [] := List.length_eq_zero_iff.mp r.len
    subst e
    exact ⟨fun d h => (by cases h), fun _ => rfl⟩
  | p :: ds, vs, r => by
    obtain ⟨v, ws, rfl, h, q⟩ := r.cons_inv
    obtain ⟨i1, i2⟩ := RpK.val q (k := k)
    by_cases c : p.1 = k
    · have e1 : valD (p :: ds) k = some p.2 := by simp [valD, List.find?_cons, c]
      have e2 : valV ((p.1, v) :: ws) k = some v := valV_pos c
      rw [e1, e2]
      exact ⟨fun d z => by cases z; exact ⟨v, rfl, h⟩, fun z => by cases z⟩
    · have e1 : valD (p :: ds) k = valD ds k := by simp [valD, List.find?_cons, c]
      have e2 : valV ((p.1, v) :: ws) k = valV ws k := valV_neg c
      rw [e1, e2]
      exact ⟨i1, i2⟩
theorem RpK.any {κ : Type} [DecidableEq κ] {H : Hp} {M : Addr → Prop} {k : κ} : ∀ {ds : List (κ × D)} {vs : List (κ × V)}, RpK K H M ds vs → (vs.any fun kv => decide (kv.1 = k)) = (ds.any fun kv => decide (kv.1 = k))
  | [], vs, r => by
    have e : vs = [] := List.length_eq_zero_iff.mp r.len
    subst e
    rfl
  | p :: ds, vs, r => by
    obtain ⟨v, ws, rfl, h, q⟩ := r.cons_inv
    rw [List.any_cons, List.any_cons, RpK.any q]
theorem RpK.repl {κ : Type} [DecidableEq κ] {H : Hp} {M : Addr → Prop} {k : κ} {d : D} {u : V} (hd : Rp K H M d u) : ∀ {ds : List (κ × D)} {vs : List (κ × V)}, RpK K H M ds vs → RpK K H M (ds.map fun kv => if kv.1 = k then (kv.1, d) else kv) (vs.map fun kv => if kv.1 = k then (kv.1, u) else kv)
  | [], vs, r => by
    have e : vs = [] := List.length_eq_zero_iff.mp r.len
    subst e
    exact .nil
  | p :: ds, vs, r => by
    obtain ⟨v, ws, rfl, h, q⟩ := r.cons_inv
    rw [List.map_cons, List.map_cons]
    by_cases c : p.1 = k
    · rw [if_pos c, if_pos c]
      exact .cons hd (RpK.repl hd q)
    · rw [if_neg c, if_neg c]
      exact .cons h (RpK.repl hd q)
theorem RpK.snoc {κ : Type} [DecidableEq κ] {H : Hp} {M : Addr → Prop} {k : κ} {d : D} {u : V} (hd : Rp K H M d u) : ∀ {ds : List (κ × D)} {vs : List (κ × V)}, RpK K H M ds vs → RpK K H M (ds ++ [(k, d)]) (vs ++ [(k, u)])
  | [], vs, r => by
    have e : vs = [] := List.length_eq_zero_iff.mp r.len
    subst e
    exact .cons hd .nil
  | p :: ds, vs, r => by
    obtain ⟨v, ws, rfl, h, q⟩ := r.cons_inv
    exact .cons h (RpK.snoc hd q)
theorem RpK.put {κ : Type} [DecidableEq κ] {H : Hp} {M : Addr → Prop} {k : κ} {d : D} {u : V} {ds : List (κ × D)} {vs : List (κ × V)} (hd : Rp K H M d u) (r : RpK K H M ds vs) : RpK K H M (putD ds k d) (putK vs k u) := by
  unfold putD putK
  rw [r.any]
  split
  · exact r.repl hd
  · exact r.snoc hd
theorem dkey_v {H : Hp} {M : Addr → Prop} {y : D} {k : Key} {v : V} (h : dkey y = some k) (r : Ro K H M y v) : v = kV k := by
  cases y with
  | int i => cases h; rw [r.int_inv]; rfl
  | str i => cases h; rw [r.str_inv]; rfl
  | _ => cases h
def rIxK : R2 := fun x y H Q => ∃ a v, x = .ref a ∧ DGet H a y (some v) ∧ Q v H
theorem ix_dic {X : Cx} (hu : X.A.units + 1 < cLine) : IxR X rIxK := by
  intro value slice pins s σ H x y v u Q I rx ry h hs
  obtain ⟨a, r, rfl, g, q⟩ := h
  obtain rfl : v = Value.ref a := rx
  refine tail_any (dict_typeIs I g) slot_dict_getitem.lookup ?_ hs
  exact d_getItem hu I g ry fun w' s' I' rw' => ⟨r, H, I', rw', q⟩
def ixA (x y : D) : Res D := match x with
  | .dic ds => (match dkey y with
    | some k => (match valD ds k with | some d => .ok d | none => .bad)
    | none => .bad)
  | x => ixD x y
def rIxA (K : PySem.W.Frag) : R2 := fun x y H Q => rIxK x y H Q ∨ rIx K x y H Q
theorem ir_ixA {X : Cx} {k : Nat} (hr : Room k X.A) : IxR X (rIxA X.K) := (ix_dic (hu_of hr)).or ix_seq
theorem os_ixA : OpS K (rIxA K) ixA := by
  intro H M x y dx dy Q tk rx ry w
  cases dx with
  | dic ds =>
    obtain ⟨a, us, rfl, h, z, q⟩ := rx.dic_inv
    simp only [ixA] at w
    cases e : dkey dy with
    | none => rw [e] at w; exact w.elim
    | some k =>
      rw [e] at w
      simp only at w
      cases e2 : valD ds k with
      | none => rw [e2] at w; exact w.elim
      | some d =>
        rw [e2] at w
        obtain ⟨v, e3, r⟩ := (q.val (k := k)).1 d e2
        refine .inl ⟨a, v, rfl, ?_, w _ _ (.refl _) r⟩
        rw [dkey_v e ry, ← e3]
        exact .inl ⟨us, k, h, rfl, rfl⟩
  | _ => exact .inr (os_ix H M x y _ dy Q tk rx ry w)
end
/-! ### isinstance with built-in types -/
def isiD (n : String) (x : D) : Res D := match x with
  | .own _ => .bad
  | .exc _ => .bad
  | .dct _ => .bad
  | x => if n = "int" then .ok (.bl (match x with | .int _ => true | .bl _ => true | _ => false))
    else if n = "bool" then .ok (.bl (match x with | .bl _ => true | _ => false))
    else if n = "str" then .ok (.bl (match x with | .str _ => true | _ => false))
    else if n = "tuple" then .ok (.bl (match x with | .tup _ => true | _ => false))
    else if n = "list" then .ok (.bl (match x with | .lst _ => true | .scr _ => true | _ => false))
    else if n = "dict" then .ok (.bl (match x with | .dic _ => true | _ => false))
    else .bad
def tyN (x : D) : String := match x with
  | .non => "NoneType"
  | .bl _ => "bool"
  | .int _ => "int"
  | .str _ => "str"
  | .tup _ => "tuple"
  | .lst _ => "list"
  | .dic _ => "dict"
  | .dct _ => ""
  | .own _ => ""
  | .scr _ => "list"
  | .exc _ => ""
theorem SqT.tyx {K : PySem.W.Frag} {H : Hp} {a : Addr} {xs : List V} (h : SqT K H a xs) : TyX K H (.ref a) (.type "tuple") := by
  rcases h with (h | ⟨o, h⟩) | ⟨o, its, n, h, c, _⟩
  · exact .base (.tup h)
  · exact .fTuple h
  · exact .kTuple h c
theorem Ro.tyx {K : PySem.W.Frag} {H : Hp} {M : Addr → Prop} {d : D} {v : V} (h : Ro K H M d v) (ne : (∀ c, d ≠ .exc c) ∧ ∀ c, d ≠ .dct c) : TyX K H v (.type (tyN d)) := by
  cases h with
  | non => exact .base .non
  | bl b => exact .base (.bl b)
  | int i => exact .base (.int i)
  | str y => exact .base (.str y)
  | tup h hz r => exact SqT.tyx h
  | lst h hz r => exact .base (.lst h)
  | scr h hz =>
    rcases h with ⟨o, h⟩ | ⟨o, its, n, h, c, _⟩
    · exact .base (.frz h)
    · exact .kList h c
  | dic h hz r =>
    rcases h with h | ⟨o, h⟩
    · exact .base (.dK h)
    · exact .fDict h
  | dct h hz r => exact absurd rfl (ne.2 _)
  | exc h hd => exact absurd rfl (ne.1 _)
theorem kit_b {n m : String} (hn : n ∈ ["NoneType", "bool", "int", "str", "tuple", "list", "dict"]) (h : ["NoneType", "bool", "int", "str", "tuple", "list", "dict"].all (fun n => decide (kitB n m = some (decide (n = m) || (decide (m = "int") && decide (n = "bool"))))) = true) : kitB n m = some (decide (n = m) || (decide (m = "int") && decide (n = "bool"))) :=
  of_decide_eq_true (List.all_eq_true.mp h n hn)
theorem isi_ne {m : String} {d : D} {r : D} (h : isiD m d = .ok r) : (∀ c, d ≠ .exc c) ∧ ∀ c, d ≠ .dct c := ⟨fun c e => (by rw [e] at h; cases h), fun c e => (by rw [e] at h; cases h)⟩
theorem isi_kit {m : String} {d : D} {r : D} (h : isiD m d = .ok r) : ∃ b, r = .bl b ∧ kitB (tyN d) m = some b := by
  have hm : m = "int" ∨ m = "bool" ∨ m = "str" ∨ m = "tuple" ∨ m = "list" ∨ m = "dict" := by
    cases d with
    | own _ => cases h
    | exc _ => cases h
    | dct _ => cases h
    | _ =>
      simp only [isiD] at h
      by_cases h1 : m = "int"
      · exact .inl h1
      by_cases h2 : m = "bool"
      · exact .inr (.inl h2)
      by_cases h3 : m = "str"
      · exact .inr (.inr (.inl h3))
      by_cases h4 : m = "tuple"
      · exact .inr (.inr (.inr (.inl h4)))
      by_cases h5 : m = "list"
      · exact .inr (.inr (.inr (.inr (.inl h5))))
      by_cases h6 : m = "dict"
      · exact .inr (.inr (.inr (.inr (.inr h6))))
      rw [if_neg h1, if_neg h2, if_neg h3, if_neg h4, if_neg h5, if_neg h6] at h
      cases h
  have he : ∀ c, d ≠ .exc c := (isi_ne h).1
  have he2 : ∀ c, d ≠ .dct c := (isi_ne h).2
  have tn : (∀ i, d ≠ .own i) → tyN d ∈ ["NoneType", "bool", "int", "str", "tuple", "list", "dict"] := fun hd => by cases d <;> first | exact absurd rfl (hd _) | exact absurd rfl (he _) | exact absurd rfl (he2 _) | simp [tyN]
  have hd : ∀ i, d ≠ .own i := fun i e => by rw [e] at h; cases h
  rcases hm with rfl | rfl | rfl | rfl | rfl | rfl
  · refine ⟨_, ?_, kit_b (tn hd) (by decide +kernel)⟩
    cases d <;> first | (cases h; rfl) | exact absurd rfl (hd _) | exact absurd rfl (he _) | exact absurd rfl (he2 _)
  · refine ⟨_, ?_, kit_b (tn hd) (by decide +kernel)⟩
    cases d <;> first | (cases h; rfl) | exact absurd rfl (hd _) | exact absurd rfl (he _) | exact absurd rfl (he2 _)
  · refine ⟨_, ?_, kit_b (tn hd) (by decide +kernel)⟩
    cases d <;> first | (cases h; rfl) | exact absurd rfl (hd _) | exact absurd rfl (he _) | exact absurd rfl (he2 _)
  · refine ⟨_, ?_, kit_b (tn hd) (by decide +kernel)⟩
    cases d <;> first | (cases h; rfl) | exact absurd rfl (hd _) | exact absurd rfl (he _) | exact absurd rfl (he2 _)
  · refine ⟨_, ?_, kit_b (tn hd) (by decide +kernel)⟩
    cases d <;> first | (cases h; rfl) | exact absurd rfl (hd _) | exact absurd rfl (he _) | exact absurd rfl (he2 _)
  · refine ⟨_, ?_, kit_b (tn hd) (by decide +kernel)⟩
    cases d <;> first | (cases h; rfl) | exact absurd rfl (hd _) | exact absurd rfl (he _) | exact absurd rfl (he2 _)
section
variable {X : Cx} {C : Cfg} {W : WX} {k : Nat} {a b e : Expr} {es rest : List Expr} {ta tb tc : TE} {ma mb mc m : Ev} {pos : Pos}
def isiX (n : String) (x : D) : Res D := match x with
  | .exc _ => if n ∈ ty6 then .ok (.bl false) else .bad
  | x => isiD n x
/-- isinstance of an exception object -/
def rIsiE (K : PySem.W.Frag) : List V → Hp → VK → Prop := fun xs H Q => ∃ (a D : Addr) (c : V) (u : Value) (b : Bool), xs = [.ref a, c] ∧ H a = some (ExO (.ref D) a) ∧ ExcC K D ∧ ClsV c u ∧ PySem.W.kitOne K (.ref D) u = some b ∧ Q (.bl b) H
theorem call_isiE {X : Cx} : CallR X (.builtin "isinstance") (rIsiE X.K) := by
  intro pins s σ H xs us Q I r h
  obtain ⟨a, D, c, u, b, rfl, ha, C, k, e, q⟩ := h
  obtain ⟨u1, u2, rfl, r1, r2⟩ := vals2 r
  have e2 := k.eq r2
  subst e2
  cases (show u1 = Value.ref a from r1)
  obtain ⟨⟨oe, vs, h1, h2, h3, _⟩, _⟩ := (show ObjOk X.prog X.w H s.heap a (ExO (.ref D) a) from I.hok a _ ha)
  have J : PySem.W.InstAt s.heap a oe D none := by
    obtain ⟨oc, od, oda, osl⟩ := oe
    obtain ⟨z1, z2⟩ := h2
    dsimp only at z1 z2 h3
    subst z1 z2 h3
    exact ⟨h1, rfl, rfl, trivial⟩
  exact PySem.W.kia_one (PySem.W.handS_kitx_exc C.hg C.hk C.hs C.hd C.ha C.hn C.ht C.hm) I.kIn J e (fun z => nomatch z) fun tk => ⟨.bl b, H, I.tok tk, rfl, q⟩
def rIsiA (K : PySem.W.Frag) : List V → Hp → VK → Prop := fun xs H Q => rIsi K xs H Q ∨ rIsiE K xs H Q
theorem call_isiA {X : Cx} : CallR X (.builtin "isinstance") (rIsiA X.K) := fun pins s σ H xs us Q I r h => h.elim (call_isi pins s σ H xs us Q I r) (call_isiE pins s σ H xs us Q I r)
def mIsi (n : String) (m : Ev) : Ev := fun env => do
  let r ← m env
  let x ← rs r.2 r.1
  match isiX n x with
  | .ok d => pure (d, r.2)
  | _ => .bad
theorem em_isi {n : String} {T : Str} {p pT : Pos} (g : Gd X C W k) (hg : Gl X "isinstance") (hm : X.mg "isinstance" = none) (hgT : Gl X T) (hmT : X.mg T = none) (hvT : bootBuiltins T = some (.type n)) (he : EM X C W e ta m) (hnT : T ≠ "__name__" := by decide) (hdT : (T == ("__debug__" : Str)) = false := by decide)
    (hs : starEach [e, .Name T pT] X.env = (false, eval e X.env) :: starEach [.Name T pT] X.env := by rfl) (hs2 : starEach [.Name T pT] X.env = (false, eval (.Name T pT) X.env) :: starEach [] X.env := by rfl) (hpl : (backTo pos (starEach [.Name T pT] X.env)).any (·.1) = false := by rfl) :
    EM X C W (.Call (.Name "isinstance" p) [e, .Name T pT] [] pos) (tCB (rIsiA C.K) (tCons ta (tCons (tC (.ty n)) tNil))) (mIsi n m) := by
  refine ⟨g.kE ▸ pe_callB call_isiA hg hm (by decide +kernel) (pa_cons he.pe (pa_cons (pe_bltn hgT hmT hvT rfl hnT hdT) pa_nil hs2) hs) (by decide) (by decide) hs hpl, fun M0 ad σ H env Q R w => ?_⟩
  unfold mIsi at w
  refine he.sn' R w fun r v H1 R1 S1 V1 w1 => ?_
  rw [wp_bind] at w1
  obtain ⟨x, _, w2, rx⟩ := R1.rs V1 w1
  by_cases hx : ∃ c, x = .exc c
  · obtain ⟨c, rfl⟩ := hx
    cases rx with
    | exc h hd =>
      simp only [isiX] at w2
      by_cases hn : n ∈ ty6
      · rw [if_pos hn] at w2
        exact .inr ⟨_, _, .ty n, _, false, rfl, h, hd.ex, .ty n, hd.no n hn, w2 _ H1 R1 S1 (.of (.bl false))⟩
      · rw [if_neg hn] at w2
        exact w2.elim
  · have eX : isiX n x = isiD n x := by
      cases x with
      | exc c => exact absurd ⟨c, rfl⟩ hx
      | _ => rfl
    rw [eX] at w2
    cases q : isiD n x with
    | ok d =>
      rw [q] at w2
      obtain ⟨b, rfl, hk⟩ := isi_kit q
      exact .inl ⟨v, .ty n, _, _, b, rfl, .ty n, rx.tyx (isi_ne q), kit_ty hk, w2 _ H1 R1 S1 (.of (.bl b))⟩
    | err c => rw [q] at w2; exact w2.elim
    | bad => rw [q] at w2; exact w2.elim

/-! ### slices -/
abbrev Eo := Sls → Res (Option Int × Sls)
structure OM (X : Cx) (C : Cfg) (W : WX) (e : Option Expr) (t : TO) (m : Eo) : Prop where
  pe : PO X e t
  sn : ∀ (M0 : Addr → Prop) (ad : Nat → Addr) (σ : L2.St) (H : Hp) (env : Sls) (Q : Option Int → Hp → Prop), RE (C.w M0) ad H σ env →
    (m env).Wp (fun r => ∀ H', RE (C.w M0) ad H' σ r.2 → Stp (C.w M0) ad H env H' r.2 → Q r.1 H') (Er (C.w M0) ad σ W) → t σ H Q
def mNo : Eo := fun env => .ok (none, env)
def mPart (m : Ev) : Eo := fun env => do
  let r ← m env
  match r.1 with
  | .int i => pure (some i, r.2)
  | _ => .bad
theorem om_none : OM X C W none tNoPart mNo := ⟨po_none, fun M0 ad σ H env Q R w => w H R .refl⟩
theorem om_some (h : EM X C W e ta m) : OM X C W (some e) (tPart ta) (mPart m) := by
  refine ⟨po_some h.pe, fun M0 ad σ H env Q R w => ?_⟩
  unfold mPart at w
  refine h.sn' R w fun r v H1 R1 S1 V1 w1 => ?_
  cases hd : r.1 with
  | int i =>
    rw [hd] at w1 V1
    cases V1
    exact ⟨i, rfl, w1 H1 R1 S1⟩
  | _ => rw [hd] at w1; exact w1.elim
def cutD (xs : List D) (lo hi : Option Int) : List D := (xs.drop (HT.sIx xs.length 0 lo)).take (HT.sIx xs.length xs.length hi - HT.sIx xs.length 0 lo)
def sliceL (x : D) (lo hi : Option Int) : Res D := match x with
  | .lst xs => .ok (.lst (cutD xs lo hi))
  | .scr ns => .ok (.lst (cutD (ns.map D.int) lo hi))
  | _ => .bad
def sliceT (x : D) (lo hi : Option Int) : Res D := match x with
  | .tup xs => .ok (.tup (cutD xs lo hi))
  | _ => .bad
def mSl (g : D → Option Int → Option Int → Res D) (m : Ev) (ml mh : Eo) : Ev := fun env => do
  let r ← m env
  let l ← ml r.2
  let h ← mh l.2
  let x ← rs h.2 r.1
  match g x l.1 h.1 with
  | .ok d => pure (d, h.2)
  | _ => .bad
theorem RpL.cut {K : PySem.W.Frag} {H : Hp} {M : Addr → Prop} {ds : List D} {vs : List V} (r : RpL K H M ds vs) (lo hi : Option Int) : RpL K H M (cutD ds lo hi) (cutV vs lo hi) := by
  unfold cutD cutV
  rw [r.len]
  exact (r.drop _).take _
theorem cutD_length (xs : List D) (lo hi : Option Int) : (cutD xs lo hi).length ≤ xs.length := by
  unfold cutD
  rw [List.length_take, List.length_drop]
  omega
theorem ef_sliceL {lo hi : Option Expr} {tl th : TO} {ml mh : Eo} {p2 : Pos} (g : Gd X C W k) (h : EM X C W e ta m) (hl : OM X C W lo tl ml) (hh : OM X C W hi th mh) :
    EF X C W (.Subscript e (.Slice lo hi none p2) pos) (tSl (rSlL C.K) ta tl th) (mSl sliceL m ml mh) := by
  refine ⟨g.kE ▸ pe_slice sl_list h.pe hl.pe hh.pe, fun M0 ad σ H env Q R w => ?_⟩
  unfold mSl at w
  refine h.sn' R w fun r v H1 R1 S1 V1 w1 => ?_
  rw [wp_bind] at w1
  refine hl.sn M0 ad σ H1 r.2 _ R1 (w1.imp (fun l w2 H2 R2 S2 => ?_) fun _ z => z)
  rw [wp_bind] at w2
  refine hh.sn M0 ad σ H2 l.2 _ R2 (w2.imp (fun q w3 H3 R3 S3 => ?_) fun _ z => z)
  rw [wp_bind] at w3
  obtain ⟨x, _, w4, rx⟩ := R3.rs ((V1.stp S2).stp S3) w3
  cases x with
  | lst xs =>
    obtain ⟨a, us, rfl, hs, z, qr⟩ := rx.lst_inv
    refine ⟨a, us, rfl, .of hs, fun p hn => w4 p _ ?_ (R3.growAdd (same_new hn) hn (by rw [upd_same]; exact fun z => nomatch z)) (((S1.trans S2).trans S3).trans (.grow (same_new hn))) ((cell_new (qr.cut _ _) hn (Nat.le_trans (cutD_length _ _ _) z)).ext rfl .refl fun b z => .inl (mo_add.mp z))⟩
    cases z : H p with
    | none => rfl
    | some o => exact absurd hn (((S1.trans S2).trans S3).ext.trk p (by rw [z]; exact fun z => nomatch z))
  | scr ns =>
    cases rx with
    | scr hs z =>
      have qr : RpL C.K H3 (Mo (C.w M0) q.2 ad) (ns.map D.int) (ns.map V.int) := .of_ints
      refine ⟨_, _, rfl, hs.sq, fun p hn => w4 p _ ?_ (R3.growAdd (same_new hn) hn (by rw [upd_same]; exact fun z => nomatch z)) (((S1.trans S2).trans S3).trans (.grow (same_new hn))) ((cell_new (qr.cut _ _) hn (Nat.le_trans (cutD_length _ _ _) (by rw [List.length_map]; exact z))).ext rfl .refl fun b z => .inl (mo_add.mp z))⟩
      cases z : H p with
      | none => rfl
      | some o => exact absurd hn (((S1.trans S2).trans S3).ext.trk p (by rw [z]; exact fun z => nomatch z))
  | _ => exact w4.elim
theorem em_sliceT {lo hi : Option Expr} {tl th : TO} {ml mh : Eo} {p2 : Pos} (g : Gd X C W k) (h : EM X C W e ta m) (hl : OM X C W lo tl ml) (hh : OM X C W hi th mh) :
    EM X C W (.Subscript e (.Slice lo hi none p2) pos) (tSl (rSlA C.K) ta tl th) (mSl sliceT m ml mh) := by
  refine ⟨g.kE ▸ pe_slice sl_tupA h.pe hl.pe hh.pe, fun M0 ad σ H env Q R w => ?_⟩
  unfold mSl at w
  refine h.sn' R w fun r v H1 R1 S1 V1 w1 => ?_
  rw [wp_bind] at w1
  refine hl.sn M0 ad σ H1 r.2 _ R1 (w1.imp (fun l w2 H2 R2 S2 => ?_) fun _ z => z)
  rw [wp_bind] at w2
  refine hh.sn M0 ad σ H2 l.2 _ R2 (w2.imp (fun q w3 H3 R3 S3 => ?_) fun _ z => z)
  rw [wp_bind] at w3
  obtain ⟨x, _, w4, rx⟩ := R3.rs ((V1.stp S2).stp S3) w3
  cases x with
  | tup xs =>
    obtain ⟨a, us, rfl, hs, z, qr⟩ := rx.tup_inv
    refine ⟨a, us, rfl, hs, fun c => ?_, fun c p hn => w4 _ _ (R3.grow (same_new hn)) (((S1.trans S2).trans S3).trans (.grow (same_new hn))) (.of (.tup' (.of upd_same) (Nat.le_trans (cutD_length _ _ _) z) ((qr.cut _ _).same (same_new hn))))⟩
    have e : cutD xs l.1 q.1 = xs := by
      unfold cutD
      rw [← qr.len, c.1, c.2, qr.len]
      simp
    refine w4 _ H3 R3 ((S1.trans S2).trans S3) (.of ?_)
    show Rp C.K H3 _ (.tup (cutD xs l.1 q.1)) _
    rw [e]
    exact .tup' hs z qr
  | _ => exact w4.elim
end
end Vm
end
section
set_option maxRecDepth 100000
set_option maxHeartbeats 4000000
/-! Vm, part F: promises, calls of the text's own defs, cells changed, what is walked, targets, comprehensions. -/
namespace Vm
open PySem PySem.Spec PyProof.Rows L2

/-! ### promises -/
def spP (K : PySem.W.Frag) (T : List (Addr × Str)) (mg : Str → Option Value) (n : Nat) (fm : List D → Res D) : Sp := fun vs H Q E => vs.length = n ∧ LamX.Tabs T H ∧ ∃ (M : Addr → Prop) (ds : List D), (∀ a, M a → H a ≠ none) ∧ RpL K H M ds vs ∧
  (fm ds).Wp (fun d => ∀ v H', Sme T H H' → Rp K H' M d v → Q v H') (fun c => ∀ cls dd H', mg c = some cls → Sme T H H' → E cls dd H')
/-- a new list or dict is handed back -/
def spF (K : PySem.W.Frag) (T : List (Addr × Str)) (mg : Str → Option Value) (n : Nat) (fm : List D → Res D) : Sp := fun vs H Q E => vs.length = n ∧ LamX.Tabs T H ∧ ∃ (M : Addr → Prop) (ds : List D), (∀ a, M a → H a ≠ none) ∧ RpL K H M ds vs ∧
  (fm ds).Wp (fun d => ∀ a H', H a = none → Sme T H H' → CellOk K H' (fun b => M b ∨ b = a) d a → Q (.ref a) H') (fun c => ∀ cls dd H', mg c = some cls → Sme T H H' → E cls dd H')
/-- the first argument is a cell that is changed -/
def spJ (K : PySem.W.Frag) (T : List (Addr × Str)) (n : Nat) (fm : D → List D → Res (D × D)) : Sp := fun vs H Q E => vs.length = n ∧ LamX.Tabs T H ∧ ∃ (M : Addr → Prop) (a : Addr) (ws : List V) (j : D) (ds : List D), vs = .ref a :: ws ∧ M a ∧ (∀ a, M a → H a ≠ none) ∧ CellOk K H M j a ∧ RpL K H M ds ws ∧
  (fm j ds).Wp (fun r => ∀ v H', (∀ b o, H b = some o → b ≠ a → (∀ ps, o ≠ .tbl ps) → H' b = some o) → (∀ b, H b ≠ none → H' b ≠ none) → LamX.Tabs T H' → CellOk K H' M r.2 a → Rp K H' M r.1 v → Q v H') (fun _ => False)
structure Fn (P : Program) (w : World) (K : PySem.W.Frag) (mg : Str → Option Value) (base : Heap) (j : Nat) (x : Str) (sp : Sp) : Prop where
  ex : ∃ f fd ps, FnOk P w K mg base (L2.CX P w) j f fd ps sp ∧ mg x = some (.ref f) ∧ PySem.W.keepIn K (.ref f) = true ∧ Binds K fd ps []
theorem Fn.toP {T : List (Addr × Str)} {P : Program} {w : World} {K : PySem.W.Frag} {mg : Str → Option Value} {base : Heap} {j n : Nat} {x : Str} {fm : List D → Res D} (F : Fn P w K mg base j x (spF K T mg n fm)) : Fn P w K mg base j x (spP K T mg n fm) := by
  obtain ⟨f, fd, ps, F, h⟩ := F.ex
  refine ⟨f, fd, ps, F.imp fun vs H Q E ⟨hl, ht, M, ds, tk, r, q⟩ => ⟨hl, ht, M, ds, tk, r, q.imp (fun d z a H' hn e c => z _ H' e (cell_rp c (fun q => tk a q hn) fun b q => .inl q)) fun c z => z⟩, h⟩
theorem Fn.mono {P : Program} {w : World} {K : PySem.W.Frag} {mg : Str → Option Value} {base : Heap} {i j : Nat} {x : Str} {sp : Sp} (F : Fn P w K mg base i x sp) (h : i ≤ j) : Fn P w K mg base j x sp := by
  obtain ⟨f, fd, ps, F, h2⟩ := F.ex
  exact ⟨f, fd, ps, F.mono h, h2⟩

/-! ### a def is called -/
def D.sc : D → Bool
  | .non => true
  | .bl _ => true
  | .int _ => true
  | .str _ => true
  | _ => false
def D.flat : D → Bool
  | .tup xs => xs.all D.sc
  | d => d.sc
theorem Rp.sc {K : PySem.W.Frag} {H : Hp} {M M' : Addr → Prop} {d : D} {v : V} (h : Rp K H M d v) (f : d.sc = true) : Rp K H M' d v := by
  cases h with
  | non => exact .non
  | bl b => exact .bl b
  | int i => exact .int i
  | str y => exact .str y
  | _ => cases f
theorem Rp.flat {K : PySem.W.Frag} {H : Hp} {M M' : Addr → Prop} {d : D} {v : V} (h : Rp K H M d v) (f : d.flat = true) : Rp K H M' d v := by
  cases h with
  | tup h hl hz hi => exact .tup h hl hz fun i d v e1 e2 => (hi i d v e1 e2).sc (List.all_eq_true.mp f d (List.mem_of_getElem? e1))
  | non => exact .non
  | bl b => exact .bl b
  | int i => exact .int i
  | str y => exact .str y
  | _ => cases f
def allKp : List D → Bool
  | [] => true
  | .own _ :: _ => false
  | _ :: ds => allKp ds
theorem allKp_rp {C : Cfg} {ad : Nat → Addr} {H : Hp} {σ : L2.St} {env : Sls} : ∀ {ds : List D} {vs : List V}, VRL C ad H σ env ds vs → allKp ds = true → RpL C.K H (Mo C env ad) ds vs
  | [], vs, r, _ => by rw [r.nil_inv]; exact .nil
  | d :: ds, vs, r, w => by
    obtain ⟨v, ws, rfl, h, q⟩ := r.cons_inv
    cases d with
    | own i => cases w
    | _ => exact .cons h (allKp_rp q w)
/-- read-only arguments: the roots are not in the smaller set -/
theorem RoL.rp {K : PySem.W.Frag} {H : Hp} {M : Addr → Prop} {ds : List D} {vs : List V} (r : RoL K H M ds vs) : RpL K H (fun b => M b ∧ ∀ v ∈ vs, v ≠ .ref b) ds vs := by
  refine ⟨r.len, fun i d v h1 h2 => ?_⟩
  have lo : ∀ b, (M b ∧ ∀ v ∈ vs, v ≠ .ref b) → M b := fun b z => z.1
  cases r.item i d v h1 h2 with
  | non => exact .non
  | bl b => exact .bl b
  | int i => exact .int i
  | str y => exact .str y
  | tup h hz q => exact .tup' h hz (q.less lo)
  | lst h hz q => exact .lst' h (fun z => z.2 _ (List.mem_of_getElem? h2) rfl) hz (q.less lo)
  | scr h hz => exact .scr h hz
  | exc h hd => exact .exc h (fun z => z.2 _ (List.mem_of_getElem? h2) rfl) hd
  | dic h hz q => exact .dic h (fun z => z.2 _ (List.mem_of_getElem? h2) rfl) q.len hz q.key fun i p q' e f => (q.item i p q' e f).less lo
  | dct h hz q => exact .dct h (fun z => z.2 _ (List.mem_of_getElem? h2) rfl) q.len hz q.key fun i p q' e f => (q.item i p q' e f).less lo
def mCall (n : Nat) (fm : List D → Res D) (ms : Evs) : Ev := fun env => do
  let r ← ms env
  if r.1.length = n then
    if allKp r.1 = true then do
      let d ← fm r.1
      pure (d, r.2)
    else do
      let xs ← rsL r.2 r.1
      let d ← fm xs
      if d.flat = true then pure (d, r.2) else .bad
  else .bad
section
variable {X : Cx} {C : Cfg} {W : WX} {k j n : Nat} {a b e : Expr} {es rest : List Expr} {ta tb tc : TE} {t : TA} {ma mb mc m : Ev} {ms : Evs} {pos p : Pos} {x : Str}
theorem mCall_sn {fm : List D → Res D} (h : AM X C W es t ms) {M0 : Addr → Prop} {ad : Nat → Addr} {σ : L2.St} {H : Hp} {env : Sls} {Q : VK} (R : RE (C.w M0) ad H σ env)
    (w : (mCall n fm ms env).Wp (fun r => ∀ v H', RE (C.w M0) ad H' σ r.2 → Stp (C.w M0) ad H env H' r.2 → VR (C.w M0) ad H' σ r.2 r.1 v → Q v H') (Er (C.w M0) ad σ W)) : tCallS (spP C.K C.T C.mg n fm) (WE W) t σ H Q := by
  unfold mCall at w
  refine h.sn' R w fun r vs H1 R1 S1 V1 w1 => ?_
  split at w1
  · rename_i hl
    refine ⟨by rw [V1.len]; exact hl, R1.tabs, ?_⟩
    split at w1
    · rename_i hk
      refine ⟨Mo (C.w M0) r.2 ad, r.1, fun a z => R1.mtrk z, allKp_rp V1 hk, ?_⟩
      rw [wp_bind] at w1
      exact w1.imp (fun d z v H' e rp => z v H' (R1.growS e) (S1.trans (.growS e)) (.of rp)) fun c z cls dd H' hm e => z cls dd H' r.2 hm (R1.growS e)
    · rw [wp_bind] at w1
      obtain ⟨xs, w2, rx⟩ := R1.rsL V1 w1
      refine ⟨_, xs, fun a z => R1.mtrk z.1, rx.rp, ?_⟩
      rw [wp_bind] at w2
      refine w2.imp (fun d z v H' e rp => ?_) fun c z cls dd H' hm e => z cls dd H' r.2 hm (R1.growS e)
      split at z
      · rename_i hf
        exact z v H' (R1.growS e) (S1.trans (.growS e)) (.of (rp.flat hf))
      · exact z.elim
  · exact w1.elim
theorem em_call {fm : List D → Res D} (g : Gd X C W k) (F : Fn X.prog X.w X.K X.mg X.base j x (spP C.K C.T C.mg n fm)) (h : AM X C W (e :: es) t ms) (hj : j ≤ k := by decide) (hg : Gl X x := by rfl)
    (hdb : (x == ("__debug__" : Str)) = false := by decide) (he : starEach (e :: es) X.env = (false, eval e X.env) :: starEach es X.env := by rfl) (hpl : (backTo pos (starEach es X.env)).any (·.1) = false := by rfl) :
    EM X C W (.Call (.Name x p) (e :: es) [] pos) (tCallS (spP C.K C.T C.mg n fm) (WE W) t) (mCall n fm ms) := by
  obtain ⟨f, fd, ps, F, hm, hk, hb⟩ := (F.mono hj).ex
  exact ⟨pe_callS F g.room hg hm hk hb (fun σ => passAt g.tk σ) h.pe hdb he hpl, fun M0 ad σ H env Q R w => mCall_sn h R w⟩
/-- f() -/
def mCall0 (fm : List D → Res D) : Ev := fun env =>
  match fm [] with
  | .ok d => .ok (d, env)
  | _ => .bad
theorem em_call0 {fm : List D → Res D} (g : Gd X C W k) (F : Fn X.prog X.w X.K X.mg X.base j x (spP C.K C.T C.mg 0 fm)) (hj : j ≤ k := by decide) (hg : Gl X x := by rfl) (hdb : (x == ("__debug__" : Str)) = false := by decide) :
    EM X C W (.Call (.Name x p) [] [] pos) (tCall (spP C.K C.T C.mg 0 fm) [] E0 tNil) (mCall0 fm) := by
  obtain ⟨f, fd, ps, F, hm, hk, hb⟩ := (F.mono hj).ex
  refine ⟨pe_call0 F g.room hg hm hk hb .nil passL hdb, fun M0 ad σ H env Q R w => ?_⟩
  unfold mCall0 at w
  refine ⟨rfl, R.tabs, Mo (C.w M0) env ad, [], fun a z => R.mtrk z, .nil, ?_⟩
  cases q : fm [] with
  | ok d =>
    rw [q] at w
    exact fun v H' e rp => w v H' (R.growS e) (.growS e) (.of rp)
  | err c => rw [q] at w; exact w.elim
  | bad => rw [q] at w; exact w.elim
/-- .. a def that hands back a new list -/
def mCallF (n : Nat) (fm : List D → Res D) (ms : Evs) : Ev := fun env => do
  let r ← ms env
  if r.1.length = n then
    if allKp r.1 = true then do
      let d ← fm r.1
      pure (d, r.2)
    else .bad
  else .bad
theorem ef_call {fm : List D → Res D} (g : Gd X C W k) (F : Fn X.prog X.w X.K X.mg X.base j x (spF C.K C.T C.mg n fm)) (h : AM X C W (e :: es) t ms) (hj : j ≤ k := by decide) (hg : Gl X x := by rfl)
    (hdb : (x == ("__debug__" : Str)) = false := by decide) (he : starEach (e :: es) X.env = (false, eval e X.env) :: starEach es X.env := by rfl) (hpl : (backTo pos (starEach es X.env)).any (·.1) = false := by rfl) :
    EF X C W (.Call (.Name x p) (e :: es) [] pos) (tCallS (spF C.K C.T C.mg n fm) (WE W) t) (mCallF n fm ms) := by
  obtain ⟨f, fd, ps, F, hm, hk, hb⟩ := (F.mono hj).ex
  refine ⟨pe_callS F g.room hg hm hk hb (fun σ => passAt g.tk σ) h.pe hdb he hpl, fun M0 ad σ H env Q R w => ?_⟩
  unfold mCallF at w
  refine h.sn' R w fun r vs H1 R1 S1 V1 w1 => ?_
  split at w1
  · rename_i hl
    refine ⟨by rw [V1.len]; exact hl, R1.tabs, ?_⟩
    split at w1
    · rename_i hk
      refine ⟨Mo (C.w M0) r.2 ad, r.1, fun a z => R1.mtrk z, allKp_rp V1 hk, ?_⟩
      rw [wp_bind] at w1
      refine w1.imp (fun d z a H' hn e c => z a H' ?_ (R1.growAddS e hn c.trk) (S1.trans (.growS e)) (c.ext rfl .refl fun b z => .inl (mo_add.mp z))) fun c z cls dd H' hm e => z cls dd H' r.2 hm (R1.growS e)
      cases z : H a with
      | none => rfl
      | some o => exact absurd hn (S1.ext.trk a (by rw [z]; exact fun z => nomatch z))
    · exact w1.elim
  · exact w1.elim
/-- .. a def that changes the cell that is its first argument -/
def mCallJ (n : Nat) (fm : D → List D → Res (D × D)) (ms : Evs) : Ev := fun env => do
  let r ← ms env
  if r.1.length = n then
    match r.1 with
    | .own i :: ds =>
      if allKp ds = true then
        match r.2[i]? with
        | some (.l c) => (match fm c ds with
          | .ok q => pure (q.1, r.2.set i (.l q.2))
          | _ => .bad)
        | some (.p c) => (match fm c ds with
          | .ok q => pure (q.1, r.2.set i (.p q.2))
          | _ => .bad)
        | _ => .bad
      else .bad
    | _ => .bad
  else .bad
theorem em_callJ {fm : D → List D → Res (D × D)} (g : Gd X C W k) (F : Fn X.prog X.w X.K X.mg X.base j x (spJ C.K C.T n fm)) (h : AM X C W (e :: es) t ms) (hj : j ≤ k := by decide) (hg : Gl X x := by rfl)
    (hdb : (x == ("__debug__" : Str)) = false := by decide) (he : starEach (e :: es) X.env = (false, eval e X.env) :: starEach es X.env := by rfl) (hpl : (backTo pos (starEach es X.env)).any (·.1) = false := by rfl) :
    EM X C W (.Call (.Name x p) (e :: es) [] pos) (tCallS (spJ C.K C.T n fm) (WE W) t) (mCallJ n fm ms) := by
  obtain ⟨f, fd, ps, F, hm, hk, hb⟩ := (F.mono hj).ex
  refine ⟨pe_callS F g.room hg hm hk hb (fun σ => passAt g.tk σ) h.pe hdb he hpl, fun M0 ad σ H env Q R w => ?_⟩
  unfold mCallJ at w
  refine h.sn' R w fun r vs H1 R1 S1 V1 w1 => ?_
  split at w1
  · rename_i hl
    refine ⟨by rw [V1.len]; exact hl, R1.tabs, ?_⟩
    obtain ⟨ds0, env2⟩ := r
    simp only at w1 V1 R1 S1 hl
    cases ds0 with
    | nil => exact w1.elim
    | cons d0 ds =>
      cases d0 with
      | own i =>
        obtain ⟨v, ws, rfl, h1, q⟩ := V1.cons_inv
        have h1' : σ[i]? = some (some v) := h1
        simp only at w1
        split at w1
        · rename_i hk
          have fin : ∀ s : Sl, env2[i]? = some s → s.isMut = true → ∀ c, CellOk C.K H1 (Mo (C.w M0) env2 ad) c (ad i) → σ[i]? = some (some (V.ref (ad i))) →
              (match fm c ds with | .ok q => (pure (q.1, env2.set i (s.put q.2)) : Res (D × Sls)) | _ => .bad).Wp (fun r => ∀ v H', RE (C.w M0) ad H' σ r.2 → Stp (C.w M0) ad H env H' r.2 → VR (C.w M0) ad H' σ r.2 r.1 v → Q v H') (Er (C.w M0) ad σ W) →
              ∃ (M : Addr → Prop) (a : Addr) (ws' : List V) (j : D) (ds : List D), v :: ws = .ref a :: ws' ∧ M a ∧ (∀ a, M a → H1 a ≠ none) ∧ CellOk C.K H1 M j a ∧ RpL C.K H1 M ds ws' ∧
                (fm j ds).Wp (fun r => ∀ v H', (∀ b o, H1 b = some o → b ≠ a → (∀ ps, o ≠ .tbl ps) → H' b = some o) → (∀ b, H1 b ≠ none → H' b ≠ none) → LamX.Tabs C.T H' → CellOk C.K H' M r.2 a → Rp C.K H' M r.1 v → Q v H') (fun _ => False) := by
            intro s hs hmu c hc hσ w2
            rw [hσ] at h1'
            cases h1'
            refine ⟨Mo (C.w M0) env2 ad, ad i, ws, c, ds, rfl, .inr ⟨i, s, hs, Sl.isMut.own hmu, rfl⟩, fun a z => R1.mtrk z, hc, allKp_rp q hk, ?_⟩
            cases z : fm c ds with
            | ok q2 =>
              rw [z] at w2
              intro v2 H' kk tk2 tb2 c' rp
              obtain ⟨R2, S2⟩ := R1.put' (d := q2.2) hs hmu kk tk2 tb2 c'
              exact w2 v2 H' R2 (S1.trans S2) (.of (rp.less fun b z => (mo_put hs b).mp z))
            | err c => rw [z] at w2; exact w2.elim
            | bad => rw [z] at w2; exact w2.elim
          cases z : env2[i]? with
          | none => rw [z] at w1; exact w1.elim
          | some s =>
            rw [z] at w1
            cases s with
            | l c =>
              obtain ⟨d0, hd0, hσ, hc⟩ := R1.cell z rfl
              rcases hd0 with e | e | e <;> cases e
              exact fin _ z rfl c hc hσ w1
            | p c =>
              obtain ⟨d0, hd0, hσ, hc⟩ := R1.cell z rfl
              rcases hd0 with e | e | e <;> cases e
              exact fin _ z rfl c hc hσ w1
            | _ => exact w1.elim
        · exact w1.elim
      | _ => exact w1.elim
  · exact w1.elim

/-! ### a cell is changed -/
def Sl.con : Sl → Option D
  | .l d => some d
  | .p d => some d
  | _ => none
theorem Sl.con_mut {s : Sl} {d : D} (h : s.con = some d) : s.isMut = true := by cases s <;> first | rfl | cases h
theorem RE.con {ad : Nat → Addr} {σ : L2.St} {H : Hp} {env : Sls} (R : RE C ad H σ env) {i : Nat} {s : Sl} {d : D} (h : env[i]? = some s) (hc : s.con = some d) : σ[i]? = some (some (V.ref (ad i))) ∧ CellOk C.K H (Mo C env ad) d (ad i) := by
  obtain ⟨d0, hd0, hσ, c⟩ := R.cell h (Sl.isMut.own (Sl.con_mut hc))
  refine ⟨hσ, ?_⟩
  rcases hd0 with e | e | e <;> subst e <;> cases hc <;> exact c
/-- xs.append(e), xs an own list -/
def mApp (i : Nat) (m : Ev) : Ev := fun env =>
  match env[i]?.bind Sl.con with
  | some (.lst _) => do
    let r ← m env
    let d ← kp r.1
    match r.2[i]? with
    | some s => (match s.con with
      | some (.lst ds) => if ds.length < sizeLine then pure (.non, r.2.set i (s.put (.lst (ds ++ [d])))) else .bad
      | _ => .bad)
    | _ => .bad
  | _ => .bad
theorem em_append (i : Nat) {y : Str} {py apos : Pos} (g : Gd X C W k) (he : EM X C W e ta m) (hN : X.N[i]? = some y := by rfl) (hv : Vis X.env.scope y := by first | exact Or.inl rfl | exact Or.inr (Or.inl rfl) | exact Or.inr (Or.inr rfl)) (hd : (y == ("__debug__" : Str)) = false := by decide)
    (hcd : (y == ("__classdict__" : Str)) = false := by decide) (hbase : attributeBase (.Name y py) "append" X.env (eval (.Name y py) X.env) = eval (.Name y py) X.env := by rfl)
    (hfew : ((backTo pos (starEach [e] X.env)).all (fun x => !x.1) && (backToKw pos (keywordEach [] X.env)).all (fun x => x.1.isSome)
      && decide ([e].length + ([] : List Keyword).length + (if ([] : List Keyword).isEmpty then 0 else 1) < 30)) = true := by rfl)
    (hline : (apos.endLine == pos.line) = true := by rfl) (hs : starEach [e] X.env = (false, eval e X.env) :: starEach [] X.env := by rfl) (hplain : (backTo pos (starEach [] X.env)).any (·.1) = false := by rfl) :
    EM X C W (.Call (.Attribute (.Name y py) "append" apos) [e] [] pos) (tBM C.K "list" rAppend (tVar i) (tCons ta tNil)) (mApp i m) := by
  refine ⟨g.kE ▸ pe_bm PySem.F.plainAttrs_list PySem.F.slot_list_append PySem.F.type_list_append mt_append (pe_var hN hv hd hcd) (pa_cons he.pe pa_nil hs) hbase hfew hline hs hplain, fun M0 ad σ H env Q R w => ?_⟩
  unfold mApp at w
  cases z : env[i]? with
  | none => rw [z] at w; exact w.elim
  | some s0 =>
    rw [z] at w
    simp only [Option.bind_some] at w
    cases zc : s0.con with
    | none => rw [zc] at w; exact w.elim
    | some c0 =>
      rw [zc] at w
      cases c0 with
      | lst ds0 =>
        obtain ⟨hσ, hc0⟩ := R.con z zc
        obtain ⟨_, us0, hu0, _⟩ := hc0
        refine ⟨.ref (ad i), hσ, .inl ⟨rfl, us0, .of hu0⟩, ?_⟩
        refine he.sn' R w fun r v H1 R1 S1 V1 w1 => ?_
        rw [wp_bind] at w1
        obtain ⟨_, w2, rp⟩ := kp_rp V1 w1
        cases z2 : r.2[i]? with
        | none => rw [z2] at w2; exact w2.elim
        | some s =>
          rw [z2] at w2
          simp only at w2
          cases zc2 : s.con with
          | none => rw [zc2] at w2; exact w2.elim
          | some c =>
            rw [zc2] at w2
            cases c with
            | lst ds =>
              simp only at w2
              split at w2
              · rename_i hz
                obtain ⟨_, hc⟩ := R1.con z2 zc2
                obtain ⟨z3, us, hu, ru⟩ := hc
                refine ⟨ad i, us, v, rfl, rfl, hu, by rw [ru.len]; exact hz, ?_⟩
                have kk : ∀ b o, H1 b = some o → b ≠ ad i → upd H1 (ad i) (.lst (us ++ [v])) b = some o := fun b o e hb => by rw [upd_ne hb]; exact e
                have hM : Mo (C.w M0) r.2 ad (ad i) := .inr ⟨i, s, z2, Sl.isMut.own (Sl.con_mut zc2), rfl⟩
                have x1 : Ext (Mo (C.w M0) r.2 ad) H1 (upd H1 (ad i) (.lst (us ++ [v]))) := by
                  refine ⟨fun b o e hn _ => kk b o e fun q => hn (q ▸ hM), fun b xs e => kk b _ e fun q => ?_, fun b o u e => kk b _ e fun q => ?_, fun b hb => ?_⟩
                  · rw [q, hu] at e; cases e
                  · rw [q, hu] at e; cases e
                  · by_cases q : b = ad i
                    · rw [q, upd_same]; exact fun z => nomatch z
                    · rw [upd_ne q]; exact hb
                obtain ⟨R2, S2⟩ := R1.put (d := .lst (ds ++ [r.1])) (H' := upd H1 (ad i) (.lst (us ++ [v]))) z2 (Sl.con_mut zc2) kk ⟨by rw [List.length_append]; exact hz, us ++ [v], upd_same, (ru.append (.one rp)).ext x1 fun b q => .inl q⟩
                exact w2 .non _ R2 (S1.trans S2) (.of .non)
              · exact w2.elim
            | _ => exact w2.elim
      | _ => exact w.elim
end
end Vm
end
section
set_option maxRecDepth 100000
set_option maxHeartbeats 4000000
/-! Vm, part G: what is walked, targets, comprehensions. -/
namespace Vm
open PySem PySem.Spec PyProof.Rows L2

/-- the walk J gives the data ds, while hd lies at hv -/
def RpH (K : PySem.W.Frag) (H : Hp) (M : Addr → Prop) (hs : List (D × V)) : Prop := ∀ p ∈ hs, Rp K H M p.1 p.2
theorem RpH.ext {K : PySem.W.Frag} {H H' : Hp} {M M' : Addr → Prop} {hs : List (D × V)} (x : Ext M H H') (hM : ∀ b, M' b → M b ∨ H b = none) (h : RpH K H M hs) : RpH K H' M' hs := fun p hp => (h p hp).ext x hM
structure Wk (K : PySem.W.Frag) (J : It) (hs : List (D × V)) (ds : List D) : Prop where
  go : ∀ (H : Hp) (M : Addr → Prop) (i : Nat) (d : D), (∀ a, M a → H a ≠ none) → RpH K H M hs → ds[i]? = some d → J.go i H ∧ ∀ x H', J.yld i H x H' → Same H H' ∧ Rp K H' M d x
  stop : ∀ (H : Hp) (M : Addr → Prop), RpH K H M hs → J.stop ds.length H
abbrev Em := Sls → Res (List D × Sls)
structure IM (X : Cx) (C : Cfg) (W : WX) (tg iter : Expr) (wi : TI) (m : Em) : Prop where
  pe : PI X tg iter wi
  sn : ∀ (M0 : Addr → Prop) (ad : Nat → Addr) (σ : L2.St) (H : Hp) (env : Sls) (R : It → Hp → Prop), RE (C.w M0) ad H σ env →
    (m env).Wp (fun r => ∀ J hs H', RE (C.w M0) ad H' σ r.2 → Stp (C.w M0) ad H env H' r.2 → RpH C.K H' (Mo (C.w M0) r.2 ad) hs → Wk C.K J hs r.1 → r.1.length ≤ sizeLine → R J H') (Er (C.w M0) ad σ W) → wi σ H R
/-- a target takes data -/
abbrev Gv := D → Sls → Res Sls
structure GM (X : Cx) (C : Cfg) (tg : Expr) (g : TG) (vs : List Nat) (m : Gv) : Prop where
  pe : PG X tg g
  sn : ∀ (M0 : Addr → Prop) (ad : Nat → Addr) (σ : L2.St) (H : Hp) (env : Sls) (d : D) (v : V) (Q : L2.St → Hp → Prop), RE (C.w M0) ad H σ env → Rp C.K H (Mo (C.w M0) env ad) d v →
    (m d env).Wp (fun env' => ∀ σ', RE (C.w M0) ad H σ' env' → (∀ a, Ow env' ad a → Ow env ad a) → σ'.length = σ.length → (∀ j, j ∉ vs → σ'[j]? = σ[j]?) → Q σ' H) (fun _ => False) → g v σ H Q
structure GMs (X : Cx) (C : Cfg) (ts : List Expr) (g : TGs) (vs : List Nat) (m : List D → Sls → Res Sls) : Prop where
  pe : PGs X ts g
  sn : ∀ (M0 : Addr → Prop) (ad : Nat → Addr) (σ : L2.St) (H : Hp) (env : Sls) (ds : List D) (us : List V) (Q : L2.St → Hp → Prop), RE (C.w M0) ad H σ env → RpL C.K H (Mo (C.w M0) env ad) ds us →
    (m ds env).Wp (fun env' => ∀ σ', RE (C.w M0) ad H σ' env' → (∀ a, Ow env' ad a → Ow env ad a) → σ'.length = σ.length → (∀ j, j ∉ vs → σ'[j]? = σ[j]?) → Q σ' H) (fun _ => False) → g us σ H Q
section
variable {X : Cx} {C : Cfg} {W : WX} {k j n : Nat} {a b e : Expr} {es rest : List Expr} {ta tb tc te : TE} {t : TA} {ma mb mc m me : Ev} {ms : Evs} {pos p : Pos} {x : Str} {tg iter elt : Expr}
/-! ### walks -/
theorem wk_list {K : PySem.W.Frag} {a : Addr} {ds : List D} : Wk K (Itl K a) [(.lst ds, .ref a)] ds := by
  refine ⟨fun H M i d _ r h => ?_, fun H M r => ?_⟩
  · cases (show Rp K H M (.lst ds) (.ref a) from r _ (.head _)) with
    | lst h1 hm hl hz hi =>
      rename_i vs
      have hi2 : i < vs.length := by rw [hl]; exact (List.getElem?_eq_some_iff.mp h).1
      have e : vs[i]? = some vs[i] := List.getElem?_eq_getElem hi2
      refine ⟨⟨vs, vs[i], .of h1, e⟩, fun x H' y => ?_⟩
      obtain ⟨e1, y⟩ := y
      subst e1
      have e2 := y vs (.of h1)
      rw [e] at e2
      cases e2
      exact ⟨.refl _, hi i d _ h e⟩
  · cases (show Rp K H M (.lst ds) (.ref a) from r _ (.head _)) with
    | lst h1 hm hl hz hi => exact ⟨_, .of h1, by rw [hl]; exact Nat.le_refl _⟩
theorem wk_tup {K : PySem.W.Frag} {a : Addr} {ds : List D} : Wk K (Itt K a) [(.tup ds, .ref a)] ds := by
  refine ⟨fun H M i d _ r h => ?_, fun H M r => ?_⟩
  · cases (show Rp K H M (.tup ds) (.ref a) from r _ (.head _)) with
    | tup h1 hl hz hi =>
      rename_i vs
      have hi2 : i < vs.length := by rw [hl]; exact (List.getElem?_eq_some_iff.mp h).1
      have e : vs[i]? = some vs[i] := List.getElem?_eq_getElem hi2
      refine ⟨⟨vs, vs[i], h1, e⟩, fun x H' y => ?_⟩
      obtain ⟨e1, y⟩ := y
      subst e1
      have e2 := y vs h1
      rw [e] at e2
      cases e2
      exact ⟨.refl _, hi i d _ h e⟩
  · cases (show Rp K H M (.tup ds) (.ref a) from r _ (.head _)) with
    | tup h1 hl hz hi => exact ⟨_, h1, by rw [hl]; exact Nat.le_refl _⟩
def rangeD (lo : Int) (n : Nat) : List D := (List.range n).map fun (i : Nat) => D.int (lo + i)
theorem rangeD_length (lo : Int) (n : Nat) : (rangeD lo n).length = n := by simp [rangeD]
theorem wk_range {K : PySem.W.Frag} {lo : Int} {n : Nat} : Wk K (Itr lo n) [] (rangeD lo n) := by
  refine ⟨fun H M i d _ r h => ?_, fun H M r => by rw [rangeD_length]; exact Nat.le_refl _⟩
  have hi : i < n := by
    have := (List.getElem?_eq_some_iff.mp h).1
    rwa [rangeD_length] at this
  have e : d = .int (lo + i) := by
    unfold rangeD at h
    rw [List.getElem?_map, List.getElem?_range hi] at h
    cases h
    rfl
  refine ⟨hi, fun x H' y => ?_⟩
  obtain ⟨e1, e2⟩ := y
  subst e1 e2 e
  exact ⟨.refl _, .int _⟩
/-- over a list or a tuple -/
def mSeq (m : Ev) : Em := fun env => do
  let r ← m env
  match r.1 with
  | .lst ds => pure (ds, r.2)
  | .tup ds => pure (ds, r.2)
  | _ => .bad
def iSeq (K : PySem.W.Frag) (t : TE) : TI := fun σ H R => iList K t σ H R ∨ iTup K t σ H R
theorem pi_seq (h : PE X e te) : PI X tg e (iSeq X.K te) := ⟨fun pins s σ H R I q => q.elim ((pi_list h).run pins s σ H R I) ((pi_tup h).run pins s σ H R I)⟩
theorem im_seq (g : Gd X C W k) (h : EM X C W e te m) : IM X C W tg e (iSeq C.K te) (mSeq m) := by
  refine ⟨g.kE ▸ pi_seq h.pe, fun M0 ad σ H env R RR w => ?_⟩
  unfold mSeq at w
  rw [wp_bind] at w
  cases q : m env with
  | ok r =>
    rw [q] at w
    obtain ⟨d, env2⟩ := r
    cases d with
    | lst ds =>
      refine .inl (h.sn M0 ad σ H env _ RR ?_)
      rw [q]
      intro v H' R' S' V'
      have V2 : Rp C.K H' (Mo (C.w M0) env2 ad) (.lst ds) v := V'
      cases V2 with
      | lst h1 hm hl hz hi => exact ⟨_, rfl, ⟨_, .of h1⟩, w _ _ H' R' S' (fun p hp => by rcases List.mem_singleton.mp hp with rfl; exact .lst h1 hm hl hz hi) wk_list hz⟩
    | tup ds =>
      refine .inr (h.sn M0 ad σ H env _ RR ?_)
      rw [q]
      intro v H' R' S' V'
      have V2 : Rp C.K H' (Mo (C.w M0) env2 ad) (.tup ds) v := V'
      cases V2 with
      | tup h1 hl hz hi => exact ⟨_, rfl, ⟨_, h1⟩, w _ _ H' R' S' (fun p hp => by rcases List.mem_singleton.mp hp with rfl; exact .tup h1 hl hz hi) wk_tup hz⟩
    | _ => exact w.elim
  | err c =>
    refine .inl (h.sn M0 ad σ H env _ RR ?_)
    rw [q]
    rw [q] at w
    exact w
  | bad => rw [q] at w; exact w.elim
/-- over range(n) -/
def int1 : List D → Option Int
  | [.int j] => some j
  | _ => none
def int2 : List D → Option (Int × Int)
  | [.int i, .int j] => some (i, j)
  | _ => none
theorem int1_eq {ds : List D} {j : Int} (h : int1 ds = some j) : ds = [.int j] := by
  unfold int1 at h
  split at h
  · cases h; rfl
  · cases h
theorem int2_eq {ds : List D} {p : Int × Int} (h : int2 ds = some p) : ds = [.int p.1, .int p.2] := by
  unfold int2 at h
  split at h
  · cases h; rfl
  · cases h
def mRng1 (ms : Evs) : Em := fun env => do
  let r ← ms env
  match int1 r.1 with
  | some j => if -4611686018427387904 ≤ j ∧ j ≤ 16777216 then pure (rangeD 0 j.toNat, r.2) else .bad
  | none => .bad
def mRng2 (ms : Evs) : Em := fun env => do
  let r ← ms env
  match int2 r.1 with
  | some p => if -4611686018427387904 ≤ p.1 ∧ p.1 < 4611686018427387904 ∧ -4611686018427387904 ≤ p.2 ∧ p.2 < 4611686018427387904 ∧ p.2 - p.1 ≤ 16777216 then pure (rangeD p.1 (p.2 - p.1).toNat, r.2) else .bad
  | none => .bad
theorem im_range1 {tA : TA} (g : Gd X C W k) (h : AM X C W [a] tA ms) (hm : X.mg "range" = none) (hg : Gl X "range" := by rfl) (hs : starEach [a] X.env = [(false, eval a X.env)] := by rfl) : IM X C W tg (.Call (.Name "range" p) [a] [] pos) (iRng1 tA) (mRng1 ms) := by
  refine ⟨pi_range1 hg hm h.pe hs, fun M0 ad σ H env R RR w => ?_⟩
  unfold mRng1 at w
  refine h.sn' RR w fun r vs H' R' S' V' w1 => ?_
  obtain ⟨ds, env2⟩ := r
  simp only at V' w1
  cases q : int1 ds with
  | none => rw [q] at w1; exact w1.elim
  | some j =>
    rw [q] at w1
    rw [int1_eq q] at V'
    obtain ⟨v, us, e1, h1, q⟩ := V'.cons_inv
    have e2 := q.nil_inv
    subst e2
    have h2 : Rp C.K H' (Mo (C.w M0) env2 ad) (.int j) v := h1
    cases h2
    simp only at w1
    split at w1
    · rename_i hz
      refine ⟨j, e1, by omega, by omega, w1 _ [] H' R' S' (fun p hp => nomatch hp) wk_range ?_⟩
      show (rangeD 0 j.toNat).length ≤ sizeLine
      rw [rangeD_length, sizeLine_eq]
      omega
    · exact w1.elim
theorem im_range2 {tA : TA} (g : Gd X C W k) (h : AM X C W [a, b] tA ms) (hm : X.mg "range" = none) (hg : Gl X "range" := by rfl) (hs : starEach [a, b] X.env = [(false, eval a X.env), (false, eval b X.env)] := by rfl) (hs2 : starEach [b] X.env = [(false, eval b X.env)] := by rfl) :
    IM X C W tg (.Call (.Name "range" p) [a, b] [] pos) (iRng2 tA) (mRng2 ms) := by
  refine ⟨pi_range2 hg hm h.pe hs hs2, fun M0 ad σ H env R RR w => ?_⟩
  unfold mRng2 at w
  refine h.sn' RR w fun r vs H' R' S' V' w1 => ?_
  obtain ⟨ds, env2⟩ := r
  simp only at V' w1
  cases q : int2 ds with
  | none => rw [q] at w1; exact w1.elim
  | some pr =>
    rw [q] at w1
    rw [int2_eq q] at V'
    obtain ⟨v, us, e1, h1, q⟩ := V'.cons_inv
    obtain ⟨v2, us2, e3, h3, q2⟩ := q.cons_inv
    have e2 := q2.nil_inv
    subst e2
    subst e3
    have h2 : Rp C.K H' (Mo (C.w M0) env2 ad) (.int pr.1) v := h1
    cases h2
    have h4 : Rp C.K H' (Mo (C.w M0) env2 ad) (.int pr.2) v2 := h3
    cases h4
    simp only at w1
    split at w1
    · rename_i hz
      refine ⟨pr.1, pr.2, e1, ⟨by omega, by omega, by omega, by omega⟩, w1 _ [] H' R' S' (fun p hp => nomatch hp) wk_range ?_⟩
      show (rangeD pr.1 (pr.2 - pr.1).toNat).length ≤ sizeLine
      rw [rangeD_length, sizeLine_eq]
      omega
    · exact w1.elim

/-! ### targets -/
def gmN (i : Nat) : Gv := fun d env => if notPar env i = true then .ok (env.set i (.t d)) else .bad
theorem gm_name (i : Nat) {x : Str} {pos : Pos} (hN : X.N.Nodup) (hi : X.N[i]? = some x := by rfl) (hx : Loc X.env.scope x := by first | exact .inl rfl | exact .inr rfl) (hf : X.fn x = true ∨ X.env.scope.names.lookup x = some .local := by first | exact .inl rfl | exact .inr rfl) : GM X C (.Name x pos) (gName i) [i] (gmN i) := by
  refine ⟨pg_name hN hi hx hf, fun M0 ad σ H env d v Q R r w => ?_⟩
  unfold gmN at w
  split at w
  · refine w _ (R.setS rfl ⟨v, rfl, r⟩) (ow_set rfl) (by rw [List.length_set]) fun j hj => ?_
    rw [List.getElem?_set_ne]
    intro e
    exact hj (by simp [e])
  · exact w.elim
def gmNil : List D → Sls → Res Sls := fun ds env => match ds with
  | [] => .ok env
  | _ => .bad
def gmCons (g : Gv) (gs : List D → Sls → Res Sls) : List D → Sls → Res Sls := fun ds env => match ds with
  | d :: ds => do
    let e ← g d env
    gs ds e
  | _ => .bad
theorem gms_nil : GMs X C [] gNil [] gmNil := by
  refine ⟨pgs_nil, fun M0 ad σ H env ds us Q R r w => ?_⟩
  cases ds with
  | nil => exact ⟨r.nil_inv, w σ R (fun _ z => z) rfl fun _ _ => rfl⟩
  | cons d ds => exact w.elim
theorem gms_cons {e : Expr} {es : List Expr} {g : TG} {gs : TGs} {vs ws : List Nat} {m : Gv} {ms : List D → Sls → Res Sls} (h : GM X C e g vs m) (hs : GMs X C es gs ws ms)
    (ha : (assignEach (e :: es) X.env).map (·.2) = assign e X.env :: (assignEach es X.env).map (·.2) := by rfl) : GMs X C (e :: es) (gCons g gs) (vs ++ ws) (gmCons m ms) := by
  refine ⟨pgs_cons h.pe hs.pe ha, fun M0 ad σ H env ds us Q R r w => ?_⟩
  cases ds with
  | nil => exact w.elim
  | cons d ds =>
    obtain ⟨v, us', rfl, r1, r2⟩ := r.cons_inv
    unfold gmCons at w
    simp only at w
    rw [wp_bind] at w
    refine ⟨v, us', rfl, h.sn M0 ad σ H env d v _ R r1 (w.imp (fun env2 w2 σ2 R2 mo2 l2 o2 => ?_) fun _ z => z)⟩
    refine hs.sn M0 ad σ2 H env2 ds us' Q R2 (r2.less fun a z => z.imp id (mo2 a)) (w2.imp (fun env3 w3 σ3 R3 mo3 l3 o3 => ?_) fun _ z => z)
    refine w3 σ3 R3 (fun a z => mo2 a (mo3 a z)) (l3.trans l2) fun j hj => ?_
    rw [o3 j (fun z => hj (List.mem_append_right _ z)), o2 j (fun z => hj (List.mem_append_left _ z))]
def gmT (n : Nat) (gs : List D → Sls → Res Sls) : Gv := fun d env => match d with
  | .tup ds => if ds.length = n then gs ds env else .bad
  | _ => .bad
theorem gm_tup {es : List Expr} {i n : Nat} {gs : TGs} {vs : List Nat} {ms : List D → Sls → Res Sls} (g : Gd X C W k) (h : GMs X C es gs vs ms) (hn : (assignEach es X.env).length = n := by rfl) (hst : (assignEach es X.env).findIdx? (·.1) = none := by rfl) :
    GM X C (.Tuple es i pos) (gTup C.K n gs) vs (gmT n ms) := by
  refine ⟨g.kE ▸ pg_tup g.calm h.pe hn hst, fun M0 ad σ H env d v Q R r w => ?_⟩
  cases d with
  | tup ds =>
    unfold gmT at w
    simp only at w
    split at w
    · rename_i hl
      cases r with
      | tup h1 hl2 hz hi =>
        exact ⟨_, _, rfl, h1, by rw [hl2]; exact hl, h.sn M0 ad σ H env ds _ Q R ⟨hl2, hi⟩ w⟩
    · exact w.elim
  | _ => exact w.elim

/-! ### comprehensions -/
def noE {α : Type} (r : Res α) : Res α := match r with
  | .err _ => .bad
  | r => r
theorem noE_wp {α : Type} {r : Res α} {P : α → Prop} {E E' : Str → Prop} (w : (noE r).Wp P E) : r.Wp P E' := by
  cases r with
  | ok a => exact w
  | err c => exact w.elim
  | bad => exact w.elim
theorem noE_ok {α : Type} (a : α) : noE (Res.ok a) = .ok a := rfl
def wipeE (env : Sls) : List Nat → Sls
  | [] => env
  | v :: vs => (wipeE env vs).set v .u
def backE (base env : Sls) : List Nat → Sls
  | [] => env
  | v :: vs => (backE base env vs).set v (base.getD v .u)
def okWipe (env : Sls) (vs : List Nat) : Bool := vs.all fun v => match env[v]? with
  | some .u => true
  | some (.t _) => true
  | _ => false
def lcL (vs : List Nat) (g : Gv) (tt : Ev1) (me : Ev) : List D → Sls → Res (List D × Sls)
  | [], env => .ok ([], env)
  | d :: ds, env => do
    let e1 ← noE (g d env)
    let b ← noE (tt e1)
    if b.1 = true then do
      let r ← noE (me b.2)
      let y ← kp r.1
      let q ← lcL vs g tt me ds (wipeE r.2 vs)
      pure (y :: q.1, q.2)
    else lcL vs g tt me ds (wipeE b.2 vs)
def mLc (mi : Em) (vs : List Nat) (g : Gv) (tt : Ev1) (me : Ev) : Ev := fun env => do
  let r ← mi env
  if okWipe r.2 vs = true then do
    let q ← lcL vs g tt me r.1 (wipeE r.2 vs)
    pure (.lst q.1, backE r.2 q.2 vs)
  else .bad
theorem lcL_len {vs : List Nat} {g : Gv} {tt : Ev1} {me : Ev} : ∀ {ds : List D} {env : Sls} {q : List D × Sls}, lcL vs g tt me ds env = .ok q → q.1.length ≤ ds.length
  | [], env, q, h => by cases h; exact Nat.le_refl _
  | d :: ds, env, q, h => by
    simp only [lcL] at h
    cases h1 : noE (g d env) with
    | err c => rw [h1] at h; cases h
    | bad => rw [h1] at h; cases h
    | ok e1 =>
      rw [h1, ok_bind] at h
      cases h2 : noE (tt e1) with
      | err c => rw [h2] at h; cases h
      | bad => rw [h2] at h; cases h
      | ok b =>
        rw [h2, ok_bind] at h
        split at h
        · cases h3 : noE (me b.2) with
          | err c => rw [h3] at h; cases h
          | bad => rw [h3] at h; cases h
          | ok r =>
            rw [h3, ok_bind] at h
            cases h4 : kp r.1 with
            | err c => rw [h4] at h; cases h
            | bad => rw [h4] at h; cases h
            | ok y =>
              rw [h4, ok_bind] at h
              cases h5 : lcL vs g tt me ds (wipeE r.2 vs) with
              | err c => rw [h5] at h; cases h
              | bad => rw [h5] at h; cases h
              | ok q2 =>
                rw [h5, ok_bind] at h
                have := lcL_len h5
                cases h
                simp only [List.length_cons]
                omega
        · have := lcL_len h
          rw [List.length_cons]
          omega

/-! slots wiped and back -/
theorem RE.wipe {ad : Nat → Addr} {σ : L2.St} {H : Hp} {env : Sls} (R : RE C ad H σ env) : ∀ vs : List Nat, RE C ad H (L2.wipe σ vs) (wipeE env vs)
  | [] => R
  | v :: vs => (RE.wipe R vs).setS rfl True.intro
theorem ow_wipe {ad : Nat → Addr} {env : Sls} : ∀ vs : List Nat, ∀ a, Ow (wipeE env vs) ad a → Ow env ad a
  | [], a, h => h
  | v :: vs, a, h => ow_wipe vs a (ow_set rfl a h)
theorem wipeE_out {env : Sls} {i : Nat} : ∀ {vs : List Nat}, i ∉ vs → (wipeE env vs)[i]? = env[i]?
  | [], _ => rfl
  | v :: vs, h => by
    show ((wipeE env vs).set v .u)[i]? = _
    rw [List.getElem?_set_ne (fun e => h (by simp [e])), wipeE_out fun z => h (List.mem_cons_of_mem _ z)]
theorem wipeE_len {env : Sls} : ∀ {vs : List Nat}, (wipeE env vs).length = env.length
  | [] => rfl
  | v :: vs => by
    show ((wipeE env vs).set v .u).length = _
    rw [List.length_set, wipeE_len]
theorem st_wipe_eq {σ σ' : L2.St} {vs : List Nat} (hl : σ'.length = σ.length) (h : ∀ j, j ∉ vs → σ'[j]? = σ[j]?) : L2.wipe σ' vs = L2.wipe σ vs := by
  have inn : ∀ (τ : L2.St) (ws : List Nat) (j : Nat), j ∈ ws → j < τ.length → (L2.wipe τ ws)[j]? = some none := by
    intro τ ws
    induction ws with
    | nil => intro j hj; cases hj
    | cons w ws ih =>
      intro j hj hlt
      show ((L2.wipe τ ws).set w none)[j]? = _
      by_cases e : w = j
      · subst e
        rw [List.getElem?_set_self (by rw [wipe_length]; exact hlt)]
      · rw [List.getElem?_set_ne e]
        exact ih j ((List.mem_cons.mp hj).resolve_left fun z => e z.symm) hlt
  refine List.ext_getElem? fun j => ?_
  by_cases hlt : j < σ.length
  · by_cases hj : j ∈ vs
    · rw [inn σ' vs j hj (by rw [hl]; exact hlt), inn σ vs j hj hlt]
    · rw [wipe_out hj, wipe_out hj, h j hj]
  · rw [List.getElem?_eq_none_iff.mpr (by rw [wipe_length, hl]; omega), List.getElem?_eq_none_iff.mpr (by rw [wipe_length]; omega)]
def backS (σ τ : L2.St) : List Nat → L2.St
  | [] => τ
  | v :: vs => (backS σ τ vs).set v (σ.getD v none)
theorem backS_wipe (σ : L2.St) (vs : List Nat) : backS σ (L2.wipe σ vs) vs = σ := by
  have len : ∀ ws (τ : L2.St), (backS σ τ ws).length = τ.length := by
    intro ws
    induction ws with
    | nil => intro τ; rfl
    | cons w ws ih => intro τ; show ((backS σ τ ws).set w _).length = _; rw [List.length_set, ih]
  have inn : ∀ (ws : List Nat) (τ : L2.St) (j : Nat), τ.length = σ.length → j < σ.length → (j ∈ ws → (backS σ τ ws)[j]? = σ[j]?) ∧ (j ∉ ws → (backS σ τ ws)[j]? = τ[j]?) := by
    intro ws
    induction ws with
    | nil => intro τ j _ _; exact ⟨fun h => by (cases h), fun _ => rfl⟩
    | cons w ws ih =>
      intro τ j hl hlt
      obtain ⟨i1, i2⟩ := ih τ j hl hlt
      have step : ∀ h : w ≠ j, (backS σ τ (w :: ws))[j]? = (backS σ τ ws)[j]? := fun h => by
        show ((backS σ τ ws).set w _)[j]? = _
        rw [List.getElem?_set_ne h]
      refine ⟨fun hj => ?_, fun hj => ?_⟩
      · by_cases e : w = j
        · subst e
          show ((backS σ τ ws).set w _)[w]? = _
          rw [List.getElem?_set_self (by rw [len, hl]; exact hlt), List.getD_eq_getElem?_getD, List.getElem?_eq_getElem hlt]
          rfl
        · rw [step e, i1 ((List.mem_cons.mp hj).resolve_left fun z => e z.symm)]
      · rw [step (fun e => hj (by simp [e])), i2 fun z => hj (List.mem_cons_of_mem _ z)]
  refine List.ext_getElem? fun j => ?_
  by_cases hlt : j < σ.length
  · by_cases hj : j ∈ vs
    · exact (inn vs _ j (wipe_length _ _) hlt).1 hj
    · rw [(inn vs _ j (wipe_length _ _) hlt).2 hj, wipe_out hj]
  · rw [List.getElem?_eq_none_iff.mpr (by rw [len, wipe_length]; omega), List.getElem?_eq_none_iff.mpr (by omega)]
/-- the wiped slots as they were -/
theorem RE.back {ad : Nat → Addr} {σ τ : L2.St} {H H' : Hp} {base env : Sls} (B : RE C ad H σ base) (x : Ext (Mo C base ad) H H') (R : RE C ad H' τ env) (hmo : ∀ a, Ow env ad a → Ow base ad a) : ∀ {vs : List Nat}, okWipe base vs = true →
    RE C ad H' (backS σ τ vs) (backE base env vs) ∧ ∀ a, Ow (backE base env vs) ad a → Ow env ad a
  | [], _ => ⟨R, fun _ z => z⟩
  | v :: vs, h => by
    have h' : (match base[v]? with | some .u => true | some (.t _) => true | _ => false) = true ∧ okWipe base vs = true := by
      have := h
      unfold okWipe at this
      rw [List.all_cons, Bool.and_eq_true] at this
      exact this
    obtain ⟨R2, m2⟩ := RE.back B x R hmo h'.2
    cases q : base[v]? with
    | none => rw [q] at h'; cases h'.1
    | some s =>
      have e : base.getD v .u = s := by rw [List.getD_eq_getElem?_getD, q]; rfl
      have ho : s.isOwn = false := by
        rw [q] at h'
        cases s <;> first | rfl | exact absurd h'.1 Bool.false_ne_true
      have z := B.sl v s q
      have sg : σ[v]?.join = σ.getD v none := by
        rw [List.getD_eq_getElem?_getD]
        cases σ[v]? <;> rfl
      refine ⟨?_, fun a w => ?_⟩
      · show RE C ad H' ((backS σ τ vs).set v (σ.getD v none)) ((backE base env vs).set v (base.getD v .u))
        rw [e]
        refine R2.setS ho ?_
        rw [← sg]
        exact SlOk.ext (C := C) z (fun o => by rw [ho] at o; cases o) x fun b w => .inl (w.imp id fun w => hmo b (m2 b w))
      · have w' : Ow ((backE base env vs).set v (base.getD v .u)) ad a := w
        rw [e] at w'
        exact m2 a (ow_set ho a w')
theorem tabs_upd {T : List (Addr × Str)} {H : Hp} {a : Addr} {us us' : List V} (t : LamX.Tabs T H) (ho : H a = some (.lst us)) : LamX.Tabs T (upd H a (.lst us')) := fun p hp => by
  obtain ⟨ps, e1, e2, e3⟩ := t p hp
  refine ⟨ps, by rw [upd_ne fun q => by rw [q, ho] at e1; cases e1]; exact e1, e2, fun pos cv hc => ?_⟩
  obtain ⟨c', q1, q2⟩ := e3 pos cv hc
  exact ⟨c', q1, by rw [upd_ne fun q => by rw [q, ho] at q2; unfold LamX.CodeO at q2; cases q2]; exact q2⟩
/-- a cell that others hold is changed -/
theorem RE.other {ad : Nat → Addr} {σ : L2.St} {H : Hp} {env : Sls} (R : RE C ad H σ env) {a : Addr} {us us' : List V} (ha : C.M0 a) (hno : ¬ Ow env ad a) (h0 : C.H0 a = none) (ho : H a = some (.lst us)) : RE C ad (upd H a (.lst us')) σ env ∧ Ext (fun b => b = a) H (upd H a (.lst us')) := by
  have x : Ext (fun b => b = a) H (upd H a (.lst us')) := by
    refine ⟨fun b o e n _ => by rw [upd_ne n]; exact e, fun b xs e => ?_, fun b o u e => ?_, fun b e => ?_⟩
    · by_cases q : b = a
      · rw [q, ho] at e; cases e
      · rw [upd_ne q]; exact e
    · by_cases q : b = a
      · rw [q, ho] at e; cases e
      · rw [upd_ne q]; exact e
    · by_cases q : b = a
      · rw [q, upd_same]; exact fun z => nomatch z
      · rw [upd_ne q]; exact e
  refine ⟨⟨R.len, fun i s h => ?_, R.inj, R.loc, R.par, fun b o e n nt => ?_, R.frk, fun b e => x.trk b (R.trk b e), fun b e => x.trk b (R.m0 b e), tabs_upd R.tabs ho⟩, x⟩
  · refine SlOk.ext (C := C) (R.sl i s h) (fun o => ?_) (x.mono fun b e => .inl (e ▸ ha)) fun b z => .inl z
    rw [upd_ne fun e => hno ⟨i, s, h, o, e⟩]
  · rw [upd_ne fun q => by rw [q, h0] at e; cases e]
    exact R.same b o e n nt

theorem RE.mtrk' {ad : Nat → Addr} {σ : L2.St} {H : Hp} {env : Sls} (R : RE C ad H σ env) (a : Addr) (h : Mo C env ad a) : H a ≠ none := R.mtrk h

abbrev W0 : WX := fun _ _ _ _ => False
theorem takesF {X : Cx} : Takes X W0 := fun _ _ x => by
  obtain ⟨_, _, _, _, _, _, _, _, _, _, _, _, _, _, _, _, z⟩ := x
  exact z.elim
/-- the surroundings of a comprehension's block -/
theorem Gd.blk {s : Shared} {H : Hp} {scope : Scope} {cenv : Env} {fp : List Addr} (g : Gd X C W k) : Gd (X.blk s H scope cenv fp) C W0 k := ⟨g.kE, g.mE, g.calm, takesF, g.room, g.nd⟩
/-- tests of a comprehension -/
structure TMs (X : Cx) (C : Cfg) (W : WX) (ifs : List Expr) (t : TT) (m : Ev1) : Prop where
  pe : PTs X ifs t
  sn : ∀ (M0 : Addr → Prop) (ad : Nat → Addr) (σ : L2.St) (H : Hp) (env : Sls) (Q : Bool → Hp → Prop), RE (C.w M0) ad H σ env →
    (m env).Wp (fun r => ∀ H', RE (C.w M0) ad H' σ r.2 → Stp (C.w M0) ad H env H' r.2 → Q r.1 H') (Er (C.w M0) ad σ W) → t σ H Q
def mYes : Ev1 := fun env => .ok (true, env)
theorem tms_nil : TMs X C W [] tYes mYes := ⟨pts_nil, fun M0 ad σ H env Q R w => w H R .refl⟩
theorem tms_one {c : Expr} {t : TT} {m : Ev1} (h : TM X C W c t m) : TMs X C W [c] t m := ⟨pts_one h.pe, h.sn⟩
theorem lc_sn {g : TG} {gv : Gv} {tt : TT} {mt : Ev1} {wi : TI} {mi : Em} {vs : List Nat} (hi : ∀ (M0 : Addr → Prop) (ad : Nat → Addr) (σ : L2.St) (H : Hp) (env : Sls) (R : It → Hp → Prop), RE (C.w M0) ad H σ env →
      (mi env).Wp (fun r => ∀ J hs H', RE (C.w M0) ad H' σ r.2 → Stp (C.w M0) ad H env H' r.2 → RpH C.K H' (Mo (C.w M0) r.2 ad) hs → Wk C.K J hs r.1 → r.1.length ≤ sizeLine → R J H') (Er (C.w M0) ad σ W) → wi σ H R)
    (hg : ∀ (M0 : Addr → Prop) (ad : Nat → Addr) (σ : L2.St) (H : Hp) (env : Sls) (d : D) (v : V) (Q : L2.St → Hp → Prop), RE (C.w M0) ad H σ env → Rp C.K H (Mo (C.w M0) env ad) d v →
      (gv d env).Wp (fun env' => ∀ σ', RE (C.w M0) ad H σ' env' → (∀ a, Ow env' ad a → Ow env ad a) → σ'.length = σ.length → (∀ j, j ∉ vs → σ'[j]? = σ[j]?) → Q σ' H) (fun _ => False) → g v σ H Q)
    (ht : ∀ (M0 : Addr → Prop) (ad : Nat → Addr) (σ : L2.St) (H : Hp) (env : Sls) (Q : Bool → Hp → Prop), RE (C.w M0) ad H σ env →
      (mt env).Wp (fun r => ∀ H', RE (C.w M0) ad H' σ r.2 → Stp (C.w M0) ad H env H' r.2 → Q r.1 H') (Er (C.w M0) ad σ W0) → tt σ H Q)
    (he : ∀ (M0 : Addr → Prop) (ad : Nat → Addr) (σ : L2.St) (H : Hp) (env : Sls) (Q : VK), RE (C.w M0) ad H σ env →
      (me env).Wp (fun r => ∀ v H', RE (C.w M0) ad H' σ r.2 → Stp (C.w M0) ad H env H' r.2 → VR (C.w M0) ad H' σ r.2 r.1 v → Q v H') (Er (C.w M0) ad σ W0) → te σ H Q)
    {M0 : Addr → Prop} {ad : Nat → Addr} {σ : L2.St} {H : Hp} {env : Sls} {Q : VK} (R : RE (C.w M0) ad H σ env)
    (w : (mLc mi vs gv mt me env).Wp (fun r => ∀ a H', H a = none → RE ((C.w M0).add a) ad H' σ r.2 → Stp (C.w M0) ad H env H' r.2 → CellOk C.K H' (Mo ((C.w M0).add a) r.2 ad) r.1 a → Q (.ref a) H') (Er (C.w M0) ad σ W)) : tLc wi g tt te vs σ H Q := by
  unfold mLc at w
  rw [wp_bind] at w
  refine hi M0 ad σ H env _ R (w.imp (fun r w1 J hds H1 R1 S1 Rh Wlk Hz => ?_) fun _ z => z)
  clear w
  obtain ⟨ds, env1⟩ := r
  simp only at w1 R1 S1 Rh Wlk Hz
  split at w1
  · rename_i hw
    intro L hL
    rw [wp_bind] at w1
    have sL : Same H1 (upd H1 L (.lst [])) := same_new hL
    have HL0 : H L = none := by
      cases z : H L with
      | none => rfl
      | some o => exact absurd hL (S1.ext.trk L (by rw [z]; exact fun z => nomatch z))
    have h0L : C.H0 L = none := by
      cases z : C.H0 L with
      | none => rfl
      | some o => exact absurd hL (R1.trk L (by show C.H0 L ≠ none; rw [z]; exact fun z => nomatch z))
    have LnO : ¬ Ow env1 ad L := fun z => R1.mtrk (.inr z) hL
    have RA : RE ((C.w M0).add L) ad (upd H1 L (.lst [])) σ env1 := R1.growAdd sL hL (by rw [upd_same]; exact fun z => nomatch z)
    -- the word: at turn i
    refine ⟨fun i m H => m = ds.length - i ∧ i ≤ ds.length ∧ ∃ (env' : Sls) (acc : List D) (us : List V), RE ((C.w M0).add L) ad H (L2.wipe σ vs) env' ∧ Ext (Ow env1 ad) H1 H ∧ (∀ a, Ow env' ad a → Ow env1 ad a) ∧
        H L = some (.lst us) ∧ RpL C.K H (Mo ((C.w M0).add L) env' ad) acc us ∧ acc.length ≤ i ∧
        (lcL vs gv mt me (ds.drop i) env').Wp (fun q => ∀ H', RE ((C.w M0).add L) ad H' σ (backE env1 q.2 vs) → Ext (Ow env1 ad) H1 H' → (∀ a, Ow (backE env1 q.2 vs) ad a → Ow env1 ad a) →
          CellOk C.K H' (Mo ((C.w M0).add L) (backE env1 q.2 vs) ad) (.lst (acc ++ q.1)) L → Q (.ref L) H') (fun _ => True), ⟨ds.length, by simp, Nat.zero_le _, wipeE env1 vs, [], [], RA.wipe vs, .of_same sL, ow_wipe vs, upd_same, .nil, Nat.le_refl _, ?_⟩, ?_⟩
    · rw [List.drop_zero]
      cases q : lcL vs gv mt me ds (wipeE env1 vs) with
      | ok r =>
        rw [q] at w1
        intro H' R' x' mo' c'
        exact w1 L H' HL0 R' (S1.trans ⟨x', mo'⟩) c'
      | err c => exact True.intro
      | bad => rw [q] at w1; exact w1.elim
    · rintro i m H2 ⟨rfl, hil, env2, acc, us, R2, x2, ow2, hus, rac, hacc, w2⟩
      have Rh2 : RpH C.K H2 (Mo ((C.w M0).add L) env2 ad) hds := Rh.ext (x2.mono fun a z => .inr z) fun b z => by
        rcases mo_add.mp z with z | z
        · exact .inl (z.imp id (ow2 b))
        · exact .inr (z ▸ hL)
      by_cases hlt : i < ds.length
      · have ed : ds[i]? = some ds[i] := List.getElem?_eq_getElem hlt
        have edr : ds.drop i = ds[i] :: ds.drop (i + 1) := List.drop_eq_getElem_cons hlt
        obtain ⟨hgo, hy⟩ := Wlk.go H2 _ i _ (fun a z => R2.mtrk z) Rh2 ed
        rw [edr] at w2
        unfold lcL at w2
        refine .inr ⟨hgo, fun H' => ∃ (env' : Sls) (acc : List D) (us : List V), RE ((C.w M0).add L) ad H' (L2.wipe σ vs) env' ∧ Ext (Ow env1 ad) H1 H' ∧ (∀ a, Ow env' ad a → Ow env1 ad a) ∧
          H' L = some (.lst us) ∧ RpL C.K H' (Mo ((C.w M0).add L) env' ad) acc us ∧ acc.length ≤ i + 1 ∧
          (lcL vs gv mt me (ds.drop (i + 1)) env').Wp (fun q => ∀ H', RE ((C.w M0).add L) ad H' σ (backE env1 q.2 vs) → Ext (Ow env1 ad) H1 H' → (∀ a, Ow (backE env1 q.2 vs) ad a → Ow env1 ad a) →
            CellOk C.K H' (Mo ((C.w M0).add L) (backE env1 q.2 vs) ad) (.lst (acc ++ q.1)) L → Q (.ref L) H') (fun _ => True), fun H' h' => ⟨ds.length - (i + 1), by omega, rfl, hlt, h'⟩, fun x H3 y => ?_⟩
        obtain ⟨s3, rx⟩ := hy x H3 y
        have R3 : RE ((C.w M0).add L) ad H3 (L2.wipe σ vs) env2 := R2.grow s3
        rw [wp_bind] at w2
        refine hg _ ad (L2.wipe σ vs) H3 env2 ds[i] x _ R3 rx ((noE_wp (E' := fun _ => False) w2).imp (fun env3 w3 σ3 R3' ow3 l3 o3 => ?_) fun _ z => z)
        have ew : L2.wipe σ3 vs = L2.wipe σ vs := by
          rw [st_wipe_eq l3 o3]
          exact st_wipe_eq (wipe_length _ _) fun j hj => wipe_out hj
        refine ⟨ew, ?_⟩
        rw [wp_bind] at w3
        refine ht _ ad σ3 H3 env3 _ R3' ((noE_wp (E' := Er ((C.w M0).add L) ad σ3 W0) w3).imp (fun b w4 H4 R4 S4 => ?_) fun _ z => z)
        have x4 : Ext (Ow env1 ad) H2 H4 := (Ext.of_same s3).trans (S4.ext.mono fun a z => ow2 a (ow3 a z))
        have ow4 : ∀ a, Ow b.2 ad a → Ow env1 ad a := fun a z => ow2 a (ow3 a (S4.ow a z))
        have lowM : ∀ {e1 e2 : Sls}, (∀ a, Ow e2 ad a → Ow e1 ad a) → ∀ a, Mo ((C.w M0).add L) e2 ad a → Mo ((C.w M0).add L) e1 ad a := fun h a z => z.imp id (h a)
        split
        · rename_i hb
          rw [if_pos hb, wp_bind] at w4
          refine he _ ad σ3 H4 b.2 _ R4 ((noE_wp (E' := Er ((C.w M0).add L) ad σ3 W0) w4).imp (fun r w5 v H5 R5 S5 V5 => ?_) fun _ z => z)
          rw [wp_bind] at w5
          obtain ⟨_, w6, rv⟩ := kp_rp V5 w5
          have x5 : Ext (Ow env1 ad) H2 H5 := x4.trans (S5.ext.mono ow4)
          have ow5 : ∀ a, Ow r.2 ad a → Ow env1 ad a := fun a z => ow4 a (S5.ow a z)
          have hL5 : H5 L = some (.lst us) := x5.stay L _ hus LnO fun _ z => nomatch z
          obtain ⟨R6, x6⟩ := R5.other (us' := us ++ [v]) (.inr rfl) (fun z => LnO (ow5 L z)) h0L hL5
          have rac5 : RpL C.K H5 (Mo ((C.w M0).add L) r.2 ad) acc us := rac.ext ((Ext.of_same s3).trans ((S4.ext.trans (S5.ext.mono S4.ow)).mono fun a z => .inr (ow3 a z))) fun a z => .inl (z.imp id fun z => ow3 a (S4.ow a (S5.ow a z)))
          refine ⟨us, hL5, by rw [rac5.len]; omega, wipeE r.2 vs, acc ++ [r.1], us ++ [v], by rw [← ew]; exact R6.wipe vs, ?_, fun a z => ow5 a (ow_wipe vs a z), upd_same, ?_, by rw [List.length_append]; exact Nat.succ_le_succ hacc, ?_⟩
          · refine ⟨fun b o e n nt => ?_, fun b xs e => ?_, fun b o u e => ?_, fun b e => ?_⟩
            · rw [upd_ne fun q => by rw [q, hL] at e; cases e]
              exact x5.stay b o (x2.stay b o e n nt) n nt
            · rw [upd_ne fun q => by rw [q, hL] at e; cases e]
              exact x5.tups b xs (x2.tups b xs e)
            · rw [upd_ne fun q => by rw [q, hL] at e; cases e]
              exact x5.frzs b o u (x2.frzs b o u e)
            · rw [upd_ne fun q => by rw [q] at e; exact e hL]
              exact x5.trk b (x2.trk b e)
          · refine ((rac5.append (.one rv)).ext (x6.mono fun b e => ?_) fun a z => .inl (lowM (fun a z => ow_wipe vs a z) a z))
            rw [e]
            exact .inl (.inr rfl)
          · cases q : lcL vs gv mt me (ds.drop (i + 1)) (wipeE r.2 vs) with
            | ok z =>
              rw [q] at w6
              intro H' R' x' m' c'
              exact w6 H' R' x' m' (by rw [List.append_assoc] at c'; exact c')
            | err c => exact True.intro
            | bad => rw [q] at w6; exact w6.elim
        · rename_i hb
          rw [if_neg hb] at w4
          have hL4 : H4 L = some (.lst us) := x4.stay L _ hus LnO fun _ z => nomatch z
          refine ⟨wipeE b.2 vs, acc, us, by rw [← ew]; exact R4.wipe vs, x2.trans x4, fun a z => ow4 a (ow_wipe vs a z), hL4, ?_, Nat.le_succ_of_le hacc, w4⟩
          exact rac.ext ((Ext.of_same s3).trans (S4.ext.mono fun a z => .inr (ow3 a z))) fun a z => .inl (z.imp id fun z => ow3 a (S4.ow a (ow_wipe vs a z)))
      · have ei : i = ds.length := by omega
        subst ei
        rw [List.drop_length] at w2
        refine .inl ⟨Wlk.stop H2 _ Rh2, ?_⟩
        have xb : Ext (Mo ((C.w M0).add L) env1 ad) (upd H1 L (.lst [])) H2 := by
          refine ⟨fun b o e n nt => ?_, fun b xs e => ?_, fun b o u e => ?_, fun b e => ?_⟩
          · rw [upd_ne fun q => n (.inl (.inr q))] at e
            exact x2.stay b o e (fun z => n (.inr z)) nt
          · by_cases q : b = L
            · rw [q, upd_same] at e; cases e
            · rw [upd_ne q] at e; exact x2.tups b xs e
          · by_cases q : b = L
            · rw [q, upd_same] at e; cases e
            · rw [upd_ne q] at e; exact x2.frzs b o u e
          · by_cases q : b = L
            · rw [q, hus]; exact fun z => nomatch z
            · rw [upd_ne q] at e; exact x2.trk b e
        obtain ⟨RB, mb⟩ := RE.back RA xb R2 ow2 hw
        rw [backS_wipe] at RB
        refine w2 H2 RB x2 (fun a z => ow2 a (mb a z)) ⟨?_, us, hus, ?_⟩
        · rw [List.append_nil]; exact Nat.le_trans hacc Hz
        · rw [List.append_nil]
          exact rac.less fun a z => z.imp id (mb a)
  · exact w1.elim
end
end Vm
end
section
set_option maxRecDepth 100000
set_option maxHeartbeats 4000000
/-! Vm, part H: comprehensions as expressions, statements. -/
namespace Vm
open PySem PySem.Spec PyProof.Rows L2

section
variable {X : Cx} {C : Cfg} {W : WX} {k j n : Nat} {a b e : Expr} {es rest : List Expr} {ta tb tc te : TE} {t : TA} {ma mb mc m me : Ev} {ms : Evs} {pos p : Pos} {x : Str} {tg iter elt : Expr}
theorem ef_lc {ifs : List Expr} {scope : Scope} {own : List (Str × Nat)} {wi : TI} {gt : TG} {tt : TT} {mi : Em} {gv : Gv} {mt : Ev1} (g : Gd X C W k) (hi : IM X C W tg iter wi mi) (ok : BlkOk X.N X.env.scope scope own)
    (hg : ∀ (s : Shared) (H : Hp) (L : Addr) (cl : List (Str × Addr)) (fp : List Addr), Gd (X.blk s H scope (compEnvC scope cl L X.env) fp) C W0 k → GM (X.blk s H scope (compEnvC scope cl L X.env) fp) C tg gt (own.map (·.2)) gv)
    (ht : ∀ (s : Shared) (H : Hp) (L : Addr) (cl : List (Str × Addr)) (fp : List Addr), Gd (X.blk s H scope (compEnvC scope cl L X.env) fp) C W0 k → TMs (X.blk s H scope (compEnvC scope cl L X.env) fp) C W0 ifs tt mt)
    (he : ∀ (s : Shared) (H : Hp) (L : Addr) (cl : List (Str × Addr)) (fp : List Addr), Gd (X.blk s H scope (compEnvC scope cl L X.env) fp) C W0 k → EM (X.blk s H scope (compEnvC scope cl L X.env) fp) C W0 elt te me)
    (hs : ∀ x, foldedSetIterable iter X.env x = pure x := by intro _; rfl) :
    EF X C W (.ListComp elt [⟨tg, iter, ifs, 0⟩] scope pos) (tLc wi gt tt te (own.map (·.2))) (mLc mi (own.map (·.2)) gv mt me) :=
  ⟨pe_lc g.calm g.nd hi.pe ok (fun s H L cl fp => (hg s H L cl fp g.blk).pe) (fun s H L cl fp => (ht s H L cl fp g.blk).pe) (fun s H L cl fp => (he s H L cl fp g.blk).pe) hs,
    fun M0 ad σ H env Q R w => lc_sn hi.sn (hg X.s_0 X.H_0 0 [] [] g.blk).sn (ht X.s_0 X.H_0 0 [] [] g.blk).sn (he X.s_0 X.H_0 0 [] [] g.blk).sn R w⟩

/-! ### statements -/
inductive Out where
  | next
  | brk
  | cont
  | ret (d : D)
abbrev Sv := Sls → Res (Out × Sls)
def Keep (C : Cfg) (ad : Nat → Addr) (H : Hp) (env : Sls) (ad' : Nat → Addr) (H' : Hp) (env' : Sls) : Prop := ∀ d v, Rp C.K H (Mo C env ad) d v → Rp C.K H' (Mo C env' ad') d v
theorem Keep.refl {ad : Nat → Addr} {H : Hp} {env : Sls} : Keep C ad H env ad H env := fun _ _ h => h
theorem Keep.trans {ad ad' ad2 : Nat → Addr} {H H' H2 : Hp} {env env' env2 : Sls} (x : Keep C ad H env ad' H' env') (y : Keep C ad' H' env' ad2 H2 env2) : Keep C ad H env ad2 H2 env2 := fun d v h => y d v (x d v h)
theorem Stp.keep {ad : Nat → Addr} {H H' : Hp} {env env' : Sls} (S : Stp C ad H env H' env') : Keep C ad H env ad H' env' := fun _ _ h => S.rp h
def RetOk (C : Cfg) (ad : Nat → Addr) (H : Hp) (σ : L2.St) (env : Sls) (d : D) (v : V) : Prop :=
  match C.fresh with
  | false => RE C ad H σ env ∧ Rp C.K H (Mo C env ad) d v
  | true => (d = .non ∧ v = .non ∧ RE C ad H σ env) ∨ ∃ a, v = .ref a ∧ C.H0 a = none ∧ RE (C.add a) ad H σ env ∧ CellOk C.K H (Mo (C.add a) env ad) d a
def Fin (C : Cfg) (Dn : Ends) (ad : Nat → Addr) (H : Hp) (env : Sls) (r : Out × Sls) : Prop :=
  match r.1 with
  | .next => ∀ ad' σ' H', RE C ad' H' σ' r.2 → Keep C ad H env ad' H' r.2 → Dn.nx σ' H'
  | .brk => ∀ ad' σ' H', RE C ad' H' σ' r.2 → Keep C ad H env ad' H' r.2 → Dn.bk σ' H'
  | .cont => ∀ ad' σ' H', RE C ad' H' σ' r.2 → Keep C ad H env ad' H' r.2 → Dn.ct σ' H'
  | .ret d => ∀ ad' σ' H' v, RetOk C ad' H' σ' r.2 d v → Dn.rt v H'
def ErS (C : Cfg) (W : WX) (c : Str) : Prop := ∀ ad σ cls dd H env', C.mg c = some cls → RE C ad H σ env' → W cls dd σ H
theorem ErS.er {ad : Nat → Addr} {σ : L2.St} {c : Str} (h : ErS C W c) : Er C ad σ W c := fun cls dd H env' hm R => h ad σ cls dd H env' hm R
theorem Fin.mid {Dn : Ends} {ad ad' : Nat → Addr} {H H' : Hp} {env env' : Sls} {r : Out × Sls} (K : Keep C ad H env ad' H' env') (h : Fin C Dn ad H env r) : Fin C Dn ad' H' env' r := by
  obtain ⟨o, e2⟩ := r
  cases o with
  | next => exact fun ad2 σ2 H2 R k2 => h ad2 σ2 H2 R (K.trans k2)
  | brk => exact fun ad2 σ2 H2 R k2 => h ad2 σ2 H2 R (K.trans k2)
  | cont => exact fun ad2 σ2 H2 R k2 => h ad2 σ2 H2 R (K.trans k2)
  | ret d => exact h
structure SM (X : Cx) (C : Cfg) (W : WX) (st : Stmt) (t : TS) (m : Sv) : Prop where
  pe : PS X st t
  sn : ∀ (ad : Nat → Addr) (σ : L2.St) (H : Hp) (env : Sls) (Dn : Ends), RE C ad H σ env → (m env).Wp (Fin C Dn ad H env) (ErS C W) → t Dn σ H
structure SSM (X : Cx) (C : Cfg) (W : WX) (st : List Stmt) (t : TS) (m : Sv) : Prop where
  pe : PSs X st t
  sn : ∀ (ad : Nat → Addr) (σ : L2.St) (H : Hp) (env : Sls) (Dn : Ends), RE C ad H σ env → (m env).Wp (Fin C Dn ad H env) (ErS C W) → t Dn σ H
/-- an expression within a statement -/
theorem EM.st (h : EM X C W e ta m) {ad : Nat → Addr} {σ : L2.St} {H : Hp} {env : Sls} {Q : VK} {α : Type} {f : D × Sls → Res α} {P : α → Prop} (R : RE C ad H σ env)
    (w : (m env >>= f).Wp P (ErS C W)) (hq : ∀ (r : D × Sls) v H', RE C ad H' σ r.2 → Stp C ad H env H' r.2 → VR C ad H' σ r.2 r.1 v → (f r).Wp P (ErS C W) → Q v H') : ta σ H Q := by
  rw [wp_bind] at w
  exact h.sn C.M0 ad σ H env Q R (w.imp (fun r z v H' R' S' V' => hq r v H' R' S' V' z) fun _ z => z.er)
theorem TM.st {t : TT} {m : Ev1} (h : TM X C W e t m) {ad : Nat → Addr} {σ : L2.St} {H : Hp} {env : Sls} {Q : Bool → Hp → Prop} {α : Type} {f : Bool × Sls → Res α} {P : α → Prop} (R : RE C ad H σ env)
    (w : (m env >>= f).Wp P (ErS C W)) (hq : ∀ (r : Bool × Sls) H', RE C ad H' σ r.2 → Stp C ad H env H' r.2 → (f r).Wp P (ErS C W) → Q r.1 H') : t σ H Q := by
  rw [wp_bind] at w
  exact h.sn C.M0 ad σ H env Q R (w.imp (fun r z H' R' S' => hq r H' R' S' z) fun _ z => z.er)
theorem EF.st (h : EF X C W e ta m) {ad : Nat → Addr} {σ : L2.St} {H : Hp} {env : Sls} {Q : VK} {α : Type} {f : D × Sls → Res α} {P : α → Prop} (R : RE C ad H σ env)
    (w : (m env >>= f).Wp P (ErS C W)) (hq : ∀ (r : D × Sls) a H', H a = none → RE (C.add a) ad H' σ r.2 → Stp C ad H env H' r.2 → CellOk C.K H' (Mo (C.add a) r.2 ad) r.1 a → (f r).Wp P (ErS C W) → Q (.ref a) H') : ta σ H Q := by
  rw [wp_bind] at w
  exact h.sn C.M0 ad σ H env Q R (w.imp (fun r z a H' hn R' S' c => hq r a H' hn R' S' c z) fun _ z => z.er)

def mSk : Sv := fun env => .ok (.next, env)
def mSq (m1 m2 : Sv) : Sv := fun env => do
  let r ← m1 env
  match r.1 with
  | .next => m2 r.2
  | o => pure (o, r.2)
theorem ssm_nil : SSM X C W [] tNext mSk := ⟨pss_nil, fun ad σ H env Dn R w => w ad σ H R .refl⟩
theorem ssm_cons {st : Stmt} {sts : List Stmt} {t u : TS} {m1 m2 : Sv} (h1 : SM X C W st t m1) (h2 : SSM X C W sts u m2) : SSM X C W (st :: sts) (tSeq t u) (mSq m1 m2) := by
  refine ⟨pss_cons h1.pe h2.pe, fun ad σ H env Dn R w => ?_⟩
  unfold mSq at w
  rw [wp_bind] at w
  refine h1.sn ad σ H env { Dn with nx := u Dn } R (w.imp (fun r z => ?_) fun _ z => z)
  obtain ⟨o, e2⟩ := r
  cases o with
  | next => exact fun ad' σ' H' R' K' => h2.sn ad' σ' H' e2 Dn R' (Res.Wp.imp z (fun r q => q.mid K') fun _ q => q)
  | brk => exact z
  | cont => exact z
  | ret d => exact z
theorem ssm_one {st : Stmt} {t : TS} {m1 : Sv} (h1 : SM X C W st t m1) : SSM X C W [st] t m1 := ⟨pss_one h1.pe, h1.sn⟩
theorem sm_pass : SM X C W (.Pass pos) tNext mSk := ⟨ps_pass, fun ad σ H env Dn R w => w ad σ H R .refl⟩
def mBrk : Sv := fun env => .ok (.brk, env)
def mCnt : Sv := fun env => .ok (.cont, env)
theorem sm_brk : SM X C W (.Break pos) tBreak mBrk := ⟨ps_break, fun ad σ H env Dn R w => w ad σ H R .refl⟩
theorem sm_cnt : SM X C W (.Continue pos) tCont mCnt := ⟨ps_continue, fun ad σ H env Dn R w => w ad σ H R .refl⟩

/-! name = value -/
def mSet (i : Nat) (m : Ev) : Sv := fun env => do
  let r ← m env
  let d ← kp r.1
  if notPar r.2 i = true then pure (.next, r.2.set i (.t d)) else .bad
theorem set_sn {i : Nat} (h : ∀ (M0 : Addr → Prop) (ad : Nat → Addr) (σ : L2.St) (H : Hp) (env : Sls) (Q : VK), RE (C.w M0) ad H σ env →
      (m env).Wp (fun r => ∀ v H', RE (C.w M0) ad H' σ r.2 → Stp (C.w M0) ad H env H' r.2 → VR (C.w M0) ad H' σ r.2 r.1 v → Q v H') (Er (C.w M0) ad σ W) → ta σ H Q)
    {ad : Nat → Addr} {σ : L2.St} {H : Hp} {env : Sls} {Dn : Ends} (R : RE C ad H σ env) (w : (mSet i m env).Wp (Fin C Dn ad H env) (ErS C W)) : tAsg ta (gName i) Dn σ H := by
  unfold mSet at w
  rw [wp_bind] at w
  refine h C.M0 ad σ H env _ R (w.imp (fun r z v H' R' S' V' => ?_) fun _ z => z.er)
  rw [wp_bind] at z
  obtain ⟨_, z2, rp⟩ := kp_rp V' z
  split at z2
  · exact z2 ad _ H' (RE.setS (C := C) R' rfl ⟨v, rfl, rp⟩) (S'.keep.trans fun d v q => q.less (mo_set rfl))
  · exact z2.elim
theorem sm_set {i : Nat} {x : Str} {pos' : Pos} (g : Gd X C W k) (h : EM X C W e ta m) (hi : X.N[i]? = some x := by rfl) (hx : Loc X.env.scope x := by first | exact .inl rfl | exact .inr rfl) (hs : swapsWith e (some (.Name x pos')) pos.line X.env = pure false := by rfl) (hf : X.fn x = true ∨ X.env.scope.names.lookup x = some .local := by exact .inl rfl) :
    SM X C W (.Assign [.Name x pos'] e pos) (tAsg ta (gName i)) (mSet i m) := ⟨ps_set g.nd hi hx h.pe hs hf, fun ad σ H env Dn R w => set_sn h.sn R w⟩
def mSetL (i : Nat) (m : Ev) : Sv := fun env => do
  let r ← m env
  if notPar r.2 i = true then pure (.next, r.2.set i (.l r.1)) else .bad
theorem notPar_lt {env : Sls} {i : Nat} (h : notPar env i = true) : i < env.length := by
  unfold notPar at h
  cases q : env[i]? with
  | none => rw [q] at h; cases h
  | some s => exact (List.getElem?_eq_some_iff.mp q).1
theorem setL_sn {i : Nat} (h : ∀ (M0 : Addr → Prop) (ad : Nat → Addr) (σ : L2.St) (H : Hp) (env : Sls) (Q : VK), RE (C.w M0) ad H σ env →
      (m env).Wp (fun r => ∀ a H', H a = none → RE ((C.w M0).add a) ad H' σ r.2 → Stp (C.w M0) ad H env H' r.2 → CellOk C.K H' (Mo ((C.w M0).add a) r.2 ad) r.1 a → Q (.ref a) H') (Er (C.w M0) ad σ W) → ta σ H Q)
    {ad : Nat → Addr} {σ : L2.St} {H : Hp} {env : Sls} {Dn : Ends} (R : RE C ad H σ env) (w : (mSetL i m env).Wp (Fin C Dn ad H env) (ErS C W)) : tAsg ta (gName i) Dn σ H := by
  unfold mSetL at w
  rw [wp_bind] at w
  refine h C.M0 ad σ H env _ R (w.imp (fun r z a H' hn R' S' c => ?_) fun _ z => z.er)
  split at z
  · rename_i hp
    have h0 : C.H0 a = none := by
      cases q : C.H0 a with
      | none => rfl
      | some o => exact absurd hn (R.trk a (by rw [q]; exact fun z => nomatch z))
    have hno : ¬ Mo C r.2 ad a := fun q => R.mtrk (S'.mo a q) hn
    have R2 : RE C (adSet ad i a) H' (σ.set i (some (.ref a))) (r.2.set i (.l r.1)) := RE.setL (C := C) R' h0 hno (notPar_lt hp) c
    refine z _ _ H' R2 fun d v q => q.ext S'.extM fun b y => ?_
    rcases y with y | ⟨j, s, e1, o, rfl⟩
    · exact .inl (.inl y)
    · by_cases hj : j = i
      · right
        have : adSet ad i a j = a := by unfold adSet; rw [if_pos hj]
        rw [this]; exact hn
      · rw [List.getElem?_set_ne (Ne.symm hj)] at e1
        have : adSet ad i a j = ad j := by unfold adSet; rw [if_neg hj]
        rw [this]
        exact .inl (S'.mo _ (.inr ⟨j, s, e1, o, rfl⟩))
  · exact z.elim
theorem sm_setL {i : Nat} {x : Str} {pos' : Pos} (g : Gd X C W k) (h : EF X C W e ta m) (hi : X.N[i]? = some x := by rfl) (hx : Loc X.env.scope x := by first | exact .inl rfl | exact .inr rfl) (hs : swapsWith e (some (.Name x pos')) pos.line X.env = pure false := by rfl) (hf : X.fn x = true ∨ X.env.scope.names.lookup x = some .local := by exact .inl rfl) :
    SM X C W (.Assign [.Name x pos'] e pos) (tAsg ta (gName i)) (mSetL i m) := ⟨ps_set g.nd hi hx h.pe hs hf, fun ad σ H env Dn R w => setL_sn h.sn R w⟩
/-- name = [..], the machine's own way of it -/
theorem ps_lc {i : Nat} {y : Str} {py spos : Pos} {ifs : List Expr} {scope : Scope} {own : List (Str × Nat)} {wi : TI} {gt : TG} {tt : TT} {mi : Em} {gv : Gv} {mt : Ev1} (g : Gd X C W k) (hi : IM X C W tg iter wi mi) (ok : BlkOk X.N X.env.scope scope own)
    (hg : ∀ (s : Shared) (H : Hp) (L : Addr) (cl : List (Str × Addr)) (fp : List Addr), Gd (X.blk s H scope (compEnvC scope cl L X.env) fp) C W0 k → GM (X.blk s H scope (compEnvC scope cl L X.env) fp) C tg gt (own.map (·.2)) gv)
    (ht : ∀ (s : Shared) (H : Hp) (L : Addr) (cl : List (Str × Addr)) (fp : List Addr), Gd (X.blk s H scope (compEnvC scope cl L X.env) fp) C W0 k → TMs (X.blk s H scope (compEnvC scope cl L X.env) fp) C W0 ifs tt mt)
    (he : ∀ (s : Shared) (H : Hp) (L : Addr) (cl : List (Str × Addr)) (fp : List Addr), Gd (X.blk s H scope (compEnvC scope cl L X.env) fp) C W0 k → EM (X.blk s H scope (compEnvC scope cl L X.env) fp) C W0 elt te me)
    (hy : X.N[i]? = some y := by rfl) (hyl : X.env.scope.names.lookup y = some .local := by rfl) (hsw : swapsWith (.ListComp elt [⟨tg, iter, ifs, 0⟩] scope pos) (some (.Name y py)) spos.line X.env = pure true := by exact sw_true rfl rfl rfl (by decide +kernel)) (hs : ∀ x, foldedSetIterable iter X.env x = pure x := by intro _; rfl) :
    PS X (.Assign [.Name y py] (.ListComp elt [⟨tg, iter, ifs, 0⟩] scope pos) spos) (tAsg (tLc wi gt tt te (own.map (·.2))) (gName i)) :=
  ps_setLc g.calm g.nd hy hyl hsw hi.pe ok (fun s H L cl fp => (hg s H L cl fp g.blk).pe) (fun s H L cl fp => (ht s H L cl fp g.blk).pe) (fun s H L cl fp => (he s H L cl fp g.blk).pe) hs
theorem sm_lcL {i : Nat} {st : Stmt} (hp : PS X st (tAsg ta (gName i))) (h : EF X C W e ta m) : SM X C W st (tAsg ta (gName i)) (mSetL i m) := ⟨hp, fun ad σ H env Dn R w => setL_sn h.sn R w⟩
theorem sm_lc {i : Nat} {st : Stmt} (hp : PS X st (tAsg ta (gName i))) (h : EM X C W e ta m) : SM X C W st (tAsg ta (gName i)) (mSet i m) := ⟨hp, fun ad σ H env Dn R w => set_sn h.sn R w⟩
/-- a, b = value -/
def mUnp (gv : Gv) (m : Ev) : Sv := fun env => do
  let r ← m env
  let d ← kp r.1
  let e ← noE (gv d r.2)
  pure (.next, e)
theorem sm_unp {gt : TG} {vs : List Nat} {gv : Gv} (h : EM X C W e ta m) (hg : GM X C tg gt vs gv) (hs : swapsWithSole [tg] e pos.line X.env = pure false := by rfl) (hw : swappedStores [tg] e X.env = pure none := by rfl)
    (h1 : (assignEach [tg] X.env).map (·.2) = [assign tg X.env] := by rfl) : SM X C W (.Assign [tg] e pos) (tAsg ta gt) (mUnp gv m) := by
  refine ⟨ps_asg h.pe hg.pe hs hw h1, fun ad σ H env Dn R w => ?_⟩
  unfold mUnp at w
  refine h.st R w fun r v H' R' S' V' z => ?_
  rw [wp_bind] at z
  obtain ⟨_, z2, rp⟩ := kp_rp V' z
  rw [wp_bind] at z2
  refine hg.sn C.M0 ad σ H' r.2 r.1 v _ R' rp ((noE_wp (E' := fun _ => False) z2).imp (fun env3 w3 σ3 R3 ow3 l3 o3 => ?_) fun _ z => z)
  exact w3 ad σ3 H' R3 (S'.keep.trans fun d v q => q.less fun a y => y.imp id (ow3 a))
/-- an expression for its effect -/
def mExp (m : Ev) : Sv := fun env => do
  let r ← m env
  pure (.next, r.2)
theorem sm_expr (h : EM X C W e ta m) (hs : swapsWith e none pos.line X.env = pure false := by rfl) : SM X C W (.Expr e pos) (tDrop ta) (mExp m) := by
  refine ⟨ps_expr h.pe hs, fun ad σ H env Dn R w => ?_⟩
  unfold mExp at w
  exact h.st R w fun r v H' R' S' V' z => z ad σ H' R' S'.keep
theorem sm_doc {y : Str} {j : Nat} {p2 : Pos} : SM X C W (.Expr (.Constant (.str y) j p2) pos) tNext mSk := ⟨ps_doc, fun ad σ H env Dn R w => w ad σ H R .refl⟩
def mIfS (mt : Ev1) (m1 m2 : Sv) : Sv := fun env => do
  let r ← mt env
  if r.1 = true then m1 r.2 else m2 r.2
theorem sm_if {c : Expr} {s1 s2 : List Stmt} {tc : TT} {mt : Ev1} {t u : TS} {m1 m2 : Sv} (hc : TM X C W c tc mt) (h1 : SSM X C W s1 t m1) (h2 : SSM X C W s2 u m2) : SM X C W (.If c s1 s2 pos) (tIfS tc t u) (mIfS mt m1 m2) := by
  refine ⟨ps_if hc.pe h1.pe h2.pe, fun ad σ H env Dn R w => ?_⟩
  unfold mIfS at w
  refine hc.st R w fun r H' R' S' z => ?_
  split
  · rename_i hb
    rw [if_pos hb] at z
    exact h1.sn ad σ H' r.2 Dn R' (z.imp (fun q y => y.mid S'.keep) fun _ y => y)
  · rename_i hb
    rw [if_neg hb] at z
    exact h2.sn ad σ H' r.2 Dn R' (z.imp (fun q y => y.mid S'.keep) fun _ y => y)
/-- return -/
def mRet (m : Ev) : Sv := fun env => do
  let r ← m env
  let d ← kp r.1
  pure (.ret d, r.2)
theorem sm_ret (h : EM X C W e ta m) (hf : C.fresh = false := by rfl) : SM X C W (.Return (some e) pos) (tRet ta) (mRet m) := by
  refine ⟨ps_ret h.pe, fun ad σ H env Dn R w => ?_⟩
  unfold mRet at w
  refine h.st R w fun r v H' R' S' V' z => ?_
  rw [wp_bind] at z
  obtain ⟨_, z2, rp⟩ := kp_rp V' z
  refine z2 ad σ H' v ?_
  unfold RetOk
  rw [hf]
  exact ⟨R', rp⟩
theorem sm_retF (h : EF X C W e ta m) (hf : C.fresh = true := by rfl) : SM X C W (.Return (some e) pos) (tRet ta) (mRet m) := by
  refine ⟨ps_ret h.pe, fun ad σ H env Dn R w => ?_⟩
  unfold mRet at w
  refine h.st R w fun r a H' hn R' S' c z => ?_
  rw [wp_bind] at z
  have hk : kp r.1 = .ok r.1 := by
    cases q : r.1 with
    | own i => rw [q] at c; exact c.elim
    | _ => rfl
  rw [hk] at z
  refine z ad σ H' (.ref a) ?_
  unfold RetOk
  rw [hf]
  refine .inr ⟨a, rfl, ?_, R', c⟩
  cases q : C.H0 a with
  | none => rfl
  | some o => exact absurd hn (R.trk a (by rw [q]; exact fun z => nomatch z))
def mRetN : Sv := fun env => .ok (.ret .non, env)
theorem sm_retN (hf : C.fresh = false := by rfl) : SM X C W (.Return none pos) tRetN mRetN := by
  refine ⟨ps_retN, fun ad σ H env Dn R w => w ad σ H .non ?_⟩
  unfold RetOk
  rw [hf]
  exact ⟨R, .non⟩
/-- .. of a def that hands back a new list, or None -/
theorem sm_retNG (hf : C.fresh = true := by rfl) : SM X C W (.Return none pos) tRetN mRetN := by
  refine ⟨ps_retN, fun ad σ H env Dn R w => w ad σ H .non ?_⟩
  unfold RetOk
  rw [hf]
  exact .inl ⟨rfl, rfl, R⟩
theorem sm_retNG1 {j : Nat} {p2 : Pos} (hf : C.fresh = true := by rfl) : SM X C W (.Return (some (.Constant .none j p2)) pos) (tRet (tC .non)) mRetN := by
  refine ⟨ps_ret pe_non, fun ad σ H env Dn R w => w ad σ H .non ?_⟩
  unfold RetOk
  rw [hf]
  exact .inl ⟨rfl, rfl, R⟩
/-- return of the def's own list -/
def mRetL (i : Nat) : Sv := fun env =>
  match env[i]? with
  | some (.l d) => .ok (.ret d, env.set i .u)
  | _ => .bad
theorem sm_retL (i : Nat) {x : Str} {p2 : Pos} (hN : X.N[i]? = some x := by rfl) (hv : Vis X.env.scope x := by first | exact Or.inl rfl | exact Or.inr (Or.inl rfl) | exact Or.inr (Or.inr rfl)) (hd : (x == ("__debug__" : Str)) = false := by decide)
    (hcd : (x == ("__classdict__" : Str)) = false := by decide) (hf : C.fresh = true := by rfl) : SM X C W (.Return (some (.Name x p2)) pos) (tRet (tVar i)) (mRetL i) := by
  refine ⟨ps_ret (pe_var hN hv hd hcd), fun ad σ H env Dn R w => ?_⟩
  unfold mRetL at w
  cases q : env[i]? with
  | none => rw [q] at w; exact w.elim
  | some s =>
    rw [q] at w
    cases s with
    | l d =>
      have hi : i < env.length := (List.getElem?_eq_some_iff.mp q).1
      obtain ⟨d0, hd0, hσ, c0⟩ := R.cell q rfl
      have e0 : d0 = d := by rcases hd0 with z | z | z <;> cases z; rfl
      subst e0
      refine ⟨.ref (ad i), hσ, w ad (σ.set i none) H _ ?_⟩
      unfold RetOk
      rw [hf]
      have hM : Mo C env ad (ad i) := .inr ⟨i, _, q, rfl, rfl⟩
      have lo : ∀ b, Mo (C.add (ad i)) (env.set i .u) ad b → Mo C env ad b := fun b z => by
        rcases mo_add.mp z with z | z
        · exact mo_set rfl b z
        · exact z ▸ hM
      have RA : RE (C.add (ad i)) ad H (σ.set i none) (env.set i .u) := by
        have R2 := RE.setS R (i := i) (s := .u) (v := none) rfl True.intro
        refine ⟨R2.len, fun j s e => ?_, R2.inj, fun j f e => ⟨(R2.loc j f e).1, fun z => ?_⟩, R2.par, R2.same, R2.frk, R2.trk, (fun b z => z.elim (R2.m0 b) fun z => z ▸ c0.trk), R2.tabs⟩
        · by_cases hj : i = j
          · subst hj
            rw [List.getElem?_set_self hi] at e
            cases e
            trivial
          · rw [List.getElem?_set_ne hj] at e ⊢
            exact SlOk.ext (C := C) (R.sl j s e) (fun _ => rfl) .refl fun b z => .inl (lo b z)
        · rcases z with z | z
          · exact (R2.loc j f e).2 z
          · have e' : ∃ s : Sl, env[j]? = some s ∧ s.isOwn = true ∧ j ≠ i := by
              by_cases hj : i = j
              · subst hj
                rw [List.getElem?_set_self hi] at e
                rcases e with e | e <;> cases e
              · rw [List.getElem?_set_ne hj] at e
                rcases e with e | e
                · exact ⟨_, e, rfl, fun z => hj z.symm⟩
                · exact ⟨_, e, rfl, fun z => hj z.symm⟩
            obtain ⟨s, e1, e2, e3⟩ := e'
            exact e3 (R.inj _ _ _ _ e1 q e2 rfl z)
      exact .inr ⟨ad i, rfl, (R.loc i d0 (.inl q)).1, RA, c0.ext rfl .refl fun b z => .inl (lo b z)⟩
    | _ => exact w.elim
/-- raise X('..') -/
structure ExF (K : PySem.W.Frag) (mg : Str → Option Value) (x : Str) : Prop where
  ex : ∃ C : Addr, mg x = some (.ref C) ∧ PySem.W.excIn K C [.type "ValueError", .type "Exception", .type "BaseException", .type "object"] "ValueError.__new__" = true ∧ PySem.W.keepIn K (.ref C) = true ∧
    PySem.W.subIn K (.ref C) (.type "BaseException") = some true ∧ PySem.W.typeIn K (.ref C) = some (.type "type")
def mRai (x : Str) : Sv := fun _ => .err x
theorem sm_raise {x m : Str} {j : Nat} {p2 p3 p4 : Pos} (g : Gd X C W k) (F : ExF X.K X.mg x) (hg : Gl X x := by rfl) (hdb : (x == ("__debug__" : Str)) = false := by decide) :
    ∃ t, SM X C W (.Raise (some (.Call (.Name x p2) [.Constant (.str m) j p3] [] p4)) none pos) t (mRai x) := by
  obtain ⟨A, gC, q, kC, hsub, hty⟩ := F.ex
  refine ⟨_, ps_raise g.calm g.tk (pmk_own PySem.F.excBase_ValueError q gC kC (raises_own hsub hty) hg hdb), fun ad σ H env Dn R w => ?_⟩
  exact w ad σ (.ref A) none H env (by rw [← g.mE]; exact gC) R
/-- for -/
def forL (gv : Gv) (b : Sv) : List D → Sls → Res (Out × Sls)
  | [], env => .ok (.next, env)
  | d :: ds, env => do
    let e1 ← noE (gv d env)
    let r ← b e1
    match r.1 with
    | .next => forL gv b ds r.2
    | .cont => forL gv b ds r.2
    | .brk => pure (.next, r.2)
    | .ret d => pure (.ret d, r.2)
def mFor (mi : Em) (gv : Gv) (b : Sv) : Sv := fun env => do
  let r ← mi env
  forL gv b r.1 r.2
theorem sm_for {body : List Stmt} {wi : TI} {gt : TG} {vs : List Nat} {tb : TS} {mi : Em} {gv : Gv} {mb : Sv} (g : Gd X C W k) (hi : IM X C W tg iter wi mi) (hg : GM X C tg gt vs gv) (hb : SSM X C W body tb mb)
    (hp : PassesOwn (model X.prog X.w) X.A X.env X.xe := by exact passes_of rfl) (hs : ∀ x, foldedSetIterable iter X.env x = pure x := by intro _; rfl) : SM X C W (.For tg iter body [] pos) (tFor wi gt tb) (mFor mi gv mb) := by
  refine ⟨ps_for hp g.calm hi.pe hg.pe hb.pe hs, fun ad σ H env Dn R w => ?_⟩
  unfold mFor at w
  rw [wp_bind] at w
  refine hi.sn C.M0 ad σ H env _ R (w.imp (fun r w1 J hds H1 R1 S1 Rh Wlk Hz => ?_) fun _ z => z.er)
  clear w
  obtain ⟨ds, env1⟩ := r
  simp only at w1 R1 S1 Rh Wlk Hz
  have K1 : Keep C ad H env ad H1 env1 := Stp.keep (C := C) S1
  refine ⟨fun i m σ2 H2 => m = ds.length - i ∧ i ≤ ds.length ∧ ∃ (ad2 : Nat → Addr) (env2 : Sls), RE C ad2 H2 σ2 env2 ∧ Keep C ad H env ad2 H2 env2 ∧ Keep C ad H1 env1 ad2 H2 env2 ∧ (forL gv mb (ds.drop i) env2).Wp (Fin C Dn ad H env) (ErS C W),
    ⟨ds.length, by simp, Nat.zero_le _, ad, env1, R1, K1, .refl, by rw [List.drop_zero]; exact w1⟩, ?_⟩
  rintro i m σ2 H2 ⟨rfl, hil, ad2, env2, R2, K2, K3, w2⟩
  have Rh2 : RpH C.K H2 (Mo C env2 ad2) hds := fun p hp => K3 p.1 p.2 (Rh p hp)
  by_cases hlt : i < ds.length
  · have ed : ds[i]? = some ds[i] := List.getElem?_eq_getElem hlt
    have edr : ds.drop i = ds[i] :: ds.drop (i + 1) := List.drop_eq_getElem_cons hlt
    obtain ⟨hgo, hy⟩ := Wlk.go H2 _ i _ (fun a z => R2.mtrk z) Rh2 ed
    rw [edr] at w2
    unfold forL at w2
    rw [wp_bind] at w2
    refine .inr ⟨hgo, fun σ3 H3 => ∃ (ad3 : Nat → Addr) (env3 : Sls), RE C ad3 H3 σ3 env3 ∧ Keep C ad H env ad3 H3 env3 ∧ Keep C ad H1 env1 ad3 H3 env3 ∧ (forL gv mb (ds.drop (i + 1)) env3).Wp (Fin C Dn ad H env) (ErS C W),
      fun σ3 H3 h3 => ⟨ds.length - (i + 1), by omega, rfl, hlt, h3⟩, fun x H3 y => ?_⟩
    obtain ⟨s3, rx⟩ := hy x H3 y
    have R3 : RE C ad2 H3 σ2 env2 := R2.grow s3
    have K4 : Keep C ad2 H2 env2 ad2 H3 env2 := Stp.keep (.grow s3)
    refine hg.sn C.M0 ad2 σ2 H3 env2 ds[i] x _ R3 rx ((noE_wp (E' := fun _ => False) w2).imp (fun env4 w4 σ4 R4 ow4 _ _ => ?_) fun _ z => z)
    have K5 : Keep C ad2 H2 env2 ad2 H3 env4 := K4.trans fun d v q => q.less fun a z => z.imp id (ow4 a)
    rw [wp_bind] at w4
    refine hb.sn ad2 σ4 H3 env4 _ R4 (w4.imp (fun r z => ?_) fun _ z => z)
    obtain ⟨o, e5⟩ := r
    cases o with
    | next => exact fun ad' σ' H' R' K' => ⟨ad', e5, R', (K2.trans K5).trans K', (K3.trans K5).trans K', z⟩
    | cont => exact fun ad' σ' H' R' K' => ⟨ad', e5, R', (K2.trans K5).trans K', (K3.trans K5).trans K', z⟩
    | brk => exact fun ad' σ' H' R' K' => z ad' σ' H' R' ((K2.trans K5).trans K')
    | ret d => exact z
  · have ei : i = ds.length := by omega
    subst ei
    rw [List.drop_length] at w2
    exact .inl ⟨Wlk.stop H2 _ Rh2, w2 ad2 σ2 H2 R2 K2⟩
/-- while -/
def whL (mt : Ev1) (mb : Sv) : Nat → Sls → Res (Out × Sls)
  | 0, _ => .bad
  | n + 1, env => do
    let b ← mt env
    if b.1 = true then do
      let r ← mb b.2
      match r.1 with
      | .next => whL mt mb n r.2
      | .cont => whL mt mb n r.2
      | .brk => pure (.next, r.2)
      | .ret d => pure (.ret d, r.2)
    else pure (.next, b.2)
def mWh (f : Sls → Nat) (mt : Ev1) (mb : Sv) : Sv := fun env => whL mt mb (f env) env
theorem sm_while {c : Expr} {body : List Stmt} {tc : TT} {tb : TS} {mt : Ev1} {mb : Sv} (f : Sls → Nat) (hc : TM X C W c tc mt) (hb : SSM X C W body tb mb) (hp : PassesOwn (model X.prog X.w) X.A X.env X.xe := by exact passes_of rfl) : SM X C W (.While c body [] pos) (tWhile tc tb) (mWh f mt mb) := by
  refine ⟨ps_while hp hc.pe hb.pe, fun ad σ H env Dn R w => ?_⟩
  refine ⟨fun m σ2 H2 => ∃ (ad2 : Nat → Addr) (env2 : Sls), RE C ad2 H2 σ2 env2 ∧ Keep C ad H env ad2 H2 env2 ∧ (whL mt mb m env2).Wp (Fin C Dn ad H env) (ErS C W), ⟨f env, ad, env, R, .refl, w⟩, ?_⟩
  rintro m σ2 H2 ⟨ad2, env2, R2, K2, w2⟩
  cases m with
  | zero => exact w2.elim
  | succ n =>
    unfold whL at w2
    refine hc.st R2 w2 fun r H3 R3 S3 z => ?_
    split
    · rename_i hb'
      rw [if_pos hb', wp_bind] at z
      refine ⟨fun σ4 H4 => ∃ (ad4 : Nat → Addr) (env4 : Sls), RE C ad4 H4 σ4 env4 ∧ Keep C ad H env ad4 H4 env4 ∧ (whL mt mb n env4).Wp (Fin C Dn ad H env) (ErS C W), fun σ4 H4 h4 => ⟨n, Nat.lt_succ_self n, h4⟩, ?_⟩
      refine hb.sn ad2 σ2 H3 r.2 _ R3 (z.imp (fun q y => ?_) fun _ y => y)
      obtain ⟨o, e5⟩ := q
      cases o with
      | next => exact fun ad' σ' H' R' K' => ⟨ad', e5, R', (K2.trans S3.keep).trans K', y⟩
      | cont => exact fun ad' σ' H' R' K' => ⟨ad', e5, R', (K2.trans S3.keep).trans K', y⟩
      | brk => exact fun ad' σ' H' R' K' => y ad' σ' H' R' ((K2.trans S3.keep).trans K')
      | ret d => exact y
    · rename_i hb'
      rw [if_neg hb'] at z
      exact z ad2 σ2 H3 R3 (K2.trans S3.keep)
end
end Vm
end
section
set_option maxRecDepth 100000
set_option maxHeartbeats 4000000
/-! Vm, part I: o[i] = v, defs, the law's end. -/
namespace Vm
open PySem PySem.Spec PyProof.Rows L2

section
variable {X : Cx} {C : Cfg} {W : WX} {k j n : Nat} {a b e : Expr} {es rest : List Expr} {ta tb tc te : TE} {t : TA} {ma mb mc m me : Ev} {ms : Evs} {pos p : Pos} {x : Str} {tg iter elt : Expr}
def rSetA : TSet := fun o i v H Q => rSetL o i v H Q ∨ rSetD o i v H Q
theorem set_any (hr : Room k X.A) : PSet X rSetA := by
  intro pins s σ H o i v ov iv u Q I ro ri rv h
  rcases h with h | h
  · exact set_list pins s σ H o i v ov iv u Q I ro ri rv h
  · exact set_dict (hu_of hr) pins s σ H o i v ov iv u Q I ro ri rv h
def putAt (c y d : D) : Res D := match c with
  | .lst ds => (match y with
    | .int i => (match ixN ds.length i with
      | some j => .ok (.lst (ds.set j d))
      | none => .bad)
    | _ => .bad)
  | .dic ds => (match dkey y with
    | some k => if ds.length < sizeLine then .ok (.dic (putD ds k d)) else .bad
    | none => .bad)
  | _ => .bad
def mPut (i : Nat) (mi mv : Ev) : Sv := fun env => do
  let r1 ← mv env
  let d ← kp r1.1
  match r1.2[i]?.bind Sl.con with
  | some _ => do
    let r2 ← mi r1.2
    let y ← rs r2.2 r2.1
    match r2.2[i]? with
    | some s => (match s.con with
      | some c => (match putAt c y d with
        | .ok c' => pure (.next, r2.2.set i (s.put c'))
        | _ => .bad)
      | none => .bad)
    | none => .bad
  | none => .bad
theorem length_putD {κ : Type} [DecidableEq κ] (ds : List (κ × D)) (k : κ) (d : D) : (putD ds k d).length ≤ ds.length + 1 := by
  unfold putD
  split
  · rw [List.length_map]; omega
  · rw [List.length_append]; exact Nat.le_refl _
theorem sm_put (i : Nat) {y : Str} {py p2 : Pos} {ei ev : Expr} {ti tv : TE} {mi mv : Ev} (g : Gd X C W k) (hi : EM X C W ei ti mi) (hv : EM X C W ev tv mv) (hN : X.N[i]? = some y := by rfl) (hvi : Vis X.env.scope y := by first | exact Or.inl rfl | exact Or.inr (Or.inl rfl) | exact Or.inr (Or.inr rfl)) (hd : (y == ("__debug__" : Str)) = false := by decide)
    (hcd : (y == ("__classdict__" : Str)) = false := by decide)
    (ha : ∀ v, assign (.Subscript (.Name y py) ei p2) X.env v = (do
      let ov ← holding [v] (eval (.Name y py) X.env)
      let iv ← holding [v, ov] (eval ei X.env)
      standAt p2
      holding [v, ov, iv] (setItem ov iv v)
      release [v, ov, iv] []) := by intro _; rfl)
    (hs : swapsWithSole [.Subscript (.Name y py) ei p2] ev pos.line X.env = pure false := by rfl) (hw : swappedStores [.Subscript (.Name y py) ei p2] ev X.env = pure none := by rfl)
    (h1 : (assignEach [.Subscript (.Name y py) ei p2] X.env).map (·.2) = [assign (.Subscript (.Name y py) ei p2) X.env] := by rfl) :
    SM X C W (.Assign [.Subscript (.Name y py) ei p2] ev pos) (tAsg tv (gSub (tVar i) ti rSetA)) (mPut i mi mv) := by
  refine ⟨ps_asg hv.pe (pg_sub (pe_var hN hvi hd hcd) hi.pe (set_any g.room) ha) hs hw h1, fun ad σ H env Dn R w => ?_⟩
  unfold mPut at w
  refine hv.st R w fun r1 v H1 R1 S1 V1 w1 => ?_
  rw [wp_bind] at w1
  obtain ⟨_, w2, rv⟩ := kp_rp V1 w1
  cases z : r1.2[i]? with
  | none => rw [z] at w2; exact w2.elim
  | some s0 =>
    rw [z] at w2
    simp only [Option.bind_some] at w2
    cases zc : s0.con with
    | none => rw [zc] at w2; exact w2.elim
    | some c0 =>
      rw [zc] at w2
      obtain ⟨hσ, _⟩ := R1.con z zc
      refine ⟨.ref (ad i), hσ, ?_⟩
      refine hi.st R1 w2 fun r2 iv H2 R2 S2 V2 w3 => ?_
      rw [wp_bind] at w3
      obtain ⟨y', _, w4, ry⟩ := R2.rs V2 w3
      cases z2 : r2.2[i]? with
      | none => rw [z2] at w4; exact w4.elim
      | some s =>
        rw [z2] at w4
        simp only at w4
        cases zc2 : s.con with
        | none => rw [zc2] at w4; exact w4.elim
        | some c =>
          rw [zc2] at w4
          simp only at w4
          obtain ⟨_, hc⟩ := R2.con z2 zc2
          have rv2 : Rp C.K H2 (Mo C r2.2 ad) r1.1 v := S2.rp rv
          have hM : Ow r2.2 ad (ad i) := ⟨i, s, z2, Sl.isMut.own (Sl.con_mut zc2), rfl⟩
          have ck := hc.kind
          have xt : ∀ o, Ext (Mo C r2.2 ad) H2 (upd H2 (ad i) o) := fun o => by
            refine ⟨fun b o e hn _ => by rw [upd_ne (fun q : b = ad i => hn (.inr (q ▸ hM)))]; exact e, fun b xs e => ?_, fun b o u e => ?_, fun b e => ?_⟩
            · by_cases q : b = ad i
              · rw [q] at e; exact absurd e (ck.1 xs)
              · rw [upd_ne q]; exact e
            · by_cases q : b = ad i
              · rw [q] at e; exact absurd e (ck.2 _ _)
              · rw [upd_ne q]; exact e
            · by_cases q : b = ad i
              · rw [q, upd_same]; exact fun z => nomatch z
              · rw [upd_ne q]; exact e
          have kk : ∀ o' b o, H2 b = some o → b ≠ ad i → upd H2 (ad i) o' b = some o := fun o' b o e hb => by rw [upd_ne hb]; exact e
          cases c with
          | lst ds =>
            cases y' with
            | int q =>
              rw [ry.int_inv]
              simp only [putAt] at w4
              cases qx : ixN ds.length q with
              | none => rw [qx] at w4; exact w4.elim
              | some j =>
                rw [qx] at w4
                obtain ⟨z3, us, hu, ru⟩ := hc
                refine .inl ⟨ad i, us, q, j, rfl, rfl, hu, by rw [ru.len]; exact qx, ?_⟩
                obtain ⟨R3, S3⟩ := R2.put (d := .lst (ds.set j r1.1)) (H' := upd H2 (ad i) (.lst (us.set j v))) z2 (Sl.con_mut zc2) (kk _) ⟨by rw [List.length_set]; exact z3, _, upd_same, (ru.set j rv2).ext (xt _) fun b q => .inl q⟩
                exact w4 ad σ _ R3 ((S1.trans S2).trans S3).keep
            | _ => exact w4.elim
          | dic ds =>
            simp only [putAt] at w4
            cases qk : dkey y' with
            | none => rw [qk] at w4; exact w4.elim
            | some kk' =>
              rw [qk] at w4
              simp only at w4
              by_cases hz : ds.length < sizeLine
              · rw [if_pos hz] at w4
                obtain ⟨z3, us, hu, ru⟩ := hc
                refine .inr ⟨ad i, _, rfl, .inl ⟨us, kk', hu, dkey_v qk ry, by rw [ru.len]; exact hz, rfl⟩, ?_⟩
                obtain ⟨R3, S3⟩ := R2.put (d := .dic (putD ds kk' r1.1)) (H' := upd H2 (ad i) (.dK (putK us kk' v))) z2 (Sl.con_mut zc2) (kk _) ⟨Nat.le_trans (length_putD _ _ _) hz, _, upd_same, (ru.put rv2).ext (xt _) fun b q => .inl q⟩
                exact w4 ad σ _ R3 ((S1.trans S2).trans S3).keep
              · rw [if_neg hz] at w4
                exact w4.elim
          | _ => exact w4.elim
end

/-! ### defs -/
abbrev mkC (K : PySem.W.Frag) (T : List (Addr × Str)) (mg : Str → Option Value) (H0 : Hp) (M0 fr : Addr → Prop) (pa : Nat → Addr) (fresh : Bool) : Cfg := ⟨K, mg, H0, M0, fr, pa, fresh, T⟩
/-- a def's body follows the mirror m -/
def Body (P : Program) (w : World) (K : PySem.W.Frag) (T : List (Addr × Str)) (mg : Str → Option Value) (base : Heap) (N : List Str) (qual : Str) (st : Stmt) (k : Nat) (fresh : Bool) (m : Sv) : Prop :=
  ∀ (f : Addr) (cdv : Value) (A : Around) (outer : List Env) (s : Shared) (H : Hp) (E : XK) (M0 fr : Addr → Prop) (pa : Nat → Addr),
    Gd (cxOf (L2.CX P w) P w K mg base N qual (defScope st) f cdv A outer s H E) (mkC K T mg H M0 fr pa fresh) (fun cls d _ H' => E cls d H') k →
    ∃ t, SSM (cxOf (L2.CX P w) P w K mg base N qual (defScope st) f cdv A outer s H E) (mkC K T mg H M0 fr pa fresh) (fun cls d _ H' => E cls d H') (defBody st) t m
def envOf (n : Nat) (ds : List D) : Sls := ds.map Sl.t ++ List.replicate (n - ds.length) .u
def run (n : Nat) (m : Sv) (ds : List D) : Res D :=
  match m (envOf n ds) with
  | .ok (.ret d, _) => .ok d
  | .ok (.next, _) => .ok .non
  | .ok _ => .bad
  | .err c => .err c
  | .bad => .bad
def noneD (d : D) : Bool := match d with
  | .non => true
  | _ => false
def runF (n : Nat) (m : Sv) (ds : List D) : Res D :=
  match m (envOf n ds) with
  | .ok (.ret d, _) => if noneD d = true then .bad else .ok d
  | .ok _ => .bad
  | .err c => .err c
  | .bad => .bad
/-- a new list, or None -/
def runG (n : Nat) (m : Sv) (ds : List D) : Res D :=
  match m (envOf n ds) with
  | .ok (.ret d, _) => .ok d
  | .ok (.next, _) => .ok .non
  | .ok _ => .bad
  | .err c => .err c
  | .bad => .bad
def envJ (n : Nat) (j : D) (ds : List D) : Sls := .p j :: (ds.map Sl.t ++ List.replicate (n - ds.length - 1) .u)
def runJ (n : Nat) (m : Sv) (j : D) (ds : List D) : Res (D × D) :=
  match m (envJ n j ds) with
  | .ok (.ret d, e) => (match (e[0]? : Option Sl) with
    | some (.p j') => .ok (d, j')
    | _ => .bad)
  | .ok (.next, e) => (match (e[0]? : Option Sl) with
    | some (.p j') => .ok (.non, j')
    | _ => .bad)
  | _ => .bad
section
variable {P : Program} {w : World} {K : PySem.W.Frag} {mg : Str → Option Value} {base : Heap} {x : Str} {st : Stmt} {f : Addr} {fd : FuncData} {N ps : List Str} {k n : Nat} {m : Sv}
theorem re_start {T : List (Addr × Str)} {H : Hp} {M : Addr → Prop} {ds : List D} {vs : List V} {fresh : Bool} (hl : ds.length ≤ N.length) (tk : ∀ a, M a → H a ≠ none) (ht : LamX.Tabs T H) (r : RpL K H M ds vs) :
    RE (mkC K T mg H M (fun _ => False) (fun _ => 0) fresh) (fun _ => 0) H (L2.start N vs) (envOf N.length ds) := by
  have noOw : ∀ (i : Nat) (s : Sl), (envOf N.length ds)[i]? = some s → s.isOwn = false := fun i s e => by
    have := List.mem_of_getElem? e
    unfold envOf at this
    rcases List.mem_append.mp this with q | q
    · obtain ⟨d, _, rfl⟩ := List.mem_map.mp q; rfl
    · rw [(List.mem_replicate.mp q).2]; rfl
  have moM : ∀ b, Mo (mkC K T mg H M (fun _ => False) (fun _ => 0) fresh) (envOf N.length ds) (fun _ => 0) b → M b := fun b z => by
    rcases z with z | ⟨i, s, e, o, _⟩
    · exact z
    · rw [noOw i s e] at o; cases o
  refine ⟨?_, fun i s e => ?_, fun i j s t e _ o _ _ => (by rw [noOw i s e] at o; cases o), fun i d e => ?_, fun i d e => (by cases noOw i _ e), fun b o e _ _ => e, fun b h => h.elim, fun b h => h, tk, ht⟩
  · unfold L2.start envOf
    simp only [List.length_append, List.length_map, List.length_replicate, r.len]
  · unfold envOf at e
    by_cases hi : i < ds.length
    · rw [List.getElem?_append_left (by rw [List.length_map]; exact hi), List.getElem?_map, List.getElem?_eq_getElem hi] at e
      cases e
      have hv : i < vs.length := by rw [r.len]; exact hi
      refine ⟨vs[i], ?_, (r.item i _ _ (List.getElem?_eq_getElem hi) (List.getElem?_eq_getElem hv)).less moM⟩
      unfold L2.start
      rw [List.getElem?_append_left (by rw [List.length_map]; exact hv), List.getElem?_map, List.getElem?_eq_getElem hv]
      rfl
    · rw [List.getElem?_append_right (by rw [List.length_map]; omega)] at e
      have := List.mem_of_getElem? e
      rw [(List.mem_replicate.mp this).2]
      trivial
  · rcases e with e | e <;> cases noOw i _ e
theorem gd_of {T : List (Addr × Str)} {fresh : Bool} {cdv : Value} {A : Around} {outer : List Env} {s : Shared} {H : Hp} {E : XK} {M0 fr : Addr → Prop} {pa : Nat → Addr} (S : FnScope N ps (defScope st)) (hr : Room k (A.deeper (envOfC x (defScope st) s.heap.objs.size f cdv))) :
    Gd (cxOf (L2.CX P w) P w K mg base N x (defScope st) f cdv A outer s H E) (mkC K T mg H M0 fr pa fresh) (fun cls d _ H' => E cls d H') k := ⟨rfl, rfl, rfl, takes_of rfl rfl rfl rfl, hr, S.nd⟩
theorem pre_len (S : FnScope N ps (defScope st)) : ps.length ≤ N.length := by
  have := congrArg List.length S.pre
  rw [List.length_take] at this
  omega
theorem RE.sme {T : List (Addr × Str)} {H H' : Hp} {M : Addr → Prop} {pa ad : Nat → Addr} {fresh : Bool} {σ : L2.St} {env : Sls} (R : RE (mkC K T mg H M (fun _ => False) pa fresh) ad H' σ env) : Sme T H H' := ⟨fun b o e t => R.same b o e (fun z => z) t, R.trk, fun _ => R.tabs⟩
variable {T : List (Addr × Str)}
theorem fnP_ok (F : Fun K x x st f fd) (S : FnScope N ps (defScope st)) (hn : ps.length = n) (B : Body P w K T mg base N x st k false m) : FnOk P w K mg base (L2.CX P w) (k + 1) f fd ps (spP K T mg n (run N.length m)) := by
  refine F.okX S (fun vs H Q E h => h.1.trans hn.symm) (fun cdv A outer s H vs Q E hr h => ?_)
  obtain ⟨hl, ht, M, ds, tk, r, q⟩ := h
  have hds : ds.length ≤ N.length := by rw [← r.len, hl, ← hn]; exact pre_len S
  obtain ⟨t, hs⟩ := B f cdv A outer s H E M (fun _ => False) (fun _ => 0) (gd_of S hr)
  refine ⟨t, hs.pe, hs.sn _ _ H _ _ (re_start hds tk ht r) ?_⟩
  unfold run at q
  cases z : m (envOf N.length ds) with
  | ok r2 =>
    rw [z] at q
    obtain ⟨o, e2⟩ := r2
    cases o with
    | ret d =>
      intro ad' σ' H' v hR
      obtain ⟨R', rp⟩ := hR
      exact q v H' (R'.sme) (rp.less fun b z => .inl z)
    | next => exact fun ad' σ' H' R' _ => q .non H' (R'.sme) .non
    | brk => exact q.elim
    | cont => exact q.elim
  | err c =>
    rw [z] at q
    exact fun ad' σ' cls dd H' e' hc R' => q cls dd H' hc R'.sme
  | bad => rw [z] at q; exact q.elim
theorem fnP (F : Fun K x x st f fd) (S : FnScope N ps (defScope st)) (hn : ps.length = n) (hm : mg x = some (.ref f)) (hb : Binds K fd ps []) (B : Body P w K T mg base N x st k false m) : Fn P w K mg base (k + 1) x (spP K T mg n (run N.length m)) :=
  ⟨f, fd, ps, fnP_ok F S hn B, hm, F.kp, hb⟩
theorem fnF_ok (F : Fun K x x st f fd) (S : FnScope N ps (defScope st)) (hn : ps.length = n) (B : Body P w K T mg base N x st k true m) : FnOk P w K mg base (L2.CX P w) (k + 1) f fd ps (spF K T mg n (runF N.length m)) := by
  refine F.okX S (fun vs H Q E h => h.1.trans hn.symm) (fun cdv A outer s H vs Q E hr h => ?_)
  obtain ⟨hl, ht, M, ds, tk, r, q⟩ := h
  have hds : ds.length ≤ N.length := by rw [← r.len, hl, ← hn]; exact pre_len S
  obtain ⟨t, hs⟩ := B f cdv A outer s H E M (fun _ => False) (fun _ => 0) (gd_of S hr)
  refine ⟨t, hs.pe, hs.sn _ _ H _ _ (re_start hds tk ht r) ?_⟩
  unfold runF at q
  cases z : m (envOf N.length ds) with
  | ok r2 =>
    rw [z] at q
    obtain ⟨o, e2⟩ := r2
    cases o with
    | ret d =>
      intro ad' σ' H' v hR
      rcases hR with ⟨rfl, rfl, R'⟩ | ⟨a, rfl, h0, R', c⟩
      · exact q.elim
      · have hn : noneD d = false := by
          cases d with
          | non => exact c.elim
          | _ => rfl
        simp only [hn, Bool.false_eq_true, if_false] at q
        refine q a H' h0 (R'.sme) (c.ext rfl .refl fun b z => ?_)
        rcases z with z | z
        · exact .inl (.inl (.inl z))
        · exact .inl (.inl (.inr z))
    | next => exact q.elim
    | brk => exact q.elim
    | cont => exact q.elim
  | err c =>
    rw [z] at q
    exact fun ad' σ' cls dd H' e' hc R' => q cls dd H' hc R'.sme
  | bad => rw [z] at q; exact q.elim
/-- a new list or dict is handed back, or None -/
def spG (K : PySem.W.Frag) (T : List (Addr × Str)) (mg : Str → Option Value) (n : Nat) (fm : List D → Res D) : Sp := fun vs H Q E => vs.length = n ∧ LamX.Tabs T H ∧ ∃ (M : Addr → Prop) (ds : List D), (∀ a, M a → H a ≠ none) ∧ RpL K H M ds vs ∧
  (fm ds).Wp (fun d => (d = .non → ∀ H', Sme T H H' → Q .non H') ∧ (d ≠ .non → ∀ a H', H a = none → Sme T H H' → CellOk K H' (fun b => M b ∨ b = a) d a → Q (.ref a) H')) (fun c => ∀ cls dd H', mg c = some cls → Sme T H H' → E cls dd H')
theorem Fn.gToP {T : List (Addr × Str)} {j : Nat} {fm : List D → Res D} (F : Fn P w K mg base j x (spG K T mg n fm)) : Fn P w K mg base j x (spP K T mg n fm) := by
  obtain ⟨f, fd, ps, F, h⟩ := F.ex
  refine ⟨f, fd, ps, F.imp fun vs H Q E ⟨hl, ht, M, ds, tk, r, q⟩ => ⟨hl, ht, M, ds, tk, r, q.imp (fun d z => ⟨fun e H' s => by subst e; exact z _ H' s .non, fun _ a H' hn e c => z _ H' e (cell_rp c (fun q => tk a q hn) fun b q => .inl q)⟩) fun c z => z⟩, h⟩
theorem fnG_ok (F : Fun K x x st f fd) (S : FnScope N ps (defScope st)) (hn : ps.length = n) (B : Body P w K T mg base N x st k true m) : FnOk P w K mg base (L2.CX P w) (k + 1) f fd ps (spG K T mg n (runG N.length m)) := by
  refine F.okX S (fun vs H Q E h => h.1.trans hn.symm) (fun cdv A outer s H vs Q E hr h => ?_)
  obtain ⟨hl, ht, M, ds, tk, r, q⟩ := h
  have hds : ds.length ≤ N.length := by rw [← r.len, hl, ← hn]; exact pre_len S
  obtain ⟨t, hs⟩ := B f cdv A outer s H E M (fun _ => False) (fun _ => 0) (gd_of S hr)
  refine ⟨t, hs.pe, hs.sn _ _ H _ _ (re_start hds tk ht r) ?_⟩
  unfold runG at q
  cases z : m (envOf N.length ds) with
  | ok r2 =>
    rw [z] at q
    obtain ⟨o, e2⟩ := r2
    cases o with
    | ret d =>
      intro ad' σ' H' v hR
      rcases hR with ⟨rfl, rfl, R'⟩ | ⟨a, rfl, h0, R', c⟩
      · exact q.1 rfl H' R'.sme
      · have hn : d ≠ .non := fun z => by subst z; exact c.elim
        refine q.2 hn a H' h0 (R'.sme) (c.ext rfl .refl fun b z => ?_)
        rcases z with z | z
        · exact .inl (.inl (.inl z))
        · exact .inl (.inl (.inr z))
    | next => exact fun ad' σ' H' R' _ => q.1 rfl H' R'.sme
    | brk => exact q.elim
    | cont => exact q.elim
  | err c =>
    rw [z] at q
    exact fun ad' σ' cls dd H' e' hc R' => q cls dd H' hc R'.sme
  | bad => rw [z] at q; exact q.elim
theorem fnF (F : Fun K x x st f fd) (S : FnScope N ps (defScope st)) (hn : ps.length = n) (hm : mg x = some (.ref f)) (hb : Binds K fd ps []) (B : Body P w K T mg base N x st k true m) : Fn P w K mg base (k + 1) x (spF K T mg n (runF N.length m)) := ⟨f, fd, ps, fnF_ok F S hn B, hm, F.kp, hb⟩
theorem fnG (F : Fun K x x st f fd) (S : FnScope N ps (defScope st)) (hn : ps.length = n) (hm : mg x = some (.ref f)) (hb : Binds K fd ps []) (B : Body P w K T mg base N x st k true m) : Fn P w K mg base (k + 1) x (spG K T mg n (runG N.length m)) := ⟨f, fd, ps, fnG_ok F S hn B, hm, F.kp, hb⟩
theorem re_startJ {T : List (Addr × Str)} {H : Hp} {M : Addr → Prop} {a : Addr} {j : D} {ds : List D} {vs : List V} (hl : ds.length + 1 ≤ N.length) (hM : M a) (tk : ∀ a, M a → H a ≠ none) (ht : LamX.Tabs T H) (c : CellOk K H M j a) (r : RpL K H M ds vs) :
    RE (mkC K T mg H M (fun b => b = a) (fun _ => a) false) (fun _ => a) H (L2.start N (.ref a :: vs)) (envJ N.length j ds) := by
  have noOw : ∀ (i : Nat) (s : Sl), (envJ N.length j ds)[i]? = some s → s.isOwn = true → i = 0 ∧ s = .p j := fun i s e o => by
    cases i with
    | zero => cases e; exact ⟨rfl, rfl⟩
    | succ i =>
      have := List.mem_of_getElem? (show (ds.map Sl.t ++ List.replicate (N.length - ds.length - 1) Sl.u)[i]? = some s from e)
      rcases List.mem_append.mp this with q | q
      · obtain ⟨d, _, rfl⟩ := List.mem_map.mp q; cases o
      · rw [(List.mem_replicate.mp q).2] at o; cases o
  have moM : ∀ b, Mo (mkC K T mg H M (fun b => b = a) (fun _ => a) false) (envJ N.length j ds) (fun _ => a) b → M b := fun b z => by
    rcases z with z | ⟨i, s, e, o, z⟩
    · exact z
    · exact z ▸ hM
  have hsl : N.length - (V.ref a :: vs).length = N.length - ds.length - 1 := by rw [List.length_cons, r.len]; omega
  refine ⟨?_, fun i s e => ?_, fun i i' s t e e' o o' _ => ((noOw i s e o).1.trans (noOw i' t e' o').1.symm), fun i d e => ?_, fun i d e => ⟨rfl, rfl⟩, fun b o e _ _ => e, fun b h => ?_, fun b h => h, tk, ht⟩
  · unfold L2.start envJ
    simp only [List.length_append, List.length_map, List.length_replicate, List.length_cons, r.len]
    omega
  · cases i with
    | zero =>
      cases e
      exact ⟨rfl, c.ext rfl .refl fun b z => .inl (moM b z)⟩
    | succ i =>
      have e : (ds.map Sl.t ++ List.replicate (N.length - ds.length - 1) Sl.u)[i]? = some s := e
      have es : (L2.start N (.ref a :: vs))[i + 1]? = (vs.map some ++ List.replicate (N.length - ds.length - 1) none)[i]? := by
        unfold L2.start
        rw [hsl]
        rfl
      by_cases hi : i < ds.length
      · rw [List.getElem?_append_left (by rw [List.length_map]; exact hi), List.getElem?_map, List.getElem?_eq_getElem hi] at e
        cases e
        have hv : i < vs.length := by rw [r.len]; exact hi
        refine ⟨vs[i], ?_, (r.item i _ _ (List.getElem?_eq_getElem hi) (List.getElem?_eq_getElem hv)).less moM⟩
        rw [es, List.getElem?_append_left (by rw [List.length_map]; exact hv), List.getElem?_map, List.getElem?_eq_getElem hv]
        rfl
      · rw [List.getElem?_append_right (by rw [List.length_map]; omega)] at e
        have := List.mem_of_getElem? e
        rw [(List.mem_replicate.mp this).2]
        trivial
  · rcases e with e | e
    · cases (noOw i _ e rfl).2
    · cases (noOw i _ e rfl).2
  · have h : b = a := h
    subst h
    have ck := c.kind
    cases z : H b with
    | none => exact absurd z c.trk
    | some o => exact ⟨o, z, fun xs q => ck.1 xs (by rw [z, q]), fun o' u q => ck.2 o' u (by rw [z, q])⟩
theorem fnJ (F : Fun K x x st f fd) (S : FnScope N ps (defScope st)) (hn : ps.length = n) (hm : mg x = some (.ref f)) (hb : Binds K fd ps []) (B : Body P w K T mg base N x st k false m) : Fn P w K mg base (k + 1) x (spJ K T n (runJ N.length m)) := by
  refine ⟨f, fd, ps, F.okX S (fun vs H Q E h => h.1.trans hn.symm) (fun cdv A outer s H vs Q E hr h => ?_), hm, F.kp, hb⟩
  obtain ⟨hl, ht, M, a, ws, j, ds, rfl, hM, tk, c, r, q⟩ := h
  have hds : ds.length + 1 ≤ N.length := by
    rw [← r.len]
    rw [List.length_cons] at hl
    rw [hl, ← hn]
    exact pre_len S
  obtain ⟨t, hs⟩ := B f cdv A outer s H E M (fun b => b = a) (fun _ => a) (gd_of S hr)
  refine ⟨t, hs.pe, hs.sn _ _ H _ _ (re_startJ hds hM tk ht c r) ?_⟩
  unfold runJ at q
  cases z : m (envJ N.length j ds) with
  | ok r2 =>
    rw [z] at q
    obtain ⟨o, e2⟩ := r2
    have fin : ∀ (ad' : Nat → Addr) (σ' : L2.St) (H' : Hp) (j' : D), RE (mkC K T mg H M (fun b => b = a) (fun _ => a) false) ad' H' σ' e2 → e2[0]? = some (.p j') → (∀ b o, H b = some o → b ≠ a → (∀ ps, o ≠ .tbl ps) → H' b = some o) ∧ CellOk K H' M j' a := fun ad' σ' H' j' R' e0 => by
      obtain ⟨d0, hd0, _, c0⟩ := R'.cell e0 rfl
      have e1 : d0 = j' := by rcases hd0 with z | z | z <;> cases z; rfl
      subst e1
      obtain ⟨p1, _⟩ := R'.par 0 d0 e0
      have p1' : ad' 0 = a := p1
      refine ⟨fun b o e hb nt => R'.same b o e (fun z => hb z) nt, ?_⟩
      rw [← p1']
      exact c0.ext rfl .refl fun b z => .inl (.inl z)
    cases o with
    | ret d =>
      intro ad' σ' H' v hR
      obtain ⟨R', rp⟩ := hR
      simp only at q
      cases e0 : e2[0]? with
      | none => rw [e0] at q; exact q.elim
      | some s =>
        rw [e0] at q
        cases s with
        | p j' =>
          obtain ⟨f1, f2⟩ := fin ad' σ' H' j' R' e0
          exact q v H' f1 R'.trk R'.tabs f2 (rp.less fun b z => .inl z)
        | _ => exact q.elim
    | next =>
      intro ad' σ' H' R' _
      simp only at q
      cases e0 : e2[0]? with
      | none => rw [e0] at q; exact q.elim
      | some s =>
        rw [e0] at q
        cases s with
        | p j' =>
          obtain ⟨f1, f2⟩ := fin ad' σ' H' j' R' e0
          exact q .non H' f1 R'.trk R'.tabs f2 .non
        | _ => exact q.elim
    | brk => exact q.elim
    | cont => exact q.elim
  | err c => rw [z] at q; exact q.elim
  | bad => rw [z] at q; exact q.elim
end

/-! ### the law's end -/
def spL (K : PySem.W.Frag) (T : List (Addr × Str)) (fm : List D → Res D) : Sp := fun vs H Q E => vs.length = 1 ∧ LamX.Tabs T H ∧ ∃ (M : Addr → Prop) (ds : List D), (∀ a, M a → H a ≠ none) ∧ RpL K H M ds vs ∧
  (fm ds).Wp (fun d => ∀ v H', Sme T H H' → Rp K H' M d v → Q v H') (fun _ => False)
theorem Fn.law {T : List (Addr × Str)} {P : Program} {w : World} {K : PySem.W.Frag} {mg : Str → Option Value} {base : Heap} {j : Nat} {x : Str} {fm : List D → Res D} (F : Fn P w K mg base j x (spP K T mg 1 fm)) : Fn P w K mg base j x (spL K T fm) := by
  obtain ⟨f, fd, ps, F, h⟩ := F.ex
  exact ⟨f, fd, ps, F.imp fun vs H Q E ⟨hl, ht, M, ds, tk, r, q⟩ => ⟨hl, ht, M, ds, tk, r, q.imp (fun d z => z) fun c z => z.elim⟩, h⟩
theorem law_sp {T : List (Addr × Str)} {K : PySem.W.Frag} {fm : List D → Res D} {H : Hp} {a : Addr} {ns : List Int} {E : XK} (hz : ns.length ≤ sizeLine) (hT : LamX.Tabs T H) (hO : (H a = none ∨ ∃ o xs, H a = some (.frz o (.lst xs)))) (hS : SqL K H a (ns.map V.int)) (h : fm [.scr ns] = .ok (.bl true)) : spL K T fm [.ref a] H (fun v _ => v = .bl true) E := by
  refine ⟨rfl, hT, fun _ => False, [.scr ns], fun a z => z.elim, .one (.scr ?_ hz), ?_⟩
  · rcases hS with (hS | ⟨o, hS⟩) | hS
    · rcases hO with q | ⟨o, xs, q⟩
      · rw [hS] at q; cases q
      · rw [hS] at q; cases q
    · exact .inl ⟨o, hS⟩
    · exact .inr hS
  · rw [h]
    intro v H' _ r
    cases r
    rfl
theorem cx_law {P : Program} {w : World} {H : Hp} {s : Shared} {e : Value} {s' : Shared} (h : L2.CX P w [] H s (fun _ _ _ => False) e s') : False := by
  obtain ⟨_, _, _, _, _, _, _, _, _, _, _, _, z⟩ := h
  exact z
end Vm
end
section
set_option maxRecDepth 100000
set_option maxHeartbeats 4000000
/-! Vm, part J: chains, minus, slices of either kind, keywords, isinstance with two classes, a walk over an own list. -/
namespace Vm
open PySem PySem.Spec PyProof.Rows L2

section
variable {X : Cx} {C : Cfg} {W : WX} {k j n : Nat} {a b c e : Expr} {es rest : List Expr} {ta tb tc te : TE} {t : TA} {ma mb mc m me : Ev} {ms : Evs} {pos p : Pos} {x : Str} {tg iter elt : Expr}
/-! ### the rules at the written part C.K -/
theorem oAdd (g : Gd X C W k) : OpR X (binaryOp .Add) (rAddA C.K) := g.kE ▸ or_addA
theorem oEq (g : Gd X C W k) : OpR X (compareOp .Eq) (rEqA C.K) := g.kE ▸ or_eqA g.room
theorem oNe (g : Gd X C W k) : OpR X (compareOp .NotEq) (rNeA C.K) := g.kE ▸ or_neA g.room
theorem iIx (g : Gd X C W k) : IxR X (rIxA C.K) := g.kE ▸ ir_ixA g.room
theorem cLen (g : Gd X C W k) : CallR X (.builtin "len") (rLenA C.K) := g.kE ▸ cr_lenA
theorem cSum (g : Gd X C W k) : CallR X (.builtin "sum") (rSum C.K) := g.kE ▸ cr_sum g.calm
theorem cAll (g : Gd X C W k) : CallR X (.builtin "all") (rAll C.K) := g.kE ▸ cr_all g.calm
theorem cAny (g : Gd X C W k) : CallR X (.builtin "any") (rAny C.K) := g.kE ▸ cr_any g.calm
theorem cMaxL (g : Gd X C W k) : CallR X (.builtin "max") (rMax C.K) := g.kE ▸ cr_max g.calm
theorem cMinL (g : Gd X C W k) : CallR X (.builtin "min") (rMin C.K) := g.kE ▸ cr_min g.calm
theorem cSortI (g : Gd X C W k) : CallR X (.builtin "sorted") (rSortedI C.K) := g.kE ▸ cr_sortedI
theorem cTuple (g : Gd X C W k) : CallR X (.type "tuple") (fun xs H Q => ∃ p ys, xs = [.ref p] ∧ ((SqL C.K H p ys ∧ ∀ l, H l = none → Q (.ref l) (upd H l (.tup ys))) ∨ (SqT C.K H p ys ∧ Q (.ref p) H))) := g.kE ▸ call_tuple_of
theorem cList (g : Gd X C W k) : CallR X (.type "list") (fun xs H Q => ∃ p ys, xs = [.ref p] ∧ (SqL C.K H p ys ∨ SqT C.K H p ys) ∧ ∀ l, H l = none → Q (.ref l) (upd H l (.lst ys))) := g.kE ▸ call_list_of
/-! ### -a -/
def negD (x : D) : Res D := match x with
  | .int i => .ok (.int (-i))
  | _ => .bad
def mUn (g : D → Res D) (m : Ev) : Ev := fun env => do
  let r ← m env
  let x ← rs r.2 r.1
  match g x with
  | .ok d => pure (d, r.2)
  | _ => .bad
theorem em_neg (h : EM X C W a ta ma) : EM X C W (.UnaryOp .USub a pos) (tUn (rU fun i => .int (-i)) ta) (mUn negD ma) := by
  refine ⟨pe_un un_neg h.pe, fun M0 ad σ H env Q R w => ?_⟩
  unfold mUn at w
  refine h.sn' R w fun r v H1 R1 S1 V1 w1 => ?_
  rw [wp_bind] at w1
  obtain ⟨y, _, w2, ry⟩ := R1.rs V1 w1
  cases y with
  | int i =>
    rw [ry.int_inv]
    exact ⟨i, rfl, w2 _ H1 R1 S1 (.of (.int _))⟩
  | _ => exact w2.elim
/-! ### a op b op c -/
theorem chain_sn {r r' : R2} {g g' : D → D → Res D} (ho : OpS C.K r g) (ho' : OpS C.K r' g') (ha : EM X C W a ta ma) (hb : EM X C W b tb mb) (hc : EM X C W c tc mc) {M0 : Addr → Prop} {ad : Nat → Addr} {σ : L2.St} {H : Hp} {env : Sls} {Q : VK} (R : RE (C.w M0) ad H σ env)
    (w : (mChain g g' ma mb mc env).Wp (fun r => ∀ v H', RE (C.w M0) ad H' σ r.2 → Stp (C.w M0) ad H env H' r.2 → VR (C.w M0) ad H' σ r.2 r.1 v → Q v H') (Er (C.w M0) ad σ W)) : tChain r r' ta tb tc σ H Q := by
  unfold mChain at w
  refine ha.sn' R w fun r1 v1 H1 R1 S1 V1 w1 => ?_
  refine hb.sn' R1 w1 fun r2 v2 H2 R2 S2 V2 w2 => ?_
  rw [wp_bind] at w2
  obtain ⟨y1, _, w3, ry1⟩ := R2.rs (V1.stp S2) w2
  rw [wp_bind] at w3
  obtain ⟨y2, _, w4, ry2⟩ := R2.rs V2 w3
  refine ho H2 (Mo (C.w M0) r2.2 ad) v1 v2 y1 y2 _ (fun a z => R2.mtrk z) ry1 ry2 ?_
  cases q : g y1 y2 with
  | err c => rw [q] at w4; exact w4.elim
  | bad => rw [q] at w4; exact w4.elim
  | ok d =>
    rw [q] at w4
    cases d with
    | bl kb =>
      intro v H' e rp
      cases rp
      have R2' := R2.grow e
      have S2' : Stp (C.w M0) ad H env H' r2.2 := (S1.trans S2).trans (.grow e)
      cases kb with
      | false => exact ⟨false, rfl, w4 _ H' R2' S2' (.of (.bl false))⟩
      | true =>
        refine ⟨true, rfl, ?_⟩
        refine hc.sn' R2' w4 fun r3 v3 H3 R3 S3 V3 w5 => ?_
        rw [wp_bind] at w5
        obtain ⟨z1, _, w6, rz1⟩ := R3.rs ((V2.stp (.grow e)).stp S3) w5
        rw [wp_bind] at w6
        obtain ⟨z2, _, w7, rz2⟩ := R3.rs V3 w6
        refine ho' H3 (Mo (C.w M0) r3.2 ad) v2 v3 z1 z2 Q (fun a z => R3.mtrk z) rz1 rz2 ?_
        cases q2 : g' z1 z2 with
        | ok d =>
          rw [q2] at w7
          exact fun v H' e r => w7 v H' (R3.grow e) ((S2'.trans S3).trans (.grow e)) (.of r)
        | err c => rw [q2] at w7; exact w7.elim
        | bad => rw [q2] at w7; exact w7.elim
    | _ => exact w4.elim
theorem em_chain {op op' : CmpOp} {r r' : R2} {g g' : D → D → Res D} (hr : OpR X (compareOp op) r) (hr' : OpR X (compareOp op') r') (ho : OpS C.K r g) (ho' : OpS C.K r' g') (ha : EM X C W a ta ma) (hb : EM X C W b tb mb) (hc : EM X C W c tc mc)
    (hm : lastMarks [op, op'] [b, c] = false := by with_unfolding_all rfl) : EM X C W (.Compare a [op, op'] [b, c] pos) (tChain r r' ta tb tc) (mChain g g' ma mb mc) :=
  ⟨pe_chain hr hr' ha.pe hb.pe hc.pe hm, fun M0 ad σ H env Q R w => chain_sn ho ho' ha hb hc R w⟩
theorem tm_chain {op op' : CmpOp} {r r' : R2} {g g' : D → D → Res D} (hr : OpR X (compareOp op) r) (hr' : OpR X (compareOp op') r') (ho : OpS C.K r g) (ho' : OpS C.K r' g') (ha : EM X C W a ta ma) (hb : EM X C W b tb mb) (hc : EM X C W c tc mc)
    (hm : lastMarks [op, op'] [b, c] = false := by with_unfolding_all rfl) : TM X C W (.Compare a [op, op'] [b, c] pos) (tTest (tChain r r' ta tb tc)) (mTru (mChain g g' ma mb mc)) := by
  refine ⟨pt_chain hr hr' ha.pe hb.pe hc.pe hm, fun M0 ad σ H env Q R w => ?_⟩
  refine chain_sn ho ho' ha hb hc R ?_
  unfold mTru at w
  rw [wp_bind] at w
  refine w.imp (fun r z v H' R' S' V' => ?_) fun _ z => z
  cases hd : r.1 with
  | bl k =>
    rw [hd] at z V'
    cases V'
    exact ⟨k, rfl, z H' R' S'⟩
  | _ => rw [hd] at z; exact z.elim
/-! ### a[lo:hi], a list or a tuple -/
def sliceD (x : D) (lo hi : Option Int) : Res D := match x with
  | .lst xs => .ok (.lst (cutD xs lo hi))
  | .tup xs => .ok (.tup (cutD xs lo hi))
  | .scr ns => .ok (.lst (cutD (ns.map D.int) lo hi))
  | _ => .bad
def rSlE (K : PySem.W.Frag) : V → Option Int → Option Int → Hp → VK → Prop := fun x lo hi H Q => rSlL K x lo hi H Q ∨ rSlA K x lo hi H Q
theorem em_slice {lo hi : Option Expr} {tl th : TO} {ml mh : Eo} {p2 : Pos} (g : Gd X C W k) (h : EM X C W e te m) (hl : OM X C W lo tl ml) (hh : OM X C W hi th mh) :
    EM X C W (.Subscript e (.Slice lo hi none p2) pos) (tSl (rSlE C.K) te tl th) (mSl sliceD m ml mh) := by
  refine ⟨g.kE ▸ pe_slice (sl_list.or sl_tupA) h.pe hl.pe hh.pe, fun M0 ad σ H env Q R w => ?_⟩
  unfold mSl at w
  refine h.sn' R w fun r v H1 R1 S1 V1 w1 => ?_
  rw [wp_bind] at w1
  refine hl.sn M0 ad σ H1 r.2 _ R1 (w1.imp (fun l w2 H2 R2 S2 => ?_) fun _ z => z)
  rw [wp_bind] at w2
  refine hh.sn M0 ad σ H2 l.2 _ R2 (w2.imp (fun q w3 H3 R3 S3 => ?_) fun _ z => z)
  rw [wp_bind] at w3
  obtain ⟨y, _, w4, rx⟩ := R3.rs ((V1.stp S2).stp S3) w3
  have fresh : ∀ {xs : List D} {us : List V} {p : Addr}, RpL C.K H3 (Mo (C.w M0) q.2 ad) xs us → H3 p = none → xs.length ≤ sizeLine → Rp C.K (upd H3 p (.lst us)) (Mo (C.w M0) q.2 ad) (.lst xs) (.ref p) := fun r hn z =>
    cell_rp (cell_new r hn z) (fun q => R3.mtrk q hn) fun b q => .inl q
  cases y with
  | lst xs =>
    obtain ⟨a, us, rfl, hs, z, qr⟩ := rx.lst_inv
    exact .inl ⟨a, us, rfl, .of hs, fun p hn => w4 _ _ (R3.grow (same_new hn)) (((S1.trans S2).trans S3).trans (.grow (same_new hn))) (.of (fresh (qr.cut _ _) hn (Nat.le_trans (cutD_length _ _ _) z)))⟩
  | scr ns =>
    cases rx with
    | scr hs z =>
      have qr : RpL C.K H3 (Mo (C.w M0) q.2 ad) (ns.map D.int) (ns.map V.int) := .of_ints
      exact .inl ⟨_, _, rfl, hs.sq, fun p hn => w4 _ _ (R3.grow (same_new hn)) (((S1.trans S2).trans S3).trans (.grow (same_new hn))) (.of (fresh (qr.cut _ _) hn (Nat.le_trans (cutD_length _ _ _) (by rw [List.length_map]; exact z))))⟩
  | tup xs =>
    obtain ⟨a, us, rfl, hs, z, qr⟩ := rx.tup_inv
    refine .inr ⟨a, us, rfl, hs, fun c => ?_, fun c p hn => w4 _ _ (R3.grow (same_new hn)) (((S1.trans S2).trans S3).trans (.grow (same_new hn))) (.of (.tup' (.of upd_same) (Nat.le_trans (cutD_length _ _ _) z) ((qr.cut _ _).same (same_new hn))))⟩
    have e : cutD xs l.1 q.1 = xs := by
      unfold cutD
      rw [← qr.len, c.1, c.2, qr.len]
      simp
    refine w4 _ H3 R3 ((S1.trans S2).trans S3) (.of ?_)
    show Rp C.K H3 _ (.tup (cutD xs l.1 q.1)) _
    rw [e]
    exact .tup' hs z qr
  | _ => exact w4.elim
/-! ### keywords -/
structure KM (X : Cx) (C : Cfg) (W : WX) (kws : List Keyword) (t : TA) (m : Evs) : Prop where
  pe : PK X kws t
  sn : ∀ (M0 : Addr → Prop) (ad : Nat → Addr) (σ : L2.St) (H : Hp) (env : Sls) (Q : List V → Hp → Prop), RE (C.w M0) ad H σ env →
    (m env).Wp (fun r => ∀ vs H', RE (C.w M0) ad H' σ r.2 → Stp (C.w M0) ad H env H' r.2 → VRL (C.w M0) ad H' σ r.2 r.1 vs → Q vs H') (Er (C.w M0) ad σ W) → t σ H Q
theorem km_nil : KM X C W [] tNil mNil := ⟨pk_nil, fun M0 ad σ H env Q R w => w [] H R .refl .nil⟩
theorem km_cons {kws : List Keyword} {nm : Option Str} {kp : Pos} (h : EM X C W e te m) (hr : KM X C W kws t ms) : KM X C W (⟨nm, e, kp⟩ :: kws) (tCons te t) (mCons m ms) := by
  refine ⟨pk_cons h.pe hr.pe, fun M0 ad σ H env Q R w => ?_⟩
  unfold mCons at w
  refine h.sn' R w fun r1 v1 H1 R1 S1 V1 w1 => ?_
  rw [wp_bind] at w1
  refine hr.sn M0 ad σ H1 r1.2 _ R1 (w1.imp (fun r2 w2 vs H2 R2 S2 V2 => ?_) fun _ z => z)
  exact w2 (v1 :: vs) H2 R2 (S1.trans S2) (.cons (V1.stp S2) V2)
/-- the keywords' values in the parameters' order -/
def pick {α : Type} (is : List Nat) (l : List α) : List α := is.filterMap (l[·]?)
theorem pick_vals {is : List Nat} {zs : List V} {ws : List Value} (r : Vals zs ws) : Vals (pick is zs) (pick is ws) := by
  unfold pick
  induction is with
  | nil => exact .nil
  | cons i is ih =>
    rw [List.filterMap_cons, List.filterMap_cons]
    cases q : zs[i]? with
    | none => rw [r.none_of q]; exact ih
    | some v =>
      obtain ⟨u, e, rv⟩ := r.get q
      rw [e]
      exact .cons rv ih
/-- how the keywords ks bind: is, the places of the parameters among them -/
structure KB (K : PySem.W.Frag) (fd : FuncData) (ps ks : List Str) (is : List Nat) : Prop where
  to : ∀ (s : Shared) (ws : List Value), K.In s.heap → ws.length = is.length → BindsTo s fd ⟨[], ks.zip ws⟩ (ps.zip (pick is ws))
theorem run_fnkS {CX : CXT} {f : Addr} {fd : FuncData} {ps ks : List Str} {is : List Nat} {sp : Sp} {E : L2.St → XK} {pins : List (Addr × Obj)} {σ : L2.St} {H : Hp} {s : Shared} {Q : VK} {ws : List Value} {zs : List V}
    (F : FnOk X.prog X.w X.K X.mg X.base CX k f fd ps sp) (hr : Room k X.A) (hb : KB X.K fd ps ks is) (hx : PassesAt CX X σ (E σ))
    (I : Inv X pins σ H s) (rz : Vals zs ws) (hl : zs.length = is.length) (h : sp (pick is zs) H Q (E σ)) : wpAny (model X.prog X.w) X.A (call (.ref f) [] (ks.zip ws)) (EP X pins σ Q) X.xe s := by
  have r2 := pick_vals (is := is) rz
  refine wpAny_call (codeAny_mono (F.run X.A X.stack s H ⟨[], ks.zip ws⟩ (pick is ws) (pick is zs) Q (E σ) hr I.env0 (hb.to s ws I.kIn (by rw [← rz.length]; exact hl)) r2 h) fun r s' hq => ?_)
  cases r with
  | error e => exact hx pins H s e s' I hq
  | ok fl =>
    cases fl with
    | ret u => exact I.after hq
    | next => exact False.elim hq
    | brk => exact False.elim hq
    | cont => exact False.elim hq
def tCallKS (sp : Sp) (is : List Nat) (E : L2.St → XK) (tk : TA) : TE := fun σ H Q => tk σ H fun zs H2 => zs.length = is.length ∧ sp (pick is zs) H2 Q (E σ)
theorem pe_callKS0 {CX : CXT} {f : Addr} {fd : FuncData} {ps ks : List Str} {is : List Nat} {sp : Sp} {E : L2.St → XK} {kws : List Keyword} {tk : TA} (F : FnOk X.prog X.w X.K X.mg X.base CX k f fd ps sp) (hr : Room k X.A) (hg : Gl X x) (hm : X.mg x = some (.ref f)) (hk : PySem.W.keepIn X.K (.ref f) = true) (hb : KB X.K fd ps ks is) (hx : ∀ σ, PassesAt CX X σ (E σ))
    (hkw : PK X kws tk) (hall : (backToKw pos (keywordEach kws X.env)).all (·.1.isSome) = true := by rfl) (hks : (backToKw pos (keywordEach kws X.env)).filterMap (·.1) = ks := by rfl)
    (hdb : (x == ("__debug__" : Str)) = false := by decide) (hpl : ((backTo pos (starEach [] X.env)).any (·.1) || (backToKw pos (keywordEach kws X.env)).any (·.1.isNone)) = false := by rfl) :
    PE X (.Call (.Name x p) [] kws pos) (tCallKS sp is E tk) := by
  refine ⟨fun pins s σ H Q I h => ?_⟩
  refine wpAny_Call_Name_kw (ld_glob I hg hm ?_ hdb)
  refine PySem.W.callWith_KW0 (h₀ := X.base) I.ok.mod.kin hk hall ?_ hpl
  refine thn (hkw.run pos pins s σ H _ I h) fun ws s2 ⟨zs, H2, I2, rz, hl, q2⟩ => ⟨I2.kIn, ?_⟩
  rw [hks]
  exact run_fnkS F hr hb (hx σ) I2 rz hl q2
theorem pick_vrl {ad : Nat → Addr} {H : Hp} {σ : L2.St} {env : Sls} {ds : List D} {vs : List V} {is : List Nat} (r : VRL C ad H σ env ds vs) : VRL C ad H σ env (pick is ds) (pick is vs) := by
  unfold pick
  induction is with
  | nil => exact .nil
  | cons i is ih =>
    rw [List.filterMap_cons, List.filterMap_cons]
    cases q : ds[i]? with
    | none =>
      have : vs[i]? = none := List.getElem?_eq_none_iff.mpr (by rw [r.len]; exact List.getElem?_eq_none_iff.mp q)
      rw [this]; exact ih
    | some d =>
      have hi : i < vs.length := by rw [r.len]; exact (List.getElem?_eq_some_iff.mp q).1
      have e : vs[i]? = some vs[i] := List.getElem?_eq_getElem hi
      rw [e]
      exact .cons (r.item i _ _ q e) ih
def mCallK (n : Nat) (is : List Nat) (fm : List D → Res D) (ms : Evs) : Ev := fun env => do
  let r ← ms env
  if r.1.length = is.length ∧ (pick is r.1).length = n ∧ allKp (pick is r.1) = true then do
    let d ← fm (pick is r.1)
    pure (d, r.2)
  else .bad
/-- how the keywords ks of x bind: is, their places -/
structure FnK (P : Program) (w : World) (K : PySem.W.Frag) (mg : Str → Option Value) (base : Heap) (j : Nat) (x : Str) (ks : List Str) (is : List Nat) (sp : Sp) : Prop where
  ex : ∃ f fd ps, FnOk P w K mg base (L2.CX P w) j f fd ps sp ∧ mg x = some (.ref f) ∧ PySem.W.keepIn K (.ref f) = true ∧ KB K fd ps ks is
theorem FnK.mono {P : Program} {w : World} {K : PySem.W.Frag} {mg : Str → Option Value} {base : Heap} {i j : Nat} {x : Str} {ks : List Str} {is : List Nat} {sp : Sp} (F : FnK P w K mg base i x ks is sp) (h : i ≤ j) : FnK P w K mg base j x ks is sp := by
  obtain ⟨f, fd, ps, F, h2⟩ := F.ex
  exact ⟨f, fd, ps, F.mono h, h2⟩
theorem em_callK {fm : List D → Res D} {ks : List Str} {is : List Nat} {kws : List Keyword} {tk : TA} (g : Gd X C W k) (F : FnK X.prog X.w X.K X.mg X.base j x ks is (spP C.K C.T C.mg n fm)) (h : KM X C W kws tk ms) (hj : j ≤ k := by decide) (hg : Gl X x := by rfl)
    (hall : (backToKw pos (keywordEach kws X.env)).all (·.1.isSome) = true := by rfl) (hks : (backToKw pos (keywordEach kws X.env)).filterMap (·.1) = ks := by rfl)
    (hdb : (x == ("__debug__" : Str)) = false := by decide) (hpl : ((backTo pos (starEach [] X.env)).any (·.1) || (backToKw pos (keywordEach kws X.env)).any (·.1.isNone)) = false := by rfl) :
    EM X C W (.Call (.Name x p) [] kws pos) (tCallKS (spP C.K C.T C.mg n fm) is (WE W) tk) (mCallK n is fm ms) := by
  obtain ⟨f, fd, ps, F, hm, hk, hb⟩ := (F.mono hj).ex
  refine ⟨pe_callKS0 F g.room hg hm hk hb (fun σ => passAt g.tk σ) h.pe hall hks hdb hpl, fun M0 ad σ H env Q R w => ?_⟩
  unfold mCallK at w
  rw [wp_bind] at w
  refine h.sn M0 ad σ H env _ R (w.imp (fun r w1 vs H1 R1 S1 V1 => ?_) fun _ z => z)
  split at w1
  · rename_i hc
    have V2 := pick_vrl (is := is) V1
    refine ⟨by rw [V1.len]; exact hc.1, by rw [V2.len]; exact hc.2.1, R1.tabs, Mo (C.w M0) r.2 ad, pick is r.1, fun a z => R1.mtrk z, allKp_rp V2 hc.2.2, ?_⟩
    rw [wp_bind] at w1
    exact w1.imp (fun d z v H' e rp => z v H' (R1.growS e) (S1.trans (.growS e)) (.of rp)) fun c z cls dd H' hm e => z cls dd H' r.2 hm (R1.growS e)
  · exact w1.elim
/-! ### name = [..] -/
theorem sm_lcA {fresh : Bool} {i : Nat} {y : Str} {py spos : Pos} {ifs : List Expr} {scope : Scope} {own : List (Str × Nat)} {wi : TI} {gt : TG} {tt : TT} {mi : Em} {gv : Gv} {mt : Ev1} (g : Gd X C W k) (hi : IM X C W tg iter wi mi) (ok : BlkOk X.N X.env.scope scope own)
    (hg : ∀ (s : Shared) (H : Hp) (L : Addr) (cl : List (Str × Addr)) (fp : List Addr), Gd (X.blk s H scope (compEnvC scope cl L X.env) fp) C W0 k → GM (X.blk s H scope (compEnvC scope cl L X.env) fp) C tg gt (own.map (·.2)) gv)
    (ht : ∀ (s : Shared) (H : Hp) (L : Addr) (cl : List (Str × Addr)) (fp : List Addr), Gd (X.blk s H scope (compEnvC scope cl L X.env) fp) C W0 k → TMs (X.blk s H scope (compEnvC scope cl L X.env) fp) C W0 ifs tt mt)
    (he : ∀ (s : Shared) (H : Hp) (L : Addr) (cl : List (Str × Addr)) (fp : List Addr), Gd (X.blk s H scope (compEnvC scope cl L X.env) fp) C W0 k → EM (X.blk s H scope (compEnvC scope cl L X.env) fp) C W0 elt te me)
    (hy : X.N[i]? = some y := by rfl) (hyl : X.env.scope.names.lookup y = some .local := by rfl) (hsw : swapsWith (.ListComp elt [⟨tg, iter, ifs, 0⟩] scope pos) (some (.Name y py)) spos.line X.env = pure true := by exact sw_true rfl rfl rfl (by decide +kernel)) (hs : ∀ x, foldedSetIterable iter X.env x = pure x := by intro _; rfl) :
    SM X C W (.Assign [.Name y py] (.ListComp elt [⟨tg, iter, ifs, 0⟩] scope pos) spos) (tAsg (tLc wi gt tt te (own.map (·.2))) (gName i)) (match fresh with | true => mSetL i (mLc mi (own.map (·.2)) gv mt me) | false => mSet i (mLc mi (own.map (·.2)) gv mt me)) := by
  have hp := ps_lc (spos := spos) (py := py) (pos := pos) g hi ok hg ht he hy hyl hsw hs
  have he2 := ef_lc (pos := pos) g hi ok hg ht he hs
  cases fresh with
  | true => exact sm_lcL hp he2
  | false => exact sm_lc hp (em_of_ef he2)
/-! ### isinstance(x, (T, U)) -/
def isi2D (n1 n2 : String) (x : D) : Res D := match isiD n1 x with
  | .ok (.bl true) => .ok (.bl true)
  | .ok (.bl false) => isiD n2 x
  | _ => .bad
def mIsi2 (n1 n2 : String) (m : Ev) : Ev := fun env => do
  let r ← m env
  let x ← rs r.2 r.1
  match isi2D n1 n2 x with
  | .ok d => pure (d, r.2)
  | _ => .bad
theorem em_isi2 {n1 n2 : String} {T U : Str} {p pT pU p2 : Pos} {kk} (g : Gd X C W k) (hg : Gl X "isinstance") (hm : X.mg "isinstance" = none) (hgT : Gl X T) (hmT : X.mg T = none) (hvT : bootBuiltins T = some (.type n1)) (hgU : Gl X U) (hmU : X.mg U = none) (hvU : bootBuiltins U = some (.type n2)) (he : EM X C W e te m)
    (hnT : T ≠ "__name__" := by decide) (hdT : (T == ("__debug__" : Str)) = false := by decide) (hnU : U ≠ "__name__" := by decide) (hdU : (U == ("__debug__" : Str)) = false := by decide)
    (hs : starEach [e, .Tuple [.Name T pT, .Name U pU] kk p2] X.env = (false, eval e X.env) :: starEach [.Tuple [.Name T pT, .Name U pU] kk p2] X.env := by rfl)
    (hs2 : starEach [.Tuple [.Name T pT, .Name U pU] kk p2] X.env = (false, eval (.Tuple [.Name T pT, .Name U pU] kk p2) X.env) :: starEach [] X.env := by rfl)
    (hs3 : starEach [.Name T pT, .Name U pU] X.env = (false, eval (.Name T pT) X.env) :: starEach [.Name U pU] X.env := by rfl) (hs4 : starEach [.Name U pU] X.env = (false, eval (.Name U pU) X.env) :: starEach [] X.env := by rfl)
    (hpl : (backTo pos (starEach [.Tuple [.Name T pT, .Name U pU] kk p2] X.env)).any (·.1) = false := by rfl) :
    EM X C W (.Call (.Name "isinstance" p) [e, .Tuple [.Name T pT, .Name U pU] kk p2] [] pos) (tCB (rIsiT C.K) (tCons te (tCons (tTup (tCons (tC (.ty n1)) (tCons (tC (.ty n2)) tNil))) tNil))) (mIsi2 n1 n2 m) := by
  refine ⟨g.kE ▸ pe_callB call_isiT hg hm (by decide +kernel) (pa_cons he.pe (pa_cons (pe_tup (pa_cons (pe_bltn hgT hmT hvT rfl hnT hdT) (pa_cons (pe_bltn hgU hmU hvU rfl hnU hdU) pa_nil hs4) hs3)) pa_nil hs2) hs) (by decide) (by decide) hs hpl, fun M0 ad σ H env Q R w => ?_⟩
  unfold mIsi2 at w
  refine he.sn' R w fun r v H1 R1 S1 V1 w1 => ?_
  rw [wp_bind] at w1
  obtain ⟨y, _, w2, rx⟩ := R1.rs V1 w1
  refine ⟨by show 2 ≤ sizeLine; decide, fun o hn => ?_⟩
  have RG := R1.grow (same_new (o := .tup [V.ty n1, V.ty n2]) hn)
  have SG : Stp (C.w M0) ad H env (upd H1 o (.tup [V.ty n1, V.ty n2])) r.2 := S1.trans (.grow (same_new hn))
  have rx2 : Ro C.K (upd H1 o (.tup [V.ty n1, V.ty n2])) (Mo (C.w M0) r.2 ad) y v := rx.same (same_new hn)
  cases q1 : isiD n1 y with
  | err c => unfold isi2D at w2; rw [q1] at w2; exact w2.elim
  | bad => unfold isi2D at w2; rw [q1] at w2; exact w2.elim
  | ok d1 =>
    obtain ⟨b1, rfl, hk1⟩ := isi_kit q1
    have fin : ∀ bb, PySem.W.kitAny C.K (.type (tyN y)) [.type n1, .type n2] = some bb → (∀ v H', RE (C.w M0) ad H' σ r.2 → Stp (C.w M0) ad H env H' r.2 → VR (C.w M0) ad H' σ r.2 (.bl bb) v → Q v H') →
        rIsiT C.K [v, .ref o] (upd H1 o (.tup [V.ty n1, V.ty n2])) Q := fun bb hk hq => by
      exact ⟨v, o, _, _, _, bb, rfl, upd_same, .cons (.ty n1) (.cons (.ty n2) .nil), rx2.tyx (isi_ne q1), hk, hq _ _ RG SG (.of (.bl bb))⟩
    unfold isi2D at w2
    rw [q1] at w2
    cases b1 with
    | true => exact fin true (kitAny_cons (kit_ty hk1) (fun z => by cases z) fun _ => rfl) w2
    | false =>
      simp only at w2
      cases q2 : isiD n2 y with
      | err c => rw [q2] at w2; exact w2.elim
      | bad => rw [q2] at w2; exact w2.elim
      | ok d2 =>
        obtain ⟨b2, rfl, hk2⟩ := isi_kit q2
        rw [q2] at w2
        refine fin b2 (kitAny_cons (kit_ty hk1) (fun _ => kitAny_cons (kit_ty hk2) (fun z => by rw [z]; exact kitAny_nil) fun z => z) fun z => by cases z) w2
end
section
variable {T : List (Addr × Str)} {P : Program} {w : World} {K : PySem.W.Frag} {mg : Str → Option Value} {base : Heap} {x : Str} {st : Stmt} {f : Addr} {fd : FuncData} {N ps ks : List Str} {is : List Nat} {k n : Nat} {m : Sv}
theorem fnK (F : Fun K x x st f fd) (S : FnScope N ps (defScope st)) (hn : ps.length = n) (hm : mg x = some (.ref f))
    (hb : ∀ (kV doc pm : Value) (an : Option Addr) (cdv ct : Value) (us : List Value), us.length = is.length → bindArgs (PySem.W.fnOf x x (defArgs st) (defBody st) (defScope st) .none kV doc pm an cdv ct) ⟨[], ks.zip us⟩ = pure (ps.zip (pick is us)))
    (B : Body P w K T mg base N x st k false m) : FnK P w K mg base (k + 1) x ks is (spP K T mg n (run N.length m)) := by
  refine ⟨f, fd, ps, fnP_ok F S hn B, hm, F.kp, ?_⟩
  obtain ⟨oc, od, kV, doc, pm, an, cdv, ct, osl, rfl, lk, hcd⟩ := F.ex
  exact ⟨fun s ws _ hl => .of_eq (hb kV doc pm an cdv ct ws hl)⟩
end
end Vm
end
section
namespace Vm
open PySem L2
@[simp] theorem z_mVar (i : Nat) (env : Sls) : (mVar i env : Res (D × Sls)) = (  match env[i]? with
  | some (.t d) => .ok (d, env)
  | some (.l _) => .ok (.own i, env)
  | some (.p _) => .ok (.own i, env)
  | some (.r _) => .ok (.own i, env)
  | _ => .bad) := rfl
@[simp] theorem z_mK (d : D) (env : Sls) : (mK d env : Res (D × Sls)) = (.ok (d, env)) := rfl
@[simp] theorem z_mBin (g : D → D → Res D) (ma mb : Ev) (env : Sls) : (mBin g ma mb env : Res (D × Sls)) = (do
  let r1 ← ma env
  let r2 ← mb r1.2
  let x ← rs r2.2 r1.1
  let y ← rs r2.2 r2.1
  let d ← match g x y with
    | .err _ => .bad
    | z => z
  pure (d, r2.2)) := rfl
@[simp] theorem z_mTru (m : Ev) (env : Sls) : (mTru m env : Res (Bool × Sls)) = (do
  let r ← m env
  match r.1 with
  | .bl b => pure (b, r.2)
  | _ => .bad) := rfl
@[simp] theorem z_mNotT (m : Ev1) (env : Sls) : (mNotT m env : Res (Bool × Sls)) = (do
  let r ← m env
  pure (!r.1, r.2)) := rfl
@[simp] theorem z_mAndT (m n : Ev1) (env : Sls) : (mAndT m n env : Res (Bool × Sls)) = (do
  let r ← m env
  if r.1 = true then n r.2 else pure (false, r.2)) := rfl
@[simp] theorem z_mOrT (m n : Ev1) (env : Sls) : (mOrT m n env : Res (Bool × Sls)) = (do
  let r ← m env
  if r.1 = true then pure (true, r.2) else n r.2) := rfl
@[simp] theorem z_mAndV (m n : Ev) (env : Sls) : (mAndV m n env : Res (D × Sls)) = (do
  let r ← m env
  match r.1 with
  | .bl true => n r.2
  | .bl false => pure (.bl false, r.2)
  | _ => .bad) := rfl
@[simp] theorem z_mOrV (m n : Ev) (env : Sls) : (mOrV m n env : Res (D × Sls)) = (do
  let r ← m env
  match r.1 with
  | .bl true => pure (.bl true, r.2)
  | .bl false => n r.2
  | _ => .bad) := rfl
@[simp] theorem z_mNotV (m : Ev) (env : Sls) : (mNotV m env : Res (D × Sls)) = (do
  let r ← m env
  match r.1 with
  | .bl b => pure (.bl (!b), r.2)
  | _ => .bad) := rfl
@[simp] theorem z_mIf (mt : Ev1) (ma mb : Ev) (env : Sls) : (mIf mt ma mb env : Res (D × Sls)) = (do
  let r ← mt env
  if r.1 = true then ma r.2 else mb r.2) := rfl
@[simp] theorem z_mNil (env : Sls) : (mNil env : Res (List D × Sls)) = (.ok ([], env)) := rfl
@[simp] theorem z_mCons (m : Ev) (ms : Evs) (env : Sls) : (mCons m ms env : Res (List D × Sls)) = (do
  let r1 ← m env
  let r2 ← ms r1.2
  pure (r1.1 :: r2.1, r2.2)) := rfl
@[simp] theorem z_mCallB (g : List D → Res D) (ms : Evs) (env : Sls) : (mCallB g ms env : Res (D × Sls)) = (do
  let r ← ms env
  let xs ← rsL r.2 r.1
  match g xs with
  | .ok d => pure (d, r.2)
  | _ => .bad) := rfl
@[simp] theorem z_mTup (ms : Evs) (env : Sls) : (mTup ms env : Res (D × Sls)) = (do
  let r ← ms env
  let xs ← kpL r.1
  if xs.length ≤ sizeLine then pure (.tup xs, r.2) else .bad) := rfl
@[simp] theorem z_mLst (ms : Evs) (env : Sls) : (mLst ms env : Res (D × Sls)) = (do
  let r ← ms env
  let xs ← kpL r.1
  if xs.length ≤ sizeLine then pure (.lst xs, r.2) else .bad) := rfl
@[simp] theorem z_mDic0 (env : Sls) : (mDic0 env : Res (D × Sls)) = (.ok (.dic [], env)) := rfl
@[simp] theorem z_subD (x y : D) : (subD x y : Res D) = (match x, y with
  | .int i, .int j => .ok (.int (i - j))
  | _, _ => .bad) := rfl
@[simp] theorem z_modD (x y : D) : (modD x y : Res D) = (match x, y with
  | .int i, .int j => if 0 < j then .ok (.int (i % j)) else .bad
  | _, _ => .bad) := rfl
@[simp] theorem z_cmpD (p : Int → Int → Bool) (x y : D) : (cmpD p x y : Res D) = (match x, y with
  | .int i, .int j => .ok (.bl (p i j))
  | _, _ => .bad) := rfl
@[simp] theorem z_isD (x y : D) : (isD x y : Res D) = (match x, y with
  | x, .non => (match x with
    | .non => .ok (.bl true)
    | .own _ => .bad
    | _ => .ok (.bl false))
  | .bl a, .bl b => .ok (.bl (decide (a = b)))
  | _, _ => .bad) := rfl
@[simp] theorem z_isntD (x y : D) : (isntD x y : Res D) = (match x, y with
  | x, .non => (match x with
    | .non => .ok (.bl false)
    | .own _ => .bad
    | _ => .ok (.bl true))
  | .bl a, .bl b => .ok (.bl (!decide (a = b)))
  | _, _ => .bad) := rfl
@[simp] theorem z_one (g : D → Res D) (ds : List D) : (one g ds : Res D) = (match ds with
  | [x] => g x
  | _ => .bad) := rfl
@[simp] theorem z_two (g : D → D → Res D) (ds : List D) : (two g ds : Res D) = (match ds with
  | [x, y] => g x y
  | _ => .bad) := rfl
@[simp] theorem z_lenD (x : D) : (lenD x : Res D) = (match x with
  | .lst xs => .ok (.int xs.length)
  | .tup xs => .ok (.int xs.length)
  | .str x => if x.length ≤ sizeLine then .ok (.int x.length) else .bad
  | .dic xs => .ok (.int xs.length)
  | .scr ns => .ok (.int ns.length)
  | _ => .bad) := rfl
@[simp] theorem z_maxD (x y : D) : (maxD x y : Res D) = (match x, y with
  | .int i, .int j => .ok (.int (if j > i then j else i))
  | _, _ => .bad) := rfl
@[simp] theorem z_minD (x y : D) : (minD x y : Res D) = (match x, y with
  | .int i, .int j => .ok (.int (if j < i then j else i))
  | _, _ => .bad) := rfl
@[simp] theorem z_intD (x : D) : (intD x : Res D) = (match x with
  | .int i => .ok (.int i)
  | .bl k => .ok (.int (if k then 1 else 0))
  | _ => .bad) := rfl
@[simp] theorem z_absD (x : D) : (absD x : Res D) = (match x with
  | .int i => .ok (.int (if i < 0 then -i else i))
  | _ => .bad) := rfl
@[simp] theorem z_tupD (x : D) : (tupD x : Res D) = (match x with
  | .lst xs => .ok (.tup xs)
  | .tup xs => .ok (.tup xs)
  | _ => .bad) := rfl
@[simp] theorem z_lstD (x : D) : (lstD x : Res D) = (match x with
  | .lst xs => .ok (.lst xs)
  | .tup xs => .ok (.lst xs)
  | _ => .bad) := rfl
@[simp] theorem z_dkey (y : D) : (dkey y : Option Key) = (match y with
  | .int i => some (.inl i)
  | .str x => some (.inr x)
  | _ => none) := rfl
@[simp] theorem isiX_t (n : String) (x : List D) : isiX n (.tup x) = isiD n (.tup x) := rfl
@[simp] theorem isiX_l (n : String) (x : List D) : isiX n (.lst x) = isiD n (.lst x) := rfl
@[simp] theorem isiX_i (n : String) (x : Int) : isiX n (.int x) = isiD n (.int x) := rfl
@[simp] theorem isiX_s (n : String) (x : Str) : isiX n (.str x) = isiD n (.str x) := rfl
@[simp] theorem isiX_b (n : String) (x : Bool) : isiX n (.bl x) = isiD n (.bl x) := rfl
@[simp] theorem isiX_n (n : String) : isiX n .non = isiD n .non := rfl
@[simp] theorem isiX_d (n : String) (x : List (Key × D)) : isiX n (.dic x) = isiD n (.dic x) := rfl
@[simp] theorem isiX_c (n : String) (x : List Int) : isiX n (.scr x) = isiD n (.scr x) := rfl
@[simp] theorem isiX_e (n : String) (c : Str) : isiX n (.exc c) = (if n ∈ ty6 then .ok (.bl false) else .bad) := rfl
@[simp] theorem x9 (c : Str) : kp (.exc c) = .ok (.exc c) := rfl
@[simp] theorem w11 (env : Sls) (c : Str) : rs env (.exc c) = .ok (.exc c) := rfl
@[simp] theorem y18e (c : Str) (ds : List D) : allKp (.exc c :: ds) = allKp ds := rfl
@[simp] theorem z_mIsi (n : String) (m : Ev) (env : Sls) : (mIsi n m env : Res (D × Sls)) = (do
  let r ← m env
  let x ← rs r.2 r.1
  match isiX n x with
  | .ok d => pure (d, r.2)
  | _ => .bad) := rfl
@[simp] theorem z_mNo (env : Sls) : (mNo env : Res (Option Int × Sls)) = (.ok (none, env)) := rfl
@[simp] theorem z_mPart (m : Ev) (env : Sls) : (mPart m env : Res (Option Int × Sls)) = (do
  let r ← m env
  match r.1 with
  | .int i => pure (some i, r.2)
  | _ => .bad) := rfl
@[simp] theorem z_mSl (g : D → Option Int → Option Int → Res D) (m : Ev) (ml mh : Eo) (env : Sls) : (mSl g m ml mh env : Res (D × Sls)) = (do
  let r ← m env
  let l ← ml r.2
  let h ← mh l.2
  let x ← rs h.2 r.1
  match g x l.1 h.1 with
  | .ok d => pure (d, h.2)
  | _ => .bad) := rfl
@[simp] theorem z_mCall (n : Nat) (fm : List D → Res D) (ms : Evs) (env : Sls) : (mCall n fm ms env : Res (D × Sls)) = (do
  let r ← ms env
  if r.1.length = n then
    if allKp r.1 = true then do
      let d ← fm r.1
      pure (d, r.2)
    else do
      let xs ← rsL r.2 r.1
      let d ← fm xs
      if d.flat = true then pure (d, r.2) else .bad
  else .bad) := rfl
@[simp] theorem z_mCall0 (fm : List D → Res D) (env : Sls) : (mCall0 fm env : Res (D × Sls)) = (  match fm [] with
  | .ok d => .ok (d, env)
  | _ => .bad) := rfl
@[simp] theorem z_mCallF (n : Nat) (fm : List D → Res D) (ms : Evs) (env : Sls) : (mCallF n fm ms env : Res (D × Sls)) = (do
  let r ← ms env
  if r.1.length = n then
    if allKp r.1 = true then do
      let d ← fm r.1
      pure (d, r.2)
    else .bad
  else .bad) := rfl
@[simp] theorem z_mCallJ (n : Nat) (fm : D → List D → Res (D × D)) (ms : Evs) (env : Sls) : (mCallJ n fm ms env : Res (D × Sls)) = (do
  let r ← ms env
  if r.1.length = n then
    match r.1 with
    | .own i :: ds =>
      if allKp ds = true then
        match r.2[i]? with
        | some (.l c) => (match fm c ds with
          | .ok q => pure (q.1, r.2.set i (.l q.2))
          | _ => .bad)
        | some (.p c) => (match fm c ds with
          | .ok q => pure (q.1, r.2.set i (.p q.2))
          | _ => .bad)
        | _ => .bad
      else .bad
    | _ => .bad
  else .bad) := rfl
@[simp] theorem z_mApp (i : Nat) (m : Ev) (env : Sls) : (mApp i m env : Res (D × Sls)) = (  match env[i]?.bind Sl.con with
  | some (.lst _) => do
    let r ← m env
    let d ← kp r.1
    match r.2[i]? with
    | some s => (match s.con with
      | some (.lst ds) => if ds.length < sizeLine then pure (.non, r.2.set i (s.put (.lst (ds ++ [d])))) else .bad
      | _ => .bad)
    | _ => .bad
  | _ => .bad) := rfl
@[simp] theorem z_mSeq (m : Ev) (env : Sls) : (mSeq m env : Res (List D × Sls)) = (do
  let r ← m env
  match r.1 with
  | .lst ds => pure (ds, r.2)
  | .tup ds => pure (ds, r.2)
  | _ => .bad) := rfl
@[simp] theorem z_gmN (i : Nat) (d : D) (env : Sls) : (gmN i d env : Res Sls) = (if notPar env i = true then .ok (env.set i (.t d)) else .bad) := rfl
@[simp] theorem z_gmNil (ds : List D) (env : Sls) : (gmNil ds env : Res Sls) = (match ds with
  | [] => .ok env
  | _ => .bad) := rfl
@[simp] theorem z_gmCons (g : Gv) (gs : List D → Sls → Res Sls) (ds : List D) (env : Sls) : (gmCons g gs ds env : Res Sls) = (match ds with
  | d :: ds => do
    let e ← g d env
    gs ds e
  | _ => .bad) := rfl
@[simp] theorem z_gmT (n : Nat) (gs : List D → Sls → Res Sls) (d : D) (env : Sls) : (gmT n gs d env : Res Sls) = (match d with
  | .tup ds => if ds.length = n then gs ds env else .bad
  | _ => .bad) := rfl
@[simp] theorem z_noE {α : Type} (r : Res α) : (noE r : Res α) = (match r with
  | .err _ => .bad
  | r => r) := rfl
@[simp] theorem z_mLc (mi : Em) (vs : List Nat) (g : Gv) (tt : Ev1) (me : Ev) (env : Sls) : (mLc mi vs g tt me env : Res (D × Sls)) = (do
  let r ← mi env
  if okWipe r.2 vs = true then do
    let q ← lcL vs g tt me r.1 (wipeE r.2 vs)
    pure (.lst q.1, backE r.2 q.2 vs)
  else .bad) := rfl
@[simp] theorem z_mYes (env : Sls) : (mYes env : Res (Bool × Sls)) = (.ok (true, env)) := rfl
@[simp] theorem z_mSk (env : Sls) : (mSk env : Res (Out × Sls)) = (.ok (.next, env)) := rfl
@[simp] theorem z_mSq (m1 m2 : Sv) (env : Sls) : (mSq m1 m2 env : Res (Out × Sls)) = (do
  let r ← m1 env
  match r.1 with
  | .next => m2 r.2
  | o => pure (o, r.2)) := rfl
@[simp] theorem z_mBrk (env : Sls) : (mBrk env : Res (Out × Sls)) = (.ok (.brk, env)) := rfl
@[simp] theorem z_mCnt (env : Sls) : (mCnt env : Res (Out × Sls)) = (.ok (.cont, env)) := rfl
@[simp] theorem z_mSet (i : Nat) (m : Ev) (env : Sls) : (mSet i m env : Res (Out × Sls)) = (do
  let r ← m env
  let d ← kp r.1
  if notPar r.2 i = true then pure (.next, r.2.set i (.t d)) else .bad) := rfl
@[simp] theorem z_mSetL (i : Nat) (m : Ev) (env : Sls) : (mSetL i m env : Res (Out × Sls)) = (do
  let r ← m env
  if notPar r.2 i = true then pure (.next, r.2.set i (.l r.1)) else .bad) := rfl
@[simp] theorem z_mUnp (gv : Gv) (m : Ev) (env : Sls) : (mUnp gv m env : Res (Out × Sls)) = (do
  let r ← m env
  let d ← kp r.1
  let e ← noE (gv d r.2)
  pure (.next, e)) := rfl
@[simp] theorem z_mExp (m : Ev) (env : Sls) : (mExp m env : Res (Out × Sls)) = (do
  let r ← m env
  pure (.next, r.2)) := rfl
@[simp] theorem z_mIfS (mt : Ev1) (m1 m2 : Sv) (env : Sls) : (mIfS mt m1 m2 env : Res (Out × Sls)) = (do
  let r ← mt env
  if r.1 = true then m1 r.2 else m2 r.2) := rfl
@[simp] theorem z_mRet (m : Ev) (env : Sls) : (mRet m env : Res (Out × Sls)) = (do
  let r ← m env
  let d ← kp r.1
  pure (.ret d, r.2)) := rfl
@[simp] theorem z_mRetN (env : Sls) : (mRetN env : Res (Out × Sls)) = (.ok (.ret .non, env)) := rfl
@[simp] theorem z_mRetL (i : Nat) (env : Sls) : (mRetL i env : Res (Out × Sls)) = (  match env[i]? with
  | some (.l d) => .ok (.ret d, env.set i .u)
  | _ => .bad) := rfl
@[simp] theorem z_mRai (x : Str) (env : Sls) : (mRai x env : Res (Out × Sls)) = (.err x) := rfl
@[simp] theorem z_mFor (mi : Em) (gv : Gv) (b : Sv) (env : Sls) : (mFor mi gv b env : Res (Out × Sls)) = (do
  let r ← mi env
  forL gv b r.1 r.2) := rfl
@[simp] theorem z_mPut (i : Nat) (mi mv : Ev) (env : Sls) : (mPut i mi mv env : Res (Out × Sls)) = (do
  let r1 ← mv env
  let d ← kp r1.1
  match r1.2[i]?.bind Sl.con with
  | some _ => do
    let r2 ← mi r1.2
    let y ← rs r2.2 r2.1
    match r2.2[i]? with
    | some s => (match s.con with
      | some c => (match putAt c y d with
        | .ok c' => pure (.next, r2.2.set i (s.put c'))
        | _ => .bad)
      | none => .bad)
    | none => .bad
  | none => .bad) := rfl
@[simp] theorem z_envOf (n : Nat) (ds : List D) : (envOf n ds : Sls) = (ds.map Sl.t ++ List.replicate (n - ds.length) .u) := rfl
@[simp] theorem z_run (n : Nat) (m : Sv) (ds : List D) : (run n m ds : Res D) = (
  match m (envOf n ds) with
  | .ok (.ret d, _) => .ok d
  | .ok (.next, _) => .ok .non
  | .ok _ => .bad
  | .err c => .err c
  | .bad => .bad) := rfl
@[simp] theorem z_noneD (d : D) : (noneD d : Bool) = (match d with
  | .non => true
  | _ => false) := rfl
@[simp] theorem z_runF (n : Nat) (m : Sv) (ds : List D) : (runF n m ds : Res D) = (
  match m (envOf n ds) with
  | .ok (.ret d, _) => if noneD d = true then .bad else .ok d
  | .ok _ => .bad
  | .err c => .err c
  | .bad => .bad) := rfl
@[simp] theorem z_runG (n : Nat) (m : Sv) (ds : List D) : (runG n m ds : Res D) = (
  match m (envOf n ds) with
  | .ok (.ret d, _) => .ok d
  | .ok (.next, _) => .ok .non
  | .ok _ => .bad
  | .err c => .err c
  | .bad => .bad) := rfl
@[simp] theorem z_envJ (n : Nat) (j : D) (ds : List D) : (envJ n j ds : Sls) = (.p j :: (ds.map Sl.t ++ List.replicate (n - ds.length - 1) .u)) := rfl
@[simp] theorem z_runJ (n : Nat) (m : Sv) (j : D) (ds : List D) : (runJ n m j ds : Res (D × D)) = (
  match m (envJ n j ds) with
  | .ok (.ret d, e) => (match (e[0]? : Option Sl) with
    | some (.p j') => .ok (d, j')
    | _ => .bad)
  | .ok (.next, e) => (match (e[0]? : Option Sl) with
    | some (.p j') => .ok (.non, j')
    | _ => .bad)
  | _ => .bad) := rfl
@[simp] theorem z_negD (x : D) : (negD x : Res D) = (match x with
  | .int i => .ok (.int (-i))
  | _ => .bad) := rfl
@[simp] theorem z_mUn (g : D → Res D) (m : Ev) (env : Sls) : (mUn g m env : Res (D × Sls)) = (do
  let r ← m env
  let x ← rs r.2 r.1
  match g x with
  | .ok d => pure (d, r.2)
  | _ => .bad) := rfl
@[simp] theorem z_sliceD (x : D) (lo hi : Option Int) : (sliceD x lo hi : Res D) = (match x with
  | .lst xs => .ok (.lst (cutD xs lo hi))
  | .tup xs => .ok (.tup (cutD xs lo hi))
  | .scr ns => .ok (.lst (cutD (ns.map D.int) lo hi))
  | _ => .bad) := rfl
@[simp] theorem z_mCallK (n : Nat) (is : List Nat) (fm : List D → Res D) (ms : Evs) (env : Sls) : (mCallK n is fm ms env : Res (D × Sls)) = (do
  let r ← ms env
  if r.1.length = is.length ∧ (pick is r.1).length = n ∧ allKp (pick is r.1) = true then do
    let d ← fm (pick is r.1)
    pure (d, r.2)
  else .bad) := rfl
@[simp] theorem z_mIsi2 (n1 n2 : String) (m : Ev) (env : Sls) : (mIsi2 n1 n2 m env : Res (D × Sls)) = (do
  let r ← m env
  let x ← rs r.2 r.1
  match isi2D n1 n2 x with
  | .ok d => pure (d, r.2)
  | _ => .bad) := rfl
@[simp] theorem z_mWh (f : Sls → Nat) (mt : Ev1) (mb : Sv) (env : Sls) : (mWh f mt mb env : Res (Out × Sls)) = (whL mt mb (f env) env) := rfl
@[simp] theorem z_mChain (g g' : D → D → Res D) (ma mb mc : Ev) (env : Sls) : (mChain g g' ma mb mc env : Res (D × Sls)) = (do
  let r1 ← ma env
  let r2 ← mb r1.2
  let x ← rs r2.2 r1.1
  let y ← rs r2.2 r2.1
  match g x y with
  | .ok (.bl true) =>
    let r3 ← mc r2.2
    let y ← rs r3.2 r2.1
    let z ← rs r3.2 r3.1
    match g' y z with
    | .ok d => pure (d, r3.2)
    | _ => .bad
  | .ok (.bl false) => pure (.bl false, r2.2)
  | _ => .bad) := rfl
@[simp] theorem z_mGive (i : Nat) (env : Sls) : (mGive i env : Res (D × Sls)) = (  match env[i]? with
  | some (.l d) => .ok (d, env.set i (.t d))
  | _ => .bad) := rfl
theorem rg1_ex : ∃ f : Int → Bool, ∀ j, (f j = true) = (-4611686018427387904 ≤ j ∧ j ≤ 16777216) := ⟨fun j => decide (-4611686018427387904 ≤ j ∧ j ≤ 16777216), fun j => decide_eq_true_eq⟩
theorem rg2_ex : ∃ f : Int × Int → Bool, ∀ p, (f p = true) = (-4611686018427387904 ≤ p.1 ∧ p.1 < 4611686018427387904 ∧ -4611686018427387904 ≤ p.2 ∧ p.2 < 4611686018427387904 ∧ p.2 - p.1 ≤ 16777216) := ⟨fun p => decide (-4611686018427387904 ≤ p.1 ∧ p.1 < 4611686018427387904 ∧ -4611686018427387904 ≤ p.2 ∧ p.2 < 4611686018427387904 ∧ p.2 - p.1 ≤ 16777216), fun p => decide_eq_true_eq⟩
noncomputable def rg1 : Int → Bool := Classical.choose rg1_ex
noncomputable def rg2 : Int × Int → Bool := Classical.choose rg2_ex
theorem rg1_eq (j : Int) : (rg1 j = true) = (-4611686018427387904 ≤ j ∧ j ≤ 16777216) := Classical.choose_spec rg1_ex j
theorem rg2_eq (p : Int × Int) : (rg2 p = true) = (-4611686018427387904 ≤ p.1 ∧ p.1 < 4611686018427387904 ∧ -4611686018427387904 ≤ p.2 ∧ p.2 < 4611686018427387904 ∧ p.2 - p.1 ≤ 16777216) := Classical.choose_spec rg2_ex p
theorem rg1_ok {j : Int} (h : -16777216 ≤ j) (h2 : j ≤ 16777216) : rg1 j = true := by rw [rg1_eq]; omega
theorem rg2_ok {i j : Int} (h : -1000000 ≤ i) (h2 : i ≤ 1000000) (h3 : -1000000 ≤ j) (h4 : j ≤ 1000000) : rg2 (i, j) = true := by rw [rg2_eq]; simp only; omega
@[simp] theorem rg1_lit (j : Nat) (h : j ≤ 16777216) : rg1 (j : Int) = true := rg1_ok (by omega) (by omega)
@[simp] theorem z_mRng1 (ms : Evs) (env : Sls) : mRng1 ms env = (do
  let r ← ms env
  match int1 r.1 with
  | some j => if rg1 j = true then pure (rangeD 0 j.toNat, r.2) else .bad
  | none => .bad) := by
  unfold mRng1
  simp only [rg1_eq] <;> rfl
@[simp] theorem z_mRng2 (ms : Evs) (env : Sls) : mRng2 ms env = (do
  let r ← ms env
  match int2 r.1 with
  | some p => if rg2 p = true then pure (rangeD p.1 (p.2 - p.1).toNat, r.2) else .bad
  | none => .bad) := by
  unfold mRng2
  simp only [rg2_eq] <;> rfl
@[simp] theorem sz_lit (n : Nat) (h : n ≤ 1000000 := by decide) : (n ≤ sizeLine) = True := eq_true (Nat.le_trans h (by decide))
@[simp] theorem sz_lt (n : Nat) (h : n < 1000000) : (n < sizeLine) = True := eq_true (Nat.lt_of_lt_of_le h (by decide))
def np (s : Sl) : Bool := match s with
  | .p _ => false
  | _ => true
@[simp] theorem n0 (s : Sl) (e : Sls) : notPar (s :: e) 0 = np s := by cases s <;> rfl
@[simp] theorem n1 (s : Sl) (e : Sls) (i : Nat) : notPar (s :: e) (i + 1) = notPar e i := by
  unfold notPar
  rw [List.getElem?_cons_succ]
@[simp] theorem n2 (d : D) : np (.t d) = true := rfl
@[simp] theorem n3 (d : D) : np (.l d) = true := rfl
@[simp] theorem n4 : np .u = true := rfl
@[simp] theorem n5 (d : D) : np (.r d) = true := rfl
@[simp] theorem n6 (d : D) : np (.p d) = false := rfl
@[simp] theorem v4 (i j : Int) : powD (.int i) (.int j) = (if 0 ≤ j ∧ j ≤ 1000000 ∧ i.natAbs < 2 ^ 64 then .ok (.int (i ^ j.toNat)) else .bad) := rfl
@[simp] theorem v0 (i j : Int) : addD (.int i) (.int j) = .ok (.int (i + j)) := rfl
@[simp] theorem v1 (a b : List D) : addD (.lst a) (.lst b) = (if a.length + b.length ≤ sizeLine then .ok (.lst (a ++ b)) else .bad) := rfl
@[simp] theorem v2 (a b : List D) : addD (.tup a) (.tup b) = (if a.length + b.length ≤ sizeLine then .ok (.tup (a ++ b)) else .bad) := rfl
@[simp] theorem v3 (a b : Str) : addD (.str a) (.str b) = (if a.length + b.length ≤ sizeLine then .ok (.str (a ++ b)) else .bad) := rfl
@[simp] theorem x0 (i : Bool) : kp (.bl i) = .ok (.bl i) := rfl
@[simp] theorem w0 (env : Sls) (i : Bool) : rs env (.bl i) = .ok (.bl i) := rfl
@[simp] theorem x1 (i : Int) : kp (.int i) = .ok (.int i) := rfl
@[simp] theorem w1 (env : Sls) (i : Int) : rs env (.int i) = .ok (.int i) := rfl
@[simp] theorem x2 (i : Str) : kp (.str i) = .ok (.str i) := rfl
@[simp] theorem w2 (env : Sls) (i : Str) : rs env (.str i) = .ok (.str i) := rfl
@[simp] theorem x3 (i : List D) : kp (.tup i) = .ok (.tup i) := rfl
@[simp] theorem w3 (env : Sls) (i : List D) : rs env (.tup i) = .ok (.tup i) := rfl
@[simp] theorem x4 (i : List D) : kp (.lst i) = .ok (.lst i) := rfl
@[simp] theorem w4 (env : Sls) (i : List D) : rs env (.lst i) = .ok (.lst i) := rfl
@[simp] theorem x5 (i : List (Key × D)) : kp (.dic i) = .ok (.dic i) := rfl
@[simp] theorem w5 (env : Sls) (i : List (Key × D)) : rs env (.dic i) = .ok (.dic i) := rfl
@[simp] theorem x6 (i : List Int) : kp (.scr i) = .ok (.scr i) := rfl
@[simp] theorem w6 (env : Sls) (i : List Int) : rs env (.scr i) = .ok (.scr i) := rfl
@[simp] theorem x7 : kp .non = .ok .non := rfl
@[simp] theorem w7 (env : Sls) : rs env .non = .ok .non := rfl
@[simp] theorem x8 (i : Nat) : kp (.own i) = .bad := rfl
@[simp] theorem w8 (env : Sls) (i : Nat) : rs env (.own i) = (match env[i]? with
    | some (.t d) => .ok d
    | some (.l d) => .ok d
    | some (.p d) => .ok d
    | some (.r d) => .ok d
    | _ => .bad) := rfl
@[simp] theorem w9 (i : Int) : int1 [.int i] = some i := rfl
@[simp] theorem w10 (i j : Int) : int2 [.int i, .int j] = some (i, j) := rfl
@[simp] theorem y1 {α β : Type} (a : α) (f : α → Res β) : (Res.ok a >>= f) = f a := rfl
@[simp] theorem y2 {α β : Type} (c : Str) (f : α → Res β) : ((Res.err c : Res α) >>= f) = Res.err c := rfl
@[simp] theorem y3 {α β : Type} (f : α → Res β) : ((Res.bad : Res α) >>= f) = Res.bad := rfl
@[simp] theorem y4 {α : Type} (a : α) : (pure a : Res α) = Res.ok a := rfl
@[simp] theorem y5 (env : Sls) : rsL env [] = .ok [] := rfl
@[simp] theorem y6 (env : Sls) (d : D) (ds : List D) : rsL env (d :: ds) = (do
    let x ← rs env d
    let xs ← rsL env ds
    pure (x :: xs)) := rfl
@[simp] theorem y7 : kpL [] = .ok [] := rfl
@[simp] theorem y8 (d : D) (ds : List D) : kpL (d :: ds) = (do
    let x ← kp d
    let xs ← kpL ds
    pure (x :: xs)) := rfl
@[simp] theorem y9 : allKp [] = true := rfl
@[simp] theorem y10 (i : Nat) (ds : List D) : allKp (.own i :: ds) = false := rfl
@[simp] theorem y11 (i : Int) (ds : List D) : allKp (.int i :: ds) = allKp ds := rfl
@[simp] theorem y12 (i : List D) (ds : List D) : allKp (.tup i :: ds) = allKp ds := rfl
@[simp] theorem y13 (i : Bool) (ds : List D) : allKp (.bl i :: ds) = allKp ds := rfl
@[simp] theorem y14 (i : Str) (ds : List D) : allKp (.str i :: ds) = allKp ds := rfl
@[simp] theorem y15 (ds : List D) : allKp (.non :: ds) = allKp ds := rfl
@[simp] theorem y16 (i : List D) (ds : List D) : allKp (.lst i :: ds) = allKp ds := rfl
@[simp] theorem y17 (i : List (Key × D)) (ds : List D) : allKp (.dic i :: ds) = allKp ds := rfl
@[simp] theorem y18 (i : List Int) (ds : List D) : allKp (.scr i :: ds) = allKp ds := rfl
@[simp] theorem y19 (env : Sls) : wipeE env [] = env := rfl
@[simp] theorem y20 (env : Sls) (v : Nat) (vs : List Nat) : wipeE env (v :: vs) = (wipeE env vs).set v .u := rfl
@[simp] theorem y21 (b env : Sls) : backE b env [] = env := rfl
@[simp] theorem y22 (b env : Sls) (v : Nat) (vs : List Nat) : backE b env (v :: vs) = (backE b env vs).set v (b.getD v .u) := rfl
@[simp] theorem y23 (env : Sls) : okWipe env [] = true := rfl
@[simp] theorem y24 (env : Sls) (v : Nat) (vs : List Nat) : okWipe env (v :: vs) = ((match env[v]? with
  | some .u => true
  | some (.t _) => true
  | _ => false) && okWipe env vs) := rfl
@[simp] theorem y25 (d : D) : (Sl.l d).con = some d := rfl
@[simp] theorem y26 (d : D) : (Sl.p d).con = some d := rfl
@[simp] theorem y27 (d e : D) : (Sl.l d).put e = .l e := rfl
@[simp] theorem y28 (d e : D) : (Sl.p d).put e = .p e := rfl
@[simp] theorem y29 (ds : List D) (i : Int) : ixD (.lst ds) (.int i) = (match L2.atI ds i with | some d => .ok d | none => .bad) := rfl
@[simp] theorem y30 (ds : List D) (i : Int) : ixD (.tup ds) (.int i) = (match L2.atI ds i with | some d => .ok d | none => .bad) := rfl
@[simp] theorem y31 (ds : List D) (y : D) : ixA (.lst ds) y = ixD (.lst ds) y := rfl
@[simp] theorem y32 (ds : List D) (y : D) : ixA (.tup ds) y = ixD (.tup ds) y := rfl
@[simp] theorem y33 (ds : List (Key × D)) (y : D) : ixA (.dic ds) y = (match dkey y with
    | some k => (match valD ds k with | some d => .ok d | none => .bad)
    | none => .bad) := rfl
@[simp] theorem y34 {α : Type} (x : α) (xs : List α) : L2.atI (x :: xs) 0 = some x := by unfold L2.atI L2.ixN; rw [if_pos (by decide), if_pos (by simp only [List.length_cons]; omega)]; rfl
@[simp] theorem y35 {α : Type} (x y : α) (xs : List α) : L2.atI (x :: y :: xs) 1 = some y := by unfold L2.atI L2.ixN; rw [if_pos (by decide), if_pos (by simp only [List.length_cons]; omega)]; rfl
@[simp] theorem y36 {α : Type} (x y z : α) (xs : List α) : L2.atI (x :: y :: z :: xs) 2 = some z := by unfold L2.atI L2.ixN; rw [if_pos (by decide), if_pos (by simp only [List.length_cons]; omega)]; rfl
@[simp] theorem y37 {α : Type} (x y z u : α) (xs : List α) : L2.atI (x :: y :: z :: u :: xs) 3 = some u := by unfold L2.atI L2.ixN; rw [if_pos (by decide), if_pos (by simp only [List.length_cons]; omega)]; rfl
theorem atI_ok {α : Type} {xs : List α} {i : Int} (h : 0 ≤ i) (h2 : i < xs.length) : ∃ (q : i.toNat < xs.length), L2.atI xs i = some (xs[i.toNat]) := by
  refine ⟨by omega, ?_⟩
  unfold L2.atI L2.ixN
  rw [if_pos h, if_pos h2]
  simp
@[simp] theorem y38 (ds : List D) (i : Int) (d : D) : putAt (.lst ds) (.int i) d = (match L2.ixN ds.length i with
      | some j => .ok (.lst (ds.set j d))
      | none => .bad) := rfl
@[simp] theorem y39 (ds : List (Key × D)) (y d : D) : putAt (.dic ds) y d = (match dkey y with
    | some k => if ds.length < sizeLine then .ok (.dic (putD ds k d)) else .bad
    | none => .bad) := rfl
@[simp] theorem y40 (ds : List D) : isiD "tuple" (.tup ds) = .ok (.bl true) := rfl
@[simp] theorem y41 (i : Int) : isiD "int" (.int i) = .ok (.bl true) := rfl
@[simp] theorem y42 (i : Int) : isiD "bool" (.int i) = .ok (.bl false) := rfl
@[simp] theorem y43 (i : Str) : isiD "str" (.str i) = .ok (.bl true) := rfl
@[simp] theorem y44 (i : List D) : isiD "list" (.lst i) = .ok (.bl true) := rfl
@[simp] theorem y45 (i j : Int) : eqD (.int i) (.int j) = .ok (.bl (decide (i = j))) := rfl
@[simp] theorem y46 (i j : Str) : eqD (.str i) (.str j) = .ok (.bl (decide (i = j))) := rfl
@[simp] theorem y47 (i j : Int) : neD (.int i) (.int j) = .ok (.bl (!decide (i = j))) := rfl
@[simp] theorem y48 (i j : Str) : neD (.str i) (.str j) = .ok (.bl (!decide (i = j))) := rfl
@[simp] theorem y49 (gv : Gv) (b : Sv) (env : Sls) : forL gv b [] env = .ok (.next, env) := rfl
@[simp] theorem y51 (vs : List Nat) (gv : Gv) (t : Ev1) (m : Ev) (env : Sls) : lcL vs gv t m [] env = .ok ([], env) := rfl
theorem log_lt {n k : Nat} (h : n < 2 ^ (k + 1)) : n.log2 < k + 1 := by
  by_cases z : n = 0
  · subst z; simp
  · exact (Nat.log2_lt z).mpr h
theorem pow_le {a b : Nat} (h : a ≤ b) : 2 ^ a ≤ 2 ^ b := Nat.pow_le_pow_right (by decide) h
theorem mul_ok {i j : Int} (a : i.natAbs < 2 ^ 250) (b : j.natAbs < 2 ^ 250) : mulD (.int i) (.int j) = .ok (.int (i * j)) := by
  have h1 := log_lt (k := 249) a
  have h2 := log_lt (k := 249) b
  show (if i.natAbs.log2 + j.natAbs.log2 < 1000000 then Res.ok (D.int (i * j)) else .bad) = _
  rw [if_pos (by omega)]
theorem div_ok {i j : Int} (a : 0 < j) (b : j.natAbs < 2 ^ 250) : divD (.int i) (.int j) = .ok (.int (i / j)) := by
  have h2 := log_lt (k := 249) b
  show (if 0 < j ∧ j.natAbs.log2 < 9000 then Res.ok (D.int (i / j)) else .bad) = _
  rw [if_pos ⟨a, by omega⟩]
theorem str_ok {i : Int} (a : i.natAbs < 2 ^ 250) : strI (.int i) = .ok (.str (toString i)) := by
  have h1 := log_lt (k := 249) a
  show (if i.natAbs.log2 < 1920 then Res.ok (D.str (toString i)) else Res.bad) = _
  rw [if_pos (by omega)]
@[simp] theorem pick10 {α : Type} (a b : α) : pick [1, 0] [a, b] = [b, a] := rfl
@[simp] theorem pick01 {α : Type} (a b : α) : pick [0, 1] [a, b] = [a, b] := rfl
@[simp] theorem pick0 {α : Type} (a : α) : pick [0] [a] = [a] := rfl
theorem bd_mul {i j : Int} {a b : Nat} (h : i.natAbs ≤ a) (h2 : j.natAbs ≤ b) : (i * j).natAbs ≤ a * b := by
  rw [Int.natAbs_mul]
  exact Nat.mul_le_mul h h2
theorem bd_add {i j : Int} {a b : Nat} (h : i.natAbs ≤ a) (h2 : j.natAbs ≤ b) : (i + j).natAbs ≤ a + b := by omega
theorem bd_sub {i j : Int} {a b : Nat} (h : i.natAbs ≤ a) (h2 : j.natAbs ≤ b) : (i - j).natAbs ≤ a + b := by omega
/-- a loop: an invariant of what is behind it -/
theorem forL_inv {gv : Gv} {b : Sv} (I : Nat → Sls → Prop) : ∀ (ds : List D) (env : Sls) (n : Nat), I n env →
    (∀ (i : Nat) (d : D) (e : Sls), ds[i]? = some d → I (n + i) e → ∃ e1 e2, gv d e = .ok e1 ∧ (b e1 = .ok (.next, e2) ∨ b e1 = .ok (.cont, e2)) ∧ I (n + i + 1) e2) →
    ∃ e', forL gv b ds env = .ok (.next, e') ∧ I (n + ds.length) e'
  | [], env, n, h, _ => ⟨env, rfl, h⟩
  | d :: ds, env, n, h, hs => by
    obtain ⟨e1, e2, h1, h2, h3⟩ := hs 0 d env rfl h
    obtain ⟨e', q, r⟩ := forL_inv I ds e2 (n + 1) h3 (fun i x e hx hi => by
      have := hs (i + 1) x e (by simpa using hx) (by rw [← Nat.add_assoc, Nat.add_right_comm]; exact hi)
      rw [← Nat.add_assoc, Nat.add_right_comm n i 1] at this
      exact this)
    refine ⟨e', ?_, by rw [List.length_cons, Nat.add_comm ds.length, ← Nat.add_assoc]; exact r⟩
    unfold forL
    rw [h1]
    rcases h2 with h2 | h2
    · simp [h2, q]
    · simp [h2, q]
/-- a comprehension: each item's value -/
theorem lcL_map {vs : List Nat} {gv : Gv} {t : Ev1} {m : Ev} {env : Sls} (f : D → D) : ∀ (ds : List D), (∀ d ∈ ds, ∃ e1 b e3, gv d env = .ok e1 ∧ t e1 = .ok (true, b) ∧ m b = .ok (f d, e3) ∧ kp (f d) = .ok (f d) ∧ wipeE e3 vs = env) →
    lcL vs gv t m ds env = .ok (ds.map f, env)
  | [], _ => rfl
  | d :: ds, h => by
    obtain ⟨e1, b, e3, h1, h2, h3, h4, h5⟩ := h d (.head _)
    have ih := lcL_map (vs := vs) (gv := gv) (t := t) (m := m) f ds fun x hx => h x (.tail _ hx)
    unfold lcL
    rw [h1]
    simp [h2, h3, h4, h5, ih]
/-! dicts with whole keys -/
def ki (p : Int × D) : Key × D := (.inl p.1, p.2)
def putP (ps : List (Int × D)) (c : Int) (d : D) : List (Int × D) := if (ps.any fun p => decide (p.1 = c)) = true then ps.map (fun p => if p.1 = c then (p.1, d) else p) else ps ++ [(c, d)]
def getP (ps : List (Int × D)) (c : Int) : Option D := (ps.find? fun p => decide (p.1 = c)).map (·.2)
@[simp] theorem ki_inl (c b : Int) : ((Sum.inl c : Key) = Sum.inl b) = (c = b) := by
  apply propext
  exact ⟨fun h => by cases h; rfl, fun h => by rw [h]⟩
theorem putD_ki (ps : List (Int × D)) (c : Int) (d : D) : putD (ps.map ki) (.inl c) d = (putP ps c d).map ki := by
  unfold putD putP
  have e : ((ps.map ki).any fun kv => decide (kv.1 = (Sum.inl c : Key))) = ps.any fun p => decide (p.1 = c) := by
    rw [List.any_map]
    congr 1
    funext p
    exact decide_eq_decide.mpr ⟨fun h => by cases p; cases h; rfl, fun h => by cases p; cases h; rfl⟩
  rw [e]
  split
  · rw [List.map_map, List.map_map]
    refine List.map_congr_left fun p _ => ?_
    by_cases h : p.1 = c
    · simp [ki, h]
    · simp only [Function.comp, if_neg h]
      rw [if_neg]
      intro z
      exact h (by cases p; cases z; rfl)
  · simp [ki]
theorem keysI_ki : ∀ ps : List (Int × D), keysI (ps.map ki) = some (ps.map (·.1))
  | [] => rfl
  | p :: ps => by
    show (keysI (ps.map ki)).map (p.1 :: ·) = _
    rw [keysI_ki ps]
    rfl
theorem valD_ki : ∀ (ps : List (Int × D)) (c : Int), valD (ps.map ki) (.inl c) = getP ps c
  | [], c => rfl
  | p :: ps, c => by
    have ih := valD_ki ps c
    unfold valD getP at *
    by_cases h : p.1 = c
    · rw [List.map_cons, List.find?_cons_of_pos, List.find?_cons_of_pos (by simpa using h)]
      · rfl
      · simp only [decide_eq_true_eq]; show (Sum.inl p.1 : Key) = _; rw [h]
    · rw [List.map_cons, List.find?_cons_of_neg, List.find?_cons_of_neg (by simpa using h)]
      · exact ih
      · simp only [decide_eq_true_eq]; intro z; exact h (by cases p; cases z; rfl)
theorem putP_len (ps : List (Int × D)) (c : Int) (d : D) : (putP ps c d).length ≤ ps.length + 1 := by
  unfold putP
  split <;> simp
theorem putP_mem {ps : List (Int × D)} {c : Int} {d : D} {q : Int × D} (h : q ∈ putP ps c d) : q = (c, d) ∨ q ∈ ps := by
  unfold putP at h
  split at h
  · obtain ⟨p, hp, e⟩ := List.mem_map.mp h
    split at e
    · rename_i z; left; rw [← e, z]
    · right; rw [← e]; exact hp
  · rcases List.mem_append.mp h with h | h
    · exact .inr h
    · left; simpa using h
theorem putP_nodup {ps : List (Int × D)} (c : Int) (d : D) (h : (ps.map (·.1)).Nodup) : ((putP ps c d).map (·.1)).Nodup := by
  unfold putP
  split
  · have e : (ps.map (fun p => if p.1 = c then (p.1, d) else p)).map (·.1) = ps.map (·.1) := by
      rw [List.map_map]
      refine List.map_congr_left fun p _ => ?_
      by_cases z : p.1 = c <;> simp [z]
    rw [e]; exact h
  · rename_i z
    rw [List.map_append, List.nodup_append]
    refine ⟨h, by simp, fun a ha b hb => ?_⟩
    simp at hb
    subst hb
    rintro rfl
    apply z
    obtain ⟨p, hp, e⟩ := List.mem_map.mp ha
    exact List.any_eq_true.mpr ⟨p, hp, by simpa using e⟩
theorem getP_mem {ps : List (Int × D)} {c : Int} (h : c ∈ ps.map (·.1)) : ∃ d, getP ps c = some d ∧ (c, d) ∈ ps := by
  obtain ⟨p, hp, e⟩ := List.mem_map.mp h
  cases q : ps.find? (fun p => decide (p.1 = c)) with
  | none =>
    have := List.find?_eq_none.mp q p hp
    simp [e] at this
  | some x =>
    have h1 := List.find?_some q
    have h2 := List.mem_of_find?_eq_some q
    simp at h1
    exact ⟨x.2, by simp [getP, q], by rw [← h1]; exact h2⟩
theorem sortI_lt {ns : List Int} (h : ns.Nodup) : (sortI ns).Pairwise (· < ·) := by
  have h1 := sortI_sorted ns
  have h2 : (sortI ns).Nodup := (sortI_perm ns).nodup_iff.mpr h
  exact (h1.and h2).imp fun ⟨a, b⟩ => by omega
theorem cut_head {xs : List D} (k : Nat) : cutD xs none (some (k : Int)) = xs.take k := by
  unfold cutD
  rw [HT.sIx_none, HT.sIx_nat]
  simp
theorem bls_true {α : Type} : ∀ (xs : List α), blsD (xs.map fun _ => D.bl true) = some (xs.map fun _ => true)
  | [] => rfl
  | x :: xs => by simp only [List.map_cons, blsD, bls_true xs]; rfl
@[simp] theorem all_true {α : Type} (xs : List α) : onB (fun ns => .ok (.bl (ns.all id))) (.lst (xs.map fun _ => D.bl true)) = .ok (.bl true) := by
  simp [onB, bls_true]
theorem ints_mapf {α : Type} (f : α → Int) : ∀ (xs : List α), intsD (xs.map fun x => D.int (f x)) = some (xs.map f)
  | [] => rfl
  | x :: xs => by simp only [List.map_cons, intsD, ints_mapf f xs]; rfl
@[simp] theorem sum_mapf {α : Type} (f : α → Int) (xs : List α) : onI (fun ns => .ok (.int ns.sum)) (.lst (xs.map fun x => D.int (f x))) = .ok (.int (xs.map f).sum) := by
  simp [onI, ints_mapf]

end Vm
end
section
set_option maxRecDepth 100000
set_option maxHeartbeats 4000000
/-! Vm, part L: in, lists times numbers. -/
namespace Vm
open PySem PySem.Spec PyProof.Rows L2
section
variable {K : PySem.W.Frag}
/-! ### x in a list or tuple of flat items -/
def flV (d : D) : Option V := match d with
  | .non => some .non
  | .bl b => some (.bl b)
  | .int i => some (.int i)
  | .str x => some (.str x)
  | _ => none
def flVs : List D → Option (List V)
  | [] => some []
  | d :: ds => (flV d).bind fun v => (flVs ds).map (v :: ·)
def itV (y : D) : Option (List V) := match y with
  | .tup ds => flVs ds
  | .lst ds => flVs ds
  | _ => none
theorem flV_flat {d : D} {a : V} (h : flV d = some a) : flatV a = true := by
  cases d <;> first | (cases h; rfl) | cases h
theorem flV_ro {H : Hp} {M : Addr → Prop} {d : D} {a v : V} (h : flV d = some a) (r : Ro K H M d v) : v = a := by
  cases d <;> first | (cases h; cases r; rfl) | cases h
theorem flV_rp {H : Hp} {M : Addr → Prop} {d : D} {a v : V} (h : flV d = some a) (r : Rp K H M d v) : v = a := by
  cases d <;> first | (cases h; cases r; rfl) | cases h
theorem flVs_rp {H : Hp} {M : Addr → Prop} : ∀ {ds : List D} {as vs : List V}, flVs ds = some as → RpL K H M ds vs → vs = as ∧ as.all flatV = true
  | [], as, vs, h, r => by cases h; exact ⟨r.nil_inv, rfl⟩
  | d :: ds, as, vs, h, r => by
    obtain ⟨v, ws, rfl, r1, r2⟩ := r.cons_inv
    simp only [flVs] at h
    cases q : flV d with
    | none => rw [q] at h; cases h
    | some a =>
      rw [q] at h
      cases q2 : flVs ds with
      | none => rw [q2] at h; cases h
      | some bs =>
        rw [q2] at h
        cases h
        obtain ⟨e, f⟩ := flVs_rp q2 r2
        rw [flV_rp q r1, e]
        exact ⟨rfl, by rw [List.all_cons, flV_flat q, f]; rfl⟩
def inG (neg : Bool) (x y : D) : Res D := match flV x with
  | some a => (match itV y with
    | some vs => .ok (.bl (if neg then !inV a vs else inV a vs))
    | none => .bad)
  | none => .bad
abbrev inD := inG false
abbrev ninD := inG true
theorem os_inG {neg : Bool} : OpS K (rIn K neg) (inG neg) := by
  intro H M x y dx dy Q tk rx ry w
  unfold inG at w
  cases q : flV dx with
  | none => rw [q] at w; exact w.elim
  | some a =>
    rw [q] at w
    cases q2 : itV dy with
    | none => rw [q2] at w; exact w.elim
    | some as =>
      rw [q2] at w
      rw [flV_ro q rx]
      cases dy with
      | lst ds =>
        obtain ⟨p, vs, rfl, h1, z1, q1⟩ := ry.lst_inv
        obtain ⟨e, f⟩ := flVs_rp q2 q1
        subst e
        exact ⟨p, _, rfl, .inl (.of h1), flV_flat q, f, w _ _ (.refl _) (.bl _)⟩
      | tup ds =>
        obtain ⟨p, vs, rfl, h1, z1, q1⟩ := ry.tup_inv
        obtain ⟨e, f⟩ := flVs_rp q2 q1
        subst e
        exact ⟨p, _, rfl, .inr h1, flV_flat q, f, w _ _ (.refl _) (.bl _)⟩
      | _ => cases q2
theorem os_inA : OpS K (rIn K false) inD := os_inG
theorem os_ninA : OpS K (rIn K true) ninD := os_inG
/-! ### a list times an int -/
def repD (x y : D) : Res D := match x, y with
  | .int i, .int j => mulD (.int i) (.int j)
  | .lst ds, .int k => if -(2 ^ 63) ≤ k ∧ k < 2 ^ 63 ∧ ds.length * k.toNat ≤ sizeLine then .ok (.lst (List.replicate k.toNat ds).flatten) else .bad
  | _, _ => .bad
def rMulA : R2 := fun x y H Q => (rI CMulW fun i j => .int (i * j)) x y H Q ∨ rRep x y H Q
theorem rp_rep {H : Hp} {M : Addr → Prop} {ds : List D} {vs : List V} (r : RpL K H M ds vs) : ∀ n : Nat, RpL K H M (List.replicate n ds).flatten (List.replicate n vs).flatten
  | 0 => by simp; exact .nil
  | n + 1 => by
    rw [List.replicate_succ, List.replicate_succ, List.flatten_cons, List.flatten_cons]
    exact r.append (rp_rep r n)
theorem rep_len {α : Type} (xs : List α) : ∀ n : Nat, (List.replicate n xs).flatten.length = xs.length * n
  | 0 => by simp
  | n + 1 => by rw [List.replicate_succ, List.flatten_cons, List.length_append, rep_len xs n, Nat.mul_succ, Nat.add_comm]
theorem os_repD : OpS K rMulA repD := by
  intro H M x y dx dy Q tk rx ry w
  cases dx with
  | int i =>
    cases dy with
    | int j => exact .inl (os_mul H M x y _ _ Q tk rx ry w)
    | _ => exact w.elim
  | lst ds =>
    cases dy with
    | int j =>
      obtain ⟨p, vs, rfl, h1, z1, q1⟩ := rx.lst_inv
      rw [ry.int_inv]
      simp only [repD] at w
      split at w
      · rename_i hc
        refine .inr ⟨p, j, vs, rfl, rfl, h1, hc.1, hc.2.1, by rw [q1.len]; exact hc.2.2, fun o hn => w _ _ (same_new hn) ?_⟩
        exact cell_rp (cell_new (rp_rep q1 _) hn (by rw [rep_len]; exact hc.2.2)) (fun q => tk o q hn) fun b q => .inl q
      · exact w.elim
    | _ => exact w.elim
  | _ => cases dy <;> exact w.elim
theorem oMulA {X : Cx} : OpR X (binaryOp .Mult) rMulA := op_mulW.or op_rep
end
section
variable {X : Cx} {C : Cfg} {W : WX} {k : Nat}
theorem oIn (g : Gd X C W k) : OpR X (compareOp .In) (rIn C.K false) := g.kE ▸ op_in_seq
theorem oNin (g : Gd X C W k) : OpR X (compareOp .NotIn) (rIn C.K true) := g.kE ▸ op_notIn_seq
end
end Vm
end
section
set_option maxRecDepth 100000
set_option maxHeartbeats 4000000
/-! Vm, part M: sorted(set(xs)) of a list of ints. -/
namespace Vm
open PySem PySem.Spec PyProof.Rows L2
abbrev fs0 (w : World) : Obj := { cls := .type "set", dict := none, data := .set #[] 0 (.fresh 0 0 (!w.params.followText "set-order")) }
section
variable {P : Program} {w : World} {A : Around} {E : Value → Shared → Prop} {s : Shared}
theorem set_of_list {l : Addr} {us : Array Value} (ks : List Int) {Q : Value → Shared → Prop} (cold : A.handled = none) (isl : s.heap.IsList l us) (whole : IntsAre us.toList ks) (few : ks.length + 1 < scanBound)
    (k : ∀ (g : Heap) (t n : Nat), SetR w g s.heap.objs.size (fun j => decide (j ∈ ks)) n → n ≤ ks.length → (∀ b o, s.heap.get? b = some o → g.get? b = some o) → Q (.ref s.heap.objs.size) { s with heap := g, toks := t }) :
    wpAny (model P w) A (call (.type "set") [.ref l]) Q E s := by
  have size_us : us.size = ks.length := by
    have z := IntsAre.length whole
    rwa [Array.length_toList] at z
  obtain ⟨c0, tl0, hmro⟩ := F.called_set.mro
  have m1 := F.called_set.made
  have m2 := F.called_set.sub
  apply wpAny_call
  apply codeAny_of_tree
  show wpAny _ _ (callAny (.type "set") _) _ _ _
  refine wpAny_pure (And.intro (Code.quiet_builtin _ (by decide +kernel)) (codeAny_builtin F.entry_type_call ?_))
  rw [Around.under_plain (weight_type_call_type "set" [Value.ref l] []) rfl]
  have m3 := F.called_set.notType
  have m4 := F.called_set.canCreate
  have m5 := F.typeCall_set_1 (.ref l)
  repeat (any_goals (first | (assumption; done) | wp_step))
  refine codeAny_mono (code_set_led1 (.ref l) (E := E) (Q₁ := fun z s1 => z = .ref s.heap.objs.size ∧ s1 = { s with heap := s.heap.push (fs0 w) }) ⟨rfl, rfl⟩) fun r s1 q => ?_
  match r, q with
  | .error e, q => exact q
  | .ok (.ret z), q =>
    obtain ⟨rfl, rfl⟩ := q
    have at0 : (s.heap.push (fs0 w)).get? s.heap.objs.size = some (fs0 w) := Heap.get?_push_size _ rfl
    have ty0 : Shared.TypeIs { s with heap := s.heap.push (fs0 w) } (.ref s.heap.objs.size) "set" := ⟨_, at0, rfl⟩
    have m6 := F.called_set.init.lookup
    have m7 := F.called_set.init.bind (.ref s.heap.objs.size)
    repeat (any_goals (first | (assumption; done) | wp_step))
    refine codeAny_mono (codeAny_call_builtin (R := wants (fun r s2 => r = .none ∧ ∃ g t n, s2 = { s with heap := g, toks := t } ∧ SetR w g s.heap.objs.size (fun j => decide (j ∈ ks)) n ∧ n ≤ ks.length ∧ ∀ b o, s.heap.get? b = some o → g.get? b = some o) E)
      F.called_set.init.plain F.entry_set_init (check_set_init_1 ty0 ?_)) fun r2 s2 q2 => ?_
    · obtain ⟨⟨co, di, da, so⟩, hol, hcl, nl, hdl⟩ := isl
      simp only at hcl hdl
      subst hcl hdl
      have at1 : (s.heap.push (fs0 w)).get? l = some { cls := .type "list", dict := di, data := .seq us nl, slots := so } := Heap.get?_push_of_some _ hol
      have b1 := F.sub_list_set
      have b2 := F.sub_list_frozenset
      have b3 : (Value.type "list" == Value.type "dict") = false := by decide
      have il1 : (s.heap.push (fs0 w)).IsList l us := ⟨_, at1, rfl, nl, rfl⟩
      unfold Builtin.«set.__init__» noKeywords
      unfold Builtin.Frozenset.updateFrom
      generalize hP : pyIter = PIt
      wp_walk
      subst hP
      refine wpAny_pyIter_list il1 ?_
      refine wpAny_bind (wpAny_runValue ?_)
      have lt0 : l < s.heap.objs.size := Heap.lt_size hol
      have cold3 : A.in1.in1.in1.handled = none := by simp [cold]
      have sz1 : (s.heap.push (fs0 w)).objs.size = s.heap.objs.size + 1 := Heap.size_push ..
      have ne1 : l ≠ (s.heap.push (fs0 w)).objs.size := by rw [sz1]; exact Nat.ne_of_lt (Nat.lt_succ_of_lt lt0)
      have out1 : s.heap.objs.size ∉ [(s.heap.push (fs0 w)).objs.size, l] := by
        rw [sz1]
        intro z
        rcases List.mem_cons.mp z with z | z
        · exact Nat.ne_of_lt (Nat.lt_succ_self _) z
        · exact Nat.ne_of_gt lt0 (List.mem_singleton.mp z)
      have vals : ∀ (i : Nat) (v : Value), us[i]? = some v → ∃ k t, ks[i]? = some k ∧ v = .int k t := fun i v hv => by
        have lt : i < ks.length := by rw [← size_us]; exact (Array.getElem?_eq_some_iff.mp hv).1
        obtain ⟨t, e⟩ := whole.int_at i v (by rw [Array.getElem?_toList]; exact hv)
        rw [List.getD_eq_getElem?_getD, List.getElem?_eq_getElem lt] at e
        exact ⟨ks[i], t, List.getElem?_eq_getElem lt, e⟩
      refine set_update_ints ((Walks.list cold3 _ l ne1 us).toS) s.heap.objs.size out1 ks size_us few vals (us.size - 0) 0 _ (by omega) (Nat.zero_le _) ⟨⟨_, Heap.get?_push_size _ rfl, rfl, rfl⟩, (il1.push _)⟩ ?s0 ?s1
      case s0 => exact ⟨0, Nat.le_refl 0, setR_new_at (Heap.get?_push_of_some _ at0)⟩
      case s1 =>
        intro s3 n mv hn hS
        obtain ⟨g, ge, dr, tk, os⟩ := s3
        have e1 : ge = s.gens := mv.gens
        have e2 : dr = s.drawn := mv.drawn
        have e3 : os = s.os := mv.os
        subst e1 e2 e3
        show wpAny _ _ _ _ _ _
        refine wpAny_pure ?_
        show wpAny _ _ (ret Value.none) _ _ _
        refine wpAny_pure ⟨rfl, g, tk, n, rfl, hS, by rw [← size_us]; exact hn, fun b o e => ?_⟩
        have lb : b < s.heap.objs.size := Heap.lt_size e
        refine mv.heap b o ?_ (Heap.get?_push_of_some _ (Heap.get?_push_of_some _ e))
        rw [sz1]
        intro z
        rcases List.mem_cons.mp z with z | z
        · exact Nat.ne_of_lt lb z
        · exact Nat.ne_of_lt (Nat.lt_succ_of_lt lb) (List.mem_singleton.mp z)
    · match r2, q2 with
      | .error e, q2 => exact q2
      | .ok (.ret z), q2 =>
        obtain ⟨rfl, g, tk, n, rfl, hS, hn, hk⟩ := q2
        repeat (any_goals (first | (assumption; done) | wp_step))
        exact k g tk n hS hn hk
end
end Vm
end
section
set_option maxRecDepth 100000
set_option maxHeartbeats 4000000
/-! Vm, part N: sorted(set(xs)) as an expression. -/
namespace Vm
open PySem PySem.Spec PyProof.Rows L2
theorem sorted_setB {w : World} {prog : Program} {A : Around} {E : Value → Shared → Prop} {s : Shared} {a : Addr} {S : Int → Bool} {n : Nat} {Q : Value → Shared → Prop} (R : SetR w s.heap a S n) (hh : A.handled = none) (h64 : n < 4000)
    (hQ : ∀ s' p (out : Array Value) (c : Nat) (ns : List Int), (∀ b o, s.heap.get? b = some o → s'.heap.get? b = some o) → s'.gens = s.gens → s'.os = s.os → s.heap.objs.size ≤ p →
      s'.heap.get? p = some (seqObj "list" out c) → IntsAre out.toList ns → ns.Pairwise (· < ·) → (∀ k, k ∈ ns ↔ S k = true) → ns.length = n → Q (.ref p) s') :
    wpAny (model prog w) A (call (.builtin "sorted") [.ref a]) Q E s := by
  obtain ⟨o, es, ep, t, ho, hex, hd, g, nd, hm, hb, hf, hn, hr, hl⟩ := R
  refine Calls.call_function_entry kind_sorted plain_sorted entry_sorted (args_sorted1 _) ?_
  unfold Builtin.«sorted»
  refine wpAny_bind (m := checkCount "sorted" 1 1 _) (wpAny_pure ?_)
  refine wpAny_bind (collect_set (A := A.in1) hh ⟨o, ho, hex.1, hd⟩ hf hb hr hl fun s1 vs k1 hz g1 o1 pm => ?_)
  have hvl : vs.length = n := by rw [pm.length_eq, List.length_map, Array.length_toList]; exact hn
  have hI : IntsAre vs (vs.map Builtin.Re.reRawOf) := ints_of vs fun v hv => by
    obtain ⟨e, he, q⟩ := List.mem_map.mp (pm.mem_iff.mp hv)
    obtain ⟨k, tk, h1, _⟩ := g e he
    exact ⟨k, tk, by rw [← q]; exact h1⟩
  have pk : (vs.map Builtin.Re.reRawOf).Perm (es.toList.map keyOf) := by
    have q := pm.map Builtin.Re.reRawOf
    rw [List.map_map] at q
    exact q
  have hvz : vs.length ≤ sizeLine := by rw [hvl, sizeLine_eq]; omega
  refine wpAny_bind (wpAny_newList ?_ hvz)
  have hoL : (s1.heap.push (seqObj "list" vs.toArray 0)).get? s1.heap.objs.size = some (seqObj "list" vs.toArray 0) := Heap.get?_push_size _ rfl
  refine wpAny_bind (wpAny_holding (wpAny_call_entry slot_list_sort ⟨_, hoL, rfl⟩ entry_list_sort (SrtO.list_sort_ord SrtO.swo_int hoL hvz (fun h2 => SrtO.ints_sortable hI h2) fun out h1 h2 => ⟨_, rfl, ?_⟩) (args_list_sort _)))
  obtain ⟨a1, a2, a3⟩ := SrtO.ints_out hI h1 h2
  obtain ⟨c, hc⟩ := sortedHeap_at (vs := vs) (out := out.toArray) hoL
  have pn : (out.map SrtO.iv).Perm (es.toList.map keyOf) := a2.trans pk
  refine wpAny_pure ⟨_, rfl, hQ _ s1.heap.objs.size out.toArray c (out.map SrtO.iv) (fun b u e => ?_) g1 o1 hz hc (by simpa using a1) (lt_of_le_nodup _ a3 (pn.nodup_iff.mpr nd)) (fun k => by rw [pn.mem_iff, ← hm k]) ?_⟩
  · have q := k1 b u e
    have hlt := Heap.lt_size q
    show (sortedHeap (s1.heap.push (seqObj "list" vs.toArray 0)) s1.heap.objs.size vs out.toArray).get? b = some u
    rw [sortedHeap_old (Nat.ne_of_lt hlt) (by rw [size_push']; exact Nat.lt_succ_of_lt hlt)]
    exact Heap.get?_push_of_some _ q
  · rw [pn.length_eq, List.length_map, Array.length_toList]; exact hn
section
variable {X : Cx}
def tSoSet (K : PySem.W.Frag) (ta : TE) : TE := fun σ H Q => ta σ H fun x H1 => ∃ (l : Addr) (ks : List Int), x = V.ref l ∧ SqL K H1 l (ks.map V.int) ∧ ks.length < 4000 ∧
  ∀ (ms : List Int) (p : Addr), ms.Pairwise (· < ·) → (∀ j, j ∈ ms ↔ j ∈ ks) → ms.length ≤ ks.length → H1 p = none → Q (.ref p) (upd H1 p (.lst (ms.map V.int)))
theorem pe_soSet {a : Expr} {ta : TE} {p p2 q pos : Pos} (cold : X.calm = true) (hg : Gl X "sorted") (hm : X.mg "sorted" = none) (hg2 : Gl X "set") (hm2 : X.mg "set" = none) (hv : bootBuiltins "sorted" = some (.builtin "sorted")) (hv2 : bootBuiltins "set" = some (.type "set")) (ha : PE X a ta)
    (st : starEach [a] X.env = (false, eval a X.env) :: starEach [] X.env := by rfl) : PE X (.Call (.Name "sorted" p) [.Call (.Name "set" p2) [a] [] q] [] pos) (tSoSet X.K ta) := by
  refine ⟨fun pins s σ H Q I h => ?_⟩
  refine Call_ (ld_blt I hg hm hv ?_)
  refine callWith_builtin1 (args_cons ?_ rfl) rfl rfl
  refine Call_ (ld_blt I hg2 hm2 hv2 ?_)
  refine callWith_type1 (args_cons (thn (ha.run pins s σ H _ I h) fun v s1 ⟨x, H1, I1, r1, q1⟩ => args_nil ?_) st) st rfl
  obtain ⟨l, ks, rfl, hq, few, q1⟩ := q1
  cases r1
  obtain ⟨its, rv, pl, hz⟩ := I1.list hq
  have ii : IntsAre its.toArray.toList ks := ints_of_vals rv
  refine set_of_list ks (I1.ok.hd cold) pl.isList ii (by unfold scanBound; omega) fun g tk n R hn up => ?_
  refine args_nil ?_
  have I2 : Inv X pins σ H1 { s1 with heap := g, toks := tk } := I1.kept fun b o e => up b o e
  refine sorted_setB (s := { s1 with heap := g, toks := tk }) R (I2.ok.hd cold) (by omega) fun s' p out c ns up2 eg eo hp hat hin hs hmem hl => ?_
  have hlen : (ns.map V.int).length ≤ sizeLine := by rw [List.length_map, hl, sizeLine_eq]; omega
  have fr : H1 p = none := I2.hok.fresh hp
  have J : Inv X pins σ (upd H1 p (.lst (ns.map V.int))) { ({ s1 with heap := g, toks := tk } : Shared) with heap := s'.heap, gens := s'.gens, drawn := s'.drawn, toks := s'.toks } :=
    I2.call (ch := []) (Un.laid up2 hp fr) (I2.hok.laid up2 hp ⟨hlen, out.toList, c, vals_of_ints hin, hat⟩) (by rw [eg]; exact I2.bare) (fun _ z => nomatch z)
  have e : s' = { s1 with heap := s'.heap, gens := s'.gens, drawn := s'.drawn, toks := s'.toks } := by
    obtain ⟨x1, x2, x3, x4, x5⟩ := s'
    cases eo
    rfl
  rw [e]
  exact ⟨.ref p, _, J, rfl, q1 ns p hs (fun j => by rw [hmem j, decide_eq_true_eq]) (by rw [hl]; exact hn) fr⟩
end
section
variable {X : Cx} {C : Cfg} {W : WX} {k : Nat} {a : Expr} {ta : TE} {ma : Ev}
/-- the list's items, each once, ascending -/
def ded : List Int → List Int
  | [] => []
  | x :: xs => if x ∈ xs then ded xs else x :: ded xs
theorem ded_mem (j : Int) : ∀ ns : List Int, j ∈ ded ns ↔ j ∈ ns
  | [] => Iff.rfl
  | x :: xs => by
    unfold ded
    split
    · rename_i h
      rw [ded_mem j xs, List.mem_cons]
      exact ⟨.inr, fun z => z.elim (fun z => z ▸ h) id⟩
    · rw [List.mem_cons, List.mem_cons, ded_mem j xs]
theorem ded_nodup : ∀ ns : List Int, (ded ns).Nodup
  | [] => List.nodup_nil
  | x :: xs => by
    unfold ded
    split
    · exact ded_nodup xs
    · rename_i h
      exact List.nodup_cons.mpr ⟨fun z => h ((ded_mem x xs).mp z), ded_nodup xs⟩
def usI (ns : List Int) : List Int := sortI (ded ns)
def soSetD (x : D) : Res D := match x with
  | .lst ds => (match intsD ds with
    | some ns => if ns.length < 4000 then .ok (.lst ((usI ns).map D.int)) else .bad
    | none => .bad)
  | _ => .bad
def mUn1 (g : D → Res D) (m : Ev) : Ev := fun env => do
  let r ← m env
  let x ← rs r.2 r.1
  match g x with
  | .ok d => pure (d, r.2)
  | _ => .bad
theorem lt_same {xs ys : List Int} (hx : xs.Pairwise (· < ·)) (hy : ys.Pairwise (· < ·)) (h : ∀ j, j ∈ xs ↔ j ∈ ys) : xs = ys := by
  have nx : xs.Nodup := hx.imp fun h => by omega
  have ny : ys.Nodup := hy.imp fun h => by omega
  have hp : xs.Perm ys := (List.perm_ext_iff_of_nodup nx ny).mpr h
  exact ksame hp (hx.imp fun h => by omega) (hy.imp fun h => by omega)
theorem usI_lt (ns : List Int) : (usI ns).Pairwise (· < ·) := by
  have h1 := sortI_sorted (ded ns)
  have h2 : (sortI (ded ns)).Nodup := (sortI_perm _).nodup_iff.mpr (ded_nodup ns)
  exact (h1.and h2).imp fun ⟨a, b⟩ => by omega
theorem usI_mem (ns : List Int) (j : Int) : j ∈ usI ns ↔ j ∈ ns := by
  unfold usI
  rw [(sortI_perm _).mem_iff, ded_mem]
theorem ef_soSet {p p2 q pos : Pos} (g : Gd X C W k) (hg : Gl X "sorted") (hm : X.mg "sorted" = none) (hv : bootBuiltins "sorted" = some (.builtin "sorted")) (hg2 : Gl X "set") (hm2 : X.mg "set" = none) (hv2 : bootBuiltins "set" = some (.type "set")) (ha : EM X C W a ta ma)
    (st : starEach [a] X.env = (false, eval a X.env) :: starEach [] X.env := by rfl) : EF X C W (.Call (.Name "sorted" p) [.Call (.Name "set" p2) [a] [] q] [] pos) (tSoSet C.K ta) (mUn1 soSetD ma) := by
  refine ⟨g.kE ▸ pe_soSet g.calm hg hm hg2 hm2 hv hv2 ha.pe st, fun M0 ad σ H env Q R w => ?_⟩
  unfold mUn1 at w
  refine ha.sn' R w fun r v H1 R1 S1 V1 w1 => ?_
  rw [wp_bind] at w1
  obtain ⟨y, _, w2, ry⟩ := R1.rs V1 w1
  cases y with
  | lst ds =>
    obtain ⟨l, us, rfl, hl, hz, qr⟩ := ry.lst_inv
    simp only [soSetD] at w2
    cases hn : intsD ds with
    | none => rw [hn] at w2; exact w2.elim
    | some ns =>
      rw [hn] at w2
      cases ints_eq hn
      rw [qr.ints] at hl
      simp only at w2
      split at w2
      · rename_i w3 hd
        split at hd
        · rename_i few
          cases hd
          refine ⟨l, ns, rfl, .of hl, few, fun ms p hs hmem hlen hf => ?_⟩
          have e : ms = usI ns := lt_same hs (usI_lt ns) fun j => (hmem j).trans (usI_mem ns j).symm
          subst e
          refine w2 p _ ?_ (R1.growAdd (same_new hf) hf (by rw [upd_same]; exact fun z => nomatch z)) (S1.trans (.grow (same_new hf))) ?_
          · cases z : H p with
            | none => rfl
            | some o => exact absurd hf (S1.ext.trk p (by rw [z]; exact fun z => nomatch z))
          · refine (cell_new (M := Mo (C.w M0) r.2 ad) .of_ints hf ?_).ext rfl .refl fun b z => .inl (mo_add.mp z)
            rw [List.length_map]
            exact Nat.le_trans hlen (Nat.le_trans (Nat.le_of_lt few) (by decide))
        · cases hd
      · exact w2.elim
  | _ => exact w2.elim
end
end Vm
end
section
set_option maxRecDepth 100000
set_option maxHeartbeats 4000000
/-! Vm, part O: xs[::-1] of a list or a tuple. -/
namespace Vm
open PySem PySem.Spec PyProof.Rows L2
section
variable {prog : Program} {w : World} {A : Around} {E : Value → Shared → Prop} {s : Shared}
theorem back_places (n : Nat) : Builtin.Slice.slicePlaces ((n : Int) - 1) (-1) (-1) = n := by
  unfold Builtin.Slice.slicePlaces
  rw [if_neg (by decide)]
  by_cases h : (n : Int) - 1 > -1
  · rw [if_pos h, show (-(-1) : Int) = 1 by decide, Int.ediv_one]
    omega
  · rw [if_neg h]
    omega
theorem back_applied {sl : Addr} {vs : Value} {n : Nat} {Q : Int × Int × Nat → Shared → Prop} (hs : s.heap.IsSliceOf sl .none .none vs) (ps : IsPart vs (some (-1))) (h : Q ((n : Int) - 1, -1, n) s) :
    wpAny (model prog w) A (Builtin.Slice.sliceApplied (.ref sl) (pure (n : Int))) Q E s := by
  obtain ⟨o, at0, oc, od⟩ := id hs
  unfold Builtin.Slice.sliceApplied Builtin.Slice.sliceFields
  refine wpAny_bind (wpAny_bind (wpAny_field at0 od (x := .none) rfl (wpAny_bind (wpAny_field at0 od (x := .none) rfl (wpAny_bind (wpAny_field at0 od (x := vs) rfl (wpAny_pure ?_)))))))
  refine wpAny_bind (HT.slicePart_ ps ?_)
  show wpAny _ _ (if ((-1 : Int) == 0) = true then _ else _) _ _ s
  rw [if_neg (by decide)]
  refine wpAny_bind (slicePart_none (wpAny_bind (slicePart_none (wpAny_bind (wpAny_pure ?_)))))
  show wpAny _ _ (pure ((n : Int) - 1, (-1 : Int), Builtin.Slice.slicePlaces ((n : Int) - 1) (-1) (-1))) _ _ s
  rw [back_places]
  exact wpAny_pure h
theorem back_pick (xs : Array Value) : ((List.range xs.size).filterMap fun (m : Nat) => xs[((xs.size : Int) - 1 + (m : Int) * -1).toNat]?).toArray = xs.toList.reverse.toArray := by
  congr 1
  have e : (List.range xs.size).filterMap (fun (m : Nat) => xs[((xs.size : Int) - 1 + (m : Int) * -1).toNat]?) = ((List.range xs.size).map fun m => xs.size - 1 - m).filterMap fun m => xs[m]? := by
    rw [List.filterMap_map]
    have : ∀ (ms : List Nat) (f g : Nat → Option Value), (∀ m ∈ ms, f m = g m) → ms.filterMap f = ms.filterMap g := fun ms f g h => by
      induction ms with
      | nil => rfl
      | cons m ms ih => rw [List.filterMap_cons, List.filterMap_cons, h m (.head _), ih fun x hx => h x (.tail _ hx)]
    refine this _ _ _ fun m hm => ?_
    have lt := List.mem_range.mp hm
    show xs[((xs.size : Int) - 1 + (m : Int) * -1).toNat]? = xs[xs.size - 1 - m]?
    rw [show ((xs.size : Int) - 1 + (m : Int) * -1).toNat = xs.size - 1 - m by omega]
  rw [e, PySem.W.krv_range, List.filterMap_reverse, PySem.W.krv_all]
theorem tup_back {t sl : Addr} {us : Array Value} {vs : Value} {Q : Value → Shared → Prop} (ht : IsTup s.heap t us) (hs : s.heap.IsSliceOf sl .none .none vs) (ps : IsPart vs (some (-1)))
    (h : Q (.ref s.heap.objs.size) { s with heap := s.heap.push { cls := .type "tuple", data := .seq us.toList.reverse.toArray } }) (hz : us.size ≤ sizeLine) : wpAny (model prog w) A (getItem (.ref t) (.ref sl)) Q E s := by
  have okz : sizeOk (.seq us.toList.reverse.toArray) := by
    show us.toList.reverse.toArray.size ≤ sizeLine
    rw [List.size_toArray, List.length_reverse, Array.length_toList]
    exact hz
  obtain ⟨o, at0, oc, od⟩ := id hs
  have tsl : s.TypeIs (.ref sl) "slice" := ⟨o, at0, oc⟩
  unfold getItem
  try with_reducible refine wpAny_holding ?_
  first | refine wpAny_bind (wpAny_pure ?_) | skip
  refine wpAny_bind (wpAny_sequenceKey ht.typeIs (by decide) ?_)
  refine wpAny_bind (wpAny_callSpecial?_slot (name := Str.ofString "__getitem__") ht.typeIs slot_tuple_getitem (wpAny_call_entry slot_tuple_getitem ht.typeIs entry_tuple_getitem ?_ (args_tuple_getitem _ _)))
  show wpAny _ _ (Builtin.Tuple.tupleItemsOf (.ref t) >>= _) _ _ s
  refine wpAny_bind (tupleItemsOf_ ht ?_)
  refine wpAny_bind (wpAny_typeOf tsl ?_)
  rw [if_pos (by decide)]
  refine wpAny_bind (back_applied hs ps ?_)
  have no : ¬ ((((us.size : Int) - 1) == 0 && (-1 : Int) == 1 && us.size == us.size) = true) := by
    rw [show ((-1 : Int) == 1) = false by decide, Bool.and_false, Bool.false_and]
    exact Bool.false_ne_true
  show wpAny _ _ (if (((us.size : Int) - 1) == 0 && (-1 : Int) == 1 && us.size == us.size) = true then _ else _) _ _ s
  rw [if_neg no, back_pick]
  first
    | exact wpAny_bind (m := Builtin.Tuple.tupleExact _) (wpAny_newObj_type (wpAny_pure ⟨_, rfl, wpAny_pure h⟩) okz)
    | exact wpAny_bind (m := Builtin.Tuple.tupleExact _) (wpAny_newObj_type (wpAny_bind (wpAny_pure (wpAny_pure ⟨_, rfl, wpAny_pure h⟩))) okz)
    | exact wpAny_bind (wpAny_bind (m := Builtin.Tuple.tupleExact _) (wpAny_newObj_type (wpAny_pure (wpAny_pure ⟨_, rfl, wpAny_pure h⟩)) okz))
    | exact wpAny_bind (wpAny_bind (m := Builtin.Tuple.tupleExact _) (wpAny_newObj_type (wpAny_pure ⟨_, rfl, wpAny_pure h⟩) okz))
end
section
variable {X : Cx}
def tBack (K : PySem.W.Frag) (te : TE) : TE := fun σ H Q => te σ H fun x H1 => ∃ a xs, x = .ref a ∧ ((SqL K H1 a xs ∧ ∀ p, H1 p = none → Q (.ref p) (upd H1 p (.lst xs.reverse))) ∨ (SqT K H1 a xs ∧ ∀ p, H1 p = none → Q (.ref p) (upd H1 p (.tup xs.reverse))))
theorem pe_back {e : Expr} {te : TE} {k : Nat} {p1 p2 p3 pos : Pos} (he : PE X e te) : PE X (.Subscript e (.Slice none none (some (.UnaryOp .USub (.Constant (.int 1) k p1) p2)) p3) pos) (tBack X.K te) := by
  refine ⟨fun pins s σ H Q I h => ?_⟩
  refine Subscript_ (thn (he.run pins s σ H _ I h) fun v s1 ⟨x, H1, I1, r1, a, xs, ex, q⟩ => ?_)
  subst ex
  cases r1
  have part : PO X (some (.UnaryOp .USub (.Constant (.int 1) k p1) p2)) (tPart (tUn (rU fun i => .int (-i)) (tC (.int 1)))) := po_some (pe_un un_neg pe_int)
  refine wpAny_Slice (thn (po_none.run pins s1 σ H1 (fun o G => o = none ∧ G = H1) I1 ⟨rfl, rfl⟩) fun v1 s2 ⟨o1, H2, I2, i1, e1, g1⟩ => ?_)
  subst e1 g1
  refine thn (po_none.run pins s2 σ H2 (fun o G => o = none ∧ G = H2) I2 ⟨rfl, rfl⟩) fun v2 s3 ⟨o2, H3, I3, i2, e2, g2⟩ => ?_
  subst e2 g2
  refine thn (part.run pins s3 σ H3 (fun o G => o = some (-1) ∧ G = H3) I3 ⟨1, rfl, -1, rfl, rfl, rfl⟩) fun v3 s4 ⟨o3, H4, I4, i3, e3, g3⟩ => ?_
  subst e3 g3
  have I5 : Inv X pins σ H4 { s4 with heap := s4.heap.push { cls := .type "slice", data := .fields #[v1, v2, v3] } } := I4.kept (t' := s4.toks) fun b ob z => Heap.get?_push_of_some _ z
  show wpAny (model X.prog X.w) X.A (subscriptTail e (.Slice none none (some (.UnaryOp .USub (.Constant (.int 1) k p1) p2)) p3) (.ref a) (.ref s4.heap.objs.size)) (EP X pins σ Q) X.xe { s4 with heap := s4.heap.push { cls := .type "slice", data := .fields #[v1, v2, v3] } }
  rcases q with ⟨hx, q⟩ | ⟨hx, q⟩
  · obtain ⟨us, r, ht, hz⟩ := I5.list hx
    have hl := r.length
    refine tail_any (ops := [.ref a, .ref s4.heap.objs.size]) ht.isList.typeIs PySem.slot_list_getitem.lookup ?_ (by with_unfolding_all rfl)
    refine wpAny_getItem_list_slice ht.isList (Heap.IsSliceOf.new _ v1 v2 v3) i1 i2 i3 (by decide) ?_ (by rw [List.size_toArray]; omega)
    rw [PySem.W.krv_pick]
    refine ⟨.ref _, _, I5.laid (t' := s4.toks) (o := .lst xs.reverse) (fun b ob z => Heap.get?_push_of_some _ z) (Nat.le_refl _) ?_, rfl, q _ (I5.hok.fresh (Nat.le_refl _))⟩
    exact ⟨by rw [List.length_reverse]; exact hz, _, 0, r.reverse, Heap.get?_push_size _ rfl⟩
  · obtain ⟨us, r, ht, hz⟩ := I5.tuple hx
    have hl := r.length
    cases i1
    cases i2
    refine tail_any (ops := [.ref a, .ref s4.heap.objs.size]) ht.typeIs slot_tuple_getitem.lookup ?_ (by with_unfolding_all rfl)
    refine tup_back ht (Heap.IsSliceOf.new _ .none .none v3) i3 ?_ (by rw [List.size_toArray]; omega)
    refine ⟨.ref _, _, I5.laid (t' := s4.toks) (o := .tup xs.reverse) (fun b ob z => Heap.get?_push_of_some _ z) (Nat.le_refl _) ?_, rfl, q _ (I5.hok.fresh (Nat.le_refl _))⟩
    exact ⟨by rw [List.length_reverse]; exact hz, _, r.reverse, ⟨_, Heap.get?_push_size _ rfl, rfl, _, rfl⟩⟩
end
section
variable {X : Cx} {C : Cfg} {W : WX} {k : Nat} {e : Expr} {te : TE} {m : Ev}
def backD (x : D) : Res D := match x with
  | .lst xs => .ok (.lst xs.reverse)
  | .tup xs => .ok (.tup xs.reverse)
  | .scr ns => .ok (.lst (ns.map D.int).reverse)
  | _ => .bad
theorem RpL.rev {K : PySem.W.Frag} {H : Hp} {M : Addr → Prop} {ds : List D} {vs : List V} (r : RpL K H M ds vs) : RpL K H M ds.reverse vs.reverse := by
  refine ⟨by rw [List.length_reverse, List.length_reverse, r.len], fun i d v h1 h2 => ?_⟩
  have l1 := (List.getElem?_eq_some_iff.mp h1).1
  rw [List.length_reverse] at l1
  have hl := r.len
  rw [List.getElem?_reverse l1] at h1
  rw [List.getElem?_reverse (by omega)] at h2
  rw [show vs.length - 1 - i = ds.length - 1 - i by omega] at h2
  exact r.item _ d v h1 h2
theorem em_back {kk : Nat} {p1 p2 p3 pos : Pos} (g : Gd X C W k) (h : EM X C W e te m) : EM X C W (.Subscript e (.Slice none none (some (.UnaryOp .USub (.Constant (.int 1) kk p1) p2)) p3) pos) (tBack C.K te) (mUn1 backD m) := by
  refine ⟨g.kE ▸ pe_back h.pe, fun M0 ad σ H env Q R w => ?_⟩
  unfold mUn1 at w
  refine h.sn' R w fun r v H1 R1 S1 V1 w1 => ?_
  rw [wp_bind] at w1
  obtain ⟨y, _, w2, ry⟩ := R1.rs V1 w1
  have fresh : ∀ {xs : List D} {us : List V} {p : Addr}, RpL C.K H1 (Mo (C.w M0) r.2 ad) xs us → H1 p = none → xs.length ≤ sizeLine → Rp C.K (upd H1 p (.lst us)) (Mo (C.w M0) r.2 ad) (.lst xs) (.ref p) := fun q hn z =>
    cell_rp (cell_new q hn z) (fun q => R1.mtrk q hn) fun b q => .inl q
  cases y with
  | lst ds =>
    obtain ⟨a, us, rfl, hs, z, q⟩ := ry.lst_inv
    exact ⟨a, us, rfl, .inl ⟨.of hs, fun p hn => w2 _ _ (R1.grow (same_new hn)) (S1.trans (.grow (same_new hn))) (.of (fresh q.rev hn (by rw [List.length_reverse]; exact z)))⟩⟩
  | scr ns =>
    cases ry with
    | scr hs z =>
      have q : RpL C.K H1 (Mo (C.w M0) r.2 ad) (ns.map D.int) (ns.map V.int) := .of_ints
      exact ⟨_, _, rfl, .inl ⟨hs.sq, fun p hn => w2 _ _ (R1.grow (same_new hn)) (S1.trans (.grow (same_new hn))) (.of (fresh q.rev hn (by rw [List.length_reverse, List.length_map]; exact z)))⟩⟩
  | tup ds =>
    obtain ⟨a, us, rfl, hs, z, q⟩ := ry.tup_inv
    exact ⟨a, us, rfl, .inr ⟨hs, fun p hn => w2 _ _ (R1.grow (same_new hn)) (S1.trans (.grow (same_new hn))) (.of (.tup' (.of upd_same) (by rw [List.length_reverse]; exact z) (q.rev.same (same_new hn))))⟩⟩
  | _ => exact w2.elim
end
end Vm
end
section
set_option maxRecDepth 100000
set_option maxHeartbeats 4000000
/-! Vm, part P: a def of which nothing is asked (the ground of a recursion). -/
namespace Vm
open PySem PySem.Spec PyProof.Rows L2
section
variable {T : List (Addr × Str)} {P : Program} {w : World} {K : PySem.W.Frag} {mg : Str → Option Value} {base : Heap} {x : Str} {st : Stmt} {f : Addr} {fd : FuncData} {N ps : List Str} {k n : Nat}
theorem fnP0 (F : Fun K x x st f fd) (S : FnScope N ps (defScope st)) (hn : ps.length = n) (hm : mg x = some (.ref f)) (hb : Binds K fd ps []) : Fn P w K mg base (k + 1) x (spP K T mg n fun _ => .bad) :=
  ⟨f, fd, ps, F.okX S (fun vs H Q E h => h.1.trans hn.symm) (fun cdv A outer s H vs Q E hr h => h.elim fun _ ⟨_, _, _, _, _, z⟩ => z.elim), hm, F.kp, hb⟩
end
end Vm
end
section
/-! Vm, part Q: loops and comprehensions, plainly. -/
namespace Vm
open PySem L2
inductive F2 {α β : Type} (P : α → β → Prop) : List α → List β → Prop
  | nil : F2 P [] []
  | cons {x : α} {y : β} {xs : List α} {ys : List β} : P x y → F2 P xs ys → F2 P (x :: xs) (y :: ys)
/-- a comprehension whose item changes the surroundings -/
theorem lcL_inv {vs : List Nat} {gv : Gv} {t : Ev1} {m : Ev} (I : Nat → Sls → Prop) (Pd : D → D → Prop) : ∀ (ds : List D) (env : Sls) (n : Nat), I n env →
    (∀ (i : Nat) (d : D) (e : Sls), ds[i]? = some d → I (n + i) e → ∃ e1 b y e3, gv d e = .ok e1 ∧ t e1 = .ok (true, b) ∧ m b = .ok (y, e3) ∧ kp y = .ok y ∧ Pd d y ∧ I (n + i + 1) (wipeE e3 vs)) →
    ∃ ys e', lcL vs gv t m ds env = .ok (ys, e') ∧ I (n + ds.length) e' ∧ F2 Pd ds ys
  | [], env, n, h, _ => ⟨[], env, rfl, h, .nil⟩
  | d :: ds, env, n, h, hs => by
    obtain ⟨e1, b, y, e3, h1, h2, h3, h4, h5, h6⟩ := hs 0 d env rfl h
    obtain ⟨ys, e', q, r, p⟩ := lcL_inv I Pd ds _ (n + 1) h6 (fun i x e hx hi => by
      have := hs (i + 1) x e (by simpa using hx) (by rw [← Nat.add_assoc, Nat.add_right_comm]; exact hi)
      rw [← Nat.add_assoc, Nat.add_right_comm n i 1] at this
      exact this)
    refine ⟨y :: ys, e', ?_, by rw [List.length_cons, Nat.add_comm ds.length, ← Nat.add_assoc]; exact r, .cons h5 p⟩
    unfold lcL
    rw [h1]
    simp [h2, h3, h4, q]
/-- a comprehension with a test -/
theorem lcL_filt {vs : List Nat} {gv : Gv} {t : Ev1} {m : Ev} {env : Sls} (p : D → Bool) (f : D → D) : ∀ (ds : List D), (∀ d ∈ ds, ∃ e1 b, gv d env = .ok e1 ∧ t e1 = .ok (p d, b) ∧
      (p d = true → ∃ e3, m b = .ok (f d, e3) ∧ kp (f d) = .ok (f d) ∧ wipeE e3 vs = env) ∧ (p d = false → wipeE b vs = env)) →
    lcL vs gv t m ds env = .ok ((ds.filter p).map f, env)
  | [], _ => rfl
  | d :: ds, h => by
    obtain ⟨e1, b, h1, h2, h3, h4⟩ := h d (.head _)
    have ih := lcL_filt (vs := vs) (gv := gv) (t := t) (m := m) p f ds fun x hx => h x (.tail _ hx)
    unfold lcL
    rw [h1]
    cases hp : p d with
    | true =>
      obtain ⟨e3, h5, h6, h7⟩ := h3 hp
      rw [hp] at h2
      simp [h2, h5, h6, h7, ih, hp]
    | false =>
      have h7 := h4 hp
      rw [hp] at h2
      simp [h2, h7, ih, hp]
/-- the first answer of g from n on -/
def fs (g : Nat → Option D) : Nat → Nat → Option D
  | _, 0 => none
  | n, k + 1 => match g n with
    | some r => some r
    | none => fs g (n + 1) k
/-- a loop that looks for something -/
theorem forL_find {gv : Gv} {b : Sv} (I : Nat → Sls → Prop) (g : Nat → Option D) : ∀ (ds : List D) (env : Sls) (n : Nat), I n env →
    (∀ (i : Nat) (d : D) (e : Sls), ds[i]? = some d → I (n + i) e → ∃ e1 e2, gv d e = .ok e1 ∧ (∀ r, g (n + i) = some r → b e1 = .ok (.ret r, e2)) ∧ (g (n + i) = none → b e1 = .ok (.next, e2) ∧ I (n + i + 1) e2)) →
    ∃ e', (∀ r, fs g n ds.length = some r → forL gv b ds env = .ok (.ret r, e')) ∧ (fs g n ds.length = none → forL gv b ds env = .ok (.next, e') ∧ I (n + ds.length) e')
  | [], env, n, h, _ => ⟨env, ⟨fun r h => (by cases h), fun _ => ⟨rfl, h⟩⟩⟩
  | d :: ds, env, n, h, hs => by
    obtain ⟨e1, e2, h1, h2, h3⟩ := hs 0 d env rfl h
    rw [Nat.add_zero] at h2 h3
    cases q : g n with
    | some r =>
      refine ⟨e2, fun r' hr => ?_, fun hr => ?_⟩
      · simp only [List.length_cons, fs, q] at hr
        cases hr
        unfold forL
        rw [h1]
        simp [h2 r q]
      · simp [List.length_cons, fs, q] at hr
    | none =>
      obtain ⟨h4, h5⟩ := h3 q
      obtain ⟨e', k1, k2⟩ := forL_find I g ds e2 (n + 1) h5 (fun i x e hx hi => by
        have := hs (i + 1) x e (by simpa using hx) (by rw [← Nat.add_assoc, Nat.add_right_comm]; exact hi)
        rw [← Nat.add_assoc, Nat.add_right_comm n i 1] at this
        exact this)
      have ef : fs g n (ds.length + 1) = fs g (n + 1) ds.length := by simp only [fs, q]
      refine ⟨e', fun r hr => ?_, fun hr => ?_⟩
      · rw [List.length_cons, ef] at hr
        unfold forL
        rw [h1]
        simp [h4, k1 r hr]
      · rw [List.length_cons, ef] at hr
        obtain ⟨k3, k4⟩ := k2 hr
        refine ⟨?_, by rw [List.length_cons, Nat.add_comm ds.length, ← Nat.add_assoc]; exact k4⟩
        unfold forL
        rw [h1]
        simp [h4, k3]
theorem fs_congr {g g' : Nat → Option D} : ∀ (k n : Nat), (∀ i, n ≤ i → i < n + k → g i = g' i) → fs g n k = fs g' n k
  | 0, _, _ => rfl
  | k + 1, n, h => by
    simp only [fs]
    rw [h n (Nat.le_refl _) (by omega), fs_congr k (n + 1) fun i h1 h2 => h i (by omega) (by omega)]
/-- the first place of a kind -/
theorem fs_some {g : Nat → Option D} : ∀ (k n j : Nat) (r : D), n ≤ j → j < n + k → g j = some r → (∀ i, n ≤ i → i < j → g i = none) → fs g n k = some r
  | 0, n, j, r, h1, h2, _, _ => by omega
  | k + 1, n, j, r, h1, h2, h3, h4 => by
    simp only [fs]
    by_cases e : n = j
    · subst e; rw [h3]
    · rw [h4 n (Nat.le_refl _) (by omega)]
      exact fs_some k (n + 1) j r (by omega) (by omega) h3 fun i a b => h4 i (by omega) b
theorem fs_none {g : Nat → Option D} : ∀ (k n : Nat), (∀ i, n ≤ i → i < n + k → g i = none) → fs g n k = none
  | 0, _, _ => rfl
  | k + 1, n, h => by
    simp only [fs]
    rw [h n (Nat.le_refl _) (by omega)]
    exact fs_none k (n + 1) fun i a b => h i (by omega) (by omega)
theorem fs_inv {g : Nat → Option D} : ∀ (k n : Nat), (fs g n k = none ∧ ∀ i, n ≤ i → i < n + k → g i = none) ∨ ∃ j r, n ≤ j ∧ j < n + k ∧ g j = some r ∧ (∀ i, n ≤ i → i < j → g i = none) ∧ fs g n k = some r
  | 0, n => .inl ⟨rfl, fun i a b => by omega⟩
  | k + 1, n => by
    cases q : g n with
    | some r => exact .inr ⟨n, r, Nat.le_refl _, by omega, q, fun i a b => by omega, by simp only [fs, q]⟩
    | none =>
      rcases fs_inv (g := g) k (n + 1) with ⟨h1, h2⟩ | ⟨j, r, h1, h2, h3, h4, h5⟩
      · refine .inl ⟨by simp only [fs, q, h1], fun i a b => ?_⟩
        by_cases e : n = i
        · exact e ▸ q
        · exact h2 i (by omega) (by omega)
      · refine .inr ⟨j, r, by omega, by omega, h3, fun i a b => ?_, by simp only [fs, q, h5]⟩
        by_cases e : n = i
        · exact e ▸ q
        · exact h4 i (by omega) b
@[simp] theorem q_mUn1 (g : D → Res D) (m : Ev) (env : Sls) : mUn1 g m env = (do
  let r ← m env
  let x ← rs r.2 r.1
  match g x with
  | .ok d => pure (d, r.2)
  | _ => .bad) := rfl
@[simp] theorem q_backL (xs : List D) : backD (.lst xs) = .ok (.lst xs.reverse) := rfl
@[simp] theorem q_backT (xs : List D) : backD (.tup xs) = .ok (.tup xs.reverse) := rfl
@[simp] theorem q_mul (i j : Int) : repD (.int i) (.int j) = mulD (.int i) (.int j) := rfl
@[simp] theorem f2_map {α : Type} {P : D → D → Prop} (f : α → D) : ∀ (xs : List α) (ys : List D), F2 P (xs.map f) ys ↔ F2 (fun x y => P (f x) y) xs ys
  | [], ys => ⟨fun h => by cases h; exact .nil, fun h => by cases h; exact .nil⟩
  | x :: xs, [] => ⟨fun h => (nomatch h), fun h => (nomatch h)⟩
  | x :: xs, y :: ys => ⟨fun h => by cases h with | cons a b => exact .cons a ((f2_map f xs ys).mp b), fun h => by cases h with | cons a b => exact .cons a ((f2_map f xs ys).mpr b)⟩
theorem f2_len {α β : Type} {P : α → β → Prop} : ∀ {xs : List α} {ys : List β}, F2 P xs ys → xs.length = ys.length
  | _, _, .nil => rfl
  | _, _, .cons _ h => by rw [List.length_cons, List.length_cons, f2_len h]
theorem f2_ints {α : Type} {P : α → Int → Prop} : ∀ {xs : List α} {ys : List D}, F2 (fun x y => ∃ i : Int, y = .int i ∧ P x i) xs ys → ∃ ns : List Int, ys = ns.map D.int ∧ F2 P xs ns
  | _, _, .nil => ⟨[], rfl, .nil⟩
  | _, _, .cons ⟨i, e, p⟩ h => by
    obtain ⟨ns, e2, h2⟩ := f2_ints h
    exact ⟨i :: ns, by rw [e, e2]; rfl, .cons p h2⟩
theorem intsD_map (ns : List Int) : intsD (ns.map D.int) = some ns := ints_map ns
@[simp] theorem onI_ints (g : List Int → Res D) (ns : List Int) : onI g (.lst (ns.map D.int)) = g ns := by
  simp only [onI, ints_map]
end Vm
end
section
/-! Vm, part R: == of data, plainly. -/
namespace Vm
open PySem L2
def Lay (k : Nat) (d : D) : Prop := d.py.canLay0 = true ∧ d.py.depth ≤ k
theorem Lay.mono {k m : Nat} {d : D} (h : Lay k d) (l : k ≤ m) : Lay m d := ⟨h.1, Nat.le_trans h.2 l⟩
theorem lay_int (i : Int) (k : Nat) : Lay k (.int i) := by simp [Lay, D.py, PyData.canLay0, PyData.depth]
theorem lay_bl (i : Bool) (k : Nat) : Lay k (.bl i) := by simp [Lay, D.py, PyData.canLay0, PyData.depth]
theorem lay_non (k : Nat) : Lay k .non := by simp [Lay, D.py, PyData.canLay0, PyData.depth]
theorem lay_str {x : Str} (h : (PyData.str x).canLay0 = true) (k : Nat) : Lay k (.str x) := ⟨h, by simp [D.py, PyData.depth]⟩
theorem lay_all {k : Nat} : ∀ {xs : List D}, (∀ x ∈ xs, Lay k x) → PyData.canLayAll0 (D.pyL xs) = true ∧ PyData.depthAll (D.pyL xs) ≤ k
  | [], _ => by simp [D.pyL, PyData.canLayAll0, PyData.depthAll]
  | x :: xs, h => by
    obtain ⟨h1, h2⟩ := h x (.head _)
    obtain ⟨h3, h4⟩ := lay_all (xs := xs) fun y hy => h y (.tail _ hy)
    refine ⟨by simp only [D.pyL, PyData.canLayAll0, h1, h3, Bool.and_self], ?_⟩
    simp only [D.pyL, PyData.depthAll]
    omega
theorem lay_tup {k : Nat} {xs : List D} (h : ∀ x ∈ xs, Lay k x) : Lay (k + 1) (.tup xs) := by
  obtain ⟨h3, h4⟩ := lay_all h
  refine ⟨by simp only [D.py, PyData.canLay0, h3], ?_⟩
  simp only [D.py, PyData.depth]
  omega
theorem lay_lst {k : Nat} {xs : List D} (h : ∀ x ∈ xs, Lay k x) : Lay (k + 1) (.lst xs) := by
  obtain ⟨h3, h4⟩ := lay_all h
  refine ⟨by simp only [D.py, PyData.canLay0, h3], ?_⟩
  simp only [D.py, PyData.depth]
  omega
theorem Lay.shaped {k : Nat} {d : D} (h : Lay k d) (l : k ≤ 64 := by decide) : SeqAt.shaped d.py = true := by
  unfold SeqAt.shaped
  rw [h.1, Bool.true_and]
  exact decide_eq_true (Nat.le_trans h.2 l)
theorem eqD_gen {x y : D} {k m : Nat} (hx : Lay k x) (hy : Lay m y) (k1 : k ≤ 64) (k2 : m ≤ 64) (hi : ∀ i, x ≠ .int i) (hs : ∀ i, x ≠ .str i) : eqD x y = .ok (.bl (PyData.eqv x.py y.py)) := by
  unfold eqD
  split
  · rename_i i j; exact absurd rfl (hi i)
  · rename_i i j; exact absurd rfl (hs i)
  · rw [if_pos ⟨hx.shaped k1, hy.shaped k2⟩]
theorem neD_gen {x y : D} {k m : Nat} (hx : Lay k x) (hy : Lay m y) (k1 : k ≤ 64) (k2 : m ≤ 64) (hi : ∀ i, x ≠ .int i) (hs : ∀ i, x ≠ .str i) : neD x y = .ok (.bl (!PyData.eqv x.py y.py)) := by
  unfold neD
  split
  · rename_i i j; exact absurd rfl (hi i)
  · rename_i i j; exact absurd rfl (hs i)
  · rw [if_pos ⟨hx.shaped k1, hy.shaped k2⟩]
theorem eq_tup0 {xs : List D} {k : Nat} (h : Lay k (.tup xs)) (l : k ≤ 64 := by decide) : eqD (.tup xs) (.tup []) = .ok (.bl xs.isEmpty) := by
  rw [eqD_gen h (lay_tup (k := 0) (xs := []) fun x hx => by cases hx) l (by decide) (fun i z => nomatch z) (fun i z => nomatch z)]
  cases xs <;> simp [D.py, D.pyL, PyData.eqv, PyData.eqvAll]
theorem eq_lst0 {xs : List D} {k : Nat} (h : Lay k (.lst xs)) (l : k ≤ 64 := by decide) : eqD (.lst xs) (.lst []) = .ok (.bl xs.isEmpty) := by
  rw [eqD_gen h (lay_lst (k := 0) (xs := []) fun x hx => by cases hx) l (by decide) (fun i z => nomatch z) (fun i z => nomatch z)]
  cases xs <;> simp [D.py, D.pyL, PyData.eqv, PyData.eqvAll]
theorem ne_lst0 {xs : List D} {k : Nat} (h : Lay k (.lst xs)) (l : k ≤ 64 := by decide) : neD (.lst xs) (.lst []) = .ok (.bl (!xs.isEmpty)) := by
  rw [neD_gen h (lay_lst (k := 0) (xs := []) fun x hx => by cases hx) l (by decide) (fun i z => nomatch z) (fun i z => nomatch z)]
  cases xs <;> simp [D.py, D.pyL, PyData.eqv, PyData.eqvAll]
@[simp] theorem ne_bl (a b : Bool) : neD (.bl a) (.bl b) = .ok (.bl (!(a == b))) := by
  rw [neD_gen (lay_bl a 0) (lay_bl b 0) (by decide) (by decide) (fun i z => nomatch z) (fun i z => nomatch z)]
  simp [D.py, PyData.eqv]
@[simp] theorem eq_bl (a b : Bool) : eqD (.bl a) (.bl b) = .ok (.bl (a == b)) := by
  rw [eqD_gen (lay_bl a 0) (lay_bl b 0) (by decide) (by decide) (fun i z => nomatch z) (fun i z => nomatch z)]
  simp [D.py, PyData.eqv]
theorem cut_from {xs : List D} (k : Nat) : cutD xs (some (k : Int)) none = xs.drop k := by
  unfold cutD
  rw [HT.sIx_none, HT.sIx_nat]
  rcases Nat.le_total k xs.length with h | h
  · rw [Nat.min_eq_left h, List.take_of_length_le]
    rw [List.length_drop]; exact Nat.le_refl _
  · rw [Nat.min_eq_right h, List.drop_length, List.drop_of_length_le h]
    simp
@[simp] theorem is1 (x : Str) : isiD "list" (.str x) = .ok (.bl false) := rfl
@[simp] theorem is2 (x : Str) : isiD "tuple" (.str x) = .ok (.bl false) := rfl
@[simp] theorem is3 (x : Str) : isiD "int" (.str x) = .ok (.bl false) := rfl
@[simp] theorem is4 (x : Str) : isiD "bool" (.str x) = .ok (.bl false) := rfl
@[simp] theorem is5 : isiD "list" .non = .ok (.bl false) := rfl
@[simp] theorem is6 : isiD "tuple" .non = .ok (.bl false) := rfl
@[simp] theorem is7 : isiD "int" .non = .ok (.bl false) := rfl
@[simp] theorem is8 : isiD "bool" .non = .ok (.bl false) := rfl
@[simp] theorem is9 : isiD "str" .non = .ok (.bl false) := rfl
@[simp] theorem is10 (xs : List D) : isiD "list" (.tup xs) = .ok (.bl false) := rfl
@[simp] theorem is11 (i : Int) : isiD "list" (.int i) = .ok (.bl false) := rfl
@[simp] theorem is12 (i : Int) : isiD "tuple" (.int i) = .ok (.bl false) := rfl
@[simp] theorem is13 (i : Int) : isiD "str" (.int i) = .ok (.bl false) := rfl
theorem eq_non : eqD .non .non = .ok (.bl true) := by
  rw [eqD_gen (lay_non 0) (lay_non 0) (by decide) (by decide) (fun i z => nomatch z) (fun i z => nomatch z)]
  simp [D.py, PyData.eqv]
end Vm
end
section
set_option maxRecDepth 100000
set_option maxHeartbeats 4000000
/-! Vm, part S: sum of a tuple. -/
namespace Vm
open PySem PySem.Spec PyProof.Rows L2
section
variable {prog : Program} {w : World} {A : Around} {E : Value → Shared → Prop} {s : Shared}
theorem pre_take (ns : List Int) : ∀ j, preSum (fun i => ns.getD i 0) j = (ns.take j).sum
  | 0 => by simp [preSum]
  | j + 1 => by
    rw [preSum, pre_take ns j, List.take_add_one, List.sum_append, List.getD_eq_getElem?_getD]
    cases ns[j]? <;> simp
theorem sum_of_tuple {l : Addr} {us : Array Value} {ns : List Int} {Q : Value → Shared → Prop} (cold : A.handled = none) (ist : s.heap.IsTuple l us) (ii : IntsAre us.toList ns)
    (h : ∀ g tk t, (∀ b o, s.heap.get? b = some o → g.get? b = some o) → Q (.int ns.sum t) { s with heap := g, toks := tk }) : wpAny (model prog w) A (call (.builtin "sum") [.ref l]) Q E s := by
  have lt : l < s.heap.objs.size := by
    obtain ⟨_, e, _⟩ := ist
    exact Heap.lt_size e
  have z : us.size = ns.length := by
    have q := IntsAre.length ii
    rwa [Array.length_toList] at q
  refine call_sum_walkG (wpAny_pyIter_tuple ist ⟨_, _, _, _, _, _, fun i => ns.getD i 0, rfl, Walks.tuple (A := A.in1) cold _ l (Nat.ne_of_lt lt) us, ⟨⟨_, Heap.get?_push_size _ rfl, rfl, rfl⟩, ist.push _⟩, fun b hb => ?_, fun i v hv => ?_, fun g tk t hk => ?_⟩)
  · show b < (s.heap.push _).objs.size
    rw [Heap.size_push]
    rcases List.mem_cons.mp hb with rfl | hb
    · exact Nat.lt_succ_self _
    · rw [List.mem_singleton.mp hb]; exact Nat.lt_succ_of_lt lt
  · exact ii.int_at i v (by rw [Array.getElem?_toList]; exact hv)
  · have e : preSum (fun i => ns.getD i 0) us.size = ns.sum := by rw [pre_take, z, List.take_length]
    rw [e]
    refine h g tk t fun b o q => hk b o (fun m => ?_) (Heap.get?_push_of_some _ q)
    rw [List.mem_singleton.mp m] at q
    exact absurd (Heap.lt_size q) (Nat.lt_irrefl _)
end
section
variable {X : Cx} {K : PySem.W.Frag}
def rSumT (K : PySem.W.Frag) : List V → Hp → VK → Prop := fun vs H Q => ∃ (a : Addr) (ns : List Int), vs = [V.ref a] ∧ SqT K H a (ns.map V.int) ∧ Q (.int ns.sum) H
theorem cr_sumT (hc : X.calm = true) : CallR X (.builtin "sum") (rSumT X.K) := by
  intro pins s σ H vs us Q I r h
  obtain ⟨a, ns, rfl, hs, q⟩ := h
  obtain ⟨its, rv, hl, _⟩ := I.tuple hs
  rw [Vals.ref1 r]
  exact sum_of_tuple (I.ok.hd hc) (show s.heap.IsTuple a its.toArray from hl) (ints_of_vals rv) fun h' tk t' hk => ⟨.int _, H, I.kept hk, ⟨_, rfl⟩, q⟩
def rSumA (K : PySem.W.Frag) : List V → Hp → VK → Prop := fun vs H Q => rSum K vs H Q ∨ rSumT K vs H Q
theorem cr_sumA (hc : X.calm = true) : CallR X (.builtin "sum") (rSumA X.K) := fun pins s σ H vs us Q I r h => h.elim (cr_sum hc pins s σ H vs us Q I r) (cr_sumT hc pins s σ H vs us Q I r)
def onT (g : List Int → Res D) (x : D) : Res D := match x with
  | .tup ds => onI g (.lst ds)
  | x => onI g x
theorem cs_sumA : CallS K (rSumA K) (one (onT fun ns => .ok (.int ns.sum))) := by
  intro H M vs ds Q tk r w
  obtain ⟨d, rfl, w1⟩ := one_inv w
  obtain ⟨v, rfl, rv⟩ := r.one
  cases d with
  | tup ds =>
    obtain ⟨ns, e, w2⟩ := onI_inv (x := .lst ds) w1
    cases e
    obtain ⟨a, us, rfl, h, z, q⟩ := rv.tup_inv
    rw [q.ints] at h
    exact .inr ⟨a, ns, rfl, h, w2 _ _ (.refl _) (.int _)⟩
  | _ => exact .inl (cs_sum H M [v] _ Q tk r w)
end
theorem cSumA {X : Cx} {C : Cfg} {W : WX} {k : Nat} (g : Gd X C W k) : CallR X (.builtin "sum") (rSumA C.K) := g.kE ▸ cr_sumA g.calm
@[simp] theorem onT_l (g : List Int → Res D) (ds : List D) : onT g (.lst ds) = onI g (.lst ds) := rfl
@[simp] theorem onT_t (g : List Int → Res D) (ds : List D) : onT g (.tup ds) = onI g (.lst ds) := rfl
end Vm
end
section
set_option maxRecDepth 100000
set_option maxHeartbeats 4000000
/-! Vm, part T: a, b = x, y; range with a step. -/
namespace Vm
open PySem PySem.Spec PyProof.Rows L2
section
variable {X : Cx} {C : Cfg} {W : WX} {k : Nat} {tg : Expr} {a b c : Expr} {ta : TA} {ms : Evs} {p pos : Pos}
def mPar (i j : Nat) (ms : Evs) : Sv := fun env => do
  let r ← ms env
  match r.1 with
  | [d1, d2] => do
    let x ← kp d1
    let y ← kp d2
    if notPar r.2 i = true ∧ notPar r.2 j = true then pure (.next, (r.2.set i (.t x)).set j (.t y)) else .bad
  | _ => .bad
theorem sm_par (i j : Nat) {x y : Str} {px py pt : Pos} {kt k2 : Nat} {pt2 : Pos} (g : Gd X C W k) (h : AM X C W [a, b] ta ms) (hi : X.N[i]? = some x := by rfl) (hj : X.N[j]? = some y := by rfl) (hij : i ≠ j := by decide)
    (hx : X.env.scope.names.lookup x = some .local := by rfl) (hy : X.env.scope.names.lookup y = some .local := by rfl)
    (hw : swappedStores [.Tuple [.Name x px, .Name y py] kt pt] (.Tuple [a, b] k2 pt2) X.env = pure (some [x, y]) := by rfl)
    (hs : swapsWithSole [.Tuple [.Name x px, .Name y py] kt pt] (.Tuple [a, b] k2 pt2) pos.line X.env = pure false := by rfl) :
    SM X C W (.Assign [.Tuple [.Name x px, .Name y py] kt pt] (.Tuple [a, b] k2 pt2) pos) (tPar i j ta) (mPar i j ms) := by
  refine ⟨ps_par g.calm g.nd hi hj hij hx hy h.pe hw hs, fun ad σ H env Dn R w => ?_⟩
  unfold mPar at w
  rw [wp_bind] at w
  refine h.sn C.M0 ad σ H env _ R (w.imp (fun r z vs H' R' S' V' => ?_) fun _ z => z.er)
  obtain ⟨ds, env2⟩ := r
  simp only at z V' R' S'
  match ds, V', z with
  | [], _, z => exact z.elim
  | [_], _, z => exact z.elim
  | _ :: _ :: _ :: _, _, z => exact z.elim
  | [d1, d2], V', z =>
    obtain ⟨v, us, e1, V1, q1⟩ := V'.cons_inv
    obtain ⟨v2, us2, e2, V2, q2⟩ := q1.cons_inv
    have e3 := q2.nil_inv
    subst e3 e2 e1
    simp only at z
    rw [wp_bind] at z
    obtain ⟨x1, z2, rp⟩ := kp_rp V1 z
    rw [wp_bind] at z2
    obtain ⟨y1, z3, rp2⟩ := kp_rp V2 z2
    split at z3
    · refine ⟨v, v2, rfl, ?_⟩
      have R1 := RE.setS (C := C) (i := i) (s := .t d1) (v := some v) R' rfl ⟨v, rfl, rp⟩
      have R2 := RE.setS (C := C) (i := j) (s := .t d2) (v := some v2) R1 rfl ⟨v2, rfl, rp2.less (mo_set rfl)⟩
      exact z3 ad _ H' R2 (S'.keep.trans fun d v q => (q.less (mo_set rfl)).less (mo_set rfl))
    · exact z3.elim
/-! ### range(i, j, c) -/
def rangeC (lo c : Int) (n : Nat) : List D := (List.range n).map fun (i : Nat) => D.int (lo + i * c)
theorem rangeC_length (lo c : Int) (n : Nat) : (rangeC lo c n).length = n := by simp [rangeC]
theorem wk_rangeC {K : PySem.W.Frag} {lo c : Int} {n : Nat} : Wk K (Itc lo c n) [] (rangeC lo c n) := by
  refine ⟨fun H M i d _ r h => ?_, fun H M r => by rw [rangeC_length]; exact Nat.le_refl _⟩
  have hi : i < n := by
    have := (List.getElem?_eq_some_iff.mp h).1
    rwa [rangeC_length] at this
  have e : d = .int (lo + i * c) := by
    unfold rangeC at h
    rw [List.getElem?_map, List.getElem?_range hi] at h
    cases h
    rfl
  refine ⟨hi, fun x H' y => ?_⟩
  obtain ⟨e1, e2⟩ := y
  subst e1 e2 e
  exact ⟨.refl _, .int _⟩
def int3 : List D → Option (Int × Int × Int)
  | [.int i, .int j, .int c] => some (i, j, c)
  | _ => none
theorem int3_eq {ds : List D} {q : Int × Int × Int} (h : int3 ds = some q) : ds = [.int q.1, .int q.2.1, .int q.2.2] := by
  unfold int3 at h
  split at h
  · cases h; rfl
  · cases h
def mRng3 (ms : Evs) : Em := fun env => do
  let r ← ms env
  match int3 r.1 with
  | some q => if q.2.2 ≠ 0 ∧ q.2.2.natAbs < 1073741824 ∧ Builtin.Range.small q.1 q.2.1 q.2.2 = true ∧ Builtin.Range.rangeSize q.1 q.2.1 q.2.2 = ((Builtin.Range.rangeSize q.1 q.2.1 q.2.2).toNat : Int) ∧ (Builtin.Range.rangeSize q.1 q.2.1 q.2.2).toNat ≤ sizeLine then
      pure (rangeC q.1 q.2.2 (Builtin.Range.rangeSize q.1 q.2.1 q.2.2).toNat, r.2) else .bad
  | none => .bad
theorem im_range3 (g : Gd X C W k) (h : AM X C W [a, b, c] ta ms) (hm : X.mg "range" = none) (hg : Gl X "range" := by rfl) (hs : starEach [a, b, c] X.env = (false, eval a X.env) :: starEach [b, c] X.env := by rfl) (hpl : (backTo pos (starEach [b, c] X.env)).any (·.1) = false := by rfl) :
    IM X C W tg (.Call (.Name "range" p) [a, b, c] [] pos) (iRng3 ta) (mRng3 ms) := by
  refine ⟨pi_range3 hg hm h.pe hs hpl, fun M0 ad σ H env R RR w => ?_⟩
  unfold mRng3 at w
  refine h.sn' RR w fun r vs H' R' S' V' w1 => ?_
  obtain ⟨ds, env2⟩ := r
  simp only at V' w1
  cases q : int3 ds with
  | none => rw [q] at w1; exact w1.elim
  | some pr =>
    rw [q] at w1
    rw [int3_eq q] at V'
    obtain ⟨v, us, e1, h1, q1⟩ := V'.cons_inv
    obtain ⟨v2, us2, e2, h2, q2⟩ := q1.cons_inv
    obtain ⟨v3, us3, e3, h3, q3⟩ := q2.cons_inv
    have e4 := q3.nil_inv
    subst e4 e3 e2
    have k1 : Rp C.K H' (Mo (C.w M0) env2 ad) (.int pr.1) v := h1
    have k2 : Rp C.K H' (Mo (C.w M0) env2 ad) (.int pr.2.1) v2 := h2
    have k3 : Rp C.K H' (Mo (C.w M0) env2 ad) (.int pr.2.2) v3 := h3
    cases k1
    cases k2
    cases k3
    simp only at w1
    split at w1
    · rename_i hz
      refine ⟨pr.1, pr.2.1, pr.2.2, (Builtin.Range.rangeSize pr.1 pr.2.1 pr.2.2).toNat, e1, ⟨hz.1, hz.2.1, hz.2.2.1, hz.2.2.2.1⟩, w1 _ [] H' R' S' (fun p hp => nomatch hp) wk_rangeC ?_⟩
      show (rangeC pr.1 pr.2.2 (Builtin.Range.rangeSize pr.1 pr.2.1 pr.2.2).toNat).length ≤ sizeLine
      rw [rangeC_length]
      exact hz.2.2.2.2
    · exact w1.elim
end
end Vm
end
section
set_option maxRecDepth 100000
set_option maxHeartbeats 4000000
/-! Vm, part U: pop(i), extend of an own list. -/
namespace Vm
open PySem PySem.Spec PyProof.Rows L2
section
variable {X : Cx} {C : Cfg} {W : WX} {k : Nat} {e : Expr} {ta : TE} {m : Ev} {pos : Pos}
/-- an own list's content anew -/
theorem RE.lay {M0 : Addr → Prop} {ad : Nat → Addr} {σ : L2.St} {H1 : Hp} {env : Sls} {i : Nat} {s : Sl} {ds ds' : List D} {us us' : List V} (R1 : RE (C.w M0) ad H1 σ env) (z2 : env[i]? = some s) (zc2 : s.con = some (.lst ds)) (hu : H1 (ad i) = some (.lst us))
    (hz : ds'.length ≤ sizeLine) (ru : RpL C.K H1 (Mo (C.w M0) env ad) ds' us') :
    RE (C.w M0) ad (upd H1 (ad i) (.lst us')) σ (env.set i (s.put (.lst ds'))) ∧ Stp (C.w M0) ad H1 env (upd H1 (ad i) (.lst us')) (env.set i (s.put (.lst ds'))) ∧
      ∀ d v, Rp C.K H1 (Mo (C.w M0) env ad) d v → Rp C.K (upd H1 (ad i) (.lst us')) (Mo (C.w M0) (env.set i (s.put (.lst ds'))) ad) d v := by
  have kk : ∀ b o, H1 b = some o → b ≠ ad i → upd H1 (ad i) (.lst us') b = some o := fun b o e hb => by rw [upd_ne hb]; exact e
  have hM : Mo (C.w M0) env ad (ad i) := .inr ⟨i, s, z2, Sl.isMut.own (Sl.con_mut zc2), rfl⟩
  have x1 : Ext (Mo (C.w M0) env ad) H1 (upd H1 (ad i) (.lst us')) := by
    refine ⟨fun b o e hn _ => kk b o e fun q => hn (q ▸ hM), fun b xs e => kk b _ e fun q => ?_, fun b o u e => kk b _ e fun q => ?_, fun b hb => ?_⟩
    · rw [q, hu] at e; cases e
    · rw [q, hu] at e; cases e
    · by_cases q : b = ad i
      · rw [q, upd_same]; exact fun z => nomatch z
      · rw [upd_ne q]; exact hb
  obtain ⟨R2, S2⟩ := R1.put (d := .lst ds') (H' := upd H1 (ad i) (.lst us')) z2 (Sl.con_mut zc2) kk ⟨hz, us', upd_same, ru.ext x1 fun b q => .inl q⟩
  refine ⟨R2, S2, fun d v h => ?_⟩
  exact (S2.rp h)
def mPopAt (i : Nat) (m : Ev) : Ev := fun env =>
  match env[i]?.bind Sl.con with
  | some (.lst _) => do
    let r ← m env
    match r.2[i]? with
    | some s => (match s.con, r.1 with
      | some (.lst ds), .int j => (match seqIndex? j ds.length with
        | some n => (match ds[n]? with
          | some d => if -(2 ^ 63) ≤ j ∧ j < 2 ^ 63 then pure (d, r.2.set i (s.put (.lst (ds.eraseIdx n)))) else .bad
          | none => .bad)
        | none => .bad)
      | _, _ => .bad)
    | _ => .bad
  | _ => .bad
theorem RpL.erase {K : PySem.W.Frag} {H : Hp} {M : Addr → Prop} {ds : List D} {vs : List V} (r : RpL K H M ds vs) (n : Nat) : RpL K H M (ds.eraseIdx n) (vs.eraseIdx n) := by
  refine ⟨?_, fun i d v h1 h2 => ?_⟩
  · rw [List.length_eraseIdx, List.length_eraseIdx, r.len]
  · rw [List.getElem?_eraseIdx] at h1 h2
    split at h1
    · rename_i hi
      rw [if_pos hi] at h2
      exact r.item i d v h1 h2
    · rename_i hi
      rw [if_neg hi] at h2
      exact r.item (i + 1) d v h1 h2
theorem em_popAt (i : Nat) {y : Str} {py apos : Pos} (g : Gd X C W k) (he : EM X C W e ta m) (hN : X.N[i]? = some y := by rfl) (hv : Vis X.env.scope y := by first | exact Or.inl rfl | exact Or.inr (Or.inl rfl) | exact Or.inr (Or.inr rfl)) (hd : (y == ("__debug__" : Str)) = false := by decide)
    (hcd : (y == ("__classdict__" : Str)) = false := by decide) (hbase : attributeBase (.Name y py) "pop" X.env (eval (.Name y py) X.env) = eval (.Name y py) X.env := by rfl)
    (hfew : ((backTo pos (starEach [e] X.env)).all (fun x => !x.1) && (backToKw pos (keywordEach [] X.env)).all (fun x => x.1.isSome)
      && decide ([e].length + ([] : List Keyword).length + (if ([] : List Keyword).isEmpty then 0 else 1) < 30)) = true := by rfl)
    (hline : (apos.endLine == pos.line) = true := by rfl) (hs : starEach [e] X.env = (false, eval e X.env) :: starEach [] X.env := by rfl) (hplain : (backTo pos (starEach [] X.env)).any (·.1) = false := by rfl) :
    EM X C W (.Call (.Attribute (.Name y py) "pop" apos) [e] [] pos) (tBM C.K "list" rPopAt (tVar i) (tCons ta tNil)) (mPopAt i m) := by
  refine ⟨g.kE ▸ pe_bm PySem.F.plainAttrs_list PySem.F.slot_list_pop PySem.F.type_list_pop mt_popAt (pe_var hN hv hd hcd) (pa_cons he.pe pa_nil hs) hbase hfew hline hs hplain, fun M0 ad σ H env Q R w => ?_⟩
  unfold mPopAt at w
  cases z : env[i]? with
  | none => rw [z] at w; exact w.elim
  | some s0 =>
    rw [z] at w
    simp only [Option.bind_some] at w
    cases zc : s0.con with
    | none => rw [zc] at w; exact w.elim
    | some c0 =>
      rw [zc] at w
      cases c0 with
      | lst ds0 =>
        obtain ⟨hσ, _, us0, hu0, _⟩ := R.con z zc
        refine ⟨.ref (ad i), hσ, .inl ⟨rfl, us0, .of hu0⟩, ?_⟩
        refine he.sn' R w fun r v H1 R1 S1 V1 w1 => ?_
        cases z2 : r.2[i]? with
        | none => rw [z2] at w1; exact w1.elim
        | some s =>
          rw [z2] at w1
          simp only at w1
          cases zc2 : s.con with
          | none => rw [zc2] at w1; exact w1.elim
          | some c =>
            rw [zc2] at w1
            cases hr : r.1 with
            | int j =>
              rw [hr] at w1 V1
              cases c with
              | lst ds =>
                simp only at w1
                cases hq : seqIndex? j ds.length with
                | none => rw [hq] at w1; exact w1.elim
                | some n =>
                  rw [hq] at w1
                  simp only at w1
                  cases hd2 : ds[n]? with
                  | none => rw [hd2] at w1; exact w1.elim
                  | some d =>
                    rw [hd2] at w1
                    simp only at w1
                    split at w1
                    · rename_i hb
                      obtain ⟨_, hz, us, hu, ru⟩ := R1.con z2 zc2
                      cases V1
                      have hl := ru.len
                      have hn : n < us.length := by rw [hl]; exact (List.getElem?_eq_some_iff.mp hd2).1
                      have hv2 : us[n]? = some us[n] := List.getElem?_eq_getElem hn
                      refine ⟨ad i, us, j, n, us[n], rfl, rfl, hu, hb.1, hb.2, by rw [hl]; exact hq, hv2, ?_⟩
                      obtain ⟨R2, S2, kk⟩ := RE.lay (ds' := ds.eraseIdx n) (us' := us.eraseIdx n) R1 z2 zc2 hu (Nat.le_trans (by rw [List.length_eraseIdx]; split <;> omega) hz) (ru.erase n)
                      exact w1 _ _ R2 (S1.trans S2) (.of (kk _ _ (ru.item n d _ hd2 hv2)))
                    · exact w1.elim
              | _ => exact w1.elim
            | _ => rw [hr] at w1; cases c <;> exact w1.elim
      | _ => exact w.elim
def mExt (i : Nat) (m : Ev) : Ev := fun env =>
  match env[i]?.bind Sl.con with
  | some (.lst _) => do
    let r ← m env
    let d ← kp r.1
    match r.2[i]? with
    | some s => (match s.con, d with
      | some (.lst ds), .lst es => if ds.length + es.length ≤ sizeLine then pure (.non, r.2.set i (s.put (.lst (ds ++ es)))) else .bad
      | _, _ => .bad)
    | _ => .bad
  | _ => .bad
theorem em_extend (i : Nat) {y : Str} {py apos : Pos} (g : Gd X C W k) (he : EM X C W e ta m) (hN : X.N[i]? = some y := by rfl) (hv : Vis X.env.scope y := by first | exact Or.inl rfl | exact Or.inr (Or.inl rfl) | exact Or.inr (Or.inr rfl)) (hd : (y == ("__debug__" : Str)) = false := by decide)
    (hcd : (y == ("__classdict__" : Str)) = false := by decide) (hbase : attributeBase (.Name y py) "extend" X.env (eval (.Name y py) X.env) = eval (.Name y py) X.env := by rfl)
    (hfew : ((backTo pos (starEach [e] X.env)).all (fun x => !x.1) && (backToKw pos (keywordEach [] X.env)).all (fun x => x.1.isSome)
      && decide ([e].length + ([] : List Keyword).length + (if ([] : List Keyword).isEmpty then 0 else 1) < 30)) = true := by rfl)
    (hline : (apos.endLine == pos.line) = true := by rfl) (hs : starEach [e] X.env = (false, eval e X.env) :: starEach [] X.env := by rfl) (hplain : (backTo pos (starEach [] X.env)).any (·.1) = false := by rfl) :
    EM X C W (.Call (.Attribute (.Name y py) "extend" apos) [e] [] pos) (tBM C.K "list" rExtend (tVar i) (tCons ta tNil)) (mExt i m) := by
  refine ⟨g.kE ▸ pe_bm PySem.F.plainAttrs_list PySem.F.slot_list_extend PySem.F.type_list_extend mt_extend (pe_var hN hv hd hcd) (pa_cons he.pe pa_nil hs) hbase hfew hline hs hplain, fun M0 ad σ H env Q R w => ?_⟩
  unfold mExt at w
  cases z : env[i]? with
  | none => rw [z] at w; exact w.elim
  | some s0 =>
    rw [z] at w
    simp only [Option.bind_some] at w
    cases zc : s0.con with
    | none => rw [zc] at w; exact w.elim
    | some c0 =>
      rw [zc] at w
      cases c0 with
      | lst ds0 =>
        obtain ⟨hσ, _, us0, hu0, _⟩ := R.con z zc
        refine ⟨.ref (ad i), hσ, .inl ⟨rfl, us0, .of hu0⟩, ?_⟩
        refine he.sn' R w fun r v H1 R1 S1 V1 w1 => ?_
        rw [wp_bind] at w1
        obtain ⟨_, w2, rp⟩ := kp_rp V1 w1
        cases z2 : r.2[i]? with
        | none => rw [z2] at w2; exact w2.elim
        | some s =>
          rw [z2] at w2
          simp only at w2
          cases zc2 : s.con with
          | none => rw [zc2] at w2; exact w2.elim
          | some c =>
            rw [zc2] at w2
            cases hr : r.1 with
            | lst es =>
              rw [hr] at w2 rp
              cases c with
              | lst ds =>
                simp only at w2
                split at w2
                · rename_i hz2
                  obtain ⟨_, hz, us, hu, ru⟩ := R1.con z2 zc2
                  obtain ⟨b, ws, rfl, hb, hzb, rb⟩ := (show Ro C.K H1 (Mo (C.w M0) r.2 ad) (.lst es) v from rp.ro).lst_inv
                  refine ⟨ad i, b, us, ws, rfl, rfl, hu, hb, by rw [ru.len, rb.len]; exact hz2, ?_⟩
                  obtain ⟨R2, S2, kk⟩ := RE.lay (ds' := ds ++ es) (us' := us ++ ws) R1 z2 zc2 hu (by rw [List.length_append]; exact hz2) (ru.append rb)
                  exact w2 _ _ R2 (S1.trans S2) (.of .non)
                · exact w2.elim
              | _ => exact w2.elim
            | _ => rw [hr] at w2; cases c <;> exact w2.elim
      | _ => exact w.elim
end
end Vm
end
section
set_option maxRecDepth 100000
set_option maxHeartbeats 4000000
/-! Vm, part V: name = f(..), f hands back a new list or None. -/
namespace Vm
open PySem PySem.Spec PyProof.Rows L2
section
variable {X : Cx} {C : Cfg} {W : WX} {k j n : Nat} {e : Expr} {es : List Expr} {t : TA} {ms : Evs} {x : Str} {p pos pos2 pos' : Pos}
def mSetG (i n : Nat) (fm : List D → Res D) (ms : Evs) : Sv := fun env => do
  let r ← ms env
  if r.1.length = n ∧ allKp r.1 = true then do
    let d ← fm r.1
    if notPar r.2 i = true then pure (.next, r.2.set i (if noneD d = true then .t d else .l d)) else .bad
  else .bad
theorem sm_setG (i : Nat) {y : Str} {fm : List D → Res D} (g : Gd X C W k) (F : Fn X.prog X.w X.K X.mg X.base j x (spG C.K C.T C.mg n fm)) (h : AM X C W (e :: es) t ms) (hj : j ≤ k := by decide) (hg : Gl X x := by rfl)
    (hdb : (x == ("__debug__" : Str)) = false := by decide) (he : starEach (e :: es) X.env = (false, eval e X.env) :: starEach es X.env := by rfl) (hpl : (backTo pos (starEach es X.env)).any (·.1) = false := by rfl)
    (hi : X.N[i]? = some y := by rfl) (hx : Loc X.env.scope y := by first | exact .inl rfl | exact .inr rfl) (hs : swapsWith (.Call (.Name x p) (e :: es) [] pos) (some (.Name y pos')) pos2.line X.env = pure false := by rfl) (hf : X.fn y = true ∨ X.env.scope.names.lookup y = some .local := by exact .inl rfl) :
    SM X C W (.Assign [.Name y pos'] (.Call (.Name x p) (e :: es) [] pos) pos2) (tAsg (tCallS (spG C.K C.T C.mg n fm) (WE W) t) (gName i)) (mSetG i n fm ms) := by
  obtain ⟨f, fd, ps, F, hm, hk, hb⟩ := (F.mono hj).ex
  refine ⟨ps_set g.nd hi hx (pe_callS F g.room hg hm hk hb (fun σ => passAt g.tk σ) h.pe hdb he hpl) hs hf, fun ad σ H env Dn R w => ?_⟩
  unfold mSetG at w
  rw [wp_bind] at w
  refine h.sn C.M0 ad σ H env _ R (w.imp (fun r z vs H1 R1 S1 V1 => ?_) fun _ z => z.er)
  split at z
  · rename_i hl
    refine ⟨by rw [V1.len]; exact hl.1, R1.tabs, Mo C r.2 ad, r.1, fun a z => R1.mtrk z, allKp_rp V1 hl.2, ?_⟩
    rw [wp_bind] at z
    refine z.imp (fun d z2 => ⟨fun e H' s => ?_, fun e a H' hn s c => ?_⟩) fun c z cls dd H' hm e => z ad σ cls dd H' r.2 hm (R1.growS e)
    · subst e
      split at z2
      · exact z2 ad _ H' (RE.setS (C := C) (s := .t .non) (v := some .non) (R1.growS s) rfl ⟨.non, rfl, .non⟩) ((S1.trans (.growS s)).keep.trans fun d v q => q.less fun a z => mo_set rfl a z)
      · exact z2.elim
    · have hnd : noneD d = false := by
        cases d with
        | non => exact absurd rfl e
        | _ => rfl
      rw [hnd] at z2
      split at z2
      · rename_i hp
        have h1 : H a = none := by
          cases q : H a with
          | none => rfl
          | some o => exact absurd hn (by
              have := S1.ext.trk a (by rw [q]; exact fun z => nomatch z)
              cases q1 : H1 a with
              | none => exact absurd q1 this
              | some o1 => exact absurd hn (by rw [q1]; exact fun z => nomatch z))
        have h0 : C.H0 a = none := by
          cases q : C.H0 a with
          | none => rfl
          | some o => exact absurd h1 (R.trk a (by rw [q]; exact fun z => nomatch z))
        have S' : Stp C ad H env H' r.2 := S1.trans (.growS s)
        have hno : ¬ Mo C r.2 ad a := fun q => R.mtrk (S'.mo a q) h1
        have R' : RE (C.add a) ad H' σ r.2 := R1.growAddS s hn c.trk
        have R2 : RE C (adSet ad i a) H' (σ.set i (some (.ref a))) (r.2.set i (.l d)) := RE.setL (C := C) R' h0 hno (notPar_lt hp) (c.ext rfl .refl fun b z => .inl (mo_add.mp z))
        refine z2 _ _ H' R2 fun d v q => q.ext S'.extM fun b y => ?_
        rcases y with y | ⟨j2, s2, e1, o, rfl⟩
        · exact .inl (.inl y)
        · by_cases hj2 : j2 = i
          · right
            have : adSet ad i a j2 = a := by unfold adSet; rw [if_pos hj2]
            rw [this]; exact h1
          · rw [List.getElem?_set_ne (Ne.symm hj2)] at e1
            have : adSet ad i a j2 = ad j2 := by unfold adSet; rw [if_neg hj2]
            rw [this]
            exact .inl (S'.mo _ (.inr ⟨j2, s2, e1, o, rfl⟩))
      · exact z2.elim
  · exact z.elim
end
section
variable {T : List (Addr × Str)} {P : Program} {w : World} {K : PySem.W.Frag} {mg : Str → Option Value} {base : Heap} {x : Str} {st : Stmt} {f : Addr} {fd : FuncData} {N ps ks : List Str} {is : List Nat} {k n : Nat} {m : Sv}
theorem fnKG (F : Fun K x x st f fd) (S : FnScope N ps (defScope st)) (hn : ps.length = n) (hm : mg x = some (.ref f))
    (hb : ∀ (kV doc pm : Value) (an : Option Addr) (cdv ct : Value) (us : List Value), us.length = is.length → bindArgs (PySem.W.fnOf x x (defArgs st) (defBody st) (defScope st) .none kV doc pm an cdv ct) ⟨[], ks.zip us⟩ = pure (ps.zip (pick is us)))
    (B : Body P w K T mg base N x st k true m) : FnK P w K mg base (k + 1) x ks is (spP K T mg n (runG N.length m)) := by
  refine ⟨f, fd, ps, (fnG_ok F S hn B).imp fun vs H Q E ⟨hl, ht, M, ds, tk, r, q⟩ => ⟨hl, ht, M, ds, tk, r, q.imp (fun d z => ⟨fun e H' s => by subst e; exact z _ H' s .non, fun _ a H' hn e c => z _ H' e (cell_rp c (fun q => tk a q hn) fun b q => .inl q)⟩) fun c z => z⟩, hm, F.kp, ?_⟩
  obtain ⟨oc, od, kV, doc, pm, an, cdv, ct, osl, rfl, lk, hcd⟩ := F.ex
  exact ⟨fun s ws _ hl => .of_eq (hb kV doc pm an cdv ct ws hl)⟩
theorem fnKF (F : Fun K x x st f fd) (S : FnScope N ps (defScope st)) (hn : ps.length = n) (hm : mg x = some (.ref f))
    (hb : ∀ (kV doc pm : Value) (an : Option Addr) (cdv ct : Value) (us : List Value), us.length = is.length → bindArgs (PySem.W.fnOf x x (defArgs st) (defBody st) (defScope st) .none kV doc pm an cdv ct) ⟨[], ks.zip us⟩ = pure (ps.zip (pick is us)))
    (B : Body P w K T mg base N x st k true m) : FnK P w K mg base (k + 1) x ks is (spP K T mg n (runF N.length m)) := by
  refine ⟨f, fd, ps, (fnF_ok F S hn B).imp fun vs H Q E ⟨hl, ht, M, ds, tk, r, q⟩ => ⟨hl, ht, M, ds, tk, r, q.imp (fun d z a H' hn e c => z _ H' e (cell_rp c (fun q => tk a q hn) fun b q => .inl q)) fun c z => z⟩, hm, F.kp, ?_⟩
  obtain ⟨oc, od, kV, doc, pm, an, cdv, ct, osl, rfl, lk, hcd⟩ := F.ex
  exact ⟨fun s ws _ hl => .of_eq (hb kV doc pm an cdv ct ws hl)⟩
end
end Vm
end
section
set_option maxRecDepth 100000
set_option maxHeartbeats 4000000
/-! Vm, part X: clear of an own list. -/
namespace Vm
open PySem PySem.Spec PyProof.Rows L2
section
variable {X : Cx} {C : Cfg} {W : WX} {k : Nat} {pos : Pos}
def mClr (i : Nat) : Ev := fun env =>
  match env[i]? with
  | some s => (match s.con with
    | some (.lst _) => .ok (.non, env.set i (s.put (.lst [])))
    | _ => .bad)
  | none => .bad
theorem em_clear (i : Nat) {y : Str} {py apos : Pos} (g : Gd X C W k) (hN : X.N[i]? = some y := by rfl) (hv : Vis X.env.scope y := by first | exact Or.inl rfl | exact Or.inr (Or.inl rfl) | exact Or.inr (Or.inr rfl)) (hd : (y == ("__debug__" : Str)) = false := by decide)
    (hcd : (y == ("__classdict__" : Str)) = false := by decide) (hbase : attributeBase (.Name y py) "clear" X.env (eval (.Name y py) X.env) = eval (.Name y py) X.env := by rfl) (hline : (apos.endLine == pos.line) = true := by rfl) :
    EM X C W (.Call (.Attribute (.Name y py) "clear" apos) [] [] pos) (tBM0 C.K "list" rClear (tVar i)) (mClr i) := by
  refine ⟨g.kE ▸ pe_bm0 PySem.F.plainAttrs_list PySem.F.slot_list_clear PySem.F.type_list_clear mt_clear (pe_var hN hv hd hcd) hbase hline, fun M0 ad σ H env Q R w => ?_⟩
  unfold mClr at w
  cases z : env[i]? with
  | none => rw [z] at w; exact w.elim
  | some s =>
    rw [z] at w
    simp only at w
    cases zc : s.con with
    | none => rw [zc] at w; exact w.elim
    | some c =>
      rw [zc] at w
      cases c with
      | lst ds =>
        obtain ⟨hσ, hz, us, hu, ru⟩ := R.con z zc
        refine ⟨.ref (ad i), hσ, .inl ⟨rfl, us, .of hu⟩, ad i, us, rfl, rfl, hu, ?_⟩
        obtain ⟨R2, S2, kk⟩ := RE.lay (ds' := []) (us' := []) R z zc hu (Nat.zero_le _) .nil
        exact w .non _ R2 S2 (.of .non)
      | _ => exact w.elim
variable {e : Expr} {te : TE} {m : Ev}
def backL (x : D) : Res D := match x with
  | .lst xs => .ok (.lst xs.reverse)
  | _ => .bad
theorem ef_back {kk : Nat} {p1 p2 p3 : Pos} (g : Gd X C W k) (h : EM X C W e te m) : EF X C W (.Subscript e (.Slice none none (some (.UnaryOp .USub (.Constant (.int 1) kk p1) p2)) p3) pos) (tBack C.K te) (mUn1 backL m) := by
  refine ⟨g.kE ▸ pe_back h.pe, fun M0 ad σ H env Q R w => ?_⟩
  unfold mUn1 at w
  refine h.sn' R w fun r v H1 R1 S1 V1 w1 => ?_
  rw [wp_bind] at w1
  obtain ⟨y, _, w2, ry⟩ := R1.rs V1 w1
  cases y with
  | lst ds =>
    obtain ⟨a, us, rfl, hs, z, q⟩ := ry.lst_inv
    refine ⟨a, us, rfl, .inl ⟨.of hs, fun p hf => w2 p _ ?_ (R1.growAdd (same_new hf) hf (by rw [upd_same]; exact fun z => nomatch z)) (S1.trans (.grow (same_new hf))) ?_⟩⟩
    · cases z : H p with
      | none => rfl
      | some o => exact absurd hf (S1.ext.trk p (by rw [z]; exact fun z => nomatch z))
    · exact (cell_new (M := Mo (C.w M0) r.2 ad) q.rev hf (by rw [List.length_reverse]; exact z)).ext rfl .refl fun b z => .inl (mo_add.mp z)
  | _ => exact w2.elim
end
@[simp] theorem z_mSetG (i n : Nat) (fm : List D → Res D) (ms : Evs) (env : Sls) : mSetG i n fm ms env = (do
  let r ← ms env
  if r.1.length = n ∧ allKp r.1 = true then do
    let d ← fm r.1
    if notPar r.2 i = true then pure (.next, r.2.set i (if noneD d = true then .t d else .l d)) else .bad
  else .bad) := rfl
@[simp] theorem z_mClr (i : Nat) (env : Sls) : mClr i env = (match env[i]? with
  | some s => (match s.con with
    | some (.lst _) => .ok (.non, env.set i (s.put (.lst [])))
    | _ => .bad)
  | none => .bad) := rfl
@[simp] theorem z_flat_bl (b : Bool) : (D.bl b).flat = true := rfl
@[simp] theorem z_flat_int (b : Int) : (D.int b).flat = true := rfl
@[simp] theorem z_flat_str (b : Str) : (D.str b).flat = true := rfl
@[simp] theorem z_flat_non : D.non.flat = true := rfl
end Vm
end
section
set_option maxRecDepth 100000
set_option maxHeartbeats 4000000
/-! Vm, part Y: sorted(xs, key=lambda y: (x[y][1], y)). -/
namespace Vm
open PySem PySem.Spec PyProof.Rows L2
abbrev lamBody (x y : Str) (p1 p2 p3 p4 p5 p6 p7 : Pos) (kk : Nat) (k2 : Nat) : Expr := .Tuple [.Subscript (.Subscript (.Name x p1) (.Name y p2) p3) (.Constant (.int 1) kk p4) p5, .Name y p6] k2 p7
section
variable {P : Program} {w : World} {A : Around} {s : Shared}
theorem lam_turn {f c' cc acc row : Addr} {q x y : Str} {params : Arguments} {scope : Scope} {p1 p2 p3 p4 p5 p6 p7 : Pos} {kk k2 : Nat} {cl : List (Str × Addr)} {pm ctv : Value} {items its : Array Value} {i d : Int} {j : Nat} {t t2 : Tok}
    (hroom : A.depth < recursionLimit) (hf : s.heap.get? f = some (PySem.W.kla_obj "<lambda>" q params (lamBody x y p1 p2 p3 p4 p5 p6 p7 kk k2) scope cl pm c' ctv))
    (hk : scope.kind = .function) (hco : scope.isCoroutine = false) (hgen : scope.isGenerator = false) (hnm : scope.names = [(y, .local), (x, .free)]) (hxy : (x == y) = false)
    (hbind : bindArgs (PySem.W.kla_fn "<lambda>" q params (lamBody x y p1 p2 p3 p4 p5 p6 p7 kk k2) scope cl pm (.ref c') ctv) ⟨[.int i t], []⟩ = pure [(y, .int i t)])
    (hrec : ∃ (oc : Obj) (vs : Array Value) (tk : Tok), s.heap.get? c' = some oc ∧ oc.data = .fields vs ∧ vs[1]? = some (.str q tk)) (lim : s.heap.NoLimit)
    (hcl : cl.lookup x = some cc) (hcell : s.heap.IsCell cc (some (.ref acc))) (hacc : IsTup s.heap acc items) (h63 : -(2 ^ 63) ≤ i ∧ i < 2 ^ 63) (hi : seqIndex? i items.size = some j) (hrow : items[j]? = some (.ref row)) (hr : IsTup s.heap row its) (hd : its[1]? = some (.int d t2)) (hsz : 1 < its.size)
    (hdx : (x == ("__debug__" : Str)) = false) (hcx : (x == ("__classdict__" : Str)) = false) (hdy : (y == ("__debug__" : Str)) = false) :
    wpAny (model P w) A (call (.ref f) [.int i t]) (PySem.W.KeyPure (.tuple [.int d, .int i]) s) (fun _ _ => False) s := by
  obtain ⟨oc, vs, tk, hoc, hdc, hvc⟩ := hrec
  have rc : codeAny (model P w) A (.call (.ref f) ⟨[.int i t], []⟩) (fun r s2 => ∃ v, r = .ok (.ret v) ∧ PySem.W.KeyPure (.tuple [.int d, .int i]) s v s2) s := by
    refine PySem.W.kla_callFunE hroom hf rfl hco hgen rfl ⟨c', oc, vs, tk, rfl, hoc, hdc, hvc⟩ ?_
    rw [hbind]
    have nc : ∀ z ∈ scope.names, z.2 ≠ .cell := fun z hz => by
      rw [hnm] at hz
      simp only [List.mem_cons, List.not_mem_nil, or_false] at hz
      rcases hz with rfl | rfl <;> exact fun e => nomatch e
    have ky : scope.names.lookup y = some .local := by rw [hnm]; simp [List.lookup]
    have kx : scope.names.lookup x = some .free := by rw [hnm]; simp [List.lookup, hxy]
    refine wpAny_pure (wpAny_newFunctionEnv nc (fun z hz => ?_) (fun h₁ hns hsb => ⟨lim.fresh _ hsb, ?_⟩) hk)
    · simp only [List.mem_cons, List.not_mem_nil, or_false] at hz
      subst hz
      exact ky
    · show codeAny _ _ (.expr (lamBody x y p1 p2 p3 p4 p5 p6 p7 kk k2) (PySem.W.envX q scope s.heap.objs.size f (.ref c') cl)) _ _
      have kp : ∀ b o, s.heap.get? b = some o → h₁.get? b = some o := fun b o e => hsb.extBut b o (Nat.ne_of_lt (Heap.lt_size e)) (Heap.get?_push_of_some _ e)
      refine PySem.W.kla_codeExpr ?_
      refine wpAny_Tuple_spliced (args_cons ?_)
      refine Subscript_ (Subscript_ ?_)
      refine wpAny_Name (wpAny_loadName_free hk kx hcl (hcell.keeps kp) ?_ hcx) hdx
      refine wpAny_Name (wpAny_loadName_local hk ky hns (by simp [List.lookup]; rfl) ?_) hdy
      refine item_tuple (hacc.keeps kp) h63.1 h63.2 hi hrow ?_
      refine wpAny_Constant_int ?_
      refine subscriptTail_builtinR (x := .int d t2) (hr.keeps kp).typeIs slot_tuple_getitem.lookup (getItem_tuple (j := 1) (hr.keeps kp) (by decide) (by decide) (by unfold seqIndex?; simp; omega) hd ⟨rfl, ?_⟩)
      refine args_cons ?_
      refine wpAny_Name (wpAny_loadName_local hk ky hns (by simp [List.lookup]; rfl) ?_) hdy
      refine args_nil ⟨by show 2 ≤ sizeLine; decide, _, rfl, _, _, rfl, fun b o e => Heap.get?_push_of_some _ (kp b o e), ?_⟩
      exact .tuple (as := [] ++ ([] ++ [])) (Heap.get?_push_size _ rfl) rfl rfl (.cons (.int _ _) (.cons (.int _ _) .nil))
  refine wpAny_call (codeAny_mono rc fun r s2 ⟨v, e, h⟩ => ?_)
  subst e
  exact h
end

section
variable {X : Cx} {pins : List (Addr × Obj)} {σ : L2.St} {H : Hp} {s : Shared}
/-- all but the tables stays, nothing gets lost: a table is longer, a code object is new -/
theorem sme_tab {T : List (Addr × Str)} {P c : Addr} {q : Str} {ps qs : Array Value} (hP : H P = some (.tbl ps)) (hc : H c = none) (ht : LamX.Tabs T (upd (upd H P (.tbl qs)) c (LamX.CodeO c q))) : Sme T H (upd (upd H P (.tbl qs)) c (LamX.CodeO c q)) := by
  refine ⟨fun b o e n => ?_, fun b e => ?_, fun _ => ht⟩
  · have h1 : b ≠ P := fun z => by
      subst z
      rw [hP] at e
      exact n ps (Option.some.inj e).symm
    have h2 : b ≠ c := fun z => by
      subst z
      rw [hc] at e
      cases e
    rw [upd_ne h2, upd_ne h1]
    exact e
  · by_cases h2 : b = c
    · rw [h2, upd_same]; exact fun z => nomatch z
    · rw [upd_ne h2]
      by_cases h1 : b = P
      · rw [h1, upd_same]; exact fun z => nomatch z
      · rw [upd_ne h1]; exact e
/-- the tables behind it -/
theorem tabs_tab {T : List (Addr × Str)} {P c : Addr} {q : Str} {ps : Array Value} {pos : Pos} (hT : LamX.Tabs T H) (hu : ∀ p ∈ T, p.1 = P → p.2 = q) (hP : H P = some (.tbl ps)) (hc : H c = none) (h3 : TriplesOk ps.toList) (h4 : ∀ (p : Pos) (cv : Value), codeAmong p ps.toList = some cv → ∃ a, cv = .ref a ∧ H a = some (LamX.CodeO a q)) :
    LamX.Tabs T (upd (upd H P (.tbl (ps ++ #[rawInt pos.line, rawInt pos.col, .ref c]))) c (LamX.CodeO c q)) := by
  have cd : ∀ a r, H a = some (LamX.CodeO a r) → upd (upd H P (.tbl (ps ++ #[rawInt pos.line, rawInt pos.col, .ref c]))) c (LamX.CodeO c q) a = some (LamX.CodeO a r) := fun a r e => by
    rw [upd_ne (fun z : a = c => by rw [z, hc] at e; cases e), upd_ne (fun z : a = P => by rw [z, hP] at e; unfold LamX.CodeO at e; cases e)]
    exact e
  intro p hp
  by_cases hb : p.1 = P
  · have el : (ps ++ #[rawInt pos.line, rawInt pos.col, Value.ref c]).toList = ps.toList ++ [rawInt pos.line, rawInt pos.col, .ref c] := by simp
    refine ⟨ps ++ #[rawInt pos.line, rawInt pos.col, .ref c], ?_, ?_, fun p2 cv e => ?_⟩
    · rw [hb, upd_ne (fun z : P = c => by rw [z, hc] at hP; cases hP), upd_same]
    · rw [el]; exact PySem.TriplesOk_snoc _ _ _ _ h3
    · rw [el] at e
      rw [hu p hp hb]
      rcases LamX.among_app _ h3 e with z | z
      · obtain ⟨a, e1, e2⟩ := h4 p2 cv z
        exact ⟨a, e1, cd _ _ e2⟩
      · exact ⟨c, z, upd_same⟩
  · obtain ⟨qs, a1, a2, a3⟩ := hT p hp
    refine ⟨qs, ?_, a2, fun p2 cv e => ?_⟩
    · rw [upd_ne (fun z : p.1 = c => by rw [z, hc] at a1; cases a1), upd_ne hb]
      exact a1
    · obtain ⟨a, e1, e2⟩ := a3 p2 cv e
      exact ⟨a, e1, cd _ _ e2⟩
/-- the lambda is made -/
theorem lam_made {T : List (Addr × Str)} {c P : Addr} {params : Arguments} {body : Expr} {scope : Scope} {pos : Pos} {E Q : Value → Shared → Prop} (I : Inv X pins σ H s) (B : LamX.TabB X.base X.mg c P) (hcode : X.env.code = .ref c) (hm : (P, X.env.qual ++ "<lambda>") ∈ T)
    (hu : ∀ p ∈ T, p.1 = P → p.2 = X.env.qual ++ "<lambda>") (hT : LamX.Tabs T H) (hdef : defaultsOf params X.env = ([], [])) (hfree : ∀ y ∈ scope.names, y.2 = .free → ∃ a, X.env.cells.lookup y.1 = some a)
    (h : ∀ (f c' : Addr) (pm ctv : Value) (H1 : Hp) (s' : Shared), Inv X pins σ H1 s' → Sme T H H1 → (∀ b o, s.heap.get? b = some o → b ≠ P → s'.heap.get? b = some o) → s'.heap.get? f = some (PySem.W.kla_obj "<lambda>" (X.env.qual ++ "<lambda>") params body scope (cloFrom X.env.cells scope.names []) pm c' ctv) →
      (∃ (oc : Obj) (vs : Array Value) (tk : Tok), s'.heap.get? c' = some oc ∧ oc.data = .fields vs ∧ vs[1]? = some (.str (X.env.qual ++ "<lambda>") tk)) → Q (.ref f) s') :
    wpAny (model X.prog X.w) X.A (eval (.Lambda params body scope pos) X.env) Q E s := by
  obtain ⟨ps, hP, h3, h4⟩ := hT _ hm
  have gP : s.heap.get? P = some { cls := .none, data := .fields ps } := I.hok P _ hP
  refine PySem.W.kla_eval hdef ?_
  cases hc : codeAmong pos ps.toList with
  | some cv =>
    obtain ⟨c', e, hco⟩ := h4 pos cv hc
    subst e
    refine PySem.W.kla_makeFunctionHit (mg := X.mg) (closure_ok hfree) I.ok.glob (I.mod.glob.keeps I.bk) hcode (B.code.keeps I.bk) gP h3 hc (B.bm.keeps I.bk) fun ctv h' tk hx hsz => ?_
    have up : ∀ b o, s.heap.get? b = some o → (h'.push (PySem.W.kla_obj "<lambda>" (X.env.qual ++ "<lambda>") params body scope (cloFrom X.env.cells scope.names []) ((X.mg "__name__").getD .none) c' ctv)).get? b = some o := fun b o e => Heap.get?_push_of_some _ (hx b o e)
    have J : Inv X pins σ H { s with heap := h'.push (PySem.W.kla_obj "<lambda>" (X.env.qual ++ "<lambda>") params body scope (cloFrom X.env.cells scope.names []) ((X.mg "__name__").getD .none) c' ctv), toks := tk } := I.kept up
    obtain ⟨⟨oc, vs, t, q1, q2, q3⟩, _⟩ := J.hok c' _ hco
    exact h h'.objs.size c' _ ctv H _ J (.of fun b o e => e) (fun b o e _ => up b o e) (Heap.get?_push_size _ rfl) ⟨oc, vs, t, q1, q2, q3⟩
  | none =>
    refine PySem.W.kla_makeFunction (mg := X.mg) (closure_ok hfree) I.ok.glob (I.mod.glob.keeps I.bk) hcode (B.code.keeps I.bk) gP h3 hc B.gP (B.bm.keeps I.bk) fun c' ctv h' tk hx hge hlt hrec htb => ?_
    obtain ⟨c2, oc, vs, t, e2, hoc, hd, hv⟩ := hrec
    cases e2
    have nc : H c' = none := I.hok.fresh hge
    have cr := Heap.get?_push_of_some (PySem.W.kla_obj "<lambda>" (X.env.qual ++ "<lambda>") params body scope (cloFrom X.env.cells scope.names []) ((X.mg "__name__").getD .none) c' ctv) hoc
    have J := LamX.inv_table (t' := tk) (more := #[rawInt pos.line, rawInt pos.col, .ref c']) (h' := h'.push (PySem.W.kla_obj "<lambda>" (X.env.qual ++ "<lambda>") params body scope (cloFrom X.env.cells scope.names []) ((X.mg "__name__").getD .none) c' ctv)) I hP
      (fun b o hb e => Heap.get?_push_of_some _ (hx b o hb e)) (Heap.get?_push_of_some _ htb) hge ⟨oc, vs, t, cr, hd, hv⟩
    exact h h'.objs.size c' _ ctv _ _ J (sme_tab hP nc (tabs_tab hT hu hP nc h3 h4)) (fun b o e n => Heap.get?_push_of_some _ (hx b o n e)) (Heap.get?_push_size _ rfl) ⟨oc, vs, t, cr, hd, hv⟩
end

/-- by the day, then by the index -/
def leDay (day : Int → Int) (p q : Int) : Bool := decide (day p < day q ∨ (day p = day q ∧ p ≤ q))
def tSoLam (K : PySem.W.Frag) (T : List (Addr × Str)) (j : Nat) (ta : TE) : TE := fun σ H Q => ta σ H fun v H1 => ∃ (l acc : Addr) (ns : List Int) (rows : List V) (day : Int → Int), v = .ref l ∧ SqL K H1 l (ns.map V.int) ∧ σ[j]? = some (some (.ref acc)) ∧ SqT K H1 acc rows ∧ LamX.Tabs T H1 ∧
  (∀ n ∈ ns, 0 ≤ n ∧ ∃ (r : Addr) (us : List V), rows[n.toNat]? = some (.ref r) ∧ SqT K H1 r us ∧ us[1]? = some (.int (day n))) ∧
  ∀ H2 p, Sme T H1 H2 → H2 p = none → Q (.ref p) (upd H2 p (.lst ((ns.mergeSort (leDay day)).map V.int)))
theorem each_int {ns : List Int} : ∀ {vs : List Value}, IntsAre vs ns → PySem.W.EachIs (fun v n => ∃ t, v = .int n t) vs ns
  | _, .nil => .nil
  | _, .cons n t h => .cons ⟨t, rfl⟩ (each_int h)
theorem ints_each {ns : List Int} : ∀ {vs : List Value}, PySem.W.EachIs (fun v n => ∃ t, v = .int n t) vs ns → IntsAre vs ns
  | _, .nil => .nil
  | _, .cons ⟨t, e⟩ h => by subst e; exact .cons _ t (ints_each h)
section
variable {X : Cx}
theorem pe_soLam {a : Expr} {ta : TE} {j : Nat} {T : List (Addr × Str)} {c P : Addr} {k : Nat} {x y : Str} {params : Arguments} {scope : Scope} {p q pos p1 p2 p3 p4 p5 p6 p7 p8 p9 : Pos} {kk k2 : Nat} (hr : Room k X.A) (hg : Gl X "sorted") (hm : X.mg "sorted" = none) (hv : bootBuiltins "sorted" = some (.builtin "sorted")) (ha : PE X a ta)
    (B : LamX.TabB X.base X.mg c P) (hcode : X.env.code = .ref c) (hmT : (P, X.env.qual ++ "<lambda>") ∈ T) (hu : ∀ p ∈ T, p.1 = P → p.2 = X.env.qual ++ "<lambda>") (hdef : defaultsOf params X.env = ([], []))
    (hk : scope.kind = .function) (hco : scope.isCoroutine = false) (hgen : scope.isGenerator = false) (hnm : scope.names = [(y, .local), (x, .free)]) (hxy : (x == y) = false) (hN : X.N[j]? = some x) (hcx' : X.env.scope.names.lookup x = some .cell)
    (hbind : ∀ (q : Str) (cl : List (Str × Addr)) (pm cv ctv u : Value), bindArgs (PySem.W.kla_fn "<lambda>" q params (lamBody x y p1 p2 p3 p4 p5 p6 p7 kk k2) scope cl pm cv ctv) ⟨[u], []⟩ = pure [(y, u)])
    (hdx : (x == ("__debug__" : Str)) = false) (hcx : (x == ("__classdict__" : Str)) = false) (hdy : (y == ("__debug__" : Str)) = false)
    (st : starEach [a] X.env = (false, eval a X.env) :: starEach [] X.env := by rfl) :
    PE X (.Call (.Name "sorted" p) [a] [⟨some "key", .Lambda params (lamBody x y p1 p2 p3 p4 p5 p6 p7 kk k2) scope p8, p9⟩] pos) (tSoLam X.K T j ta) := by
  refine ⟨fun pins s σ H Q I h => ?_⟩
  refine wpAny_Call_Name_kw (ld_blt I hg hm hv ?_)
  refine PyProof.Rows.callWith_kw (args_cons (thn (ha.run pins s σ H _ I h) fun v s1 ⟨z, H1, I1, r1, q1⟩ => args_nil ?_) st) (by rw [st]; rfl) (by rw [st]; rfl)
  obtain ⟨l, acc, ns, rows, day, rfl, hl, hj, hacc, hT, hrows, q1⟩ := q1
  cases r1
  show wpAny _ _ (evalAll [do let v ← eval (.Lambda params (lamBody x y p1 p2 p3 p4 p5 p6 p7 kk k2) scope p8) X.env; standAt pos; pure v]) _ _ s1
  have hfree : ∀ y' ∈ scope.names, y'.2 = .free → ∃ a, X.env.cells.lookup y'.1 = some a := fun y' hy e => by
    rw [hnm] at hy
    simp only [List.mem_cons, List.not_mem_nil, or_false] at hy
    rcases hy with rfl | rfl
    · cases e
    · exact I1.ok.has _ (.inl hcx')
  refine wpAny_evalAll_cons (wpAny_bind (lam_made I1 B hcode hmT hu hT hdef hfree fun f c' pm ctv H2 s2 I2 sm kp2 hf hrec => wpAny_bind (wpAny_standAt (wpAny_pure (wpAny_evalAll_nil ?_)))))
  show wpAny _ _ (call (.builtin "sorted") [.ref l] [(Str.ofString "key", .ref f)]) _ _ s2
  -- the captured cell
  obtain ⟨m, hn, hlk⟩ := I2.loc
  obtain ⟨ua, ra, lk⟩ := hlk j x (.ref acc) hN hj (.inr (.inl hcx'))
  cases ra
  obtain ⟨cc, hcc, hcell⟩ : ∃ cc, X.env.cells.lookup x = some cc ∧ s2.heap.IsCell cc (some (.ref acc)) := by
    rcases lk with ⟨e, _⟩ | ⟨_, cc, e1, e2⟩
    · have e : X.env.scope.names.lookup x = some .local := e
      rw [hcx'] at e
      cases e
    · exact ⟨cc, e1, e2⟩
  have hclo : (cloFrom X.env.cells scope.names []).lookup x = some cc := by
    rw [hnm]
    simp [cloFrom, hcc, List.lookup]
  have x2 : Ext (fun _ => False) H1 H2 := .of_sme sm
  obtain ⟨its, rv, pl, hz⟩ := I2.list (show SqL X.K H2 l (ns.map V.int) from hl.imp (fun h => h.elim (fun h => .inl (sm.stay _ _ h fun _ z => nomatch z)) fun ⟨o, h⟩ => .inr ⟨o, sm.stay _ _ h fun _ z => nomatch z⟩) id)
  have hi := rv.ints
  obtain ⟨ai, av, ap, az⟩ := I2.tuple (x2.sq hacc)
  rw [List.length_map] at hz
  refine PySem.W.sorted_key_data (b := false) (R := fun v n => ∃ t, v = .int n t) (fun n : Int => .tuple [.int (day n), .int n]) pl.isList (each_int hi) (PySem.W.AllAlike.of fun _ _ => by simp [PySem.W.alike, PySem.W.alikeAll]) (PySem.W.Sortable.tuples fun _ => ⟨_, _, rfl⟩) hz (fun n _ => ?_) (ksk_s1 _ _) (fun _ => ksk_l1 _ _) (fun _ => ksk_t1 _ _)
    (fun v n hv hn' h' tk kp => ?_) fun out oc h' tk kp fr hD hlen eo => ?_
  · have hd : (PyData.tuple [.int (day n), .int n]).depth = 1 := by simp [PyData.depth, PyData.depthAll]
    rw [hd]
    have := hr.un
    omega
  · obtain ⟨t, rfl⟩ := hv
    obtain ⟨h0, r, us, hrow, hus, hday⟩ := hrows n hn'
    obtain ⟨oc, cvs, ct, c1, c2, c3⟩ := hrec
    have hlt : n.toNat < rows.length := (List.getElem?_eq_some_iff.mp hrow).1
    have hz63 := line63
    have al := av.length
    obtain ⟨w1, e1, g1⟩ := av.get hrow
    cases g1
    obtain ⟨ri, rv2, rp, rz⟩ := I2.tuple (x2.sq hus)
    obtain ⟨w2, e2, t2, rfl⟩ := rv2.get hday
    have h1l : 1 < ri.length := (List.getElem?_eq_some_iff.mp e2).1
    refine lam_turn (s := { s2 with heap := h', toks := tk }) (items := ai.toArray) (its := ri.toArray) (j := n.toNat) (t2 := t2) (by show X.A.depth < _; have := hr.dp; omega) (kp _ _ hf) hk hco hgen hnm hxy (hbind _ _ _ _ _ _) ⟨oc, cvs, ct, kp _ _ c1, c2, c3⟩ (I2.nolimit.keeps kp) hclo (hcell.keeps kp) (ap.keeps kp) ⟨by omega, by omega⟩
      (seqIndex_of h0 (by rw [List.size_toArray]; omega)) (by simpa using e1) (rp.keeps kp) (by simpa using e2) (by simpa using h1l) hdx hcx hdy
  · rw [PySem.W.dataLe_ii (β := Int) day (fun n => n)] at eo
    have io : IntsAre out (ns.mergeSort (leDay day)) := ints_each eo
    have hlen2 : ((ns.mergeSort (leDay day)).map V.int).length ≤ sizeLine := by rw [List.length_map, List.length_mergeSort]; exact hz
    exact ⟨.ref _, upd H2 (s2.heap.objs.size + 1) (.lst ((ns.mergeSort (leDay day)).map V.int)), I2.laid (t' := tk) kp (Nat.le_succ _) ⟨hlen2, out, oc, vals_of_ints io, hD⟩, rfl, q1 H2 _ sm (I2.hok.fresh (Nat.le_succ _))⟩
end
end Vm
end
section
set_option maxRecDepth 100000
set_option maxHeartbeats 4000000
/-! Vm, part Z: .. as an expression; defs whose code object is known; the end with tables. -/
namespace Vm
open PySem PySem.Spec PyProof.Rows L2
def dayOf (rows : List D) (n : Int) : Int := match rows[n.toNat]? with
  | some (.tup (_ :: .int d :: _)) => d
  | _ => 0
def dayAt (rows : List D) (n : Int) : Bool := decide (0 ≤ n) && (match rows[n.toNat]? with
  | some (.tup (_ :: .int _ :: _)) => true
  | _ => false)
def soLam (rows : List D) (ns : List Int) : Res D := if ns.all (dayAt rows) = true then .ok (.lst ((ns.mergeSort (leDay (dayOf rows))).map D.int)) else .bad
def mSoLam (j : Nat) (m : Ev) : Ev := fun env => do
  let r ← m env
  let x ← rs r.2 r.1
  match x with
  | .lst ds => (match intsD ds with
    | some ns => (match r.2[j]? with
      | some (.t (.tup rows)) => (match soLam rows ns with
        | .ok d => pure (d, r.2)
        | _ => .bad)
      | _ => .bad)
    | none => .bad)
  | _ => .bad
theorem day_at {rows : List D} {n : Int} (h : dayAt rows n = true) : 0 ≤ n ∧ ∃ d0 ds, rows[n.toNat]? = some (.tup (d0 :: .int (dayOf rows n) :: ds)) := by
  unfold dayAt at h
  rw [Bool.and_eq_true, decide_eq_true_eq] at h
  refine ⟨h.1, ?_⟩
  have h2 := h.2
  unfold dayOf
  split at h2
  · rename_i d0 d ds e
    rw [e]
    exact ⟨d0, ds, rfl⟩
  · cases h2
section
variable {X : Cx} {C : Cfg} {W : WX} {k : Nat} {a : Expr} {ta : TE} {m : Ev}
/-- the def's code object c and its table P -/
structure LamC (X : Cx) (C : Cfg) (c P : Addr) : Prop where
  tab : LamX.TabB X.base X.mg c P
  code : X.env.code = .ref c
  mem : (P, X.env.qual ++ "<lambda>") ∈ C.T
  one : ∀ p ∈ C.T, p.1 = P → p.2 = X.env.qual ++ "<lambda>"
theorem ef_soLam (j : Nat) {c P : Addr} {x y : Str} {params : Arguments} {scope : Scope} {p q pos p1 p2 p3 p4 p5 p6 p7 p8 p9 : Pos} {kk k2 : Nat} (g : Gd X C W k) (L : LamC X C c P) (h : EM X C W a ta m) (hg : Gl X "sorted") (hm : X.mg "sorted" = none) (hv : bootBuiltins "sorted" = some (.builtin "sorted"))
    (hdef : defaultsOf params X.env = ([], []) := by rfl) (hk : scope.kind = .function := by rfl) (hco : scope.isCoroutine = false := by rfl) (hgen : scope.isGenerator = false := by rfl) (hnm : scope.names = [(y, .local), (x, .free)] := by rfl) (hxy : (x == y) = false := by decide) (hN : X.N[j]? = some x := by rfl) (hcx' : X.env.scope.names.lookup x = some .cell := by rfl)
    (hbind : ∀ (q : Str) (cl : List (Str × Addr)) (pm cv ctv u : Value), bindArgs (PySem.W.kla_fn "<lambda>" q params (lamBody x y p1 p2 p3 p4 p5 p6 p7 kk k2) scope cl pm cv ctv) ⟨[u], []⟩ = pure [(y, u)] := by intro _ _ _ _ _ _; rfl)
    (hdx : (x == ("__debug__" : Str)) = false := by decide) (hcx : (x == ("__classdict__" : Str)) = false := by decide) (hdy : (y == ("__debug__" : Str)) = false := by decide) (st : starEach [a] X.env = (false, eval a X.env) :: starEach [] X.env := by rfl) :
    EF X C W (.Call (.Name "sorted" p) [a] [⟨some "key", .Lambda params (lamBody x y p1 p2 p3 p4 p5 p6 p7 kk k2) scope p8, p9⟩] pos) (tSoLam C.K C.T j ta) (mSoLam j m) := by
  refine ⟨g.kE ▸ pe_soLam g.room hg hm hv h.pe L.tab L.code L.mem L.one hdef hk hco hgen hnm hxy hN hcx' hbind hdx hcx hdy st (q := q), fun M0 ad σ H env Q R w => ?_⟩
  unfold mSoLam at w
  refine h.sn' R w fun r v H1 R1 S1 V1 w1 => ?_
  rw [wp_bind] at w1
  obtain ⟨z, _, w2, rz⟩ := R1.rs V1 w1
  cases z with
  | lst ds =>
    simp only at w2
    cases qi : intsD ds with
    | none => rw [qi] at w2; exact w2.elim
    | some ns =>
      rw [qi] at w2
      simp only at w2
      split at w2
      · rename_i rows hj
        obtain ⟨l, us, rfl, hl, hz, ru⟩ := rz.lst_inv
        have ed : ds = ns.map D.int := ints_eq qi
        subst ed
        rw [ru.ints] at hl
        rw [List.length_map] at hz
        obtain ⟨xv, hx, rx⟩ := R1.sl j _ hj
        have hσ : σ[j]? = some (some xv) := by
          cases e : σ[j]? with
          | none => rw [e] at hx; cases hx
          | some o => rw [e] at hx; rw [show o = some xv from hx]
        obtain ⟨acc, vs, rfl, hacc, hzr, rr⟩ : ∃ acc vs, xv = .ref acc ∧ SqT C.K H1 acc vs ∧ rows.length ≤ sizeLine ∧ RpL C.K H1 (Mo (C.w M0) r.2 ad) rows vs := by
          cases rx with
          | tup h hl hz hi => exact ⟨_, _, rfl, h, hz, ⟨hl, hi⟩⟩
        unfold soLam at w2
        by_cases hall : ns.all (dayAt rows) = true
        · rw [if_pos hall] at w2
          rw [List.all_eq_true] at hall
          refine ⟨l, acc, ns, vs, dayOf rows, rfl, .inl (.inl hl), hσ, hacc, R1.tabs, fun n hn => ?_, fun H2 p sm hp => ?_⟩
          · obtain ⟨n0, d0, dt, e⟩ := day_at (hall n hn)
            obtain ⟨v', e', rv⟩ := rr.at1 e
            cases rv with
            | tup h hl hz hi =>
              rename_i ra vs'
              refine ⟨n0, ra, vs', e', h, ?_⟩
              have h1 : 1 < vs'.length := by rw [hl]; simp
              have e1 : vs'[1]? = some vs'[1] := List.getElem?_eq_getElem h1
              have := hi 1 _ _ rfl e1
              rw [e1]
              cases hv : vs'[1] with
              | int i => rw [hv] at this; cases this; rfl
              | _ => rw [hv] at this; cases this
          · have p1 : H1 p = none := by
              cases e : H1 p with
              | none => rfl
              | some o => exact absurd hp (sm.trk p (by rw [e]; exact fun z => nomatch z))
            have p0 : H p = none := by
              cases e : H p with
              | none => rfl
              | some o => exact absurd p1 (S1.ext.trk p (by rw [e]; exact fun z => nomatch z))
            have S2 : Stp (C.w M0) ad H1 r.2 (upd H2 p (.lst ((ns.mergeSort (leDay (dayOf rows))).map V.int))) r.2 := (Stp.growS sm).trans (.grow (same_new hp))
            refine w2 p _ p0 ((R1.growS sm).growAdd (same_new hp) hp (by rw [upd_same]; exact fun z => nomatch z)) (S1.trans S2) ⟨?_, _, upd_same, RpL.of_ints⟩
            rw [List.length_map, List.length_mergeSort]
            exact hz
        · rw [if_neg hall] at w2
          exact w2.elim
      · exact w2.elim
  | _ => exact w2.elim
end

/-! ### defs whose code object is known -/
def BodyC (P : Program) (w : World) (K : PySem.W.Frag) (T : List (Addr × Str)) (mg : Str → Option Value) (base : Heap) (N : List Str) (qual : Str) (st : Stmt) (k : Nat) (fresh : Bool) (c : Addr) (m : Sv) : Prop :=
  ∀ (f : Addr) (A : Around) (outer : List Env) (s : Shared) (H : Hp) (E : XK) (M0 fr : Addr → Prop) (pa : Nat → Addr),
    Gd (cxOf (L2.CX P w) P w K mg base N qual (defScope st) f (.ref c) A outer s H E) (mkC K T mg H M0 fr pa fresh) (fun cls d _ H' => E cls d H') k →
    ∃ t, SSM (cxOf (L2.CX P w) P w K mg base N qual (defScope st) f (.ref c) A outer s H E) (mkC K T mg H M0 fr pa fresh) (fun cls d _ H' => E cls d H') (defBody st) t m
section
variable {P : Program} {w : World} {K : PySem.W.Frag} {T : List (Addr × Str)} {mg : Str → Option Value} {base : Heap} {x : Str} {st : Stmt} {f c : Addr} {fd : FuncData} {N ps : List Str} {k n : Nat} {m : Sv}
theorem okC {sp : Sp} (F : Fun K x x st f fd) (hc : fd.code = .ref c) (S : FnScope N ps (defScope st)) (len : ∀ vs H Q E, sp vs H Q E → vs.length = ps.length)
    (hbody : ∀ (A : Around) (outer : List Env) (s : Shared) (H : Hp) (vs : List V) (Q : VK) (E : XK), Room k (A.deeper (envOfC x (defScope st) s.heap.objs.size f (.ref c))) → sp vs H Q E →
      ∃ t, PSs (cxOf (L2.CX P w) P w K mg base N x (defScope st) f (.ref c) A outer s H E) (defBody st) t ∧ t { nx := fun _ H' => Q .non H', rt := Q } (L2.start N vs) H) : FnOk P w K mg base (L2.CX P w) (k + 1) f fd ps sp := by
  obtain ⟨oc, od, kV, doc, pm, an, cdv, ct, osl, rfl, lk, hcd⟩ := F.ex
  have e : cdv = .ref c := hc
  subst e
  exact fn_of lk hcd S len fun A outer s H vs Q E hr hsp => hbody A outer s H vs Q E hr hsp
theorem fnPc_ok (F : Fun K x x st f fd) (hc : fd.code = .ref c) (S : FnScope N ps (defScope st)) (hn : ps.length = n) (B : BodyC P w K T mg base N x st k false c m) : FnOk P w K mg base (L2.CX P w) (k + 1) f fd ps (spP K T mg n (run N.length m)) := by
  refine okC F hc S (fun vs H Q E h => h.1.trans hn.symm) (fun A outer s H vs Q E hr h => ?_)
  obtain ⟨hl, ht, M, ds, tk, r, q⟩ := h
  have hds : ds.length ≤ N.length := by rw [← r.len, hl, ← hn]; exact pre_len S
  obtain ⟨t, hs⟩ := B f A outer s H E M (fun _ => False) (fun _ => 0) (gd_of S hr)
  refine ⟨t, hs.pe, hs.sn _ _ H _ _ (re_start hds tk ht r) ?_⟩
  unfold run at q
  cases z : m (envOf N.length ds) with
  | ok r2 =>
    rw [z] at q
    obtain ⟨o, e2⟩ := r2
    cases o with
    | ret d =>
      intro ad' σ' H' v hR
      obtain ⟨R', rp⟩ := hR
      exact q v H' R'.sme (rp.less fun b z => .inl z)
    | next => exact fun ad' σ' H' R' _ => q .non H' R'.sme .non
    | brk => exact q.elim
    | cont => exact q.elim
  | err c =>
    rw [z] at q
    exact fun ad' σ' cls dd H' e' hc R' => q cls dd H' hc R'.sme
  | bad => rw [z] at q; exact q.elim
theorem fnFc_ok (F : Fun K x x st f fd) (hc : fd.code = .ref c) (S : FnScope N ps (defScope st)) (hn : ps.length = n) (B : BodyC P w K T mg base N x st k true c m) : FnOk P w K mg base (L2.CX P w) (k + 1) f fd ps (spF K T mg n (runF N.length m)) := by
  refine okC F hc S (fun vs H Q E h => h.1.trans hn.symm) (fun A outer s H vs Q E hr h => ?_)
  obtain ⟨hl, ht, M, ds, tk, r, q⟩ := h
  have hds : ds.length ≤ N.length := by rw [← r.len, hl, ← hn]; exact pre_len S
  obtain ⟨t, hs⟩ := B f A outer s H E M (fun _ => False) (fun _ => 0) (gd_of S hr)
  refine ⟨t, hs.pe, hs.sn _ _ H _ _ (re_start hds tk ht r) ?_⟩
  unfold runF at q
  cases z : m (envOf N.length ds) with
  | ok r2 =>
    rw [z] at q
    obtain ⟨o, e2⟩ := r2
    cases o with
    | ret d =>
      intro ad' σ' H' v hR
      rcases hR with ⟨rfl, rfl, R'⟩ | ⟨a, rfl, h0, R', c⟩
      · exact q.elim
      · have hn : noneD d = false := by
          cases d with
          | non => exact c.elim
          | _ => rfl
        simp only [hn, Bool.false_eq_true, if_false] at q
        refine q a H' h0 R'.sme (c.ext rfl .refl fun b z => ?_)
        rcases z with z | z
        · exact .inl (.inl (.inl z))
        · exact .inl (.inl (.inr z))
    | next => exact q.elim
    | brk => exact q.elim
    | cont => exact q.elim
  | err c =>
    rw [z] at q
    exact fun ad' σ' cls dd H' e' hc R' => q cls dd H' hc R'.sme
  | bad => rw [z] at q; exact q.elim
theorem fnPc (F : Fun K x x st f fd) (hc : fd.code = .ref c) (S : FnScope N ps (defScope st)) (hn : ps.length = n) (hm : mg x = some (.ref f)) (hb : Binds K fd ps []) (B : BodyC P w K T mg base N x st k false c m) : Fn P w K mg base (k + 1) x (spP K T mg n (run N.length m)) := ⟨f, fd, ps, fnPc_ok F hc S hn B, hm, F.kp, hb⟩
theorem fnFc (F : Fun K x x st f fd) (hc : fd.code = .ref c) (S : FnScope N ps (defScope st)) (hn : ps.length = n) (hm : mg x = some (.ref f)) (hb : Binds K fd ps []) (B : BodyC P w K T mg base N x st k true c m) : Fn P w K mg base (k + 1) x (spF K T mg n (runF N.length m)) := ⟨f, fd, ps, fnFc_ok F hc S hn B, hm, F.kp, hb⟩
end
/-- the law's end, with tables -/
theorem law_spT {K : PySem.W.Frag} {T : List (Addr × Str)} {fm : List D → Res D} {H : Hp} {a : Addr} {ns : List Int} {E : XK} (hz : ns.length ≤ sizeLine) (hT : LamX.Tabs T H) (hS : SqL K H a (ns.map V.int)) (h : fm [.scr ns] = .ok (.bl true)) (h2 : fm [.lst (ns.map D.int)] = .ok (.bl true)) : spL K T fm [.ref a] H (fun v _ => v = .bl true) E := by
  by_cases hl : H a = some (.lst (ns.map V.int))
  · refine ⟨rfl, hT, fun _ => False, [.lst (ns.map D.int)], fun a z => z.elim, .one (.lst' hl (fun z => z) (by rw [List.length_map]; exact hz) .of_ints), ?_⟩
    rw [h2]
    intro v H' _ r
    cases r
    rfl
  · refine ⟨rfl, hT, fun _ => False, [.scr ns], fun a z => z.elim, .one (.scr ?_ hz), ?_⟩
    · rcases hS with (hS | ⟨o, hS⟩) | hS
      · exact absurd hS hl
      · exact .inl ⟨o, hS⟩
      · exact .inr hS
    · rw [h]
      intro v H' _ r
      cases r
      rfl
theorem tabs_nil {cs : List (Addr × Addr)} {T : List (Addr × Str)} {H : Hp} (h : ∀ p ∈ cs, H p.2 = some (.tbl #[])) (hT : ∀ p ∈ T, p.1 ∈ cs.map (·.2)) : LamX.Tabs T H := fun p hp => by
  obtain ⟨q, hq, e⟩ := List.mem_map.mp (hT p hp)
  exact .nil (e ▸ h q hq)
end Vm
namespace Vm
open PySem PySem.Spec PyProof.Rows L2
/-- an own exception class, whose objects are values -/
structure ExV (K : PySem.W.Frag) (mg : Str → Option Value) (c : Str) : Prop where
  ex : ∃ D : Addr, mg c = some (.ref D) ∧ PySem.W.excIn K D [.type "ValueError", .type "Exception", .type "BaseException", .type "object"] "ValueError.__new__" = true ∧ PySem.W.keepIn K (.ref D) = true ∧ ExD K c D
theorem em_exc {X : Cx} {C : Cfg} {W : WX} {k : Nat} {x m : Str} {j : Nat} {p2 p3 p4 : Pos} (g : Gd X C W k) (F : ExV X.K X.mg x) (hg : Gl X x := by rfl) (hdb : (x == ("__debug__" : Str)) = false := by decide)
    (hs : starEach [.Constant (.str m) j p3] X.env = (false, eval (.Constant (.str m) j p3) X.env) :: starEach [] X.env := by rfl) :
    ∃ t, EM X C W (.Call (.Name x p2) [.Constant (.str m) j p3] [] p4) t (mK (.exc x)) := by
  obtain ⟨D, gC, q, kC, hd⟩ := F.ex
  refine ⟨_, pe_exc1 PySem.F.excBase_ValueError q gC kC hg pe_str hs hdb, fun M0 ad σ H env Q R w => ?_⟩
  intro a ha
  exact w (.ref a) _ (R.grow (same_new ha)) (.grow (same_new ha)) (.of (.exc upd_same (fun z => R.mtrk z ha) (g.kE ▸ hd)))
end Vm
end
section
set_option maxRecDepth 100000
set_option maxHeartbeats 4000000
/-! Vm, part ZA: sorted of a list of tuples of ints. -/
namespace Vm
open PySem PySem.Spec PyProof.Rows L2
def leR (p q : List Int) : Bool := decide (p ≤ q)
def sortR (bs : List (List Int)) : List (List Int) := bs.mergeSort leR
abbrev encR (b : List Int) : PyData := .tuple (b.map .int)
theorem dataLe_tup : PySem.W.dataLe false encR = leR := by
  funext p q
  have h := congrFun (congrFun (PySem.W.dataLe_rows (β := List Int) id) p) q
  show (!PySem.W.dataLt (.tuple (q.map .int)) (.tuple (p.map .int))) = _
  rw [PySem.W.dataLt_tuple, ← PySem.W.dataLt_list]
  exact h
theorem alike_ints : ∀ xs ys : List Int, PySem.W.alikeAll (xs.map PyData.int) (ys.map PyData.int) = true
  | [], _ => by simp [PySem.W.alikeAll]
  | _ :: _, [] => by simp [PySem.W.alikeAll]
  | x :: xs, y :: ys => by simp [PySem.W.alikeAll, PySem.W.alike, alike_ints xs ys]
theorem ints_depth : ∀ xs : List Int, PyData.depthAll (xs.map PyData.int) = 0
  | [] => rfl
  | x :: xs => by simp [PyData.depthAll, PyData.depth, ints_depth xs]
theorem sortR_perm (bs : List (List Int)) : (sortR bs).Perm bs := List.mergeSort_perm _ _
theorem sortR_len (bs : List (List Int)) : (sortR bs).length = bs.length := (sortR_perm bs).length_eq
/-- the tuple at an address -/
def IsRow (K : PySem.W.Frag) (H : Hp) (v : V) (b : List Int) : Prop := ∃ t, v = .ref t ∧ SqT K H t (b.map V.int)
def rSortR (K : PySem.W.Frag) : List V → Hp → VK → Prop := fun vs H Q => ∃ (a : Addr) (us : List V) (bs : List (List Int)), vs = [V.ref a] ∧ SqL K H a us ∧ F2' (IsRow K H) us bs ∧ (∀ b ∈ bs, b ≠ []) ∧
  ∀ (us' : List V) (p : Addr), F2' (IsRow K H) us' (sortR bs) → H p = none → Q (.ref p) (upd H p (.lst us'))
where
  F2' (R : V → List Int → Prop) (xs : List V) (ys : List (List Int)) : Prop := xs.length = ys.length ∧ ∀ (i : Nat) (x : V) (y : List Int), xs[i]? = some x → ys[i]? = some y → R x y
abbrev Eq2 := rSortR.F2'
theorem each_of {R : Value → List Int → Prop} : ∀ {vs : List Value} {bs : List (List Int)}, vs.length = bs.length → (∀ (i : Nat) (v : Value) (b : List Int), vs[i]? = some v → bs[i]? = some b → R v b) → PySem.W.EachIs R vs bs
  | [], [], _, _ => .nil
  | v :: vs, b :: bs, hl, h => .cons (h 0 v b rfl rfl) (each_of (by simpa using hl) fun i v b h1 h2 => h (i + 1) v b (by simpa using h1) (by simpa using h2))
  | [], _ :: _, hl, _ => by simp at hl
  | _ :: _, [], hl, _ => by simp at hl
theorem each_at {R : Value → List Int → Prop} : ∀ {vs : List Value} {bs : List (List Int)}, PySem.W.EachIs R vs bs → ∀ (i : Nat) (v : Value) (b : List Int), vs[i]? = some v → bs[i]? = some b → R v b
  | _, _, .nil, i, v, b, h, _ => by simp at h
  | _, _, .cons p h, 0, v, b, h1, h2 => by
    simp at h1 h2
    subst h1 h2
    exact p
  | _, _, .cons p h, i + 1, v, b, h1, h2 => each_at h i v b (by simpa using h1) (by simpa using h2)
section
variable {X : Cx}
theorem cr_sortR (hu : X.A.units + 3 < cLine) : CallR X (.builtin "sorted") (rSortR X.K) := by
  intro pins s σ H vs us Q I r h
  obtain ⟨a, xs, bs, rfl, hs, ⟨hl, hrow⟩, hne, q⟩ := h
  obtain ⟨its, rv, pl, hz⟩ := I.list hs
  rw [Vals.ref1 r]
  have lv := rv.length
  have row : ∀ (i : Nat) (v : Value) (b : List Int), its[i]? = some v → bs[i]? = some b → ∃ t, v = .ref t ∧ SqT X.K H t (b.map V.int) := fun i v b h1 h2 => by
    have hi : i < xs.length := by
      rw [hl]
      exact (List.getElem?_eq_some_iff.mp h2).1
    have hx : xs[i]? = some xs[i] := List.getElem?_eq_getElem hi
    obtain ⟨t, e, ht⟩ := hrow i _ b hx h2
    obtain ⟨w, e2, rw2⟩ := rv.get hx
    rw [h1] at e2
    cases e2
    rw [e] at rw2
    cases (show v = Value.ref t from rw2)
    exact ⟨t, rfl, ht⟩
  have rd : ∀ (t : Addr) (b : List Int), SqT X.K H t (b.map V.int) → ∃ as, Reads s.heap (.ref t) (encR b) as := fun t b ht => by
    have all : ∀ ns : List Int, DpAll X.K H (ns.map V.int) (ns.map PyData.int) := fun ns => by
      induction ns with
      | nil => exact .nil
      | cons n ns ih => exact .cons (.int n) ih
    exact Dp.reads I _ _ _ (.tup ht (all b)) rfl
  refine PySem.W.sorted_data (R := fun v b => ∃ t, v = .ref t ∧ SqT X.K H t (b.map V.int)) (enc := encR) (bs := bs) pl.isList (each_of (by omega) row) (each_of (by omega) fun i v b h1 h2 => ?_) (PySem.W.AllAlike.of fun _ _ => by simp only [PySem.W.alike]; exact alike_ints _ _) (.inl fun d hd => ?_) (by rw [← hl]; exact hz) (fun b _ => ?_) fun out hlen eo => ?_
  · obtain ⟨t, rfl, ht⟩ := row i v b h1 h2
    exact rd t b ht
  · obtain ⟨b, hb, rfl⟩ := List.mem_map.mp hd
    cases b with
    | nil => exact absurd rfl (hne _ hb)
    | cons x xs => exact ⟨_, _, rfl⟩
  · have hd : (encR b).depth = 1 := by simp [PyData.depth, ints_depth]
    rw [hd]
    omega
  · rw [dataLe_tup] at eo
    obtain ⟨ep, hat⟩ := PyProof.Rows.sortedAll_at s.heap its (List.toArray out)
    have hfr : H (s.heap.objs.size + 1) = none := I.hok.fresh (Nat.le_succ _)
    have lo : out.length = (sortR bs).length := by rw [sortR_len]; exact hlen
    obtain ⟨us', hu1, hu2⟩ : ∃ us' : List V, Vals us' out ∧ Eq2 (IsRow X.K H) us' (sortR bs) := by
      have ea := each_at eo
      clear hat eo q
      revert lo ea
      show out.length = (sortR bs).length → (∀ (i : Nat) (v : Value) (b : List Int), out[i]? = some v → (sortR bs)[i]? = some b → _) → _
      generalize sortR bs = cs
      clear hlen
      intro lo ea
      induction out generalizing cs with
      | nil =>
        cases cs with
        | nil => exact ⟨[], .nil, rfl, fun i x y h => by simp at h⟩
        | cons _ _ => simp at lo
      | cons v out ih =>
        cases cs with
        | nil => simp at lo
        | cons c cs =>
          obtain ⟨t, rfl, ht⟩ := ea 0 v c rfl rfl
          obtain ⟨us', h1, h2, h3⟩ := ih cs (by simpa using lo) fun i v b e1 e2 => ea (i + 1) v b (by simpa using e1) (by simpa using e2)
          refine ⟨.ref t :: us', .cons rfl h1, by simp [h2], fun i x y e1 e2 => ?_⟩
          cases i with
          | zero => simp at e1 e2; subst e1 e2; exact ⟨t, rfl, ht⟩
          | succ i => exact h3 i x y (by simpa using e1) (by simpa using e2)
    have hlu : us'.length ≤ sizeLine := by
      rw [hu2.1, sortR_len, ← hl]
      exact hz
    exact ⟨.ref _, upd H (s.heap.objs.size + 1) (.lst us'), I.laid (t' := s.toks) (fun _ _ => PyProof.Rows.sortedAll_old) (Nat.le_succ _) ⟨hlu, out, ep, hu1, hat⟩, rfl, q us' _ hu2 hfr⟩
end
end Vm
end
section
set_option maxRecDepth 100000
set_option maxHeartbeats 4000000
/-! Vm, part ZB: zip of two lists or of two tuples. -/
namespace Vm
open PySem PySem.Spec PyProof.Rows L2 RZ
def zipP : List D → List D → List D
  | x :: xs, y :: ys => .tup [x, y] :: zipP xs ys
  | _, _ => []
theorem zipP_len : ∀ xs ys : List D, (zipP xs ys).length = min xs.length ys.length
  | [], _ => by simp [zipP]
  | _ :: _, [] => by simp [zipP]
  | x :: xs, y :: ys => by simp [zipP, zipP_len xs ys]
theorem zipP_at : ∀ (xs ys : List D) (i : Nat) (d : D), (zipP xs ys)[i]? = some d → ∃ x y, xs[i]? = some x ∧ ys[i]? = some y ∧ d = .tup [x, y]
  | [], _, i, d, h => by simp [zipP] at h
  | _ :: _, [], i, d, h => by simp [zipP] at h
  | x :: xs, y :: ys, 0, d, h => by simp [zipP] at h; exact ⟨x, y, rfl, rfl, h.symm⟩
  | x :: xs, y :: ys, i + 1, d, h => by
    simp [zipP] at h
    obtain ⟨a, b, h1, h2, h3⟩ := zipP_at xs ys i d h
    exact ⟨a, b, by simpa using h1, by simpa using h2, h3⟩
theorem pair_rp {K : PySem.W.Frag} {H : Hp} {M : Addr → Prop} {T : Addr} {x y : D} {u v : V} (hT : H T = none) (hu : Rp K H M x u) (hv : Rp K H M y v) : Same H (upd H T (.tup [u, v])) ∧ Rp K (upd H T (.tup [u, v])) M (.tup [x, y]) (.ref T) := by
  have s : Same H (upd H T (.tup [u, v])) := same_new hT
  refine ⟨s, .tup' (vs := [u, v]) (.inl (.inl upd_same)) (by show 2 ≤ sizeLine; decide) (.cons (hu.same s) (.cons (hv.same s) .nil))⟩
theorem wk_zipL {K : PySem.W.Frag} {a b : Addr} {xs ys : List D} : Wk K (Itz K a b) [(.lst xs, .ref a), (.lst ys, .ref b)] (zipP xs ys) := by
  refine ⟨fun H M i d _ r h => ?_, fun H M r => ?_⟩
  · have ra : Rp K H M (.lst xs) (.ref a) := r _ (.head _)
    have rb : Rp K H M (.lst ys) (.ref b) := r _ (.tail _ (.head _))
    cases ra with
    | lst a1 am al az ai =>
      rename_i us
      cases rb with
      | lst b1 bm bl bz bi =>
        rename_i vs
        obtain ⟨x, y, hx, hy, rfl⟩ := zipP_at _ _ _ _ h
        have i1 : i < us.length := by rw [al]; exact (List.getElem?_eq_some_iff.mp hx).1
        have i2 : i < vs.length := by rw [bl]; exact (List.getElem?_eq_some_iff.mp hy).1
        have e1 : us[i]? = some us[i] := List.getElem?_eq_getElem i1
        have e2 : vs[i]? = some vs[i] := List.getElem?_eq_getElem i2
        refine ⟨⟨us, vs, us[i], vs[i], .of a1, .of b1, e1, e2⟩, fun z H' yl => ?_⟩
        obtain ⟨T, u, v, rfl, hT, rfl, q1, q2⟩ := yl
        have h1 := q1 us (.of a1)
        have h2 := q2 vs (.of b1)
        exact pair_rp hT (ai i x u hx h1) (bi i y v hy h2)
  · have ra : Rp K H M (.lst xs) (.ref a) := r _ (.head _)
    have rb : Rp K H M (.lst ys) (.ref b) := r _ (.tail _ (.head _))
    cases ra with
    | lst a1 am al az ai =>
      cases rb with
      | lst b1 bm bl bz bi => exact ⟨_, _, .of a1, .of b1, by rw [al, bl, zipP_len]; omega⟩
theorem wk_zipT {K : PySem.W.Frag} {a b : Addr} {xs ys : List D} : Wk K (ItzT K a b) [(.tup xs, .ref a), (.tup ys, .ref b)] (zipP xs ys) := by
  refine ⟨fun H M i d _ r h => ?_, fun H M r => ?_⟩
  · have ra : Rp K H M (.tup xs) (.ref a) := r _ (.head _)
    have rb : Rp K H M (.tup ys) (.ref b) := r _ (.tail _ (.head _))
    cases ra with
    | tup a1 al az ai =>
      rename_i us
      cases rb with
      | tup b1 bl bz bi =>
        rename_i vs
        obtain ⟨x, y, hx, hy, rfl⟩ := zipP_at _ _ _ _ h
        have i1 : i < us.length := by rw [al]; exact (List.getElem?_eq_some_iff.mp hx).1
        have i2 : i < vs.length := by rw [bl]; exact (List.getElem?_eq_some_iff.mp hy).1
        have e1 : us[i]? = some us[i] := List.getElem?_eq_getElem i1
        have e2 : vs[i]? = some vs[i] := List.getElem?_eq_getElem i2
        refine ⟨⟨us, vs, us[i], vs[i], a1, b1, e1, e2⟩, fun z H' yl => ?_⟩
        obtain ⟨T, u, v, rfl, hT, rfl, q1, q2⟩ := yl
        have h1 := q1 us a1
        have h2 := q2 vs b1
        exact pair_rp hT (ai i x u hx h1) (bi i y v hy h2)
  · have ra : Rp K H M (.tup xs) (.ref a) := r _ (.head _)
    have rb : Rp K H M (.tup ys) (.ref b) := r _ (.tail _ (.head _))
    cases ra with
    | tup a1 al az ai =>
      cases rb with
      | tup b1 bl bz bi => exact ⟨_, _, a1, b1, by rw [al, bl, zipP_len]; omega⟩
def mZip (ms : Evs) : Em := fun env => do
  let r ← ms env
  match r.1 with
  | [.lst xs, .lst ys] => pure (zipP xs ys, r.2)
  | [.tup xs, .tup ys] => pure (zipP xs ys, r.2)
  | _ => .bad
section
variable {X : Cx} {C : Cfg} {W : WX} {k : Nat} {a b : Expr} {tA : TA} {ms : Evs} {pos p tpos : Pos} {kk : Nat} {elts : List Expr}
theorem im_zip (g : Gd X C W k) (h : AM X C W [a, b] tA ms) (hm : X.mg "zip" = none) (hg : Gl X "zip" := by rfl) (hs : starEach [a, b] X.env = (false, eval a X.env) :: starEach [b] X.env := by rfl) (hpl : (backTo pos (starEach [b] X.env)).any (·.1) = false := by rfl) :
    IM X C W (.Tuple elts kk tpos) (.Call (.Name "zip" p) [a, b] [] pos) (iZipA C.K tA) (mZip ms) := by
  refine ⟨g.kE ▸ pi_zipA hg hm h.pe hs hpl, fun M0 ad σ H env R RR w => ?_⟩
  unfold mZip at w
  refine h.sn' RR w fun r vs H1 R1 S1 V1 w1 => ?_
  obtain ⟨ds, e1⟩ := r
  simp only at w1 V1 R1 S1
  match ds, V1, w1 with
  | [.lst xs, .lst ys], V1, w1 =>
    obtain ⟨u, us, rfl, q1, V2⟩ := V1.cons_inv
    obtain ⟨v, vs, rfl, q2, V3⟩ := V2.cons_inv
    cases V3.nil_inv
    have r1 : Rp C.K H1 (Mo (C.w M0) e1 ad) (.lst xs) u := q1
    have r2 : Rp C.K H1 (Mo (C.w M0) e1 ad) (.lst ys) v := q2
    cases r1 with
    | lst a1 am al az ai =>
      cases r2 with
      | lst b1 bm bl bz bi =>
        refine ⟨_, _, _, _, rfl, .inl ⟨.of a1, .of b1, w1 _ _ H1 R1 S1 (fun p hp => ?_) wk_zipL (by rw [zipP_len]; omega)⟩⟩
        rcases List.mem_cons.mp hp with rfl | hp
        · exact .lst a1 am al az ai
        · rcases List.mem_singleton.mp hp with rfl
          exact .lst b1 bm bl bz bi
  | [.tup xs, .tup ys], V1, w1 =>
    obtain ⟨u, us, rfl, q1, V2⟩ := V1.cons_inv
    obtain ⟨v, vs, rfl, q2, V3⟩ := V2.cons_inv
    cases V3.nil_inv
    have r1 : Rp C.K H1 (Mo (C.w M0) e1 ad) (.tup xs) u := q1
    have r2 : Rp C.K H1 (Mo (C.w M0) e1 ad) (.tup ys) v := q2
    cases r1 with
    | tup a1 al az ai =>
      cases r2 with
      | tup b1 bl bz bi =>
        refine ⟨_, _, _, _, rfl, .inr ⟨a1, b1, w1 _ _ H1 R1 S1 (fun p hp => ?_) wk_zipT (by rw [zipP_len]; omega)⟩⟩
        rcases List.mem_cons.mp hp with rfl | hp
        · exact .tup a1 al az ai
        · rcases List.mem_singleton.mp hp with rfl
          exact .tup b1 bl bz bi
end
@[simp] theorem z_mZip (ms : Evs) (env : Sls) : mZip ms env = (do
  let r ← ms env
  match r.1 with
  | [.lst xs, .lst ys] => pure (zipP xs ys, r.2)
  | [.tup xs, .tup ys] => pure (zipP xs ys, r.2)
  | _ => .bad) := rfl
end Vm
end
section
set_option maxRecDepth 100000
set_option maxHeartbeats 4000000
/-! Vm, part ZC: names of tables, constants of the module. -/
namespace Vm
open PySem PySem.Spec PyProof.Rows L2
abbrev lamN (x : Str) : Str := x ++ ".<locals>." ++ "<lambda>"
def tabO (K : PySem.W.Frag) (c : Addr) : Addr := match K.lookup c with
  | some o => (match o.data with
    | .fields vs => (match vs.getD 11 .none with
      | .ref P => P
      | _ => 0)
    | _ => 0)
  | none => 0
theorem tab_ne {a b : Addr} (h : (a == b) = false) : a ≠ b := by simpa using h
/-- a constant of the module -/
structure CoF (K : PySem.W.Frag) (mg : Str → Option Value) (x : Str) (d : D) : Prop where
  ex : ∃ u v, mg x = some u ∧ RelV v u ∧ ∀ H M, Rp K H M d v
theorem em_con {X : Cx} {C : Cfg} {W : WX} {k : Nat} {x : Str} {d : D} {pos : Pos} (g : Gd X C W k) (F : CoF X.K X.mg x d) (hg : Gl X x := by rfl) (hd : (x == ("__debug__" : Str)) = false := by decide) : EM X C W (.Name x pos) (tC (Classical.choose (Classical.choose_spec F.ex))) (mK d) := by
  have h := Classical.choose_spec (Classical.choose_spec F.ex)
  exact em_glob hg h.1 h.2.1 (g.kE ▸ h.2.2) hd
def conV (u : Value) (d : D) : Bool := match d, u with
  | .str x, .str y _ => x == y
  | .int i, .int j _ => i == j
  | _, _ => false
def conVs : List Value → List D → Bool
  | [], [] => true
  | u :: us, d :: ds => conV u d && conVs us ds
  | _, _ => false
def conO (o : Obj) (ds : List D) : Bool := (match o.cls with | .type t => t == "tuple" | _ => false) && (match o.data with | .seq its _ => conVs its.toList ds && decide (its.size ≤ 1000) | _ => false)
theorem conV_rp {u : Value} {d : D} (h : conV u d = true) : ∃ v, RelV v u ∧ ∀ K H M, Rp K H M d v := by
  unfold conV at h
  split at h
  · rename_i x y t
    rw [beq_iff_eq] at h
    subst h
    exact ⟨.str _, ⟨_, rfl⟩, fun K H M => .str _⟩
  · rename_i x y t
    rw [beq_iff_eq] at h
    subst h
    exact ⟨.int _, ⟨_, rfl⟩, fun K H M => .int _⟩
  · cases h
theorem conVs_rp : ∀ {us : List Value} {ds : List D}, conVs us ds = true → ∃ vs, Vals vs us ∧ ∀ K H M, RpL K H M ds vs
  | [], [], _ => ⟨[], .nil, fun _ _ _ => .nil⟩
  | u :: us, d :: ds, h => by
    simp only [conVs, Bool.and_eq_true] at h
    obtain ⟨v, r, p⟩ := conV_rp h.1
    obtain ⟨vs, rs, ps⟩ := conVs_rp h.2
    exact ⟨v :: vs, .cons r rs, fun K H M => .cons (p K H M) (ps K H M)⟩
  | [], _ :: _, h => by simp [conVs] at h
  | _ :: _, [], h => by simp [conVs] at h
theorem con_tup {K : PySem.W.Frag} {mg : Str → Option Value} {x : Str} {a : Addr} {o : Obj} {ds : List D} (hm : mg x = some (.ref a)) (hk : K.lookup a = some o) (h : conO o ds = true) : CoF K mg x (.tup ds) := by
  unfold conO at h
  rw [Bool.and_eq_true] at h
  obtain ⟨h1, h2⟩ := h
  split at h1
  · rename_i t hc
    rw [beq_iff_eq] at h1
    subst h1
    split at h2
    · rename_i its n hd
      rw [Bool.and_eq_true] at h2
      obtain ⟨vs, r, p⟩ := conVs_rp h2.1
      have hz : its.size ≤ sizeLine := Nat.le_trans (of_decide_eq_true h2.2) (by decide)
      refine ⟨_, .ref a, hm, rfl, fun H M => .tup' (vs := vs) (.inr ⟨o, its, n, hk, hc, hd, hz, r⟩) ?_ (p K H M)⟩
      rw [← (p K H M).len, r.length, Array.length_toList]
      exact hz
    · cases h2
  · cases h1
theorem con_one {K : PySem.W.Frag} {mg : Str → Option Value} {x : Str} {u : Value} {d : D} (hm : mg x = some u) (h : conV u d = true) : CoF K mg x d := by
  obtain ⟨v, r, p⟩ := conV_rp h
  exact ⟨u, v, hm, r, p K⟩
end Vm
end
section
set_option maxRecDepth 100000
set_option maxHeartbeats 4000000
/-! Vm, part ZD: sorted of a list of ints or of tuples of ints. -/
namespace Vm
open PySem PySem.Spec PyProof.Rows L2
def rowD (b : List Int) : D := .tup (b.map D.int)
def rowsD : List D → Option (List (List Int))
  | [] => some []
  | .tup xs :: r => (match intsD xs, rowsD r with
    | some (n :: ns), some bs => some ((n :: ns) :: bs)
    | _, _ => none)
  | _ => none
theorem rows_eq : ∀ {ds : List D} {bs : List (List Int)}, rowsD ds = some bs → ds = bs.map rowD ∧ ∀ b ∈ bs, b ≠ []
  | [], bs, h => by cases h; exact ⟨rfl, fun b hb => by cases hb⟩
  | d :: r, bs, h => by
    cases d with
    | tup xs =>
      simp only [rowsD] at h
      split at h
      · rename_i n ns cs h1 h2
        cases h
        obtain ⟨e1, e2⟩ := rows_eq h2
        rw [ints_eq h1, e1]
        exact ⟨rfl, fun b hb => by
          rcases List.mem_cons.mp hb with rfl | hb
          · exact fun z => nomatch z
          · exact e2 b hb⟩
      · cases h
    | _ => simp [rowsD] at h
theorem rows_map : ∀ {bs : List (List Int)}, (∀ b ∈ bs, b ≠ []) → rowsD (bs.map rowD) = some bs
  | [], _ => rfl
  | b :: bs, h => by
    cases b with
    | nil => exact absurd rfl (h _ (.head _))
    | cons n ns =>
      have e := rows_map fun c hc => h c (.tail _ hc)
      have e2 := ints_map (n :: ns)
      show rowsD (.tup ((n :: ns).map D.int) :: bs.map rowD) = _
      unfold rowsD
      rw [e2, e]
def sortA (x : D) : Res D := match x with
  | .lst ds => (match intsD ds with
    | some ns => .ok (.lst ((sortI ns).map D.int))
    | none => (match rowsD ds with
      | some bs => .ok (.lst ((sortR bs).map rowD))
      | none => .bad))
  | _ => .bad
def rSortA (K : PySem.W.Frag) : List V → Hp → VK → Prop := fun vs H Q => rSortedI K vs H Q ∨ rSortR K vs H Q
section
variable {K : PySem.W.Frag}
theorem row_is {H : Hp} {M : Addr → Prop} {b : List Int} {v : V} (h : Rp K H M (rowD b) v) : IsRow K H v b := by
  have h' : Rp K H M (.tup (b.map D.int)) v := h
  cases h' with
  | tup q hl hz hi =>
    have r : RpL K H M (b.map D.int) _ := ⟨hl, hi⟩
    rw [r.ints] at q
    exact ⟨_, rfl, q⟩
theorem is_row {H : Hp} {M : Addr → Prop} {b : List Int} {v : V} (hz : b.length ≤ sizeLine) (h : IsRow K H v b) : Rp K H M (rowD b) v := by
  obtain ⟨t, rfl, h⟩ := h
  exact .tup' h (by rw [List.length_map]; exact hz) .of_ints
theorem cf_sortA : CallF K (rSortA K) (one sortA) := by
  intro H M vs ds Q tk r w
  obtain ⟨d, rfl, w1⟩ := one_inv w
  cases d with
  | lst xs =>
    simp only [sortA] at w1
    cases h1 : intsD xs with
    | some ns =>
      rw [h1] at w1
      refine .inl (cf_sortI H M vs [.lst xs] Q tk r ?_)
      show (onI _ (.lst xs)).Wp _ _
      simp only [onI, h1]
      exact w1
    | none =>
      rw [h1] at w1
      simp only at w1
      cases h2 : rowsD xs with
      | none => rw [h2] at w1; exact w1.elim
      | some bs =>
        rw [h2] at w1
        obtain ⟨v, rfl, rv⟩ := r.one
        obtain ⟨a, us, rfl, h, z, q⟩ := rv.lst_inv
        obtain ⟨rfl, hne⟩ := rows_eq h2
        have hl : us.length = bs.length := by rw [q.len, List.length_map]
        have sz : ∀ b ∈ bs, b.length ≤ sizeLine := fun b hb => by
          obtain ⟨i, hi⟩ := List.mem_iff_getElem?.mp hb
          obtain ⟨v, e, rv⟩ := q.at1 (i := i) (d := rowD b) (by rw [List.getElem?_map, hi]; rfl)
          have rv' : Rp K H M (.tup (b.map D.int)) v := rv
          cases rv' with
          | tup h hl hz hi => rwa [List.length_map] at hz
        refine .inr ⟨a, us, bs, rfl, .of h, ⟨hl, fun i x y e1 e2 => ?_⟩, hne, fun us' p ⟨l1, l2⟩ hp => ?_⟩
        · exact row_is (q.item i (rowD y) x (by rw [List.getElem?_map, e2]; rfl) e1)
        · have hz2 : ((sortR bs).map rowD).length ≤ sizeLine := by
            rw [List.length_map, sortR_len]
            rwa [List.length_map] at z
          refine w1 p _ hp (same_new hp) (cell_new ⟨by rw [List.length_map]; exact l1, fun i d v e1 e2 => ?_⟩ hp hz2)
          rw [List.getElem?_map] at e1
          cases e3 : (sortR bs)[i]? with
          | none => rw [e3] at e1; cases e1
          | some b =>
            rw [e3] at e1
            cases e1
            exact is_row (sz b ((sortR_perm bs).mem_iff.mp (List.mem_of_getElem? e3))) (l2 i v b e2 e3)
  | _ => exact w1.elim
end
theorem cSortA {X : Cx} {C : Cfg} {W : WX} {k : Nat} (g : Gd X C W k) : CallR X (.builtin "sorted") (rSortA C.K) := g.kE ▸ cr_sortedI.or (cr_sortR (by have := g.room.un; omega))
@[simp] theorem sortA_ints (ns : List Int) : sortA (.lst (ns.map D.int)) = .ok (.lst ((sortI ns).map D.int)) := by
  simp only [sortA, ints_map]
theorem sortA_rows {bs : List (List Int)} (h : ∀ b ∈ bs, b ≠ []) : sortA (.lst (bs.map rowD)) = .ok (.lst ((sortR bs).map rowD)) := by
  cases bs with
  | nil => simp [sortA, intsD, sortR, sortI]
  | cons b bs =>
    have e : intsD ((b :: bs).map rowD) = none := rfl
    simp only [sortA, e, rows_map h]
end Vm
end
section
/-! Vm, part ZE: words (printed by zwords.py), in over written words. -/
namespace Vm
open PySem L2
@[simp] theorem wd_bill_pay : (("bill" : Str) = "pay") = False := by decide
@[simp] theorem wd_bill_named : (("bill" : Str) = "named") = False := by decide
@[simp] theorem wd_bill_struck : (("bill" : Str) = "struck") = False := by decide
@[simp] theorem wd_bill_days : (("bill" : Str) = "days") = False := by decide
@[simp] theorem wd_bill_entered : (("bill" : Str) = "entered") = False := by decide
@[simp] theorem wd_bill_oldest : (("bill" : Str) = "oldest") = False := by decide
@[simp] theorem wd_bill_newest : (("bill" : Str) = "newest") = False := by decide
@[simp] theorem wd_bill_greatest : (("bill" : Str) = "greatest") = False := by decide
@[simp] theorem wd_bill_least : (("bill" : Str) = "least") = False := by decide
@[simp] theorem wd_bill_late : (("bill" : Str) = "late") = False := by decide
@[simp] theorem wd_bill_apart : (("bill" : Str) = "apart") = False := by decide
@[simp] theorem wd_bill_squares : (("bill" : Str) = "squares") = False := by decide
@[simp] theorem wd_bill_more : (("bill" : Str) = "more") = False := by decide
@[simp] theorem wd_bill_crossed : (("bill" : Str) = "crossed") = False := by decide
@[simp] theorem wd_bill_less : (("bill" : Str) = "less") = False := by decide
@[simp] theorem wd_pay_bill : (("pay" : Str) = "bill") = False := by decide
@[simp] theorem wd_pay_named : (("pay" : Str) = "named") = False := by decide
@[simp] theorem wd_pay_struck : (("pay" : Str) = "struck") = False := by decide
@[simp] theorem wd_pay_days : (("pay" : Str) = "days") = False := by decide
@[simp] theorem wd_pay_entered : (("pay" : Str) = "entered") = False := by decide
@[simp] theorem wd_pay_oldest : (("pay" : Str) = "oldest") = False := by decide
@[simp] theorem wd_pay_newest : (("pay" : Str) = "newest") = False := by decide
@[simp] theorem wd_pay_greatest : (("pay" : Str) = "greatest") = False := by decide
@[simp] theorem wd_pay_least : (("pay" : Str) = "least") = False := by decide
@[simp] theorem wd_pay_late : (("pay" : Str) = "late") = False := by decide
@[simp] theorem wd_pay_apart : (("pay" : Str) = "apart") = False := by decide
@[simp] theorem wd_pay_squares : (("pay" : Str) = "squares") = False := by decide
@[simp] theorem wd_pay_more : (("pay" : Str) = "more") = False := by decide
@[simp] theorem wd_pay_crossed : (("pay" : Str) = "crossed") = False := by decide
@[simp] theorem wd_pay_less : (("pay" : Str) = "less") = False := by decide
@[simp] theorem wd_named_bill : (("named" : Str) = "bill") = False := by decide
@[simp] theorem wd_named_pay : (("named" : Str) = "pay") = False := by decide
@[simp] theorem wd_named_struck : (("named" : Str) = "struck") = False := by decide
@[simp] theorem wd_named_days : (("named" : Str) = "days") = False := by decide
@[simp] theorem wd_named_entered : (("named" : Str) = "entered") = False := by decide
@[simp] theorem wd_named_oldest : (("named" : Str) = "oldest") = False := by decide
@[simp] theorem wd_named_newest : (("named" : Str) = "newest") = False := by decide
@[simp] theorem wd_named_greatest : (("named" : Str) = "greatest") = False := by decide
@[simp] theorem wd_named_least : (("named" : Str) = "least") = False := by decide
@[simp] theorem wd_named_late : (("named" : Str) = "late") = False := by decide
@[simp] theorem wd_named_apart : (("named" : Str) = "apart") = False := by decide
@[simp] theorem wd_named_squares : (("named" : Str) = "squares") = False := by decide
@[simp] theorem wd_named_more : (("named" : Str) = "more") = False := by decide
@[simp] theorem wd_named_crossed : (("named" : Str) = "crossed") = False := by decide
@[simp] theorem wd_named_less : (("named" : Str) = "less") = False := by decide
@[simp] theorem wd_struck_bill : (("struck" : Str) = "bill") = False := by decide
@[simp] theorem wd_struck_pay : (("struck" : Str) = "pay") = False := by decide
@[simp] theorem wd_struck_named : (("struck" : Str) = "named") = False := by decide
@[simp] theorem wd_struck_days : (("struck" : Str) = "days") = False := by decide
@[simp] theorem wd_struck_entered : (("struck" : Str) = "entered") = False := by decide
@[simp] theorem wd_struck_oldest : (("struck" : Str) = "oldest") = False := by decide
@[simp] theorem wd_struck_newest : (("struck" : Str) = "newest") = False := by decide
@[simp] theorem wd_struck_greatest : (("struck" : Str) = "greatest") = False := by decide
@[simp] theorem wd_struck_least : (("struck" : Str) = "least") = False := by decide
@[simp] theorem wd_struck_late : (("struck" : Str) = "late") = False := by decide
@[simp] theorem wd_struck_apart : (("struck" : Str) = "apart") = False := by decide
@[simp] theorem wd_struck_squares : (("struck" : Str) = "squares") = False := by decide
@[simp] theorem wd_struck_more : (("struck" : Str) = "more") = False := by decide
@[simp] theorem wd_struck_crossed : (("struck" : Str) = "crossed") = False := by decide
@[simp] theorem wd_struck_less : (("struck" : Str) = "less") = False := by decide
@[simp] theorem wd_days_bill : (("days" : Str) = "bill") = False := by decide
@[simp] theorem wd_days_pay : (("days" : Str) = "pay") = False := by decide
@[simp] theorem wd_days_named : (("days" : Str) = "named") = False := by decide
@[simp] theorem wd_days_struck : (("days" : Str) = "struck") = False := by decide
@[simp] theorem wd_days_entered : (("days" : Str) = "entered") = False := by decide
@[simp] theorem wd_days_oldest : (("days" : Str) = "oldest") = False := by decide
@[simp] theorem wd_days_newest : (("days" : Str) = "newest") = False := by decide
@[simp] theorem wd_days_greatest : (("days" : Str) = "greatest") = False := by decide
@[simp] theorem wd_days_least : (("days" : Str) = "least") = False := by decide
@[simp] theorem wd_days_late : (("days" : Str) = "late") = False := by decide
@[simp] theorem wd_days_apart : (("days" : Str) = "apart") = False := by decide
@[simp] theorem wd_days_squares : (("days" : Str) = "squares") = False := by decide
@[simp] theorem wd_days_more : (("days" : Str) = "more") = False := by decide
@[simp] theorem wd_days_crossed : (("days" : Str) = "crossed") = False := by decide
@[simp] theorem wd_days_less : (("days" : Str) = "less") = False := by decide
@[simp] theorem wd_entered_bill : (("entered" : Str) = "bill") = False := by decide
@[simp] theorem wd_entered_pay : (("entered" : Str) = "pay") = False := by decide
@[simp] theorem wd_entered_named : (("entered" : Str) = "named") = False := by decide
@[simp] theorem wd_entered_struck : (("entered" : Str) = "struck") = False := by decide
@[simp] theorem wd_entered_days : (("entered" : Str) = "days") = False := by decide
@[simp] theorem wd_entered_oldest : (("entered" : Str) = "oldest") = False := by decide
@[simp] theorem wd_entered_newest : (("entered" : Str) = "newest") = False := by decide
@[simp] theorem wd_entered_greatest : (("entered" : Str) = "greatest") = False := by decide
@[simp] theorem wd_entered_least : (("entered" : Str) = "least") = False := by decide
@[simp] theorem wd_entered_late : (("entered" : Str) = "late") = False := by decide
@[simp] theorem wd_entered_apart : (("entered" : Str) = "apart") = False := by decide
@[simp] theorem wd_entered_squares : (("entered" : Str) = "squares") = False := by decide
@[simp] theorem wd_entered_more : (("entered" : Str) = "more") = False := by decide
@[simp] theorem wd_entered_crossed : (("entered" : Str) = "crossed") = False := by decide
@[simp] theorem wd_entered_less : (("entered" : Str) = "less") = False := by decide
@[simp] theorem wd_oldest_bill : (("oldest" : Str) = "bill") = False := by decide
@[simp] theorem wd_oldest_pay : (("oldest" : Str) = "pay") = False := by decide
@[simp] theorem wd_oldest_named : (("oldest" : Str) = "named") = False := by decide
@[simp] theorem wd_oldest_struck : (("oldest" : Str) = "struck") = False := by decide
@[simp] theorem wd_oldest_days : (("oldest" : Str) = "days") = False := by decide
@[simp] theorem wd_oldest_entered : (("oldest" : Str) = "entered") = False := by decide
@[simp] theorem wd_oldest_newest : (("oldest" : Str) = "newest") = False := by decide
@[simp] theorem wd_oldest_greatest : (("oldest" : Str) = "greatest") = False := by decide
@[simp] theorem wd_oldest_least : (("oldest" : Str) = "least") = False := by decide
@[simp] theorem wd_oldest_late : (("oldest" : Str) = "late") = False := by decide
@[simp] theorem wd_oldest_apart : (("oldest" : Str) = "apart") = False := by decide
@[simp] theorem wd_oldest_squares : (("oldest" : Str) = "squares") = False := by decide
@[simp] theorem wd_oldest_more : (("oldest" : Str) = "more") = False := by decide
@[simp] theorem wd_oldest_crossed : (("oldest" : Str) = "crossed") = False := by decide
@[simp] theorem wd_oldest_less : (("oldest" : Str) = "less") = False := by decide
@[simp] theorem wd_newest_bill : (("newest" : Str) = "bill") = False := by decide
@[simp] theorem wd_newest_pay : (("newest" : Str) = "pay") = False := by decide
@[simp] theorem wd_newest_named : (("newest" : Str) = "named") = False := by decide
@[simp] theorem wd_newest_struck : (("newest" : Str) = "struck") = False := by decide
@[simp] theorem wd_newest_days : (("newest" : Str) = "days") = False := by decide
@[simp] theorem wd_newest_entered : (("newest" : Str) = "entered") = False := by decide
@[simp] theorem wd_newest_oldest : (("newest" : Str) = "oldest") = False := by decide
@[simp] theorem wd_newest_greatest : (("newest" : Str) = "greatest") = False := by decide
@[simp] theorem wd_newest_least : (("newest" : Str) = "least") = False := by decide
@[simp] theorem wd_newest_late : (("newest" : Str) = "late") = False := by decide
@[simp] theorem wd_newest_apart : (("newest" : Str) = "apart") = False := by decide
@[simp] theorem wd_newest_squares : (("newest" : Str) = "squares") = False := by decide
@[simp] theorem wd_newest_more : (("newest" : Str) = "more") = False := by decide
@[simp] theorem wd_newest_crossed : (("newest" : Str) = "crossed") = False := by decide
@[simp] theorem wd_newest_less : (("newest" : Str) = "less") = False := by decide
@[simp] theorem wd_greatest_bill : (("greatest" : Str) = "bill") = False := by decide
@[simp] theorem wd_greatest_pay : (("greatest" : Str) = "pay") = False := by decide
@[simp] theorem wd_greatest_named : (("greatest" : Str) = "named") = False := by decide
@[simp] theorem wd_greatest_struck : (("greatest" : Str) = "struck") = False := by decide
@[simp] theorem wd_greatest_days : (("greatest" : Str) = "days") = False := by decide
@[simp] theorem wd_greatest_entered : (("greatest" : Str) = "entered") = False := by decide
@[simp] theorem wd_greatest_oldest : (("greatest" : Str) = "oldest") = False := by decide
@[simp] theorem wd_greatest_newest : (("greatest" : Str) = "newest") = False := by decide
@[simp] theorem wd_greatest_least : (("greatest" : Str) = "least") = False := by decide
@[simp] theorem wd_greatest_late : (("greatest" : Str) = "late") = False := by decide
@[simp] theorem wd_greatest_apart : (("greatest" : Str) = "apart") = False := by decide
@[simp] theorem wd_greatest_squares : (("greatest" : Str) = "squares") = False := by decide
@[simp] theorem wd_greatest_more : (("greatest" : Str) = "more") = False := by decide
@[simp] theorem wd_greatest_crossed : (("greatest" : Str) = "crossed") = False := by decide
@[simp] theorem wd_greatest_less : (("greatest" : Str) = "less") = False := by decide
@[simp] theorem wd_least_bill : (("least" : Str) = "bill") = False := by decide
@[simp] theorem wd_least_pay : (("least" : Str) = "pay") = False := by decide
@[simp] theorem wd_least_named : (("least" : Str) = "named") = False := by decide
@[simp] theorem wd_least_struck : (("least" : Str) = "struck") = False := by decide
@[simp] theorem wd_least_days : (("least" : Str) = "days") = False := by decide
@[simp] theorem wd_least_entered : (("least" : Str) = "entered") = False := by decide
@[simp] theorem wd_least_oldest : (("least" : Str) = "oldest") = False := by decide
@[simp] theorem wd_least_newest : (("least" : Str) = "newest") = False := by decide
@[simp] theorem wd_least_greatest : (("least" : Str) = "greatest") = False := by decide
@[simp] theorem wd_least_late : (("least" : Str) = "late") = False := by decide
@[simp] theorem wd_least_apart : (("least" : Str) = "apart") = False := by decide
@[simp] theorem wd_least_squares : (("least" : Str) = "squares") = False := by decide
@[simp] theorem wd_least_more : (("least" : Str) = "more") = False := by decide
@[simp] theorem wd_least_crossed : (("least" : Str) = "crossed") = False := by decide
@[simp] theorem wd_least_less : (("least" : Str) = "less") = False := by decide
@[simp] theorem wd_late_bill : (("late" : Str) = "bill") = False := by decide
@[simp] theorem wd_late_pay : (("late" : Str) = "pay") = False := by decide
@[simp] theorem wd_late_named : (("late" : Str) = "named") = False := by decide
@[simp] theorem wd_late_struck : (("late" : Str) = "struck") = False := by decide
@[simp] theorem wd_late_days : (("late" : Str) = "days") = False := by decide
@[simp] theorem wd_late_entered : (("late" : Str) = "entered") = False := by decide
@[simp] theorem wd_late_oldest : (("late" : Str) = "oldest") = False := by decide
@[simp] theorem wd_late_newest : (("late" : Str) = "newest") = False := by decide
@[simp] theorem wd_late_greatest : (("late" : Str) = "greatest") = False := by decide
@[simp] theorem wd_late_least : (("late" : Str) = "least") = False := by decide
@[simp] theorem wd_late_apart : (("late" : Str) = "apart") = False := by decide
@[simp] theorem wd_late_squares : (("late" : Str) = "squares") = False := by decide
@[simp] theorem wd_late_more : (("late" : Str) = "more") = False := by decide
@[simp] theorem wd_late_crossed : (("late" : Str) = "crossed") = False := by decide
@[simp] theorem wd_late_less : (("late" : Str) = "less") = False := by decide
@[simp] theorem wd_apart_bill : (("apart" : Str) = "bill") = False := by decide
@[simp] theorem wd_apart_pay : (("apart" : Str) = "pay") = False := by decide
@[simp] theorem wd_apart_named : (("apart" : Str) = "named") = False := by decide
@[simp] theorem wd_apart_struck : (("apart" : Str) = "struck") = False := by decide
@[simp] theorem wd_apart_days : (("apart" : Str) = "days") = False := by decide
@[simp] theorem wd_apart_entered : (("apart" : Str) = "entered") = False := by decide
@[simp] theorem wd_apart_oldest : (("apart" : Str) = "oldest") = False := by decide
@[simp] theorem wd_apart_newest : (("apart" : Str) = "newest") = False := by decide
@[simp] theorem wd_apart_greatest : (("apart" : Str) = "greatest") = False := by decide
@[simp] theorem wd_apart_least : (("apart" : Str) = "least") = False := by decide
@[simp] theorem wd_apart_late : (("apart" : Str) = "late") = False := by decide
@[simp] theorem wd_apart_squares : (("apart" : Str) = "squares") = False := by decide
@[simp] theorem wd_apart_more : (("apart" : Str) = "more") = False := by decide
@[simp] theorem wd_apart_crossed : (("apart" : Str) = "crossed") = False := by decide
@[simp] theorem wd_apart_less : (("apart" : Str) = "less") = False := by decide
@[simp] theorem wd_squares_bill : (("squares" : Str) = "bill") = False := by decide
@[simp] theorem wd_squares_pay : (("squares" : Str) = "pay") = False := by decide
@[simp] theorem wd_squares_named : (("squares" : Str) = "named") = False := by decide
@[simp] theorem wd_squares_struck : (("squares" : Str) = "struck") = False := by decide
@[simp] theorem wd_squares_days : (("squares" : Str) = "days") = False := by decide
@[simp] theorem wd_squares_entered : (("squares" : Str) = "entered") = False := by decide
@[simp] theorem wd_squares_oldest : (("squares" : Str) = "oldest") = False := by decide
@[simp] theorem wd_squares_newest : (("squares" : Str) = "newest") = False := by decide
@[simp] theorem wd_squares_greatest : (("squares" : Str) = "greatest") = False := by decide
@[simp] theorem wd_squares_least : (("squares" : Str) = "least") = False := by decide
@[simp] theorem wd_squares_late : (("squares" : Str) = "late") = False := by decide
@[simp] theorem wd_squares_apart : (("squares" : Str) = "apart") = False := by decide
@[simp] theorem wd_squares_more : (("squares" : Str) = "more") = False := by decide
@[simp] theorem wd_squares_crossed : (("squares" : Str) = "crossed") = False := by decide
@[simp] theorem wd_squares_less : (("squares" : Str) = "less") = False := by decide
@[simp] theorem wd_more_bill : (("more" : Str) = "bill") = False := by decide
@[simp] theorem wd_more_pay : (("more" : Str) = "pay") = False := by decide
@[simp] theorem wd_more_named : (("more" : Str) = "named") = False := by decide
@[simp] theorem wd_more_struck : (("more" : Str) = "struck") = False := by decide
@[simp] theorem wd_more_days : (("more" : Str) = "days") = False := by decide
@[simp] theorem wd_more_entered : (("more" : Str) = "entered") = False := by decide
@[simp] theorem wd_more_oldest : (("more" : Str) = "oldest") = False := by decide
@[simp] theorem wd_more_newest : (("more" : Str) = "newest") = False := by decide
@[simp] theorem wd_more_greatest : (("more" : Str) = "greatest") = False := by decide
@[simp] theorem wd_more_least : (("more" : Str) = "least") = False := by decide
@[simp] theorem wd_more_late : (("more" : Str) = "late") = False := by decide
@[simp] theorem wd_more_apart : (("more" : Str) = "apart") = False := by decide
@[simp] theorem wd_more_squares : (("more" : Str) = "squares") = False := by decide
@[simp] theorem wd_more_crossed : (("more" : Str) = "crossed") = False := by decide
@[simp] theorem wd_more_less : (("more" : Str) = "less") = False := by decide
@[simp] theorem wd_crossed_bill : (("crossed" : Str) = "bill") = False := by decide
@[simp] theorem wd_crossed_pay : (("crossed" : Str) = "pay") = False := by decide
@[simp] theorem wd_crossed_named : (("crossed" : Str) = "named") = False := by decide
@[simp] theorem wd_crossed_struck : (("crossed" : Str) = "struck") = False := by decide
@[simp] theorem wd_crossed_days : (("crossed" : Str) = "days") = False := by decide
@[simp] theorem wd_crossed_entered : (("crossed" : Str) = "entered") = False := by decide
@[simp] theorem wd_crossed_oldest : (("crossed" : Str) = "oldest") = False := by decide
@[simp] theorem wd_crossed_newest : (("crossed" : Str) = "newest") = False := by decide
@[simp] theorem wd_crossed_greatest : (("crossed" : Str) = "greatest") = False := by decide
@[simp] theorem wd_crossed_least : (("crossed" : Str) = "least") = False := by decide
@[simp] theorem wd_crossed_late : (("crossed" : Str) = "late") = False := by decide
@[simp] theorem wd_crossed_apart : (("crossed" : Str) = "apart") = False := by decide
@[simp] theorem wd_crossed_squares : (("crossed" : Str) = "squares") = False := by decide
@[simp] theorem wd_crossed_more : (("crossed" : Str) = "more") = False := by decide
@[simp] theorem wd_crossed_less : (("crossed" : Str) = "less") = False := by decide
@[simp] theorem wd_less_bill : (("less" : Str) = "bill") = False := by decide
@[simp] theorem wd_less_pay : (("less" : Str) = "pay") = False := by decide
@[simp] theorem wd_less_named : (("less" : Str) = "named") = False := by decide
@[simp] theorem wd_less_struck : (("less" : Str) = "struck") = False := by decide
@[simp] theorem wd_less_days : (("less" : Str) = "days") = False := by decide
@[simp] theorem wd_less_entered : (("less" : Str) = "entered") = False := by decide
@[simp] theorem wd_less_oldest : (("less" : Str) = "oldest") = False := by decide
@[simp] theorem wd_less_newest : (("less" : Str) = "newest") = False := by decide
@[simp] theorem wd_less_greatest : (("less" : Str) = "greatest") = False := by decide
@[simp] theorem wd_less_least : (("less" : Str) = "least") = False := by decide
@[simp] theorem wd_less_late : (("less" : Str) = "late") = False := by decide
@[simp] theorem wd_less_apart : (("less" : Str) = "apart") = False := by decide
@[simp] theorem wd_less_squares : (("less" : Str) = "squares") = False := by decide
@[simp] theorem wd_less_more : (("less" : Str) = "more") = False := by decide
@[simp] theorem wd_less_crossed : (("less" : Str) = "crossed") = False := by decide
@[simp] theorem isi_int_non  : isiD "int" .non = .ok (.bl false) := rfl
@[simp] theorem isi_int_bl (b : Bool) : isiD "int" (.bl b) = .ok (.bl true) := rfl
@[simp] theorem isi_int_int (b : Int) : isiD "int" (.int b) = .ok (.bl true) := rfl
@[simp] theorem isi_int_str (b : Str) : isiD "int" (.str b) = .ok (.bl false) := rfl
@[simp] theorem isi_int_tup (b : List D) : isiD "int" (.tup b) = .ok (.bl false) := rfl
@[simp] theorem isi_int_lst (b : List D) : isiD "int" (.lst b) = .ok (.bl false) := rfl
@[simp] theorem isi_int_dic (b : List (Key × D)) : isiD "int" (.dic b) = .ok (.bl false) := rfl
@[simp] theorem isi_bool_non  : isiD "bool" .non = .ok (.bl false) := rfl
@[simp] theorem isi_bool_bl (b : Bool) : isiD "bool" (.bl b) = .ok (.bl true) := rfl
@[simp] theorem isi_bool_int (b : Int) : isiD "bool" (.int b) = .ok (.bl false) := rfl
@[simp] theorem isi_bool_str (b : Str) : isiD "bool" (.str b) = .ok (.bl false) := rfl
@[simp] theorem isi_bool_tup (b : List D) : isiD "bool" (.tup b) = .ok (.bl false) := rfl
@[simp] theorem isi_bool_lst (b : List D) : isiD "bool" (.lst b) = .ok (.bl false) := rfl
@[simp] theorem isi_bool_dic (b : List (Key × D)) : isiD "bool" (.dic b) = .ok (.bl false) := rfl
@[simp] theorem isi_str_non  : isiD "str" .non = .ok (.bl false) := rfl
@[simp] theorem isi_str_bl (b : Bool) : isiD "str" (.bl b) = .ok (.bl false) := rfl
@[simp] theorem isi_str_int (b : Int) : isiD "str" (.int b) = .ok (.bl false) := rfl
@[simp] theorem isi_str_str (b : Str) : isiD "str" (.str b) = .ok (.bl true) := rfl
@[simp] theorem isi_str_tup (b : List D) : isiD "str" (.tup b) = .ok (.bl false) := rfl
@[simp] theorem isi_str_lst (b : List D) : isiD "str" (.lst b) = .ok (.bl false) := rfl
@[simp] theorem isi_str_dic (b : List (Key × D)) : isiD "str" (.dic b) = .ok (.bl false) := rfl
@[simp] theorem isi_tuple_non  : isiD "tuple" .non = .ok (.bl false) := rfl
@[simp] theorem isi_tuple_bl (b : Bool) : isiD "tuple" (.bl b) = .ok (.bl false) := rfl
@[simp] theorem isi_tuple_int (b : Int) : isiD "tuple" (.int b) = .ok (.bl false) := rfl
@[simp] theorem isi_tuple_str (b : Str) : isiD "tuple" (.str b) = .ok (.bl false) := rfl
@[simp] theorem isi_tuple_tup (b : List D) : isiD "tuple" (.tup b) = .ok (.bl true) := rfl
@[simp] theorem isi_tuple_lst (b : List D) : isiD "tuple" (.lst b) = .ok (.bl false) := rfl
@[simp] theorem isi_tuple_dic (b : List (Key × D)) : isiD "tuple" (.dic b) = .ok (.bl false) := rfl
@[simp] theorem isi_list_non  : isiD "list" .non = .ok (.bl false) := rfl
@[simp] theorem isi_list_bl (b : Bool) : isiD "list" (.bl b) = .ok (.bl false) := rfl
@[simp] theorem isi_list_int (b : Int) : isiD "list" (.int b) = .ok (.bl false) := rfl
@[simp] theorem isi_list_str (b : Str) : isiD "list" (.str b) = .ok (.bl false) := rfl
@[simp] theorem isi_list_tup (b : List D) : isiD "list" (.tup b) = .ok (.bl false) := rfl
@[simp] theorem isi_list_lst (b : List D) : isiD "list" (.lst b) = .ok (.bl true) := rfl
@[simp] theorem isi_list_dic (b : List (Key × D)) : isiD "list" (.dic b) = .ok (.bl false) := rfl
@[simp] theorem isi_dict_non  : isiD "dict" .non = .ok (.bl false) := rfl
@[simp] theorem isi_dict_bl (b : Bool) : isiD "dict" (.bl b) = .ok (.bl false) := rfl
@[simp] theorem isi_dict_int (b : Int) : isiD "dict" (.int b) = .ok (.bl false) := rfl
@[simp] theorem isi_dict_str (b : Str) : isiD "dict" (.str b) = .ok (.bl false) := rfl
@[simp] theorem isi_dict_tup (b : List D) : isiD "dict" (.tup b) = .ok (.bl false) := rfl
@[simp] theorem isi_dict_lst (b : List D) : isiD "dict" (.lst b) = .ok (.bl false) := rfl
@[simp] theorem isi_dict_dic (b : List (Key × D)) : isiD "dict" (.dic b) = .ok (.bl true) := rfl
theorem in_strs (n : Bool) (x : Str) (xs : List Str) : inG n (.str x) (.tup (xs.map D.str)) = .ok (.bl (if n then !(xs.any fun a => decide (a = x)) else xs.any fun a => decide (a = x))) := by
  have h : flVs (xs.map D.str) = some (xs.map V.str) := by
    induction xs with
    | nil => rfl
    | cons a xs ih => simp [flVs, flV, ih]
  have e : inV (.str x) (xs.map V.str) = xs.any fun a => decide (a = x) := by
    unfold inV
    rw [List.any_map]
    congr 1
  simp only [inG, flV, itV, h, e]
@[simp] theorem in_s1 (n : Bool) (x a : Str) : inG n (.str x) (.tup [.str a]) = .ok (.bl (if n then !(decide (a = x)) else decide (a = x))) := by
  have := in_strs n x [a]
  simpa using this
@[simp] theorem in_s2 (n : Bool) (x a b : Str) : inG n (.str x) (.tup [.str a, .str b]) = .ok (.bl (if n then !(decide (a = x) || decide (b = x)) else (decide (a = x) || decide (b = x)))) := by
  have := in_strs n x [a, b]
  simpa using this
@[simp] theorem in_s3 (n : Bool) (x a b c : Str) : inG n (.str x) (.tup [.str a, .str b, .str c]) = .ok (.bl (if n then !(decide (a = x) || (decide (b = x) || decide (c = x))) else (decide (a = x) || (decide (b = x) || decide (c = x))))) := by
  have := in_strs n x [a, b, c]
  simpa using this
@[simp] theorem in_s4 (n : Bool) (x a b c d : Str) : inG n (.str x) (.tup [.str a, .str b, .str c, .str d]) = .ok (.bl (if n then !(decide (a = x) || (decide (b = x) || (decide (c = x) || decide (d = x)))) else (decide (a = x) || (decide (b = x) || (decide (c = x) || decide (d = x)))))) := by
  have := in_strs n x [a, b, c, d]
  simpa using this
theorem atI_nat {α : Type} (xs : List α) (i : Nat) (h : i < xs.length) : L2.atI xs (i : Int) = some xs[i] := by
  obtain ⟨q, e⟩ := atI_ok (xs := xs) (i := (i : Int)) (by omega) (by omega)
  simpa using e
theorem ixN_nat (n i : Nat) (h : i < n) : L2.ixN n (i : Int) = some i := by
  unfold L2.ixN
  rw [if_pos (by omega), if_pos (by omega)]
  simp
end Vm
end
section
/-! Vm, part ZF: comprehensions with one name. -/
namespace Vm
open PySem L2
theorem set_u {env : Sls} {i : Nat} {s : Sl} (hu : env[i]? = some .u) : (env.set i s).set i .u = env := by
  rw [List.set_set]
  have hi := (List.getElem?_eq_some_iff.mp hu)
  obtain ⟨h, e⟩ := hi
  rw [← e]
  exact List.set_getElem_self h
theorem gm1 {env : Sls} {i : Nat} (hp : notPar env i = true) (d : D) : gmN i d env = .ok (env.set i (.t d)) := by
  rw [z_gmN, if_pos hp]
/-- [f(d) for d in ds] -/
theorem lc1 {i : Nat} {m : Ev} {env : Sls} (f : D → D) (ds : List D) (h : ∀ d ∈ ds, m (env.set i (.t d)) = .ok (f d, env.set i (.t d)) ∧ kp (f d) = .ok (f d)) (hp : notPar env i = true := by simp) (hu : env[i]? = some .u := by rfl) : lcL [i] (gmN i) mYes m ds env = .ok (ds.map f, env) :=
  lcL_map f ds fun d hd => ⟨env.set i (.t d), _, env.set i (.t d), gm1 hp d, z_mYes _, (h d hd).1, (h d hd).2, by
    show (env.set i (.t d)).set i .u = env
    exact set_u hu⟩
/-- [f(d) for d in ds if p(d)] -/
theorem lf1 {i : Nat} {t : Ev1} {m : Ev} {env : Sls} (p : D → Bool) (f : D → D) (ds : List D) (ht : ∀ d ∈ ds, t (env.set i (.t d)) = .ok (p d, env.set i (.t d))) (h : ∀ d ∈ ds, p d = true → m (env.set i (.t d)) = .ok (f d, env.set i (.t d)) ∧ kp (f d) = .ok (f d)) (hp : notPar env i = true := by simp) (hu : env[i]? = some .u := by rfl) : lcL [i] (gmN i) t m ds env = .ok ((ds.filter p).map f, env) :=
  lcL_filt p f ds fun d hd => ⟨env.set i (.t d), env.set i (.t d), gm1 hp d, ht d hd, fun q => ⟨env.set i (.t d), (h d hd q).1, (h d hd q).2, by
    show (env.set i (.t d)).set i .u = env
    exact set_u hu⟩, fun _ => by
    show (env.set i (.t d)).set i .u = env
    exact set_u hu⟩
/-- with data of a type -/
theorem lc1m {α : Type} {i : Nat} {m : Ev} {env : Sls} (c : α → D) (f : α → D) (xs : List α) (h : ∀ x ∈ xs, m (env.set i (.t (c x))) = .ok (f x, env.set i (.t (c x))) ∧ kp (f x) = .ok (f x)) (hp : notPar env i = true := by simp) (hu : env[i]? = some .u := by rfl) : lcL [i] (gmN i) mYes m (xs.map c) env = .ok (xs.map f, env) := by
  induction xs with
  | nil => rfl
  | cons x xs ih =>
    have h1 := h x (.head _)
    have h2 := ih fun y hy => h y (.tail _ hy)
    have h3 : wipeE (env.set i (.t (c x))) [i] = env := by
      show (env.set i (.t (c x))).set i .u = env
      exact set_u hu
    simp only [List.map_cons, lcL, gm1 hp, noE_ok, z_mYes, y1, if_true, h1.1, h1.2, h3, h2, y4]
theorem lf1m {α : Type} {i : Nat} {t : Ev1} {m : Ev} {env : Sls} (c : α → D) (p : α → Bool) (f : α → D) (xs : List α) (ht : ∀ x ∈ xs, t (env.set i (.t (c x))) = .ok (p x, env.set i (.t (c x)))) (h : ∀ x ∈ xs, p x = true → m (env.set i (.t (c x))) = .ok (f x, env.set i (.t (c x))) ∧ kp (f x) = .ok (f x)) (hp : notPar env i = true := by simp) (hu : env[i]? = some .u := by rfl) :
    lcL [i] (gmN i) t m (xs.map c) env = .ok ((xs.filter p).map f, env) := by
  induction xs with
  | nil => rfl
  | cons x xs ih =>
    have h2 := ih (fun y hy => ht y (.tail _ hy)) fun y hy => h y (.tail _ hy)
    have h3 : wipeE (env.set i (.t (c x))) [i] = env := by
      show (env.set i (.t (c x))).set i .u = env
      exact set_u hu
    cases q : p x with
    | true =>
      have h1 := h x (.head _) q
      simp only [List.map_cons, lcL, gm1 hp, noE_ok, y1, ht x (.head _), q, if_true, h1.1, h1.2, h3, h2, y4, List.filter_cons]
    | false => simp only [List.map_cons, lcL, gm1 hp, noE_ok, y1, ht x (.head _), q, Bool.false_eq_true, if_false, h3, h2, y4, List.filter_cons]
theorem all_map {α : Type} (p : α → Bool) (xs : List α) : onB (fun ns => .ok (.bl (ns.all id))) (.lst (xs.map fun x => D.bl (p x))) = .ok (.bl (xs.all p)) := by
  have e : (xs.map fun x => D.bl (p x)) = (xs.map p).map D.bl := by rw [List.map_map]; rfl
  simp only [onB, e, bls_map]
  rw [List.all_map]
  rfl
theorem any_map {α : Type} (p : α → Bool) (xs : List α) : onB (fun ns => .ok (.bl (ns.any id))) (.lst (xs.map fun x => D.bl (p x))) = .ok (.bl (xs.any p)) := by
  have e : (xs.map fun x => D.bl (p x)) = (xs.map p).map D.bl := by rw [List.map_map]; rfl
  simp only [onB, e, bls_map]
  rw [List.any_map]
  rfl
theorem rangeD_map (n : Nat) : rangeD 0 n = (List.range n).map fun i : Nat => D.int (i : Int) := by
  unfold rangeD
  simp
end Vm
namespace Vm
open PySem L2
theorem lc2m {α : Type} {i j : Nat} {m : Ev} {env : Sls} (a b : α → D) (f : α → D) (xs : List α) (h : ∀ x ∈ xs, m ((env.set i (.t (a x))).set j (.t (b x))) = .ok (f x, (env.set i (.t (a x))).set j (.t (b x))) ∧ kp (f x) = .ok (f x)) (hij : i ≠ j := by decide) (hp : notPar env i = true := by simp) (hq : ∀ s, notPar (env.set i (.t s)) j = true := by intro s; simp) (hu : env[i]? = some .u := by rfl) (hv : env[j]? = some .u := by rfl) :
    lcL [i, j] (gmT 2 (gmCons (gmN i) (gmCons (gmN j) gmNil))) mYes m (xs.map fun x => .tup [a x, b x]) env = .ok (xs.map f, env) := by
  induction xs with
  | nil => rfl
  | cons x xs ih =>
    have h1 := h x (.head _)
    have h2 := ih fun y hy => h y (.tail _ hy)
    have h3 : wipeE ((env.set i (.t (a x))).set j (.t (b x))) [i, j] = env := by
      show ((((env.set i (.t (a x))).set j (.t (b x))).set j .u).set i .u) = env
      rw [List.set_set, List.set_comm _ _ hij, List.set_set, List.set_comm _ _ hij.symm]
      have e1 : env.set j .u = env := by
        obtain ⟨z, e⟩ := List.getElem?_eq_some_iff.mp hv
        rw [← e]
        exact List.set_getElem_self z
      have e2 : env.set i .u = env := by
        obtain ⟨z, e⟩ := List.getElem?_eq_some_iff.mp hu
        rw [← e]
        exact List.set_getElem_self z
      rw [e2, e1]
    have g1 : gmT 2 (gmCons (gmN i) (gmCons (gmN j) gmNil)) (.tup [a x, b x]) env = .ok ((env.set i (.t (a x))).set j (.t (b x))) := by
      simp [hp, hq]
    simp only [List.map_cons, lcL, g1, noE_ok, z_mYes, y1, if_true, h1.1, h1.2, h3, h2, y4]
end Vm
end
section
set_option maxRecDepth 100000
set_option maxHeartbeats 4000000
/-! Vm, part ZG: a comprehension over an own list, which stays own. -/
namespace Vm
open PySem PySem.Spec PyProof.Rows L2
open Classical in
noncomputable def lcO (io : Nat) (s : Sl) (vs : List Nat) (g : Gv) (tt : Ev1) (me : Ev) : List D → Sls → Res (List D × Sls)
  | [], env => if env[io]? = some s then .ok ([], env) else .bad
  | d :: ds, env => if env[io]? = some s then (do
    let e1 ← noE (g d env)
    let b ← noE (tt e1)
    if b.1 = true then do
      let r ← noE (me b.2)
      let y ← kp r.1
      let q ← lcO io s vs g tt me ds (wipeE r.2 vs)
      pure (y :: q.1, q.2)
    else lcO io s vs g tt me ds (wipeE b.2 vs)) else .bad
noncomputable def mLcO (io : Nat) (vs : List Nat) (g : Gv) (tt : Ev1) (me : Ev) : Ev := fun env => match env[io]? with
  | some s => (match s.con with
    | some (.lst ds) => if okWipe env vs = true then do
        let q ← lcO io s vs g tt me ds (wipeE env vs)
        pure (.lst q.1, backE env q.2 vs)
      else .bad
    | _ => .bad)
  | none => .bad
section
variable {X : Cx} {C : Cfg} {W : WX} {k j n : Nat} {a b e : Expr} {es rest : List Expr} {ta tb tc te : TE} {t : TA} {ma mb mc m me : Ev} {ms : Evs} {pos p : Pos} {x : Str} {tg iter elt : Expr}
theorem lcO_sn {g : TG} {gv : Gv} {tt : TT} {mt : Ev1} {vs : List Nat} {io : Nat} (hio : io ∉ vs)
    (hg : ∀ (M0 : Addr → Prop) (ad : Nat → Addr) (σ : L2.St) (H : Hp) (env : Sls) (d : D) (v : V) (Q : L2.St → Hp → Prop), RE (C.w M0) ad H σ env → Rp C.K H (Mo (C.w M0) env ad) d v →
      (gv d env).Wp (fun env' => ∀ σ', RE (C.w M0) ad H σ' env' → (∀ a, Ow env' ad a → Ow env ad a) → σ'.length = σ.length → (∀ j, j ∉ vs → σ'[j]? = σ[j]?) → Q σ' H) (fun _ => False) → g v σ H Q)
    (ht : ∀ (M0 : Addr → Prop) (ad : Nat → Addr) (σ : L2.St) (H : Hp) (env : Sls) (Q : Bool → Hp → Prop), RE (C.w M0) ad H σ env →
      (mt env).Wp (fun r => ∀ H', RE (C.w M0) ad H' σ r.2 → Stp (C.w M0) ad H env H' r.2 → Q r.1 H') (Er (C.w M0) ad σ W0) → tt σ H Q)
    (he : ∀ (M0 : Addr → Prop) (ad : Nat → Addr) (σ : L2.St) (H : Hp) (env : Sls) (Q : VK), RE (C.w M0) ad H σ env →
      (me env).Wp (fun r => ∀ v H', RE (C.w M0) ad H' σ r.2 → Stp (C.w M0) ad H env H' r.2 → VR (C.w M0) ad H' σ r.2 r.1 v → Q v H') (Er (C.w M0) ad σ W0) → te σ H Q)
    {M0 : Addr → Prop} {ad : Nat → Addr} {σ : L2.St} {H : Hp} {env : Sls} {Q : VK} (R : RE (C.w M0) ad H σ env)
    (w : (mLcO io vs gv mt me env).Wp (fun r => ∀ a H', H a = none → RE ((C.w M0).add a) ad H' σ r.2 → Stp (C.w M0) ad H env H' r.2 → CellOk C.K H' (Mo ((C.w M0).add a) r.2 ad) r.1 a → Q (.ref a) H') (Er (C.w M0) ad σ W)) : tLc (iList C.K (tVar io)) g tt te vs σ H Q := by
  unfold mLcO at w
  cases z0 : env[io]? with
  | none => rw [z0] at w; exact w.elim
  | some s0 =>
  rw [z0] at w
  simp only at w
  cases zc : s0.con with
  | none => rw [zc] at w; exact w.elim
  | some c0 =>
  rw [zc] at w
  cases c0 with
  | lst ds =>
  obtain ⟨hσ0, _, us0, hu0, _⟩ := R.con z0 zc
  refine ⟨.ref (ad io), hσ0, ad io, rfl, ⟨us0, .of hu0⟩, ?_⟩
  have Hz : ds.length ≤ sizeLine := by
    obtain ⟨_, cc⟩ := R.con z0 zc
    exact cc.1
  simp only at w
  have w1 := w
  clear w
  obtain ⟨H1, e1⟩ : ∃ H1, H1 = H := ⟨_, rfl⟩
  obtain ⟨env1, e2⟩ : ∃ env1, env1 = env := ⟨_, rfl⟩
  rw [← e2] at w1
  have R1 : RE (C.w M0) ad H1 σ env1 := by rw [e1, e2]; exact R
  have S1 : Stp (C.w M0) ad H env H1 env1 := by rw [e1, e2]; exact .refl
  rw [show H = H1 from e1.symm]
  have own : ∀ {H2 : Hp} {env2 : Sls} {L : Addr} {τ : L2.St}, RE ((C.w M0).add L) ad H2 τ env2 → env2[io]? = some s0 → ∃ us, H2 (ad io) = some (.lst us) ∧ RpL C.K H2 (Mo ((C.w M0).add L) env2 ad) ds us := fun R2 z => by
    obtain ⟨_, _, us, h1, h2⟩ := R2.con z zc
    exact ⟨us, h1, h2⟩
  split at w1
  · rename_i hw
    intro L hL
    rw [wp_bind] at w1
    have sL : Same H1 (upd H1 L (.lst [])) := same_new hL
    have HL0 : H L = none := by
      cases z : H L with
      | none => rfl
      | some o => exact absurd hL (S1.ext.trk L (by rw [z]; exact fun z => nomatch z))
    have h0L : C.H0 L = none := by
      cases z : C.H0 L with
      | none => rfl
      | some o => exact absurd hL (R1.trk L (by show C.H0 L ≠ none; rw [z]; exact fun z => nomatch z))
    have LnO : ¬ Ow env1 ad L := fun z => R1.mtrk (.inr z) hL
    have RA : RE ((C.w M0).add L) ad (upd H1 L (.lst [])) σ env1 := R1.growAdd sL hL (by rw [upd_same]; exact fun z => nomatch z)
    -- the word: at turn i
    refine ⟨fun i m H => m = ds.length - i ∧ i ≤ ds.length ∧ ∃ (env' : Sls) (acc : List D) (us : List V), RE ((C.w M0).add L) ad H (L2.wipe σ vs) env' ∧ Ext (Ow env1 ad) H1 H ∧ (∀ a, Ow env' ad a → Ow env1 ad a) ∧
        H L = some (.lst us) ∧ RpL C.K H (Mo ((C.w M0).add L) env' ad) acc us ∧ acc.length ≤ i ∧
        (lcO io s0 vs gv mt me (ds.drop i) env').Wp (fun q => ∀ H', RE ((C.w M0).add L) ad H' σ (backE env1 q.2 vs) → Ext (Ow env1 ad) H1 H' → (∀ a, Ow (backE env1 q.2 vs) ad a → Ow env1 ad a) →
          CellOk C.K H' (Mo ((C.w M0).add L) (backE env1 q.2 vs) ad) (.lst (acc ++ q.1)) L → Q (.ref L) H') (fun _ => True), ⟨ds.length, by simp, Nat.zero_le _, wipeE env1 vs, [], [], RA.wipe vs, .of_same sL, ow_wipe vs, upd_same, .nil, Nat.le_refl _, ?_⟩, ?_⟩
    · rw [List.drop_zero]
      cases q : lcO io s0 vs gv mt me ds (wipeE env1 vs) with
      | ok r =>
        rw [q] at w1
        intro H' R' x' mo' c'
        exact w1 L H' HL0 R' (by rw [← e1]; exact ⟨x', mo'⟩) c'
      | err c => exact True.intro
      | bad => rw [q] at w1; exact w1.elim
    · rintro i m H2 ⟨rfl, hil, env2, acc, us, R2, x2, ow2, hus, rac, hacc, w2⟩
      by_cases hlt : i < ds.length
      · have ed : ds[i]? = some ds[i] := List.getElem?_eq_getElem hlt
        have edr : ds.drop i = ds[i] :: ds.drop (i + 1) := List.drop_eq_getElem_cons hlt
        rw [edr] at w2
        unfold lcO at w2
        have z2 : env2[io]? = some s0 := by
          by_cases z : env2[io]? = some s0
          · exact z
          · rw [if_neg z] at w2; exact w2.elim
        rw [if_pos z2] at w2
        obtain ⟨us2, hu2, ru2⟩ := own R2 z2
        have hil2 : i < us2.length := by rw [ru2.len]; exact hlt
        have eu2 : us2[i]? = some us2[i] := List.getElem?_eq_getElem hil2
        have hgo : (Itl C.K (ad io)).go i H2 := ⟨us2, us2[i], .of hu2, eu2⟩
        have hy : ∀ x H', (Itl C.K (ad io)).yld i H2 x H' → Same H2 H' ∧ Rp C.K H' (Mo ((C.w M0).add L) env2 ad) ds[i] x := fun x H' y => by
          obtain ⟨e1, y⟩ := y
          subst e1
          have e2 := y us2 (.of hu2)
          rw [eu2] at e2
          cases e2
          exact ⟨.refl _, ru2.item i _ _ ed eu2⟩
        refine .inr ⟨hgo, fun H' => ∃ (env' : Sls) (acc : List D) (us : List V), RE ((C.w M0).add L) ad H' (L2.wipe σ vs) env' ∧ Ext (Ow env1 ad) H1 H' ∧ (∀ a, Ow env' ad a → Ow env1 ad a) ∧
          H' L = some (.lst us) ∧ RpL C.K H' (Mo ((C.w M0).add L) env' ad) acc us ∧ acc.length ≤ i + 1 ∧
          (lcO io s0 vs gv mt me (ds.drop (i + 1)) env').Wp (fun q => ∀ H', RE ((C.w M0).add L) ad H' σ (backE env1 q.2 vs) → Ext (Ow env1 ad) H1 H' → (∀ a, Ow (backE env1 q.2 vs) ad a → Ow env1 ad a) →
            CellOk C.K H' (Mo ((C.w M0).add L) (backE env1 q.2 vs) ad) (.lst (acc ++ q.1)) L → Q (.ref L) H') (fun _ => True), fun H' h' => ⟨ds.length - (i + 1), by omega, rfl, hlt, h'⟩, fun x H3 y => ?_⟩
        obtain ⟨s3, rx⟩ := hy x H3 y
        have R3 : RE ((C.w M0).add L) ad H3 (L2.wipe σ vs) env2 := R2.grow s3
        rw [wp_bind] at w2
        refine hg _ ad (L2.wipe σ vs) H3 env2 ds[i] x _ R3 rx ((noE_wp (E' := fun _ => False) w2).imp (fun env3 w3 σ3 R3' ow3 l3 o3 => ?_) fun _ z => z)
        have ew : L2.wipe σ3 vs = L2.wipe σ vs := by
          rw [st_wipe_eq l3 o3]
          exact st_wipe_eq (wipe_length _ _) fun j hj => wipe_out hj
        refine ⟨ew, ?_⟩
        rw [wp_bind] at w3
        refine ht _ ad σ3 H3 env3 _ R3' ((noE_wp (E' := Er ((C.w M0).add L) ad σ3 W0) w3).imp (fun b w4 H4 R4 S4 => ?_) fun _ z => z)
        have x4 : Ext (Ow env1 ad) H2 H4 := (Ext.of_same s3).trans (S4.ext.mono fun a z => ow2 a (ow3 a z))
        have ow4 : ∀ a, Ow b.2 ad a → Ow env1 ad a := fun a z => ow2 a (ow3 a (S4.ow a z))
        have lowM : ∀ {e1 e2 : Sls}, (∀ a, Ow e2 ad a → Ow e1 ad a) → ∀ a, Mo ((C.w M0).add L) e2 ad a → Mo ((C.w M0).add L) e1 ad a := fun h a z => z.imp id (h a)
        split
        · rename_i hb
          rw [if_pos hb, wp_bind] at w4
          refine he _ ad σ3 H4 b.2 _ R4 ((noE_wp (E' := Er ((C.w M0).add L) ad σ3 W0) w4).imp (fun r w5 v H5 R5 S5 V5 => ?_) fun _ z => z)
          rw [wp_bind] at w5
          obtain ⟨_, w6, rv⟩ := kp_rp V5 w5
          have x5 : Ext (Ow env1 ad) H2 H5 := x4.trans (S5.ext.mono ow4)
          have ow5 : ∀ a, Ow r.2 ad a → Ow env1 ad a := fun a z => ow4 a (S5.ow a z)
          have hL5 : H5 L = some (.lst us) := x5.stay L _ hus LnO fun _ z => nomatch z
          obtain ⟨R6, x6⟩ := R5.other (us' := us ++ [v]) (.inr rfl) (fun z => LnO (ow5 L z)) h0L hL5
          have rac5 : RpL C.K H5 (Mo ((C.w M0).add L) r.2 ad) acc us := rac.ext ((Ext.of_same s3).trans ((S4.ext.trans (S5.ext.mono S4.ow)).mono fun a z => .inr (ow3 a z))) fun a z => .inl (z.imp id fun z => ow3 a (S4.ow a (S5.ow a z)))
          refine ⟨us, hL5, by rw [rac5.len]; omega, wipeE r.2 vs, acc ++ [r.1], us ++ [v], by rw [← ew]; exact R6.wipe vs, ?_, fun a z => ow5 a (ow_wipe vs a z), upd_same, ?_, by rw [List.length_append]; exact Nat.succ_le_succ hacc, ?_⟩
          · refine ⟨fun b o e n nt => ?_, fun b xs e => ?_, fun b o u e => ?_, fun b e => ?_⟩
            · rw [upd_ne fun q => by rw [q, hL] at e; cases e]
              exact x5.stay b o (x2.stay b o e n nt) n nt
            · rw [upd_ne fun q => by rw [q, hL] at e; cases e]
              exact x5.tups b xs (x2.tups b xs e)
            · rw [upd_ne fun q => by rw [q, hL] at e; cases e]
              exact x5.frzs b o u (x2.frzs b o u e)
            · rw [upd_ne fun q => by rw [q] at e; exact e hL]
              exact x5.trk b (x2.trk b e)
          · refine ((rac5.append (.one rv)).ext (x6.mono fun b e => ?_) fun a z => .inl (lowM (fun a z => ow_wipe vs a z) a z))
            rw [e]
            exact .inl (.inr rfl)
          · cases q : lcO io s0 vs gv mt me (ds.drop (i + 1)) (wipeE r.2 vs) with
            | ok z =>
              rw [q] at w6
              intro H' R' x' m' c'
              exact w6 H' R' x' m' (by rw [List.append_assoc] at c'; exact c')
            | err c => exact True.intro
            | bad => rw [q] at w6; exact w6.elim
        · rename_i hb
          rw [if_neg hb] at w4
          have hL4 : H4 L = some (.lst us) := x4.stay L _ hus LnO fun _ z => nomatch z
          refine ⟨wipeE b.2 vs, acc, us, by rw [← ew]; exact R4.wipe vs, x2.trans x4, fun a z => ow4 a (ow_wipe vs a z), hL4, ?_, Nat.le_succ_of_le hacc, w4⟩
          exact rac.ext ((Ext.of_same s3).trans (S4.ext.mono fun a z => .inr (ow3 a z))) fun a z => .inl (z.imp id fun z => ow3 a (S4.ow a (ow_wipe vs a z)))
      · have ei : i = ds.length := by omega
        subst ei
        rw [List.drop_length] at w2
        unfold lcO at w2
        have z2 : env2[io]? = some s0 := by
          by_cases z : env2[io]? = some s0
          · exact z
          · rw [if_neg z] at w2; exact w2.elim
        rw [if_pos z2] at w2
        obtain ⟨us2, hu2, ru2⟩ := own R2 z2
        refine .inl ⟨⟨us2, .of hu2, by rw [ru2.len]; exact Nat.le_refl _⟩, ?_⟩
        have xb : Ext (Mo ((C.w M0).add L) env1 ad) (upd H1 L (.lst [])) H2 := by
          refine ⟨fun b o e n nt => ?_, fun b xs e => ?_, fun b o u e => ?_, fun b e => ?_⟩
          · rw [upd_ne fun q => n (.inl (.inr q))] at e
            exact x2.stay b o e (fun z => n (.inr z)) nt
          · by_cases q : b = L
            · rw [q, upd_same] at e; cases e
            · rw [upd_ne q] at e; exact x2.tups b xs e
          · by_cases q : b = L
            · rw [q, upd_same] at e; cases e
            · rw [upd_ne q] at e; exact x2.frzs b o u e
          · by_cases q : b = L
            · rw [q, hus]; exact fun z => nomatch z
            · rw [upd_ne q] at e; exact x2.trk b e
        obtain ⟨RB, mb⟩ := RE.back RA xb R2 ow2 hw
        rw [backS_wipe] at RB
        refine w2 H2 RB x2 (fun a z => ow2 a (mb a z)) ⟨?_, us, hus, ?_⟩
        · rw [List.append_nil]; exact Nat.le_trans hacc Hz
        · rw [List.append_nil]
          exact rac.less fun a z => z.imp id (mb a)
  · exact w1.elim
  | _ => exact w.elim
theorem ef_lcO (io : Nat) {y : Str} {py : Pos} {ifs : List Expr} {scope : Scope} {own : List (Str × Nat)} {gt : TG} {tt : TT} {gv : Gv} {mt : Ev1} (g : Gd X C W k) (ok : BlkOk X.N X.env.scope scope own)
    (hg : ∀ (s : Shared) (H : Hp) (L : Addr) (cl : List (Str × Addr)) (fp : List Addr), Gd (X.blk s H scope (compEnvC scope cl L X.env) fp) C W0 k → GM (X.blk s H scope (compEnvC scope cl L X.env) fp) C tg gt (own.map (·.2)) gv)
    (ht : ∀ (s : Shared) (H : Hp) (L : Addr) (cl : List (Str × Addr)) (fp : List Addr), Gd (X.blk s H scope (compEnvC scope cl L X.env) fp) C W0 k → TMs (X.blk s H scope (compEnvC scope cl L X.env) fp) C W0 ifs tt mt)
    (he : ∀ (s : Shared) (H : Hp) (L : Addr) (cl : List (Str × Addr)) (fp : List Addr), Gd (X.blk s H scope (compEnvC scope cl L X.env) fp) C W0 k → EM (X.blk s H scope (compEnvC scope cl L X.env) fp) C W0 elt te me)
    (hio : io ∉ own.map (·.2) := by decide) (hN : X.N[io]? = some y := by rfl) (hv : Vis X.env.scope y := by first | exact Or.inl rfl | exact Or.inr (Or.inl rfl) | exact Or.inr (Or.inr rfl)) (hd : (y == ("__debug__" : Str)) = false := by decide) (hcd : (y == ("__classdict__" : Str)) = false := by decide)
    (hs : ∀ x, foldedSetIterable (.Name y py) X.env x = pure x := by intro _; rfl) :
    EF X C W (.ListComp elt [⟨tg, .Name y py, ifs, 0⟩] scope pos) (tLc (iList C.K (tVar io)) gt tt te (own.map (·.2))) (mLcO io (own.map (·.2)) gv mt me) :=
  ⟨g.kE ▸ pe_lc g.calm g.nd (pi_list (pe_var hN hv hd hcd)) ok (fun s H L cl fp => (hg s H L cl fp g.blk).pe) (fun s H L cl fp => (ht s H L cl fp g.blk).pe) (fun s H L cl fp => (he s H L cl fp g.blk).pe) hs,
    fun M0 ad σ H env Q R w => lcO_sn hio (hg X.s_0 X.H_0 0 [] [] g.blk).sn (ht X.s_0 X.H_0 0 [] [] g.blk).sn (he X.s_0 X.H_0 0 [] [] g.blk).sn R w⟩
theorem sm_lcAO (io : Nat) {fresh : Bool} {i : Nat} {y z : Str} {py pz spos : Pos} {ifs : List Expr} {scope : Scope} {own : List (Str × Nat)} {gt : TG} {tt : TT} {gv : Gv} {mt : Ev1} (g : Gd X C W k) (ok : BlkOk X.N X.env.scope scope own)
    (hg : ∀ (s : Shared) (H : Hp) (L : Addr) (cl : List (Str × Addr)) (fp : List Addr), Gd (X.blk s H scope (compEnvC scope cl L X.env) fp) C W0 k → GM (X.blk s H scope (compEnvC scope cl L X.env) fp) C tg gt (own.map (·.2)) gv)
    (ht : ∀ (s : Shared) (H : Hp) (L : Addr) (cl : List (Str × Addr)) (fp : List Addr), Gd (X.blk s H scope (compEnvC scope cl L X.env) fp) C W0 k → TMs (X.blk s H scope (compEnvC scope cl L X.env) fp) C W0 ifs tt mt)
    (he : ∀ (s : Shared) (H : Hp) (L : Addr) (cl : List (Str × Addr)) (fp : List Addr), Gd (X.blk s H scope (compEnvC scope cl L X.env) fp) C W0 k → EM (X.blk s H scope (compEnvC scope cl L X.env) fp) C W0 elt te me)
    (hio : io ∉ own.map (·.2) := by decide) (hN : X.N[io]? = some z := by rfl) (hv : Vis X.env.scope z := by first | exact Or.inl rfl | exact Or.inr (Or.inl rfl) | exact Or.inr (Or.inr rfl)) (hd : (z == ("__debug__" : Str)) = false := by decide) (hcd : (z == ("__classdict__" : Str)) = false := by decide)
    (hy : X.N[i]? = some y := by rfl) (hyl : X.env.scope.names.lookup y = some .local := by rfl) (hsw : swapsWith (.ListComp elt [⟨tg, .Name z pz, ifs, 0⟩] scope pos) (some (.Name y py)) spos.line X.env = pure true := by exact sw_true rfl rfl rfl (by decide +kernel)) (hs : ∀ x, foldedSetIterable (.Name z pz) X.env x = pure x := by intro _; rfl) :
    SM X C W (.Assign [.Name y py] (.ListComp elt [⟨tg, .Name z pz, ifs, 0⟩] scope pos) spos) (tAsg (tLc (iList C.K (tVar io)) gt tt te (own.map (·.2))) (gName i)) (match fresh with | true => mSetL i (mLcO io (own.map (·.2)) gv mt me) | false => mSet i (mLcO io (own.map (·.2)) gv mt me)) := by
  have hp : PS X (.Assign [.Name y py] (.ListComp elt [⟨tg, .Name z pz, ifs, 0⟩] scope pos) spos) (tAsg (tLc (iList C.K (tVar io)) gt tt te (own.map (·.2))) (gName i)) := g.kE ▸ ps_setLc g.calm g.nd hy hyl hsw (pi_list (pe_var hN hv hd hcd)) ok (fun s H L cl fp => (hg s H L cl fp g.blk).pe) (fun s H L cl fp => (ht s H L cl fp g.blk).pe) (fun s H L cl fp => (he s H L cl fp g.blk).pe) hs
  have he2 := ef_lcO (pos := pos) (py := pz) io g ok hg ht he hio hN hv hd hcd hs
  cases fresh with
  | true => exact sm_lcL hp he2
  | false => exact sm_lc hp (em_of_ef he2)
end
/-! ### plainly -/
@[simp] theorem z_mLcO (io : Nat) (vs : List Nat) (g : Gv) (tt : Ev1) (me : Ev) (env : Sls) : mLcO io vs g tt me env = (match env[io]? with
  | some s => (match s.con with
    | some (.lst ds) => if okWipe env vs = true then do
        let q ← lcO io s vs g tt me ds (wipeE env vs)
        pure (.lst q.1, backE env q.2 vs)
      else .bad
    | _ => .bad)
  | none => .bad) := rfl
theorem lf1O {io i : Nat} {s : Sl} {t : Ev1} {m : Ev} {env : Sls} {α : Type} (c : α → D) (p : α → Bool) (f : α → D) (xs : List α) (ht : ∀ x ∈ xs, t (env.set i (.t (c x))) = .ok (p x, env.set i (.t (c x)))) (h : ∀ x ∈ xs, p x = true → m (env.set i (.t (c x))) = .ok (f x, env.set i (.t (c x))) ∧ kp (f x) = .ok (f x)) (hp : notPar env i = true := by simp) (hu : env[i]? = some .u := by rfl) (hs : env[io]? = some s := by rfl) :
    lcO io s [i] (gmN i) t m (xs.map c) env = .ok ((xs.filter p).map f, env) := by
  induction xs with
  | nil => simp only [List.map_nil, lcO, if_pos hs, List.filter_nil]
  | cons x xs ih =>
    have h2 := ih (fun y hy => ht y (.tail _ hy)) fun y hy => h y (.tail _ hy)
    have h3 : wipeE (env.set i (.t (c x))) [i] = env := by
      show (env.set i (.t (c x))).set i .u = env
      exact set_u hu
    cases q : p x with
    | true =>
      have h1 := h x (.head _) q
      simp only [List.map_cons, lcO, if_pos hs, gm1 hp, noE_ok, y1, ht x (.head _), q, if_true, h1.1, h1.2, h3, h2, y4, List.filter_cons]
    | false => simp only [List.map_cons, lcO, if_pos hs, gm1 hp, noE_ok, y1, ht x (.head _), q, Bool.false_eq_true, if_false, h3, h2, y4, List.filter_cons]
theorem lc1O {io i : Nat} {s : Sl} {m : Ev} {env : Sls} {α : Type} (c : α → D) (f : α → D) (xs : List α) (h : ∀ x ∈ xs, m (env.set i (.t (c x))) = .ok (f x, env.set i (.t (c x))) ∧ kp (f x) = .ok (f x)) (hp : notPar env i = true := by simp) (hu : env[i]? = some .u := by rfl) (hs : env[io]? = some s := by rfl) :
    lcO io s [i] (gmN i) mYes m (xs.map c) env = .ok (xs.map f, env) := by
  have := lf1O (t := mYes) (m := m) (io := io) (i := i) (s := s) (env := env) c (fun _ => true) f xs (fun x _ => z_mYes _) (fun x hx _ => h x hx) hp hu hs
  rwa [List.filter_eq_self.mpr fun _ _ => rfl] at this
end Vm
end
section
/-! Vm, part ZH: statement by statement. -/
namespace Vm
open PySem L2
/-- it hands back d -/
def Ends (m : Sv) (env : Sls) (d : D) : Prop := ∃ e', m env = .ok (.ret d, e')
theorem ends_sq {m1 m2 : Sv} {env e2 : Sls} {d : D} (h : m1 env = .ok (.next, e2)) (h2 : Ends m2 e2 d) : Ends (mSq m1 m2) env d := by
  obtain ⟨e', q⟩ := h2
  exact ⟨e', by rw [z_mSq, h]; simpa using q⟩
theorem ends_now {m1 m2 : Sv} {env e2 : Sls} {d : D} (h : m1 env = .ok (.ret d, e2)) : Ends (mSq m1 m2) env d := ⟨e2, by rw [z_mSq, h]; rfl⟩
theorem ends_is {m : Sv} {env e2 : Sls} {d : D} (h : m env = .ok (.ret d, e2)) : Ends m env d := ⟨e2, h⟩
theorem run_ends {n : Nat} {m : Sv} {ds : List D} {d : D} (h : Ends m (envOf n ds) d) : run n m ds = .ok d := by
  obtain ⟨e', q⟩ := h
  rw [z_run, q]
end Vm
end
section
set_option maxRecDepth 100000
set_option maxHeartbeats 4000000
/-! Vm, part ZI: len(set(xs)) of a list of ints. -/
namespace Vm
open PySem PySem.Spec PyProof.Rows L2
def tLenSet (K : PySem.W.Frag) (ta : TE) : TE := fun σ H Q => ta σ H fun x H1 => ∃ (l : Addr) (ns : List Int), x = .ref l ∧ SqL K H1 l (ns.map V.int) ∧ ns.length ≤ 4000 ∧ Q (.int ((ded ns).length : Nat)) H1
theorem perm_of {xs ys : List Int} (hx : xs.Nodup) (hy : ys.Nodup) (h : ∀ j, j ∈ xs ↔ j ∈ ys) : xs.length = ys.length := by
  refine Nat.le_antisymm ?_ ?_
  · exact (List.subset_of_nodup hx fun j hj => (h j).mp hj)
  · exact (List.subset_of_nodup hy fun j hj => (h j).mpr hj)
where List.subset_of_nodup : ∀ {xs ys : List Int}, xs.Nodup → (∀ j ∈ xs, j ∈ ys) → xs.length ≤ ys.length
  | [], ys, _, _ => Nat.zero_le _
  | x :: xs, ys, hn, hs => by
    have hn' := List.nodup_cons.mp hn
    have hx := hs x (.head _)
    have h1 : xs.length ≤ (ys.erase x).length := List.subset_of_nodup hn'.2 fun j hj => by
      have hj2 := hs j (.tail _ hj)
      have ne : j ≠ x := fun e => hn'.1 (e ▸ hj)
      exact (List.mem_erase_of_ne ne).mpr hj2
    rw [List.length_erase_of_mem hx] at h1
    have h2 : 0 < ys.length := List.length_pos_of_mem hx
    simp only [List.length_cons]
    omega
theorem pe_lenSet {X : Cx} {a : Expr} {ta : TE} {p p2 q pos : Pos} (hg : Gl X "len") (hm : X.mg "len" = none) (hg2 : Gl X "set") (hm2 : X.mg "set" = none) (hv : bootBuiltins "len" = some (.builtin "len")) (hv2 : bootBuiltins "set" = some (.type "set")) (ha : PE X a ta) (hc : X.calm = true)
    (st : starEach [a] X.env = (false, eval a X.env) :: starEach [] X.env := by rfl) : PE X (.Call (.Name "len" p) [.Call (.Name "set" p2) [a] [] q] [] pos) (tLenSet X.K ta) := by
  refine ⟨fun pins s σ H Q I h => ?_⟩
  refine Call_ (ld_blt I hg hm hv ?_)
  refine callWith_builtin1 (args_cons ?_ rfl) rfl rfl
  refine Call_ (ld_blt I hg2 hm2 hv2 ?_)
  refine callWith_type1 (args_cons (thn (ha.run pins s σ H _ I h) fun v s1 ⟨x, H1, I1, r1, q1⟩ => args_nil ?_) st) st rfl
  obtain ⟨l, ks, rfl, hq, few, q1⟩ := q1
  cases r1
  obtain ⟨its, rv, pl, hz⟩ := I1.list hq
  have ii : IntsAre its.toArray.toList ks := ints_of_vals rv
  refine set_of_list ks (I1.ok.hd hc) pl.isList ii (by unfold scanBound; omega) fun g tk n R hn up => ?_
  refine args_nil ?_
  obtain ⟨o, es, ep, t, ho, hex, hd, _, hnd, hmem, _, hf, he, _⟩ := R
  have hl : es.size = (ded ks).length := by
    have h1 := perm_of hnd (ded_nodup ks) fun j => by rw [← hmem j, decide_eq_true_eq, ded_mem]
    simpa using h1
  have I2 : Inv X pins σ H1 { s1 with heap := g, toks := tk } := I1.kept fun b o e => up b o e
  refine call_len_set ho hex hd hf (by omega) ⟨.int ((ded ks).length : Nat), H1, I2.tok _, ⟨_, by rw [hl]⟩, q1⟩
def lenSetD (x : D) : Res D := match x with
  | .lst ds => (match intsD ds with
    | some ns => if ns.length ≤ 4000 then .ok (.int ((ded ns).length : Nat)) else .bad
    | none => .bad)
  | _ => .bad
section
variable {X : Cx} {C : Cfg} {W : WX} {k : Nat} {a : Expr} {ta : TE} {ma : Ev}
theorem em_lenSet {p p2 q pos : Pos} (g : Gd X C W k) (hg : Gl X "len") (hm : X.mg "len" = none) (hv : bootBuiltins "len" = some (.builtin "len")) (hg2 : Gl X "set") (hm2 : X.mg "set" = none) (hv2 : bootBuiltins "set" = some (.type "set")) (ha : EM X C W a ta ma)
    (st : starEach [a] X.env = (false, eval a X.env) :: starEach [] X.env := by rfl) : EM X C W (.Call (.Name "len" p) [.Call (.Name "set" p2) [a] [] q] [] pos) (tLenSet C.K ta) (mUn1 lenSetD ma) := by
  refine ⟨g.kE ▸ pe_lenSet hg hm hg2 hm2 hv hv2 ha.pe g.calm st, fun M0 ad σ H env Q R w => ?_⟩
  unfold mUn1 at w
  refine ha.sn' R w fun r v H1 R1 S1 V1 w1 => ?_
  rw [wp_bind] at w1
  obtain ⟨z, _, w2, rz⟩ := R1.rs V1 w1
  cases z with
  | lst ds =>
    simp only [lenSetD] at w2
    cases qi : intsD ds with
    | none => rw [qi] at w2; exact w2.elim
    | some ns =>
      rw [qi] at w2
      simp only at w2
      by_cases hz : ns.length ≤ 4000
      · rw [if_pos hz] at w2
        obtain ⟨l, us, rfl, hl, _, ru⟩ := rz.lst_inv
        have ed : ds = ns.map D.int := ints_eq qi
        subst ed
        rw [ru.ints] at hl
        exact ⟨l, ns, rfl, .of hl, hz, w2 _ H1 R1 S1 (.of (.int _))⟩
      · rw [if_neg hz] at w2; exact w2.elim
  | _ => exact w2.elim
end
@[simp] theorem lenSet_ints (ns : List Int) (h : ns.length ≤ 4000) : lenSetD (.lst (ns.map D.int)) = .ok (.int ((ded ns).length : Nat)) := by
  simp only [lenSetD, ints_map, if_pos h]
end Vm
end
section
set_option maxRecDepth 100000
set_option maxHeartbeats 4000000
/-! Vm, part ZJ: d.get(k, z). -/
namespace Vm
open PySem PySem.Spec PyProof.Rows L2
def mGet2 (mo me mf : Ev) : Ev := fun env => do
  let r1 ← mo env
  let x1 ← rs r1.2 r1.1
  match x1 with
  | .dic _ => do
    let r2 ← me r1.2
    let r3 ← mf r2.2
    let x ← rs r3.2 r1.1
    let y ← rs r3.2 r2.1
    match x with
    | .dic ds => (match dkey y with
      | some k => pure ((valD ds k).getD r3.1, r3.2)
      | none => .bad)
    | _ => .bad
  | _ => .bad
section
variable {X : Cx} {C : Cfg} {W : WX} {k : Nat} {o e f : Expr} {td ty tx : TE} {mo me mf : Ev} {apos cpos : Pos}
theorem em_get2 (g : Gd X C W k) (ho : EM X C W o td mo) (he : EM X C W e ty me) (hf : EM X C W f tx mf) (m : M2 X o "get" apos e f cpos) :
    EM X C W (.Call (.Attribute o "get" apos) [e, f] [] cpos) (tDGet2 td ty tx) (mGet2 mo me mf) := by
  refine ⟨pe_dget2 (hu_of g.room) ho.pe he.pe hf.pe m, fun M0 ad σ H env Q R w => ?_⟩
  unfold mGet2 at w
  refine ho.sn' R w fun r1 v1 H1 R1 S1 V1 w1 => ?_
  rw [wp_bind] at w1
  obtain ⟨x1, _, w2, rx1⟩ := R1.rs V1 w1
  cases x1 with
  | dic ds1 =>
    simp only at w2
    obtain ⟨a, us, rfl, hu1, _, _⟩ := rx1.dic_inv
    refine ⟨a, rfl, .inl ⟨us, hu1⟩, ?_⟩
    refine he.sn' R1 w2 fun r2 v2 H2 R2 S2 V2 w3 => ?_
    refine hf.sn' R2 w3 fun r3 v3 H3 R3 S3 V3 w4 => ?_
    rw [wp_bind] at w4
    obtain ⟨x, _, w5, rx⟩ := R3.rs ((V1.stp S2).stp S3) w4
    rw [wp_bind] at w5
    obtain ⟨y, _, w6, ry⟩ := R3.rs (V2.stp S3) w5
    cases x with
    | dic ds =>
      simp only at w6
      cases hk : dkey y with
      | none => rw [hk] at w6; exact w6.elim
      | some kk =>
        rw [hk] at w6
        simp only at w6
        obtain ⟨a', us', e', hu', _, q⟩ := rx.dic_inv
        cases e'
        have ey := dkey_v hk ry
        obtain ⟨q1, q2⟩ := RpK.val q (k := kk)
        refine ⟨valV us' kk, .inl ⟨us', kk, hu', ey, rfl⟩, ?_⟩
        cases hv : valD ds kk with
        | none =>
          rw [hv] at w6
          rw [q2 hv]
          exact w6 v3 H3 R3 ((S1.trans S2).trans S3) V3
        | some d =>
          rw [hv] at w6
          obtain ⟨v, e1, rv⟩ := q1 d hv
          rw [e1]
          exact w6 v H3 R3 ((S1.trans S2).trans S3) (.of rv)
    | _ => exact w6.elim
  | _ => exact w2.elim
end
@[simp] theorem z_mGet2 (mo me mf : Ev) (env : Sls) : mGet2 mo me mf env = (do
  let r1 ← mo env
  let x1 ← rs r1.2 r1.1
  match x1 with
  | .dic _ => do
    let r2 ← me r1.2
    let r3 ← mf r2.2
    let x ← rs r3.2 r1.1
    let y ← rs r3.2 r2.1
    match x with
    | .dic ds => (match dkey y with
      | some k => pure ((valD ds k).getD r3.1, r3.2)
      | none => .bad)
    | _ => .bad
  | _ => .bad) := rfl
end Vm
end
section
set_option maxRecDepth 100000
set_option maxHeartbeats 4000000
/-! Vm, part ZK: try: f(..) / except A: x = '..' / .. -/
namespace Vm
open PySem PySem.Spec PyProof.Rows L2
def FactL (K : PySem.W.Frag) (mg : Str → Option Value) (cv : Value) : List (Str × Bool) → Prop
  | [] => True
  | (c, b) :: r => (∀ u, mg c = some u → PySem.W.exmOne K u cv = some b) ∧ FactL K mg cv r
theorem fact1 {K : PySem.W.Frag} {mg : Str → Option Value} {c : Str} {v cv : Value} {b : Bool} (h : mg c = some v) (e : PySem.W.exmOne K v cv = some b) : ∀ u, mg c = some u → PySem.W.exmOne K u cv = some b := fun u q => by
  rw [h] at q
  cases q
  exact e
/-- a class that a clause names, and which errors it takes -/
structure HdF (K : PySem.W.Frag) (mg : Str → Option Value) (x : Str) (ps : List (Str × Bool)) : Prop where
  ex : ∃ cv, mg x = some cv ∧ FactL K mg cv ps
def lookB : List (Str × Bool) → Str → Option Bool
  | [], _ => none
  | (c, b) :: r, d => if c = d then some b else lookB r d
theorem lookB_fact {K : PySem.W.Frag} {mg : Str → Option Value} {cv : Value} {c : Str} {b : Bool} : ∀ {ps : List (Str × Bool)}, FactL K mg cv ps → lookB ps c = some b → ∀ u, mg c = some u → PySem.W.exmOne K u cv = some b
  | [], _, h => by cases h
  | (d, b') :: r, f, h => by
    unfold lookB at h
    split at h
    · rename_i e
      subst e
      cases h
      exact f.1
    · exact lookB_fact f.2 h
abbrev Sel := List (List (Str × Bool) × Nat × Str)
inductive HdM (X : Cx) : List ExceptHandler → List (Value × (Addr → Value → Option Addr → TS)) → Sel → Prop
  | nil : HdM X [] [] []
  | cons {x y s : Str} {cv : Value} {i j : Nat} {np pos' p1 p2 p3 : Pos} {ps : List (Str × Bool)} {hds : List ExceptHandler} {l : List (Value × (Addr → Value → Option Addr → TS))} {sel : Sel}
      (hc : Names X x cv) (facts : FactL X.K X.mg cv ps) (hN : X.N.Nodup) (hi : X.N[i]? = some y) (hx : Loc X.env.scope y) (hs : swapsWith (.Constant (.str s) j p2) (some (.Name y p1)) p3.line X.env = pure false)
      (hf : X.fn y = true ∨ X.env.scope.names.lookup y = some .local) (r : HdM X hds l sel) :
      HdM X (.ExceptHandler (some (.Name x np)) none [.Assign [.Name y p1] (.Constant (.str s) j p2) p3] pos' :: hds) ((cv, fun _ _ _ => tAsg (tC (.str s)) (gName i)) :: l) ((ps, i, s) :: sel)
theorem HdM.ok {X : Cx} {hds : List ExceptHandler} {l : List (Value × (Addr → Value → Option Addr → TS))} {sel : Sel} (h : HdM X hds l sel) : HdsOk X hds l := by
  induction h with
  | nil => exact .nil
  | cons hc facts hN hi hx hs hf r ih => exact .cons hc (fun a oe cls d pn _ _ => pss_one (ps_set (X := X.suite a _) hN hi hx pe_str hs hf)) ih
theorem hdm_cons (i : Nat) {X : Cx} {x y s : Str} {j : Nat} {np pos' p1 p2 p3 : Pos} {ps : List (Str × Bool)} {hds : List ExceptHandler} {l : List (Value × (Addr → Value → Option Addr → TS))} {sel : Sel}
    (nd : X.N.Nodup) (F : HdF X.K X.mg x ps) (r : HdM X hds l sel) (hg : Gl X x := by rfl) (hdb : (x == ("__debug__" : Str)) = false := by decide) (hi : X.N[i]? = some y := by rfl)
    (hx : Loc X.env.scope y := by first | exact .inl rfl | exact .inr rfl) (hs : swapsWith (.Constant (.str s) j p2) (some (.Name y p1)) p3.line X.env = pure false := by rfl) (hf : X.fn y = true ∨ X.env.scope.names.lookup y = some .local := by exact .inl rfl) :
    HdM X (.ExceptHandler (some (.Name x np)) none [.Assign [.Name y p1] (.Constant (.str s) j p2) p3] pos' :: hds) ((Classical.choose F.ex, fun _ _ _ => tAsg (tC (.str s)) (gName i)) :: l) ((ps, i, s) :: sel) :=
  .cons ⟨hg, hdb, .inl (Classical.choose_spec F.ex).1⟩ (Classical.choose_spec F.ex).2 nd hi hx hs hf r
def mHd : Sel → Str → Sv
  | [], _ => fun _ => .bad
  | (ps, i, s) :: r, c => match lookB ps c with
    | some true => mSet i (mK (.str s))
    | some false => mHd r c
    | none => fun _ => .bad
def mTryC (n : Nat) (fm : List D → Res D) (ms : Evs) (sel : Sel) : Sv := fun env => do
  let r ← noE (ms env)
  if r.1.length = n then
    if allKp r.1 = true then
      match fm r.1 with
      | .ok _ => pure (.next, r.2)
      | .err c => mHd sel c r.2
      | .bad => .bad
    else .bad
  else .bad
section
variable {X : Cx} {C : Cfg} {W : WX} {k j n : Nat} {e : Expr} {es : List Expr} {t : TA} {ms : Evs} {x : Str} {p p1 pos pos2 : Pos} {h₀ : ExceptHandler} {hds : List ExceptHandler} {l : List (Value × (Addr → Value → Option Addr → TS))} {sel : Sel}
theorem hd_sn {Dn : L2.Ends} {ad : Nat → Addr} {H H' : Hp} {σ : L2.St} {env env' : Sls} {c : Str} {cls : Value} {dd : Option Addr} (kE : X.K = C.K) (h : HdM X hds l sel) (w : (mHd sel c env').Wp (Fin C Dn ad H env) (ErS C W)) (R : RE C ad H' σ env') (Kp : Keep C ad H env ad H' env') (hm : X.mg c = some cls) : wMany X.K W Dn l cls dd σ H' := by
  induction h with
  | nil => exact w.elim
  | cons hc facts hN hi hx hs hf r ih =>
    rename_i x y s cv i j np pos' p1 p2 p3 ps hds l sel
    unfold mHd at w
    cases q : lookB ps c with
    | none => rw [q] at w; exact w.elim
    | some b =>
      rw [q] at w
      refine ⟨b, lookB_fact facts q _ hm, fun hb a hn => ?_, fun hb => ?_⟩
      · subst hb
        exact set_sn (em_str (X := X) (C := C) (W := W) (i := s) (j := j) (pos := p2)).sn R (w.imp (fun r z => z.mid Kp) fun _ z => z)
      · subst hb
        exact ih w
theorem sm_tryC {fm : List D → Res D} (g : Gd X C W k) (F : Fn X.prog X.w X.K X.mg X.base j x (spP C.K C.T C.mg n fm))
    (ha : ∀ (W' : WX) (pn : List (Addr × Obj)) (xe : Value → Shared → Prop), Gd (X.tr pn xe) C W' k → AM (X.tr pn xe) C W' (e :: es) t ms) (hh : HdM X (h₀ :: hds) l sel)
    (hst : X.stack = X.env :: X.outer := by rfl) (hfr : X.env.frame = some X.env.locals := by rfl)
    (hj : j ≤ k := by decide) (hg : Gl X x := by rfl)
    (hdb : (x == ("__debug__" : Str)) = false := by decide) (he : starEach (e :: es) X.env = (false, eval e X.env) :: starEach es X.env := by rfl) (hpl : (backTo p (starEach es X.env)).any (·.1) = false := by rfl)
    (hsw : swapsWith (.Call (.Name x p1) (e :: es) [] p) none pos2.line X.env = pure false := by rfl) :
    SM X C W (.Try [.Expr (.Call (.Name x p1) (e :: es) [] p) pos2] (h₀ :: hds) [] [] pos) (fun D σ H => tDrop (tCallS (spP C.K C.T C.mg n fm) (WE (wMany X.K W D l)) t) D σ H) (mTryC n fm ms sel) := by
  obtain ⟨f, fd, ps, F, hm, hk, hb⟩ := (F.mono hj).ex
  refine ⟨ps_try_many hst hfr g.tk (tb := fun W' => tDrop (tCallS (spP C.K C.T C.mg n fm) (WE W') t)) (fun W' pn xe tk po => pss_one (ps_expr (pe_callS (X := X.tr pn xe) F g.room hg hm hk hb (fun σ => passAt tk σ) (ha W' pn xe ⟨g.kE, g.mE, g.calm, tk, g.room, g.nd⟩).pe hdb he hpl) hsw)) hh.ok, fun ad σ H env Dn R w => ?_⟩
  show t σ H _
  refine (ha (wMany X.K W Dn l) [] (fun _ _ => True) ⟨g.kE, g.mE, g.calm, fun _ _ _ => True.intro, g.room, g.nd⟩).sn C.M0 ad σ H env _ R ?_
  unfold mTryC at w
  cases q : ms env with
  | err c => rw [q] at w; exact w.elim
  | bad => rw [q] at w; exact w.elim
  | ok r =>
    rw [q] at w
    change Res.Wp (if r.1.length = n then _ else _) _ _ at w
    intro vs H1 R1 S1 V1
    split at w
    · rename_i hl
      split at w
      · rename_i hkp
        refine ⟨by rw [V1.len]; exact hl, R1.tabs, Mo C r.2 ad, r.1, fun a z => R1.mtrk z, allKp_rp V1 hkp, ?_⟩
        cases z : fm r.1 with
        | ok d =>
          rw [z] at w
          exact fun v H' e rp => w ad σ H' (R1.growS e) ((S1.trans (.growS e)).keep)
        | err c =>
          rw [z] at w
          exact fun cls dd H' hm e => hd_sn g.kE hh w (R1.growS e) ((S1.trans (.growS e)).keep) (by rw [g.mE]; exact hm)
        | bad => rw [z] at w; exact w.elim
      · exact w.elim
    · exact w.elim
end
end Vm
end
section
set_option maxRecDepth 100000
set_option maxHeartbeats 4000000
/-! Vm, part ZL: a tuple times an int. -/
namespace Vm
open PySem PySem.Spec PyProof.Rows L2
theorem tuple_mul1 (l : Addr) (items : Array Value) (n : Nat) (dd : Option Addr) (sl : Array (Option Value)) (u : Tok) :
    Meets (Builtin.«tuple.__mul__» ⟨[.ref l, .int 1 u], []⟩) (fun _ R s => s.heap.get? l = some { cls := .type "tuple", dict := dd, data := .seq items n, slots := sl } ∧
      R (.ok (.ret (Value.ref l))) { s with toks := s.toks }) :=
  .of_wp fun prog w A R s h => by
    obtain ⟨hp, g, d, tk, os⟩ := s
    obtain ⟨hl, h⟩ := h
    have f1 := AutoSeq1.idx_int
    have c1 : (items.isEmpty || (1 : Int) == 1) = true := by cases items.isEmpty <;> rfl
    wp_walk using wpAny_loadPart' hl
    repeat (first
      | (refine wpAny_ite_true (decide_eq_true c1) ?_; wp_walk using wpAny_loadPart' hl)
      | (refine wpAny_ite_false (decide_eq_false (by decide)) ?_; wp_walk using wpAny_loadPart' hl))
    all_goals first | exact ⟨_, rfl, h⟩ | skip
def rRep1 (K : PySem.W.Frag) : R2 := fun x y H Q => ∃ l xs, x = .ref l ∧ y = .int 1 ∧ SqT K H l xs ∧ Q x H
section
variable {X : Cx}
theorem op_rep1 : OpR X (binaryOp .Mult) (rRep1 X.K) := by
  intro pins s σ H x y v u Q I rx ry h
  obtain ⟨l, xs, rfl, rfl, hT, q⟩ := h
  cases rx
  obtain ⟨t, rfl⟩ := ry
  obtain ⟨its, r, ⟨⟨cls, dd, data, sl⟩, ho, hc, n, hd⟩, hs⟩ := I.tuple hT
  simp only at hc hd
  subst hc hd
  refine wpAny_binaryOp_repeat_ref (T := "tuple") (U := "int") (by decide) ⟨_, ho, rfl⟩ (fun s' => typeIs_int s' 1 t) noFill_tuple_mul F.fills_int_mul F.slot_int_rmul repeat_tuple F.slot_int_index.lookup
    (call_meets F.slot_int_rmul (typeIs_int s 1 t) F.entry_int_rmul (F.args_int_rmul_2 _ _) (int_rmul_tuple 1 t l its.toArray n dd sl)
      ⟨ho, rfl, ⟨_, ho, rfl⟩, call_meets F.slot_tuple_mul ⟨_, ho, rfl⟩ F.entry_tuple_mul (F.args_tuple_mul_2 _ _) (tuple_mul1 l its.toArray n dd sl t) ⟨ho, ?_⟩⟩)
  exact ⟨.ref l, H, I.tok _, rfl, q⟩
end
def repT (x y : D) : Res D := match x, y with
  | .tup ds, .int k => if k = 1 then .ok (.tup ds) else if ds ≠ [] ∧ 2 ≤ k ∧ k ≤ 1000 ∧ ds.length ≤ 1000 then .ok (.tup (List.replicate k.toNat ds).flatten) else .bad
  | _, _ => .bad
def rMulT (K : PySem.W.Frag) : R2 := fun x y H Q => rRep1 K x y H Q ∨ rRepT K x y H Q
theorem os_repT {K : PySem.W.Frag} : OpS K (rMulT K) repT := by
  intro H M x y dx dy Q tk rx ry w
  cases dx with
  | tup ds =>
    cases dy with
    | int k =>
      obtain ⟨p, vs, rfl, h1, z1, q1⟩ := rx.tup_inv
      rw [ry.int_inv]
      simp only [repT] at w
      split at w
      · rename_i h
        subst h
        exact .inl ⟨p, vs, rfl, rfl, h1, w _ _ (.refl _) (.tup' h1 z1 q1)⟩
      · split at w
        · rename_i hc
          refine .inr ⟨p, k, vs, rfl, rfl, h1, ?_, hc.2.1, hc.2.2.1, by rw [q1.len]; exact hc.2.2.2, fun o hn => w _ _ (same_new hn) (.tup' (.of upd_same) ?_ ((rp_rep q1 _).same (same_new hn)))⟩
          · intro e
            have := q1.len
            rw [e] at this
            exact hc.1 (List.length_eq_zero_iff.mp this.symm)
          · rw [rep_len, sizeLine_eq]
            have a1 : ds.length * k.toNat ≤ 1000 * 1000 := Nat.mul_le_mul hc.2.2.2 (by omega)
            omega
        · exact w.elim
    | _ => exact w.elim
  | _ => cases dy <;> exact w.elim
theorem oMulT {X : Cx} {C : Cfg} {W : WX} {k : Nat} (g : Gd X C W k) : OpR X (binaryOp .Mult) (rMulT C.K) := g.kE ▸ op_rep1.or op_repT
end Vm
end
section
set_option maxRecDepth 100000
set_option maxHeartbeats 4000000
/-! Vm, part ZM: dicts whose keys are tuples. -/
namespace Vm
open PySem PySem.Spec PyProof.Rows L2
def keysL : List D → Option (List Key)
  | [] => some []
  | d :: ds => match dkey d, keysL ds with
    | some k, some ks => some (k :: ks)
    | _, _ => none
def tkey (y : D) : Option (List Key) := match y with
  | .tup ds => keysL ds
  | _ => none
def keyD : Key → D
  | .inl i => .int i
  | .inr x => .str x
def tupK (k : List Key) : D := .tup (k.map keyD)
section
variable {K : PySem.W.Frag} {H : Hp} {M : Addr → Prop}
theorem keysL_vs : ∀ {ds : List D} {vs : List V} {ks : List Key}, keysL ds = some ks → RpL K H M ds vs → vs = ks.map kV
  | [], vs, ks, h, r => by
    cases h
    rw [r.nil_inv]
    rfl
  | d :: ds, vs, ks, h, r => by
    obtain ⟨v, ws, rfl, rv, q⟩ := r.cons_inv
    unfold keysL at h
    cases h1 : dkey d with
    | none => rw [h1] at h; simp at h
    | some k =>
      cases h2 : keysL ds with
      | none => rw [h1, h2] at h; simp at h
      | some ks' =>
        rw [h1, h2] at h
        cases h
        rw [dkey_v h1 rv.ro, keysL_vs h2 q]
        rfl
theorem tkey_v {y : D} {v : V} {k : List Key} (h : tkey y = some k) (r : Ro K H M y v) : ∃ b, v = .ref b ∧ SqT K H b (k.map kV) ∧ k.length ≤ sizeLine := by
  cases y with
  | tup ds =>
    obtain ⟨b, vs, rfl, h1, hz, q⟩ := r.tup_inv
    have e := keysL_vs h q
    subst e
    refine ⟨b, rfl, h1, ?_⟩
    have := q.len
    rw [List.length_map] at this
    omega
  | _ => cases h
theorem rp_key {H : Hp} {b : Addr} {k : List Key} (h : H b = some (.tup (k.map kV))) (hz : k.length ≤ sizeLine) : Rp K H M (tupK k) (.ref b) := by
  refine .tup' (.of h) (by rw [List.length_map]; exact hz) ⟨by rw [List.length_map, List.length_map], fun i d v h1 h2 => ?_⟩
  rw [List.getElem?_map] at h1 h2
  cases q : k[i]? with
  | none => rw [q] at h1; cases h1
  | some x =>
    rw [q] at h1 h2
    cases h1
    cases h2
    cases x with
    | inl i => exact .int i
    | inr x => exact .str x
end
section
variable {X : Cx} {pins : List (Addr × Obj)} {σ : L2.St} {H : Hp} {s : Shared} {a b : Addr} {kvs : List (List Key × V)} {k : List Key} {v d : V} {u r : Value} {A : Around} {E : Value → Shared → Prop}
theorem key_is (I : Inv X pins σ H s) (h : SqT X.K H b (k.map kV)) : (tupleKind (mixKind X.prog X.w)).is s.heap k b := by
  obtain ⟨its, r, ⟨o, ho, hc, n, hd⟩, _⟩ := I.tuple h
  exact ⟨o, its.toArray, n, ho, hc, hd, by simpa using items_are r⟩
/-- d[y], d.get(y, z), the key any tuple -/
theorem d_getItemS {Q : Value → Shared → Prop} (hu : A.units + 1 < cLine) (I : Inv X pins σ H s) (e : Rd H a (.dT kvs)) (eb : SqT X.K H b (k.map kV)) (l : valV kvs k = some v) (h : ∀ w' s', Inv X pins σ H s' → RelV v w' → Q w' s') :
    wpAny (model X.prog X.w) A (getItem (.ref a) (.ref b)) Q E s := by
  obtain ⟨z, hd, xs, rel, dd⟩ := dt_rd I.hok e
  obtain ⟨w', hw, rw'⟩ := RelO.some_of (v := v) (o := (atKey xs k).map (·.2)) (by rw [← l]; exact rel.val k)
  obtain ⟨p, hp, hp2⟩ := Option.map_eq_some_iff.mp hw
  refine wpAny_getItem_heap (tupleKind_room_in1 hu) (key_is I eb) dd hp ?_
  rw [hp2]
  exact h w' _ (I.tok _) rw'
theorem d_get2S {Q : Value → Shared → Prop} (hu : A.units + 1 < cLine) (I : Inv X pins σ H s) (e : Rd H a (.dT kvs)) (eb : SqT X.K H b (k.map kV)) (rd : RelV d r) (h : ∀ w' s', Inv X pins σ H s' → RelV ((valV kvs k).getD d) w' → Q w' s') :
    wpAny (model X.prog X.w) A (call (.builtin "dict.get") [.ref a, .ref b, r]) Q E s := by
  obtain ⟨z, hd, xs, rel, dd⟩ := dt_rd I.hok e
  refine call_meetsIn PySem.F.slot_dict_get dd.typeIs PySem.F.entry_dict_get (PySem.F.args_dict_get_3 _ _ _) (meetsH_dict_get_default (tupleKind (mixKind X.prog X.w)) a b hd r) ⟨tupleKind_room_in1 hu, k, xs, key_is I eb, dd, h _ _ (I.tok _) ?_⟩
  exact (rel.val k).getD rd
end
/-- d.get(y, z), of either kind of dict -/
def DGetS (K : PySem.W.Frag) (H : Hp) (a : Addr) (y : V) (r : Option V) : Prop := ∃ kvs k b, Rd H a (.dT kvs) ∧ y = .ref b ∧ SqT K H b (k.map kV) ∧ r = valV kvs k
def tDGetA (K : PySem.W.Frag) (td ty tx : TE) : TE := fun σ H Q => td σ H fun x H1 => ∃ a, x = .ref a ∧ IsD H1 a ∧ ty σ H1 fun y H2 => tx σ H2 fun z H3 => ∃ o, (DGet H3 a y o ∨ DGetS K H3 a y o) ∧ Q (o.getD z) H3
section
variable {X : Cx} {o e f : Expr} {apos cpos : Pos} {td ty tx : TE}
theorem pe_dgetA (hu : X.A.units + 1 < cLine) (ho : PE X o td) (he : PE X e ty) (hf : PE X f tx) (m : M2 X o "get" apos e f cpos) : PE X (.Call (.Attribute o "get" apos) [e, f] [] cpos) (tDGetA X.K td ty tx) := by
  refine ⟨fun pins s σ H Q I h => ?_⟩
  refine wpAny_Call_method m.base m.few m.line PySem.F.plainAttrs_dict PySem.F.slot_dict_get PySem.F.type_dict_get (thn (ho.run pins s σ H _ I h) fun u s1 ⟨x, H1, I1, rx, a, ex, d, q1⟩ => ?_)
  subst ex
  obtain rfl : u = Value.ref a := rx
  obtain ⟨t1, t2, _⟩ := isD_at I1 d
  refine ⟨t1, t2, ?_⟩
  rw [m.trees]
  refine Calls.callWith_builtin rfl (Calls.evalArgs_plain (Calls.spliced_cons (thn (he.run pins s1 σ H1 _ I1 q1) fun iv s2 ⟨y, H2, I2, ry, q2⟩ =>
    Calls.spliced_cons (thn (hf.run pins s2 σ H2 _ I2 q2) fun fv s3 ⟨z, H3, I3, rz, ov, g, q3⟩ => Calls.spliced_nil ?_))))
  rcases g with g | ⟨kvs, k, b, hr, rfl, hb, rfl⟩
  · exact d_get2 hu I3 g ry rz fun w' s4 I4 rw' => ⟨_, H3, I4, rw', q3⟩
  · obtain rfl : iv = Value.ref b := ry
    exact d_get2S hu I3 hr hb rz fun w' s4 I4 rw' => ⟨_, H3, I4, rw', q3⟩
end
section
variable {K : PySem.W.Frag}
theorem Ro.dct_inv' {H : Hp} {M : Addr → Prop} {ds : List (List Key × D)} {v : V} (h : Ro K H M (.dct ds) v) : ∃ a vs, v = .ref a ∧ Rd H a (.dT vs) ∧ ds.length ≤ sizeLine ∧ RpK K H M ds vs := by cases h; exact ⟨_, _, rfl, by assumption, by assumption, by assumption⟩
end
def getA (x y z : D) : Res D := match x with
  | .dic ds => (match dkey y with
    | some k => .ok ((valD ds k).getD z)
    | none => .bad)
  | .dct ds => (match tkey y with
    | some k => .ok ((valD ds k).getD z)
    | none => .bad)
  | _ => .bad
def isDct (x : D) : Bool := match x with
  | .dic _ => true
  | .dct _ => true
  | _ => false
def mGetA (mo me mf : Ev) : Ev := fun env => do
  let r1 ← mo env
  let x1 ← rs r1.2 r1.1
  if isDct x1 = true then do
    let r2 ← me r1.2
    let r3 ← mf r2.2
    let x ← rs r3.2 r1.1
    let y ← rs r3.2 r2.1
    match getA x y r3.1 with
    | .ok d => pure (d, r3.2)
    | _ => .bad
  else .bad
section
variable {X : Cx} {C : Cfg} {W : WX} {k : Nat} {o e f : Expr} {td ty tx : TE} {mo me mf : Ev} {apos cpos : Pos}
theorem em_getA (g : Gd X C W k) (ho : EM X C W o td mo) (he : EM X C W e ty me) (hf : EM X C W f tx mf) (m : M2 X o "get" apos e f cpos) :
    EM X C W (.Call (.Attribute o "get" apos) [e, f] [] cpos) (tDGetA C.K td ty tx) (mGetA mo me mf) := by
  refine ⟨g.kE ▸ pe_dgetA (hu_of g.room) ho.pe he.pe hf.pe m, fun M0 ad σ H env Q R w => ?_⟩
  unfold mGetA at w
  refine ho.sn' R w fun r1 v1 H1 R1 S1 V1 w1 => ?_
  rw [wp_bind] at w1
  obtain ⟨x1, _, w2, rx1⟩ := R1.rs V1 w1
  split at w2
  · rename_i hd
    have hisd : ∃ a, v1 = .ref a ∧ IsD H1 a := by
      cases x1 with
      | dic ds1 => obtain ⟨a, us, rfl, hu1, _, _⟩ := rx1.dic_inv; exact ⟨a, rfl, .inl ⟨us, hu1⟩⟩
      | dct ds1 => obtain ⟨a, us, rfl, hu1, _, _⟩ := rx1.dct_inv; exact ⟨a, rfl, .inr ⟨us, hu1⟩⟩
      | _ => cases hd
    obtain ⟨a, rfl, isd⟩ := hisd
    refine ⟨a, rfl, isd, ?_⟩
    refine he.sn' R1 w2 fun r2 v2 H2 R2 S2 V2 w3 => ?_
    refine hf.sn' R2 w3 fun r3 v3 H3 R3 S3 V3 w4 => ?_
    rw [wp_bind] at w4
    obtain ⟨x, _, w5, rx⟩ := R3.rs ((V1.stp S2).stp S3) w4
    rw [wp_bind] at w5
    obtain ⟨y, _, w6, ry⟩ := R3.rs (V2.stp S3) w5
    cases x with
    | dic ds =>
      simp only [getA] at w6
      cases hk : dkey y with
      | none => rw [hk] at w6; exact w6.elim
      | some kk =>
        rw [hk] at w6
        simp only at w6
        obtain ⟨a', us', e', hu', _, q⟩ := rx.dic_inv
        cases e'
        have ey := dkey_v hk ry
        obtain ⟨q1, q2⟩ := RpK.val q (k := kk)
        refine ⟨valV us' kk, .inl (.inl ⟨us', kk, hu', ey, rfl⟩), ?_⟩
        cases hv : valD ds kk with
        | none =>
          rw [hv] at w6
          rw [q2 hv]
          exact w6 v3 H3 R3 ((S1.trans S2).trans S3) V3
        | some d =>
          rw [hv] at w6
          obtain ⟨v, e1, rv⟩ := q1 d hv
          rw [e1]
          exact w6 v H3 R3 ((S1.trans S2).trans S3) (.of rv)
    | dct ds =>
      simp only [getA] at w6
      cases hk : tkey y with
      | none => rw [hk] at w6; exact w6.elim
      | some kk =>
        rw [hk] at w6
        simp only at w6
        obtain ⟨a', us', e', hu', _, q⟩ := rx.dct_inv
        cases e'
        obtain ⟨b, ey, hb, _⟩ := tkey_v hk ry
        obtain ⟨q1, q2⟩ := RpK.val q (k := kk)
        refine ⟨valV us' kk, .inr ⟨us', kk, b, hu', ey, hb, rfl⟩, ?_⟩
        cases hv : valD ds kk with
        | none =>
          rw [hv] at w6
          rw [q2 hv]
          exact w6 v3 H3 R3 ((S1.trans S2).trans S3) V3
        | some d =>
          rw [hv] at w6
          obtain ⟨v, e1, rv⟩ := q1 d hv
          rw [e1]
          exact w6 v H3 R3 ((S1.trans S2).trans S3) (.of rv)
    | _ => exact w6.elim
  · exact w2.elim
end
/-! ### d[y] -/
def rIxS (K : PySem.W.Frag) : R2 := fun x y H Q => ∃ a v, x = .ref a ∧ DGetS K H a y (some v) ∧ Q v H
theorem ix_dct {X : Cx} (hu : X.A.units + 1 < cLine) : IxR X (rIxS X.K) := by
  intro value slice pins s σ H x y v u Q I rx ry h hs
  obtain ⟨a, r, rfl, ⟨kvs, k, b, hr, rfl, hb, l⟩, q⟩ := h
  obtain rfl : v = Value.ref a := rx
  obtain rfl : u = Value.ref b := ry
  obtain ⟨_, _, xs, _, dd⟩ := dt_rd I.hok hr
  refine tail_any dd.typeIs slot_dict_getitem.lookup ?_ hs
  exact d_getItemS hu I hr hb l.symm fun w' s' I' rw' => ⟨r, H, I', rw', q⟩
def ixT (x y : D) : Res D := match x with
  | .dct ds => (match tkey y with
    | some k => (match valD ds k with | some d => .ok d | none => .bad)
    | none => .bad)
  | x => ixA x y
def rIxT (K : PySem.W.Frag) : R2 := fun x y H Q => rIxS K x y H Q ∨ rIxA K x y H Q
theorem iIxT {X : Cx} {C : Cfg} {W : WX} {k : Nat} (g : Gd X C W k) : IxR X (rIxT C.K) := g.kE ▸ (ix_dct (hu_of g.room)).or (ir_ixA g.room)
theorem os_ixT {K : PySem.W.Frag} : OpS K (rIxT K) ixT := by
  intro H M x y dx dy Q tk rx ry w
  cases dx with
  | dct ds =>
    obtain ⟨a, us, rfl, h, z, q⟩ := rx.dct_inv
    simp only [ixT] at w
    cases e : tkey dy with
    | none => rw [e] at w; exact w.elim
    | some k =>
      rw [e] at w
      simp only at w
      cases e2 : valD ds k with
      | none => rw [e2] at w; exact w.elim
      | some d =>
        rw [e2] at w
        obtain ⟨v, e3, r⟩ := (q.val (k := k)).1 d e2
        obtain ⟨b, ey, hb, _⟩ := tkey_v e ry
        exact .inl ⟨a, v, rfl, ⟨us, k, b, h, ey, hb, e3.symm⟩, w _ _ (.refl _) r⟩
  | _ => exact .inr (os_ixA H M x y _ dy Q tk rx ry w)
/-! ### {} -/
def mDicT0 : Ev := fun env => .ok (.dct [], env)
theorem ef_dicT0 {X : Cx} {C : Cfg} {W : WX} {pos : Pos} : EF X C W (.Dict [] [] pos) tDNewT mDicT0 := by
  refine ⟨pe_dnewT, fun M0 ad σ H env Q R w => ?_⟩
  refine fun p hn => w p _ hn (R.growAdd (same_new hn) hn (by rw [upd_same]; exact fun z => nomatch z)) (.grow (same_new hn)) ⟨Nat.zero_le _, [], upd_same, rfl, fun i p q e _ => by simp at e, fun i p q e _ => by simp at e⟩
/-! ### list(d) -/
def lstT (x : D) : Res D := match x with
  | .dct ds => if (ds.all fun p => decide (p.1.length ≤ 1000)) = true then .ok (.lst (ds.map fun p => tupK p.1)) else .bad
  | x => lstD x
theorem paired_at {α β : Type} {R : α → β → Prop} {xs : List α} {ys : List β} (h : Paired R xs ys) : ∀ {i : Nat} {x : α} {y : β}, xs[i]? = some x → ys[i]? = some y → R x y := by
  induction h with
  | nil => intro i x y h1; cases i <;> cases h1
  | cons r t ih =>
    intro i x y h1 h2
    cases i with
    | zero => simp at h1 h2; subst h1 h2; exact r
    | succ i => exact ih (by simpa using h1) (by simpa using h2)
theorem cListT {X : Cx} {C : Cfg} {W : WX} {k : Nat} (g : Gd X C W k) : CallR X (.type "list") (fun xs H Q => (∃ d kvs, xs = [V.ref d] ∧ Rd H d (.dT kvs) ∧ ∀ p bs, H p = none → IsKeys H kvs bs → Q (.ref p) (upd H p (.lst (bs.map V.ref)))) ∨
    ∃ p ys, xs = [.ref p] ∧ (SqL C.K H p ys ∨ SqT C.K H p ys) ∧ ∀ l, H l = none → Q (.ref l) (upd H l (.lst ys))) := (call_list_dT g.calm).or (cList g)
theorem cf_listT {K : PySem.W.Frag} : CallF K (fun xs H Q => (∃ d kvs, xs = [V.ref d] ∧ Rd H d (.dT kvs) ∧ ∀ p bs, H p = none → IsKeys H kvs bs → Q (.ref p) (upd H p (.lst (bs.map V.ref)))) ∨
    ∃ p ys, xs = [.ref p] ∧ (SqL K H p ys ∨ SqT K H p ys) ∧ ∀ l, H l = none → Q (.ref l) (upd H l (.lst ys))) (one lstT) := by
  intro H M vs ds Q tk r w
  obtain ⟨d, rfl, w1⟩ := one_inv w
  cases d with
  | dct xs =>
    obtain ⟨v, rfl, rv⟩ := r.one
    obtain ⟨a, us, rfl, h, z, q⟩ := rv.dct_inv
    simp only [lstT] at w1
    split at w1
    rotate_left
    · exact w1.elim
    rename_i hall
    refine .inl ⟨a, us, rfl, h, fun p bs hn hk => w1 _ _ hn (same_new hn) ?_⟩
    refine cell_new ⟨by rw [List.length_map, List.length_map, ← q.len]; exact (Paired.length hk).symm, fun i d v h1 h2 => ?_⟩ hn (by rw [List.length_map]; exact z)
    rw [List.getElem?_map] at h1 h2
    cases e1 : xs[i]? with
    | none => rw [e1] at h1; cases h1
    | some x =>
      cases e2 : bs[i]? with
      | none => rw [e2] at h2; cases h2
      | some b =>
        rw [e1] at h1
        rw [e2] at h2
        cases h1
        cases h2
        have hl : i < us.length := by rw [q.len]; exact (List.getElem?_eq_some_iff.mp e1).1
        have e3 : us[i]? = some us[i] := List.getElem?_eq_getElem hl
        have e4 := paired_at hk e3 e2
        rw [q.key i x _ e1 e3] at e4
        have := of_decide_eq_true (List.all_eq_true.mp hall _ (List.mem_of_getElem? e1))
        exact rp_key e4 (Nat.le_trans this (by decide))
  | _ => exact .inr (cf_list H M vs _ Q tk r w)
/-! ### d[a, b] = v -/
def mPutT (i : Nat) (ms : Evs) (mv : Ev) : Sv := fun env => do
  let r1 ← mv env
  let d ← kp r1.1
  match r1.2[i]?.bind Sl.con with
  | some _ => do
    let r2 ← ms r1.2
    let ys ← kpL r2.1
    match keysL ys with
    | some kk => (match r2.2[i]? with
      | some s => (match s.con with
        | some (.dct ds) => if ds.length < sizeLine ∧ ys.length ≤ 1000 then pure (.next, r2.2.set i (s.put (.dct (putD ds kk d)))) else .bad
        | _ => .bad)
      | none => .bad)
    | none => .bad
  | none => .bad
section
variable {X : Cx} {C : Cfg} {W : WX} {k : Nat} {pos : Pos}
theorem sm_putT (i : Nat) {y : Str} {py p2 tp : Pos} {es : List Expr} {x1} {ev : Expr} {ti : TA} {tv : TE} {ms : Evs} {mv : Ev} (g : Gd X C W k) (hi : AM X C W es ti ms) (hv : EM X C W ev tv mv) (hN : X.N[i]? = some y := by rfl) (hvi : Vis X.env.scope y := by first | exact Or.inl rfl | exact Or.inr (Or.inl rfl) | exact Or.inr (Or.inr rfl)) (hd : (y == ("__debug__" : Str)) = false := by decide)
    (hcd : (y == ("__classdict__" : Str)) = false := by decide)
    (ha : ∀ v, assign (.Subscript (.Name y py) (.Tuple es x1 tp) p2) X.env v = (do
      let ov ← holding [v] (eval (.Name y py) X.env)
      let iv ← holding [v, ov] (eval (.Tuple es x1 tp) X.env)
      standAt p2
      holding [v, ov, iv] (setItem ov iv v)
      release [v, ov, iv] []) := by intro _; rfl)
    (hs : swapsWithSole [.Subscript (.Name y py) (.Tuple es x1 tp) p2] ev pos.line X.env = pure false := by rfl) (hw : swappedStores [.Subscript (.Name y py) (.Tuple es x1 tp) p2] ev X.env = pure none := by rfl)
    (h1 : (assignEach [.Subscript (.Name y py) (.Tuple es x1 tp) p2] X.env).map (·.2) = [assign (.Subscript (.Name y py) (.Tuple es x1 tp) p2) X.env] := by rfl) :
    SM X C W (.Assign [.Subscript (.Name y py) (.Tuple es x1 tp) p2] ev pos) (tAsg tv (gSub (tVar i) (tTup ti) rSetA)) (mPutT i ms mv) := by
  refine ⟨ps_asg hv.pe (pg_sub (pe_var hN hvi hd hcd) (pe_tup hi.pe) (set_any g.room) ha) hs hw h1, fun ad σ H env Dn R w => ?_⟩
  unfold mPutT at w
  refine hv.st R w fun r1 v H1 R1 S1 V1 w1 => ?_
  rw [wp_bind] at w1
  obtain ⟨_, w2, rv⟩ := kp_rp V1 w1
  cases z : r1.2[i]? with
  | none => rw [z] at w2; exact w2.elim
  | some s0 =>
    rw [z] at w2
    simp only [Option.bind_some] at w2
    cases zc : s0.con with
    | none => rw [zc] at w2; exact w2.elim
    | some c0 =>
      rw [zc] at w2
      obtain ⟨hσ, _⟩ := R1.con z zc
      refine ⟨.ref (ad i), hσ, ?_⟩
      rw [wp_bind] at w2
      refine hi.sn C.M0 ad σ H1 _ _ R1 (w2.imp (fun r2 w3 vs H2 R2 S2 V2 => ?_) fun _ z => z.er)
      rw [wp_bind] at w3
      obtain ⟨w4, rx⟩ := kpL_rp V2 w3
      cases hk : keysL r2.1 with
      | none => rw [hk] at w4; exact w4.elim
      | some kk =>
        rw [hk] at w4
        simp only at w4
        cases z2 : r2.2[i]? with
        | none => rw [z2] at w4; exact w4.elim
        | some s =>
          rw [z2] at w4
          simp only at w4
          cases zc2 : s.con with
          | none => rw [zc2] at w4; exact w4.elim
          | some c =>
            rw [zc2] at w4
            cases c with
            | dct ds =>
              simp only at w4
              by_cases hz : ds.length < sizeLine ∧ r2.1.length ≤ 1000
              · rw [if_pos hz] at w4
                have ev := keysL_vs hk rx
                refine ⟨by rw [rx.len]; exact Nat.le_trans hz.2 (by decide), fun p hn => ?_⟩
                have R3 := R2.grow (same_new hn (o := .tup vs))
                have S3 : Stp C ad H1 r1.2 (upd H2 p (.tup vs)) r2.2 := S2.trans (.grow (same_new hn))
                obtain ⟨_, hc⟩ := R3.con z2 zc2
                have rv2 : Rp C.K (upd H2 p (.tup vs)) (Mo C r2.2 ad) r1.1 v := S3.rp rv
                have hM : Ow r2.2 ad (ad i) := ⟨i, s, z2, Sl.isMut.own (Sl.con_mut zc2), rfl⟩
                have ck := hc.kind
                generalize hH3 : upd H2 p (.tup vs) = H3 at *
                have hp : H3 p = some (.tup (kk.map kV)) := by rw [← hH3, upd_same, ev]
                have xt : ∀ o, Ext (Mo C r2.2 ad) H3 (upd H3 (ad i) o) := fun o => by
                  refine ⟨fun b o e hn _ => by rw [upd_ne (fun q : b = ad i => hn (.inr (q ▸ hM)))]; exact e, fun b xs e => ?_, fun b o u e => ?_, fun b e => ?_⟩
                  · by_cases q : b = ad i
                    · rw [q] at e; exact absurd e (ck.1 xs)
                    · rw [upd_ne q]; exact e
                  · by_cases q : b = ad i
                    · rw [q] at e; exact absurd e (ck.2 _ _)
                    · rw [upd_ne q]; exact e
                  · by_cases q : b = ad i
                    · rw [q, upd_same]; exact fun z => nomatch z
                    · rw [upd_ne q]; exact e
                have kk' : ∀ o' b o, H3 b = some o → b ≠ ad i → upd H3 (ad i) o' b = some o := fun o' b o e hb => by rw [upd_ne hb]; exact e
                obtain ⟨z3, us, hu, ru⟩ := hc
                refine .inr ⟨ad i, _, rfl, DPut.t hu hp (by rw [ru.len]; exact hz.1), ?_⟩
                obtain ⟨R4, S4⟩ := R3.put (d := .dct (putD ds kk r1.1)) (H' := upd H3 (ad i) (.dT (putK us kk v))) z2 (Sl.con_mut zc2) (kk' _) ⟨Nat.le_trans (length_putD _ _ _) hz.1, _, upd_same, (ru.put rv2).ext (xt _) fun b q => .inl q⟩
                exact w4 ad σ _ R4 ((S1.trans S3).trans S4).keep
              · rw [if_neg hz] at w4
                exact w4.elim
            | _ => exact w4.elim
end
end Vm
end
section
set_option maxRecDepth 100000
set_option maxHeartbeats 4000000
/-! Vm, part ZN: sorted(set(xs)), xs a list of pairs of ints from 0 to 63. -/
namespace Vm
open PySem PySem.Spec PyProof.Rows L2
def dedR : List (List Int) → List (List Int)
  | [] => []
  | x :: xs => if x ∈ xs then dedR xs else x :: dedR xs
theorem dedR_mem (j : List Int) : ∀ ns : List (List Int), j ∈ dedR ns ↔ j ∈ ns
  | [] => Iff.rfl
  | x :: xs => by
    unfold dedR
    split
    · rename_i h
      rw [dedR_mem j xs, List.mem_cons]
      exact ⟨.inr, fun z => z.elim (fun z => z ▸ h) id⟩
    · rw [List.mem_cons, List.mem_cons, dedR_mem j xs]
theorem dedR_nodup : ∀ ns : List (List Int), (dedR ns).Nodup
  | [] => List.nodup_nil
  | x :: xs => by
    unfold dedR
    split
    · exact dedR_nodup xs
    · rename_i h
      exact List.nodup_cons.mpr ⟨fun z => h ((dedR_mem x xs).mp z), dedR_nodup xs⟩
theorem dedR_len : ∀ ns : List (List Int), (dedR ns).length ≤ ns.length
  | [] => Nat.le_refl _
  | x :: xs => by
    have := dedR_len xs
    unfold dedR
    split
    · rw [List.length_cons]; omega
    · rw [List.length_cons, List.length_cons]; omega
def usR (bs : List (List Int)) : List (List Int) := sortR (dedR bs)
theorem usR_mem (bs : List (List Int)) (j : List Int) : j ∈ usR bs ↔ j ∈ bs := by
  unfold usR
  rw [(sortR_perm _).mem_iff, dedR_mem]
theorem usR_nodup (bs : List (List Int)) : (usR bs).Nodup := (sortR_perm _).nodup_iff.mpr (dedR_nodup bs)
def ok2 (b : List Int) : Bool := match b with
  | [x, y] => decide (0 ≤ x ∧ x < 64 ∧ 0 ≤ y ∧ y < 64)
  | _ => false
theorem ok2_inv {b : List Int} (h : ok2 b = true) : ∃ x y, b = [x, y] ∧ 0 ≤ x ∧ x < 64 ∧ 0 ≤ y ∧ y < 64 := by
  match b, h with
  | [x, y], h => exact ⟨x, y, rfl, of_decide_eq_true h⟩
def soSetT (x : D) : Res D := match x with
  | .lst ds => (match rowsD ds with
    | some bs => if bs.length < 64 ∧ bs.all ok2 = true then .ok (.lst ((usR bs).map rowD)) else .bad
    | none => .bad)
  | _ => .bad
theorem leR2 (a b c d : Int) : leR [a, b] [c, d] = decide (a < c ∨ (a = c ∧ b ≤ d)) := by
  unfold leR
  congr 1
  rw [List.cons_le_cons_iff, List.cons_le_cons_iff]
  apply propext
  constructor
  · rintro (h | ⟨h, h2 | ⟨h2, h3⟩⟩)
    · exact .inl h
    · exact .inr ⟨h, by omega⟩
    · exact .inr ⟨h, by omega⟩
  · rintro (h | ⟨h, h2⟩)
    · exact .inl h
    · refine .inr ⟨h, ?_⟩
      by_cases e : b = d
      · exact .inr ⟨e, List.le_refl _⟩
      · exact .inl (by omega)
theorem leR_total (a b : List Int) : (leR a b || leR b a) = true := by
  unfold leR
  rw [Bool.or_eq_true, decide_eq_true_eq, decide_eq_true_eq]
  exact List.le_total a b
theorem leR_trans (a b c : List Int) (h1 : leR a b = true) (h2 : leR b c = true) : leR a c = true := by
  unfold leR at *
  rw [decide_eq_true_eq] at *
  exact List.le_trans h1 h2
theorem leR_anti {a b : List Int} (h1 : leR a b = true) (h2 : leR b a = true) : a = b := by
  unfold leR at *
  rw [decide_eq_true_eq] at *
  exact List.le_antisymm h1 h2
theorem sortR_sorted (bs : List (List Int)) : (sortR bs).Pairwise fun a b => leR a b = true := List.pairwise_mergeSort leR_trans leR_total _
theorem usR_uniq {bs cs : List (List Int)} (hn : cs.Nodup) (hm : ∀ j, j ∈ cs ↔ j ∈ bs) (hs : cs.Pairwise fun a b => leR a b = true) : cs = usR bs := by
  have hp : cs.Perm (usR bs) := (List.perm_ext_iff_of_nodup hn (usR_nodup bs)).mpr fun j => (hm j).trans (usR_mem bs j).symm
  exact hp.eq_of_pairwise (fun a b _ _ h1 h2 => leR_anti h1 h2) hs (sortR_sorted _)
section
variable {K : PySem.W.Frag}
theorem rows_addr {H : Hp} {M : Addr → Prop} : ∀ {bs : List (List Int)} {us : List V}, RpL K H M (bs.map rowD) us → ∃ ks : List (Addr × List Int), us = ks.map (fun p => V.ref p.1) ∧ ks.map (·.2) = bs ∧ ∀ p ∈ ks, SqT K H p.1 (p.2.map V.int)
  | [], us, r => ⟨[], r.nil_inv, rfl, fun p hp => by cases hp⟩
  | b :: bs, us, r => by
    obtain ⟨v, ws, rfl, rv, q⟩ := r.cons_inv
    obtain ⟨ks, rfl, e2, h⟩ := rows_addr q
    obtain ⟨t, rfl, ht⟩ := row_is rv
    exact ⟨(t, b) :: ks, rfl, by rw [List.map_cons, e2], fun p hp => by
      rcases List.mem_cons.mp hp with rfl | hp
      · exact ht
      · exact h p hp⟩
end
section
variable {X : Cx} {C : Cfg} {W : WX} {k : Nat} {a : Expr} {ta : TE} {ma : Ev}
def tSoSetT (K : PySem.W.Frag) (P : Program) (w : World) (ta : TE) : TE := tCB (rSortedT K P w) (tCons (tCB (rSetOfT K P w) (tCons ta tNil)) tNil)
theorem ef_soSetT {p p2 q pos : Pos} (g : Gd X C W k) (hg : Gl X "sorted") (hm : X.mg "sorted" = none) (hv : bootBuiltins "sorted" = some (.builtin "sorted")) (hg2 : Gl X "set") (hm2 : X.mg "set" = none) (hv2 : bootBuiltins "set" = some (.type "set")) (ha : EM X C W a ta ma)
    (st1 : starEach [a] X.env = (false, eval a X.env) :: starEach [] X.env := by rfl) (st2 : starEach [.Call (.Name "set" p2) [a] [] q] X.env = (false, eval (.Call (.Name "set" p2) [a] [] q) X.env) :: starEach [] X.env := by rfl)
    (pl1 : (backTo q (starEach [] X.env)).any (·.1) = false := by rfl) (pl2 : (backTo pos (starEach [] X.env)).any (·.1) = false := by rfl) :
    EF X C W (.Call (.Name "sorted" p) [.Call (.Name "set" p2) [a] [] q] [] pos) (tSoSetT C.K X.prog X.w ta) (mUn1 soSetT ma) := by
  refine ⟨g.kE ▸ pe_callB (cr_sortedT g.calm) hg hm hv (pa_cons (pe_callTy (cr_setOfT g.calm (by have := g.room.un; omega)) hg2 hm2 hv2 (pa_cons ha.pe pa_nil st1) (by decide) (by decide) st1 pl1) pa_nil st2) (by decide) (by decide) st2 pl2, fun M0 ad σ H env Q R w => ?_⟩
  unfold mUn1 at w
  show ta σ H _
  refine ha.sn' R w fun r v H1 R1 S1 V1 w1 => ?_
  rw [wp_bind] at w1
  obtain ⟨y, _, w2, ry⟩ := R1.rs V1 w1
  cases y with
  | lst ds =>
    obtain ⟨l, us, rfl, hl, hz, qr⟩ := ry.lst_inv
    simp only [soSetT] at w2
    cases hn : rowsD ds with
    | none => rw [hn] at w2; exact w2.elim
    | some bs =>
      rw [hn] at w2
      obtain ⟨e1, _⟩ := rows_eq hn
      subst e1
      simp only at w2
      split at w2
      · rename_i w3 hd
        split at hd
        · rename_i hc
          cases hd
          obtain ⟨ks, rfl, eb, hk⟩ := rows_addr qr
          have kb : ∀ p ∈ ks, ok2 p.2 = true := fun p hp => List.all_eq_true.mp hc.2 _ (by rw [← eb]; exact List.mem_map_of_mem hp)
          have kl : ks.length < 64 := by
            have := congrArg List.length eb
            rw [List.length_map] at this
            omega
          refine ⟨l, ks, rfl, .of hl, hk, kl, fun b L hbn hsub hall => ?_⟩
          have hk2 : ∀ p ∈ L, SqT C.K (upd H1 b (SetTO X.prog X.w b L)) p.1 (p.2.map V.int) := fun p hp => (Ext.of_same (M := fun _ => False) (same_new hbn)).sq (hk p (hsub p hp))
          refine ⟨b, L, 2, 64, rfl, upd_same, hk2, by decide, fun p hp => ?_, fun L' p pm nd few pw hpn => ?_⟩
          · obtain ⟨x, y, e, h0, h1, h2, h3⟩ := ok2_inv (kb p (hsub p hp))
            rw [e]
            refine ⟨rfl, ?_⟩
            intro z hz
            simp at hz
            rcases hz with rfl | rfl
            · exact ⟨h0, h1⟩
            · exact ⟨h2, h3⟩
          have memL : ∀ q ∈ L', q ∈ L := fun q hq => pm.mem_iff.mp hq
          have e : L'.map (·.2) = usR bs := by
            refine usR_uniq nd (fun j => ?_) ?_
            · constructor
              · intro hj
                obtain ⟨q, hq, rfl⟩ := List.mem_map.mp hj
                rw [← eb]
                exact List.mem_map_of_mem (hsub q (memL q hq))
              · intro hj
                rw [← eb] at hj
                obtain ⟨q, hq, rfl⟩ := List.mem_map.mp hj
                have := hall q hq
                obtain ⟨t, ht, e⟩ := List.mem_map.mp this
                rw [← e]
                exact List.mem_map_of_mem (pm.mem_iff.mpr ht)
            · refine List.pairwise_map.mpr (List.Pairwise.imp_of_mem (fun {q t} hq ht h => ?_) ((List.pairwise_map.mp nd).and pw))
              obtain ⟨x, y, e1, a0, a1, a2, a3⟩ := ok2_inv (kb q (hsub q (memL q hq)))
              obtain ⟨x', y', e2, b0, b1, b2, b3⟩ := ok2_inv (kb t (hsub t (memL t ht)))
              obtain ⟨hne, hle⟩ := h
              rw [e1, e2] at hne hle
              have := pair_lt hle hne ⟨a0, a1⟩ ⟨a2, a3⟩ ⟨b0, b1⟩ ⟨b2, b3⟩
              rw [e1, e2, leR2, decide_eq_true_eq]
              omega
          have sm1 := same_new hbn (o := SetTO X.prog X.w b L)
          have R2 := R1.grow sm1
          have S2 := S1.trans (.grow sm1)
          have RpI : RpL C.K (upd H1 b (SetTO X.prog X.w b L)) (Mo (C.w M0) r.2 ad) ((usR bs).map rowD) (L'.map fun q => V.ref q.1) := by
            rw [← e]
            refine ⟨by rw [List.length_map, List.length_map, List.length_map], fun i d v h1 h2 => ?_⟩
            rw [List.getElem?_map] at h1 h2
            rw [List.getElem?_map] at h1
            cases q : L'[i]? with
            | none => rw [q] at h1; cases h1
            | some z =>
              rw [q] at h1 h2
              cases h1
              cases h2
              have hz := memL z (List.mem_of_getElem? q)
              have hlen : (z.2.map D.int).length ≤ sizeLine := by
                obtain ⟨x, y, e1, _⟩ := ok2_inv (kb z (hsub z hz))
                rw [e1, sizeLine_eq]
                show 2 ≤ _
                omega
              exact .tup' (hk2 z hz) hlen .of_ints
          generalize upd H1 b (SetTO X.prog X.w b L) = H2 at *
          refine w2 p _ ?_ (R2.growAdd (same_new hpn) hpn (by rw [upd_same]; exact fun z => nomatch z)) (S2.trans (.grow (same_new hpn))) ?_
          · cases z : H p with
            | none => rfl
            | some o => exact absurd hpn (S2.ext.trk p (by rw [z]; exact fun z => nomatch z))
          · refine (cell_new (M := Mo (C.w M0) r.2 ad) RpI hpn ?_).ext rfl .refl fun b z => .inl (mo_add.mp z)
            rw [List.length_map]
            have h1 : (usR bs).length ≤ bs.length := by
              unfold usR
              rw [sortR_len]
              exact dedR_len bs
            exact Nat.le_trans h1 (Nat.le_trans (Nat.le_of_lt hc.1) (by decide))
        · cases hd
      · exact w2.elim
  | _ => exact w2.elim
end
end Vm
end
section
set_option maxRecDepth 100000
set_option maxHeartbeats 4000000
/-! Vm, part ZO: xs.index(i), a list of ints; xs.insert(i, v), an own list. -/
namespace Vm
open PySem PySem.Spec PyProof.Rows L2
def idxI : List Int → Int → Option Nat
  | [], _ => none
  | n :: ns, i => if n = i then some 0 else (idxI ns i).map (· + 1)
theorem idxI_at : ∀ {ns : List Int} {i : Int} {j : Nat}, idxI ns i = some j → ns[j]? = some i ∧ ∀ m z, m < j → ns[m]? = some z → z ≠ i
  | [], i, j, h => by cases h
  | n :: ns, i, j, h => by
    unfold idxI at h
    split at h
    · rename_i e
      cases h
      exact ⟨by simp [e], fun m z hm => absurd hm (Nat.not_lt_zero _)⟩
    · rename_i hne
      cases q : idxI ns i with
      | none => rw [q] at h; cases h
      | some k =>
        rw [q] at h
        cases h
        obtain ⟨a, b⟩ := idxI_at q
        refine ⟨by simpa using a, fun m z hm hz => ?_⟩
        cases m with
        | zero => simp at hz; rw [← hz]; exact hne
        | succ m => exact b m z (Nat.lt_of_succ_lt_succ hm) (by simpa using hz)
def mIndex (mo me : Ev) : Ev := fun env => do
  let r1 ← mo env
  let x1 ← rs r1.2 r1.1
  match x1 with
  | .lst _ => do
    let r2 ← me r1.2
    let x ← rs r2.2 r1.1
    match x, r2.1 with
    | .lst ds, .int i => (match intsD ds with
      | some ns => (match idxI ns i with
        | some j => pure (.int j, r2.2)
        | none => .bad)
      | none => .bad)
    | _, _ => .bad
  | _ => .bad
section
variable {X : Cx} {C : Cfg} {W : WX} {k : Nat} {o e : Expr} {td ty : TE} {mo me : Ev} {apos cpos : Pos}
theorem em_index (g : Gd X C W k) (ho : EM X C W o td mo) (he : EM X C W e ty me) (hbase : attributeBase o "index" X.env (eval o X.env) = eval o X.env := by rfl)
    (hfew : ((backTo cpos (starEach [e] X.env)).all (fun x => !x.1) && (backToKw cpos (keywordEach [] X.env)).all (fun x => x.1.isSome)
      && decide ([e].length + ([] : List Keyword).length + (if ([] : List Keyword).isEmpty then 0 else 1) < 30)) = true := by rfl)
    (hline : (apos.endLine == cpos.line) = true := by rfl) (hs : starEach [e] X.env = (false, eval e X.env) :: starEach [] X.env := by rfl) (hplain : (backTo cpos (starEach [] X.env)).any (·.1) = false := by rfl) :
    EM X C W (.Call (.Attribute o "index" apos) [e] [] cpos) (tBM C.K "list" (rIndex C.K) td (tCons ty tNil)) (mIndex mo me) := by
  refine ⟨g.kE ▸ pe_bm PySem.F.plainAttrs_list PySem.F.slot_list_index PySem.F.type_list_index mt_index ho.pe (pa_cons he.pe pa_nil hs) hbase hfew hline hs hplain, fun M0 ad σ H env Q R w => ?_⟩
  unfold mIndex at w
  refine ho.sn' R w fun r1 v1 H1 R1 S1 V1 w1 => ?_
  rw [wp_bind] at w1
  obtain ⟨x1, _, w2, rx1⟩ := R1.rs V1 w1
  cases x1 with
  | lst ds1 =>
    simp only at w2
    obtain ⟨a, us, rfl, hu1, _, _⟩ := rx1.lst_inv
    refine ⟨.inl ⟨rfl, us, .of hu1⟩, ?_⟩
    refine he.sn' R1 w2 fun r2 v2 H2 R2 S2 V2 w3 => ?_
    rw [wp_bind] at w3
    obtain ⟨x, _, w4, rx⟩ := R2.rs (V1.stp S2) w3
    cases hr : r2.1 with
    | int i =>
      rw [hr] at w4 V2
      cases x with
      | lst ds =>
        simp only at w4
        cases hn : intsD ds with
        | none => rw [hn] at w4; exact w4.elim
        | some ns =>
          rw [hn] at w4
          simp only at w4
          cases hj : idxI ns i with
          | none => rw [hj] at w4; exact w4.elim
          | some j =>
            rw [hj] at w4
            simp only at w4
            obtain ⟨a', us', e', hu', _, q⟩ := rx.lst_inv
            cases e'
            cases ints_eq hn
            have eu := q.ints
            subst eu
            have hv2 : v2 = .int i := by cases V2; rfl
            subst hv2
            obtain ⟨h1, h2⟩ := idxI_at hj
            refine ⟨a, ns.map V.int, .int i, j, .int i, rfl, rfl, .of hu', rfl, ?_, by rw [List.getElem?_map, h1]; rfl, by simp [eqV], fun m z hm hz => ?_, w4 _ H2 R2 (S1.trans S2) (.of (.int _))⟩
            · rw [List.all_eq_true]
              intro x hx
              obtain ⟨n, _, rfl⟩ := List.mem_map.mp hx
              rfl
            · rw [List.getElem?_map] at hz
              cases q2 : ns[m]? with
              | none => rw [q2] at hz; cases hz
              | some n =>
                rw [q2] at hz
                cases hz
                have := h2 m n hm q2
                show (n == i) = false
                exact beq_eq_false_iff_ne.mpr this
      | _ => exact w4.elim
    | _ =>
      rw [hr] at w4
      cases x <;> exact w4.elim
  | _ => exact w2.elim
end
@[simp] theorem z_mIndex (mo me : Ev) (env : Sls) : mIndex mo me env = (do
  let r1 ← mo env
  let x1 ← rs r1.2 r1.1
  match x1 with
  | .lst _ => do
    let r2 ← me r1.2
    let x ← rs r2.2 r1.1
    match x, r2.1 with
    | .lst ds, .int i => (match intsD ds with
      | some ns => (match idxI ns i with
        | some j => pure (.int j, r2.2)
        | none => .bad)
      | none => .bad)
    | _, _ => .bad
  | _ => .bad) := rfl
/-! ### insert -/
def mIns (i : Nat) (m mv : Ev) : Ev := fun env =>
  match env[i]?.bind Sl.con with
  | some (.lst _) => do
    let r ← m env
    let q ← mv r.2
    let d ← kp q.1
    match q.2[i]? with
    | some s => (match s.con, r.1 with
      | some (.lst ds), .int j => if ds.length < sizeLine ∧ 0 ≤ j ∧ j < 2 ^ 63 then pure (.non, q.2.set i (s.put (.lst (ds.take j.toNat ++ [d] ++ ds.drop j.toNat)))) else .bad
      | _, _ => .bad)
    | _ => .bad
  | _ => .bad
section
variable {X : Cx} {C : Cfg} {W : WX} {k : Nat} {e f : Expr} {ta tf : TE} {m mf : Ev} {pos : Pos}
theorem em_insert (i : Nat) {y : Str} {py apos : Pos} (g : Gd X C W k) (he : EM X C W e ta m) (hf : EM X C W f tf mf) (hN : X.N[i]? = some y := by rfl) (hv : Vis X.env.scope y := by first | exact Or.inl rfl | exact Or.inr (Or.inl rfl) | exact Or.inr (Or.inr rfl)) (hd : (y == ("__debug__" : Str)) = false := by decide)
    (hcd : (y == ("__classdict__" : Str)) = false := by decide) (hbase : attributeBase (.Name y py) "insert" X.env (eval (.Name y py) X.env) = eval (.Name y py) X.env := by rfl)
    (hfew : ((backTo pos (starEach [e, f] X.env)).all (fun x => !x.1) && (backToKw pos (keywordEach [] X.env)).all (fun x => x.1.isSome)
      && decide ([e, f].length + ([] : List Keyword).length + (if ([] : List Keyword).isEmpty then 0 else 1) < 30)) = true := by rfl)
    (hline : (apos.endLine == pos.line) = true := by rfl) (hs : starEach [e, f] X.env = (false, eval e X.env) :: starEach [f] X.env := by rfl) (hs2 : starEach [f] X.env = (false, eval f X.env) :: starEach [] X.env := by rfl) (hplain : (backTo pos (starEach [f] X.env)).any (·.1) = false := by rfl) :
    EM X C W (.Call (.Attribute (.Name y py) "insert" apos) [e, f] [] pos) (tBM C.K "list" (fun x vs H Q => ∃ (l : Addr) (xs : List V) (i : Int) (y : V), x = .ref l ∧ vs = [.int i, y] ∧ H l = some (.lst xs) ∧ xs.length < sizeLine ∧ 0 ≤ i ∧ i < 2 ^ 63 ∧
      Q .non (upd H l (.lst (xs.take i.toNat ++ [y] ++ xs.drop i.toNat)))) (tVar i) (tCons ta (tCons tf tNil))) (mIns i m mf) := by
  refine ⟨g.kE ▸ pe_bm PySem.F.plainAttrs_list PySem.F.slot_list_insert PySem.F.type_list_insert mt_insert (pe_var hN hv hd hcd) (pa_cons he.pe (pa_cons hf.pe pa_nil hs2) hs) hbase hfew hline hs hplain, fun M0 ad σ H env Q R w => ?_⟩
  unfold mIns at w
  cases z : env[i]? with
  | none => rw [z] at w; exact w.elim
  | some s0 =>
    rw [z] at w
    simp only [Option.bind_some] at w
    cases zc : s0.con with
    | none => rw [zc] at w; exact w.elim
    | some c0 =>
      rw [zc] at w
      cases c0 with
      | lst ds0 =>
        obtain ⟨hσ, _, us0, hu0, _⟩ := R.con z zc
        refine ⟨.ref (ad i), hσ, .inl ⟨rfl, us0, .of hu0⟩, ?_⟩
        refine he.sn' R w fun r v H1 R1 S1 V1 w1 => ?_
        refine hf.sn' R1 w1 fun q v2 H2 R2 S2 V2 w2 => ?_
        rw [wp_bind] at w2
        obtain ⟨_, w3, rd⟩ := kp_rp V2 w2
        cases z2 : q.2[i]? with
        | none => rw [z2] at w3; exact w3.elim
        | some s =>
          rw [z2] at w3
          simp only at w3
          cases zc2 : s.con with
          | none => rw [zc2] at w3; exact w3.elim
          | some c =>
            rw [zc2] at w3
            cases hr : r.1 with
            | int j =>
              rw [hr] at w3 V1
              cases c with
              | lst ds =>
                simp only at w3
                by_cases hz : ds.length < sizeLine ∧ 0 ≤ j ∧ j < 2 ^ 63
                · rw [if_pos hz] at w3
                  have hv1 : v = .int j := by cases V1; rfl
                  subst hv1
                  obtain ⟨_, _, us, hu, ru⟩ := R2.con z2 zc2
                  refine ⟨ad i, us, j, v2, rfl, rfl, hu, by rw [ru.len]; exact hz.1, hz.2.1, hz.2.2, ?_⟩
                  have rn := ((ru.take j.toNat).append (.one rd)).append (ru.drop j.toNat)
                  obtain ⟨R3, S3, _⟩ := RE.lay (C := C) R2 z2 zc2 hu (ds' := ds.take j.toNat ++ [q.1] ++ ds.drop j.toNat) (by
                    simp only [List.length_append, List.length_take, List.length_drop, List.length_cons, List.length_nil]
                    omega) rn
                  exact w3 .non _ R3 ((S1.trans S2).trans S3) (.of .non)
                · rw [if_neg hz] at w3
                  exact w3.elim
              | _ => exact w3.elim
            | _ =>
              rw [hr] at w3
              cases c <;> exact w3.elim
      | _ => exact w.elim
end
@[simp] theorem z_mIns (i : Nat) (m mv : Ev) (env : Sls) : mIns i m mv env = (match env[i]?.bind Sl.con with
  | some (.lst _) => do
    let r ← m env
    let q ← mv r.2
    let d ← kp q.1
    match q.2[i]? with
    | some s => (match s.con, r.1 with
      | some (.lst ds), .int j => if ds.length < sizeLine ∧ 0 ≤ j ∧ j < 2 ^ 63 then pure (.non, q.2.set i (s.put (.lst (ds.take j.toNat ++ [d] ++ ds.drop j.toNat)))) else .bad
      | _, _ => .bad)
    | _ => .bad
  | _ => .bad) := rfl
end Vm
end
section
set_option maxRecDepth 100000
set_option maxHeartbeats 4000000
/-! Vm, part ZP: a comprehension over the keys of an own dict, which is locked meanwhile. -/
namespace Vm
open PySem PySem.Spec PyProof.Rows L2
/-- owned things are lent: they may be read alone -/
def lendS : Sl → Sl
  | .l d => .t d
  | .r d => .t d
  | .p _ => .u
  | s => s
def lendE (env : Sls) : Sls := env.map lendS
def fl1 : D → Bool
  | .int _ => true
  | .bl _ => true
  | .str _ => true
  | .non => true
  | _ => false
theorem lend_own {s : Sl} : (lendS s).isOwn = false := by cases s <;> rfl
theorem lend_at {env : Sls} {i : Nat} {s : Sl} (h : (lendE env)[i]? = some s) : ∃ s0, env[i]? = some s0 ∧ s = lendS s0 := by
  unfold lendE at h
  rw [List.getElem?_map] at h
  cases e : env[i]? with
  | none => rw [e] at h; cases h
  | some s0 => rw [e] at h; cases h; exact ⟨s0, rfl, rfl⟩
theorem ow_lend {env : Sls} {ad : Nat → Addr} {a : Addr} : ¬ Ow (lendE env) ad a := by
  rintro ⟨i, s, h, o, _⟩
  obtain ⟨s0, _, rfl⟩ := lend_at h
  rw [lend_own] at o
  cases o
section
variable {X : Cx} {C : Cfg} {W : WX} {k : Nat}
theorem ext_lock {M : Addr → Prop} {H : Hp} {d : Addr} {us : List (Key × V)} {od : Obj} (hu : H d = some (.dK us)) (hm : M d) : Ext M H (upd H d (.frz od (.dK us))) := by
  refine ⟨fun b o hb n t => ?_, fun b xs hb => ?_, fun b o u hb => ?_, fun b hb => ?_⟩
  · rw [upd_ne fun e => n (by rw [e]; exact hm)]; exact hb
  · rw [upd_ne fun e => by rw [e, hu] at hb; cases hb]; exact hb
  · rw [upd_ne fun e => by rw [e, hu] at hb; cases hb]; exact hb
  · by_cases e : b = d
    · rw [e, upd_same]; exact fun z => nomatch z
    · rw [upd_ne e]; exact hb
theorem tabs_off {T : List (Addr × Str)} {H : Hp} {d : Addr} {o u : HO} (hd : H d = some o) (h1 : ∀ ps, o ≠ .tbl ps) (h2 : ∀ x y, o ≠ LamX.CodeO x y) (t : LamX.Tabs T H) : LamX.Tabs T (upd H d u) := by
  intro p hp
  obtain ⟨ps, e1, e2, e3⟩ := t p hp
  refine ⟨ps, ?_, e2, fun pos cv hc => ?_⟩
  · rw [upd_ne fun e => by rw [e, hd] at e1; cases e1; exact h1 _ rfl]; exact e1
  · obtain ⟨c', q1, q2⟩ := e3 pos cv hc
    refine ⟨c', q1, ?_⟩
    rw [upd_ne fun e => by rw [e, hd] at q2; cases q2; exact h2 _ _ rfl]
    exact q2
theorem RE.lend {ad : Nat → Addr} {H : Hp} {σ : L2.St} {env : Sls} (R : RE C ad H σ env) {io : Nat} {ds : List (Key × D)} {us : List (Key × V)} {od : Obj} (h : env[io]? = some (.l (.dic ds))) (hu : H (ad io) = some (.dK us)) :
    RE C ad (upd H (ad io) (.frz od (.dK us))) σ (lendE env) := by
  obtain ⟨hσ, hz, us', hu', rk⟩ := R.sl io _ h
  rw [hu] at hu'
  cases hu'
  have hMo : Mo C env ad (ad io) := .inr ⟨io, _, h, rfl, rfl⟩
  have x : Ext (Mo C env ad) H (upd H (ad io) (.frz od (.dK us))) := ext_lock hu hMo
  have mo : ∀ b, Mo C (lendE env) ad b → Mo C env ad b ∨ H b = none := fun b z => z.elim (fun z => .inl (.inl z)) fun z => absurd z ow_lend
  have no : ∀ (i : Nat) (s : Sl), (lendE env)[i]? = some s → s.isOwn = true → False := fun i s e o => by
    obtain ⟨s0, _, rfl⟩ := lend_at e
    rw [lend_own] at o
    cases o
  have tk : ∀ b, H b ≠ none → upd H (ad io) (.frz od (.dK us)) b ≠ none := x.trk
  have cel : ∀ (i : Nat) (d0 : D) (s : Sl), env[i]? = some s → (s = .l d0 ∨ s = .r d0) → CellOk C.K H (Mo C env ad) d0 (ad i) → σ[i]?.join = some (.ref (ad i)) → SlOk C (upd H (ad io) (.frz od (.dK us))) (Mo C (lendE env) ad) (σ[i]?.join) (.t d0) (ad i) := fun i d0 s e hs c hv => by
    have hno : ¬ Mo C (lendE env) ad (ad i) := fun z => z.elim (R.loc i d0 (hs.imp (fun q => by rw [e, q]) fun q => by rw [e, q])).2 ow_lend
    refine ⟨.ref (ad i), hv, ?_⟩
    by_cases hi : i = io
    · subst hi
      rw [h] at e
      cases e
      have ed : d0 = .dic ds := by rcases hs with q | q <;> cases q; rfl
      subst ed
      exact .dic (.inr ⟨od, upd_same⟩) hno rk.len hz rk.key fun j p q e f => (rk.item j p q e f).ext x mo
    · have o : s.isOwn = true := by rcases hs with rfl | rfl <;> rfl
      have ne : ad i ≠ ad io := fun q => hi (R.inj _ _ _ _ e h o rfl q)
      exact cell_rp (c.ext (upd_ne ne) x mo) hno fun _ z => z
  refine ⟨by unfold lendE; rw [List.length_map]; exact R.len, fun i s e => ?_, fun i j s t e1 e2 o => (no _ _ e1 o).elim, fun i d e => (e.elim (fun e => no _ _ e rfl) fun e => no _ _ e rfl).elim, fun i d e => (no _ _ e rfl).elim, fun b o e n t => ?_, R.frk, fun b e => tk b (R.trk b e), fun b e => tk b (R.m0 b e), ?_⟩
  · obtain ⟨s0, e0, rfl⟩ := lend_at e
    have q := R.sl i s0 e0
    cases s0 with
    | u => trivial
    | p _ => trivial
    | t d0 =>
      obtain ⟨y, h1, h2⟩ := q
      exact ⟨y, h1, h2.ext x mo⟩
    | l d0 => exact cel i d0 _ e0 (.inl rfl) q.2 q.1
    | r d0 => exact cel i d0 _ e0 (.inr rfl) q.2 q.1
  · rw [upd_ne fun z => by rw [z, (R.loc io _ (.inl h)).1] at e; cases e]
    exact R.same b o e n t
  · exact tabs_off hu (fun _ z => nomatch z) (fun _ _ z => by unfold LamX.CodeO at z; cases z) R.tabs
theorem rp_keyV {K : PySem.W.Frag} {H : Hp} {M : Addr → Prop} (k : Key) : Rp K H M (keyD k) (kV k) := by
  cases k with
  | inl i => exact .int i
  | inr x => exact .str x
theorem lcK_sn {g : TG} {gv : Gv} {tt : TT} {mt : Ev1} {vs : List Nat} {io : Nat}
    (hg : ∀ (M0 : Addr → Prop) (ad : Nat → Addr) (σ : L2.St) (H : Hp) (env : Sls) (d : D) (v : V) (Q : L2.St → Hp → Prop), RE (C.w M0) ad H σ env → Rp C.K H (Mo (C.w M0) env ad) d v →
      (gv d env).Wp (fun env' => ∀ σ', RE (C.w M0) ad H σ' env' → (∀ a, Ow env' ad a → Ow env ad a) → σ'.length = σ.length → (∀ j, j ∉ vs → σ'[j]? = σ[j]?) → Q σ' H) (fun _ => False) → g v σ H Q)
    (ht : ∀ (M0 : Addr → Prop) (ad : Nat → Addr) (σ : L2.St) (H : Hp) (env : Sls) (Q : Bool → Hp → Prop), RE (C.w M0) ad H σ env →
      (mt env).Wp (fun r => ∀ H', RE (C.w M0) ad H' σ r.2 → Stp (C.w M0) ad H env H' r.2 → Q r.1 H') (Er (C.w M0) ad σ W0) → tt σ H Q)
    (he : ∀ (M0 : Addr → Prop) (ad : Nat → Addr) (σ : L2.St) (H : Hp) (env : Sls) (Q : VK), RE (C.w M0) ad H σ env →
      (me env).Wp (fun r => ∀ v H', RE (C.w M0) ad H' σ r.2 → Stp (C.w M0) ad H env H' r.2 → VR (C.w M0) ad H' σ r.2 r.1 v → Q v H') (Er (C.w M0) ad σ W0) → te σ H Q)
    {M0 : Addr → Prop} {ad : Nat → Addr} {σ : L2.St} {H : Hp} {env : Sls} {Q : VK} {ds : List (Key × D)} {us0 : List (Key × V)} {d : Addr} {od : Obj} (R : RE (C.w M0) ad H σ env)
    (hd : σ[io]? = some (some (.ref d))) (hf : H d = some (.frz od (.dK us0))) (hl : us0.length = ds.length) (hk : ∀ (i : Nat) (p : Key × D) (q : Key × V), ds[i]? = some p → us0[i]? = some q → q.1 = p.1) (Hz : ds.length ≤ sizeLine) (hw : okWipe env vs = true)
    (w : (lcL vs gv mt me (ds.map fun p => keyD p.1) (wipeE env vs)).Wp (fun q => ∀ L H', H L = none → RE ((C.w M0).add L) ad H' σ (backE env q.2 vs) → Ext (Ow env ad) H H' → (∀ a, Ow (backE env q.2 vs) ad a → Ow env ad a) →
      CellOk C.K H' (Mo ((C.w M0).add L) (backE env q.2 vs) ad) (.lst q.1) L → Q (.ref L) H') (fun _ => True)) : tLc (iKeys (tVar io)) g tt te vs σ H Q := by
  refine ⟨.ref d, hd, d, od, rfl, .inl ⟨us0, hf, ?_⟩⟩
  obtain ⟨H1, e1⟩ : ∃ H1, H1 = H := ⟨_, rfl⟩
  obtain ⟨env1, e2⟩ : ∃ env1, env1 = env := ⟨_, rfl⟩
  rw [← e2] at w hw
  have R1 : RE (C.w M0) ad H1 σ env1 := by rw [e1, e2]; exact R
  have S1 : Stp (C.w M0) ad H env H1 env1 := by rw [e1, e2]; exact .refl
  rw [show H = H1 from e1.symm] at hf w ⊢
  intro L hL
  have sL : Same H1 (upd H1 L (.lst [])) := same_new hL
  have HL0 : H1 L = none := hL
  have h0L : C.H0 L = none := by
    cases z : C.H0 L with
    | none => rfl
    | some o => exact absurd hL (R1.trk L (by show C.H0 L ≠ none; rw [z]; exact fun z => nomatch z))
  have LnO : ¬ Ow env1 ad L := fun z => R1.mtrk (.inr z) hL
  have RA : RE ((C.w M0).add L) ad (upd H1 L (.lst [])) σ env1 := R1.growAdd sL hL (by rw [upd_same]; exact fun z => nomatch z)
  -- the word: at turn i
  refine ⟨fun i m H => m = ds.length - i ∧ i ≤ ds.length ∧ ∃ (env' : Sls) (acc : List D) (us : List V), RE ((C.w M0).add L) ad H (L2.wipe σ vs) env' ∧ Ext (Ow env1 ad) H1 H ∧ (∀ a, Ow env' ad a → Ow env1 ad a) ∧
      H L = some (.lst us) ∧ RpL C.K H (Mo ((C.w M0).add L) env' ad) acc us ∧ acc.length ≤ i ∧
      (lcL vs gv mt me ((ds.drop i).map fun p => keyD p.1) env').Wp (fun q => ∀ H', RE ((C.w M0).add L) ad H' σ (backE env1 q.2 vs) → Ext (Ow env1 ad) H1 H' → (∀ a, Ow (backE env1 q.2 vs) ad a → Ow env1 ad a) →
        CellOk C.K H' (Mo ((C.w M0).add L) (backE env1 q.2 vs) ad) (.lst (acc ++ q.1)) L → Q (.ref L) H') (fun _ => True), ⟨ds.length, by simp, Nat.zero_le _, wipeE env1 vs, [], [], RA.wipe vs, .of_same sL, ow_wipe vs, upd_same, .nil, Nat.le_refl _, ?_⟩, ?_⟩
  · rw [List.drop_zero]
    cases q : lcL vs gv mt me (ds.map fun p => keyD p.1) (wipeE env1 vs) with
    | ok r =>
      rw [q] at w
      intro H' R' x' mo' c'
      exact w L H' HL0 R' x' mo' c'
    | err c => exact True.intro
    | bad => rw [q] at w; exact w.elim
  · rintro i m H2 ⟨rfl, hil, env2, acc, us, R2, x2, ow2, hus, rac, hacc, w2⟩
    by_cases hlt : i < ds.length
    · have ed : ds[i]? = some ds[i] := List.getElem?_eq_getElem hlt
      have edr : ds.drop i = ds[i] :: ds.drop (i + 1) := List.drop_eq_getElem_cons hlt
      rw [edr] at w2
      rw [List.map_cons] at w2
      unfold lcL at w2
      have f2 : H2 d = some (.frz od (.dK us0)) := x2.frzs _ _ _ hf
      have hil2 : i < us0.length := by rw [hl]; exact hlt
      have eu2 : us0[i]? = some us0[i] := List.getElem?_eq_getElem hil2
      have hgo : (Itk d od us0).go i H2 := ⟨f2, hil2⟩
      have hy : ∀ x H', (Itk d od us0).yld i H2 x H' → Same H2 H' ∧ Rp C.K H' (Mo ((C.w M0).add L) env2 ad) (keyD ds[i].1) x := fun x H' y => by
        obtain ⟨e1, k, v, e3, e4⟩ := y
        subst e1 e4
        have ek := hk i _ _ ed eu2
        rw [eu2] at e3
        rw [Option.some.inj e3] at ek
        rw [← ek]
        exact ⟨fun _ _ h => h, rp_keyV k⟩
      refine .inr ⟨hgo, fun H' => ∃ (env' : Sls) (acc : List D) (us : List V), RE ((C.w M0).add L) ad H' (L2.wipe σ vs) env' ∧ Ext (Ow env1 ad) H1 H' ∧ (∀ a, Ow env' ad a → Ow env1 ad a) ∧
        H' L = some (.lst us) ∧ RpL C.K H' (Mo ((C.w M0).add L) env' ad) acc us ∧ acc.length ≤ i + 1 ∧
        (lcL vs gv mt me ((ds.drop (i + 1)).map fun p => keyD p.1) env').Wp (fun q => ∀ H', RE ((C.w M0).add L) ad H' σ (backE env1 q.2 vs) → Ext (Ow env1 ad) H1 H' → (∀ a, Ow (backE env1 q.2 vs) ad a → Ow env1 ad a) →
          CellOk C.K H' (Mo ((C.w M0).add L) (backE env1 q.2 vs) ad) (.lst (acc ++ q.1)) L → Q (.ref L) H') (fun _ => True), fun H' h' => ⟨ds.length - (i + 1), by omega, rfl, hlt, h'⟩, fun x H3 y => ?_⟩
      obtain ⟨s3, rx⟩ := hy x H3 y
      have R3 : RE ((C.w M0).add L) ad H3 (L2.wipe σ vs) env2 := R2.grow s3
      rw [wp_bind] at w2
      refine hg _ ad (L2.wipe σ vs) H3 env2 (keyD ds[i].1) x _ R3 rx ((noE_wp (E' := fun _ => False) w2).imp (fun env3 w3 σ3 R3' ow3 l3 o3 => ?_) fun _ z => z)
      have ew : L2.wipe σ3 vs = L2.wipe σ vs := by
        rw [st_wipe_eq l3 o3]
        exact st_wipe_eq (wipe_length _ _) fun j hj => wipe_out hj
      refine ⟨ew, ?_⟩
      rw [wp_bind] at w3
      refine ht _ ad σ3 H3 env3 _ R3' ((noE_wp (E' := Er ((C.w M0).add L) ad σ3 W0) w3).imp (fun b w4 H4 R4 S4 => ?_) fun _ z => z)
      have x4 : Ext (Ow env1 ad) H2 H4 := (Ext.of_same s3).trans (S4.ext.mono fun a z => ow2 a (ow3 a z))
      have ow4 : ∀ a, Ow b.2 ad a → Ow env1 ad a := fun a z => ow2 a (ow3 a (S4.ow a z))
      have lowM : ∀ {e1 e2 : Sls}, (∀ a, Ow e2 ad a → Ow e1 ad a) → ∀ a, Mo ((C.w M0).add L) e2 ad a → Mo ((C.w M0).add L) e1 ad a := fun h a z => z.imp id (h a)
      split
      · rename_i hb
        rw [if_pos hb, wp_bind] at w4
        refine he _ ad σ3 H4 b.2 _ R4 ((noE_wp (E' := Er ((C.w M0).add L) ad σ3 W0) w4).imp (fun r w5 v H5 R5 S5 V5 => ?_) fun _ z => z)
        rw [wp_bind] at w5
        obtain ⟨_, w6, rv⟩ := kp_rp V5 w5
        have x5 : Ext (Ow env1 ad) H2 H5 := x4.trans (S5.ext.mono ow4)
        have ow5 : ∀ a, Ow r.2 ad a → Ow env1 ad a := fun a z => ow4 a (S5.ow a z)
        have hL5 : H5 L = some (.lst us) := x5.stay L _ hus LnO fun _ z => nomatch z
        obtain ⟨R6, x6⟩ := R5.other (us' := us ++ [v]) (.inr rfl) (fun z => LnO (ow5 L z)) h0L hL5
        have rac5 : RpL C.K H5 (Mo ((C.w M0).add L) r.2 ad) acc us := rac.ext ((Ext.of_same s3).trans ((S4.ext.trans (S5.ext.mono S4.ow)).mono fun a z => .inr (ow3 a z))) fun a z => .inl (z.imp id fun z => ow3 a (S4.ow a (S5.ow a z)))
        refine ⟨us, hL5, by rw [rac5.len]; omega, wipeE r.2 vs, acc ++ [r.1], us ++ [v], by rw [← ew]; exact R6.wipe vs, ?_, fun a z => ow5 a (ow_wipe vs a z), upd_same, ?_, by rw [List.length_append]; exact Nat.succ_le_succ hacc, ?_⟩
        · refine ⟨fun b o e n nt => ?_, fun b xs e => ?_, fun b o u e => ?_, fun b e => ?_⟩
          · rw [upd_ne fun q => by rw [q, hL] at e; cases e]
            exact x5.stay b o (x2.stay b o e n nt) n nt
          · rw [upd_ne fun q => by rw [q, hL] at e; cases e]
            exact x5.tups b xs (x2.tups b xs e)
          · rw [upd_ne fun q => by rw [q, hL] at e; cases e]
            exact x5.frzs b o u (x2.frzs b o u e)
          · rw [upd_ne fun q => by rw [q] at e; exact e hL]
            exact x5.trk b (x2.trk b e)
        · refine ((rac5.append (.one rv)).ext (x6.mono fun b e => ?_) fun a z => .inl (lowM (fun a z => ow_wipe vs a z) a z))
          rw [e]
          exact .inl (.inr rfl)
        · cases q : lcL vs gv mt me ((ds.drop (i + 1)).map fun p => keyD p.1) (wipeE r.2 vs) with
          | ok z =>
            rw [q] at w6
            intro H' R' x' m' c'
            exact w6 H' R' x' m' (by rw [List.append_assoc] at c'; exact c')
          | err c => exact True.intro
          | bad => rw [q] at w6; exact w6.elim
      · rename_i hb
        rw [if_neg hb] at w4
        have hL4 : H4 L = some (.lst us) := x4.stay L _ hus LnO fun _ z => nomatch z
        refine ⟨wipeE b.2 vs, acc, us, by rw [← ew]; exact R4.wipe vs, x2.trans x4, fun a z => ow4 a (ow_wipe vs a z), hL4, ?_, Nat.le_succ_of_le hacc, w4⟩
        exact rac.ext ((Ext.of_same s3).trans (S4.ext.mono fun a z => .inr (ow3 a z))) fun a z => .inl (z.imp id fun z => ow3 a (S4.ow a (ow_wipe vs a z)))
    · have ei : i = ds.length := by omega
      subst ei
      rw [List.drop_length, List.map_nil] at w2
      unfold lcL at w2
      refine .inl ⟨⟨x2.frzs _ _ _ hf, by rw [hl]; exact Nat.le_refl _⟩, ?_⟩
      have xb : Ext (Mo ((C.w M0).add L) env1 ad) (upd H1 L (.lst [])) H2 := by
        refine ⟨fun b o e n nt => ?_, fun b xs e => ?_, fun b o u e => ?_, fun b e => ?_⟩
        · rw [upd_ne fun q => n (.inl (.inr q))] at e
          exact x2.stay b o e (fun z => n (.inr z)) nt
        · by_cases q : b = L
          · rw [q, upd_same] at e; cases e
          · rw [upd_ne q] at e; exact x2.tups b xs e
        · by_cases q : b = L
          · rw [q, upd_same] at e; cases e
          · rw [upd_ne q] at e; exact x2.frzs b o u e
        · by_cases q : b = L
          · rw [q, hus]; exact fun z => nomatch z
          · rw [upd_ne q] at e; exact x2.trk b e
      obtain ⟨RB, mb⟩ := RE.back RA xb R2 ow2 hw
      rw [backS_wipe] at RB
      refine w2 H2 RB x2 (fun a z => ow2 a (mb a z)) ⟨?_, us, hus, ?_⟩
      · rw [List.append_nil]; exact Nat.le_trans hacc Hz
      · rw [List.append_nil]
        exact rac.less fun a z => z.imp id (mb a)

open Classical in
noncomputable def mLcD (io : Nat) (vs : List Nat) (g : Gv) (tt : Ev1) (me : Ev) : Ev := fun env => match env[io]? with
  | some (.l (.dic ds)) => if okWipe (lendE env) vs = true then do
      let q ← lcL vs g tt me (ds.map fun p => keyD p.1) (wipeE (lendE env) vs)
      if q.1.all fl1 = true then pure (.lst q.1, env) else .bad
    else .bad
  | _ => .bad
theorem rp_flat {K : PySem.W.Frag} {H H' : Hp} {M M' : Addr → Prop} {d : D} {v : V} (h : Rp K H M d v) (f : fl1 d = true) : Rp K H' M' d v := by
  cases h with
  | non => exact .non
  | bl b => exact .bl b
  | int i => exact .int i
  | str y => exact .str y
  | _ => cases f
theorem lcD_sn {g : TG} {gv : Gv} {tt : TT} {mt : Ev1} {vs : List Nat} {io : Nat}
    (hg : ∀ (M0 : Addr → Prop) (ad : Nat → Addr) (σ : L2.St) (H : Hp) (env : Sls) (d : D) (v : V) (Q : L2.St → Hp → Prop), RE (C.w M0) ad H σ env → Rp C.K H (Mo (C.w M0) env ad) d v →
      (gv d env).Wp (fun env' => ∀ σ', RE (C.w M0) ad H σ' env' → (∀ a, Ow env' ad a → Ow env ad a) → σ'.length = σ.length → (∀ j, j ∉ vs → σ'[j]? = σ[j]?) → Q σ' H) (fun _ => False) → g v σ H Q)
    (ht : ∀ (M0 : Addr → Prop) (ad : Nat → Addr) (σ : L2.St) (H : Hp) (env : Sls) (Q : Bool → Hp → Prop), RE (C.w M0) ad H σ env →
      (mt env).Wp (fun r => ∀ H', RE (C.w M0) ad H' σ r.2 → Stp (C.w M0) ad H env H' r.2 → Q r.1 H') (Er (C.w M0) ad σ W0) → tt σ H Q)
    (he : ∀ (M0 : Addr → Prop) (ad : Nat → Addr) (σ : L2.St) (H : Hp) (env : Sls) (Q : VK), RE (C.w M0) ad H σ env →
      (me env).Wp (fun r => ∀ v H', RE (C.w M0) ad H' σ r.2 → Stp (C.w M0) ad H env H' r.2 → VR (C.w M0) ad H' σ r.2 r.1 v → Q v H') (Er (C.w M0) ad σ W0) → te σ H Q)
    {M0 : Addr → Prop} {ad : Nat → Addr} {σ : L2.St} {H : Hp} {env : Sls} {Q : VK} (R : RE (C.w M0) ad H σ env)
    (w : (mLcD io vs gv mt me env).Wp (fun r => ∀ a H', H a = none → RE ((C.w M0).add a) ad H' σ r.2 → Stp (C.w M0) ad H env H' r.2 → CellOk C.K H' (Mo ((C.w M0).add a) r.2 ad) r.1 a → Q (.ref a) H') (Er (C.w M0) ad σ W)) : tLockE (tLc (iKeys (tVar io)) g tt te vs) σ H Q := by
  unfold mLcD at w
  split at w
  · rename_i ds h
    obtain ⟨_, hz, us, hu, rk⟩ := R.sl io _ h
    obtain ⟨hσ, _⟩ := R.con h rfl
    split at w
    · rename_i hw
      refine ⟨ad io, .dK us, hu, True.intro, fun od => ?_⟩
      have RL := R.lend (od := od) h hu
      refine lcK_sn hg ht he RL hσ upd_same rk.len rk.key hz hw ?_
      rw [wp_bind] at w
      cases q : lcL vs gv mt me (ds.map fun p => keyD p.1) (wipeE (lendE env) vs) with
      | err c => exact True.intro
      | bad => rw [q] at w; exact w.elim
      | ok r =>
        rw [q, wp_ok] at w
        split at w
        · rename_i hf
          intro L H2 hL R2 x2 m2 c2
          have f2 : H2 (ad io) = some (.frz od (.dK us)) := x2.frzs _ _ _ upd_same
          have nL : L ≠ ad io := fun e => by rw [e, upd_same] at hL; cases hL
          have hL' : H L = none := by rw [upd_ne nL] at hL; exact hL
          have sme : Sme C.T H (upd H2 (ad io) (.dK us)) := by
            refine ⟨fun b o e nt => ?_, fun b e => ?_, fun _ => tabs_off f2 (fun _ z => nomatch z) (fun _ _ z => by unfold LamX.CodeO at z; cases z) R2.tabs⟩
            · by_cases q : b = ad io
              · rw [q, upd_same, ← hu, ← q, e]
              · rw [upd_ne q]
                exact x2.stay b o (by rw [upd_ne q]; exact e) ow_lend nt
            · by_cases q : b = ad io
              · rw [q, upd_same]; exact fun z => nomatch z
              · rw [upd_ne q]
                exact x2.trk b (by rw [upd_ne q]; exact e)
          refine ⟨f2, w L _ hL' (R.growAddS sme hL' (by rw [upd_ne nL]; exact c2.trk)) (.growS sme) ?_⟩
          obtain ⟨z, vs', hv, rr⟩ := c2
          refine ⟨z, vs', by rw [upd_ne nL]; exact hv, rr.len, fun i d v e f => rp_flat (rr.item i d v e f) ?_⟩
          exact List.all_eq_true.mp hf d (List.mem_of_getElem? e)
        · exact w.elim
    · exact w.elim
  · exact w.elim
theorem ef_lcD (io : Nat) {y : Str} {py : Pos} {ifs : List Expr} {scope : Scope} {own : List (Str × Nat)} {gt : TG} {tt : TT} {gv : Gv} {mt : Ev1} (g : Gd X C W k) (ok : BlkOk X.N X.env.scope scope own)
    (hg : ∀ (s : Shared) (H : Hp) (L : Addr) (cl : List (Str × Addr)) (fp : List Addr), Gd (X.blk s H scope (compEnvC scope cl L X.env) fp) C W0 k → GM (X.blk s H scope (compEnvC scope cl L X.env) fp) C tg gt (own.map (·.2)) gv)
    (ht : ∀ (s : Shared) (H : Hp) (L : Addr) (cl : List (Str × Addr)) (fp : List Addr), Gd (X.blk s H scope (compEnvC scope cl L X.env) fp) C W0 k → TMs (X.blk s H scope (compEnvC scope cl L X.env) fp) C W0 ifs tt mt)
    (he : ∀ (s : Shared) (H : Hp) (L : Addr) (cl : List (Str × Addr)) (fp : List Addr), Gd (X.blk s H scope (compEnvC scope cl L X.env) fp) C W0 k → EM (X.blk s H scope (compEnvC scope cl L X.env) fp) C W0 elt te me)
    (hN : X.N[io]? = some y := by rfl) (hv : Vis X.env.scope y := by first | exact Or.inl rfl | exact Or.inr (Or.inl rfl) | exact Or.inr (Or.inr rfl)) (hd : (y == ("__debug__" : Str)) = false := by decide) (hcd : (y == ("__classdict__" : Str)) = false := by decide)
    (hs : ∀ x, foldedSetIterable (.Name y py) X.env x = pure x := by intro _; rfl) :
    EF X C W (.ListComp elt [⟨tg, .Name y py, ifs, 0⟩] scope pos) (tLockE (tLc (iKeys (tVar io)) gt tt te (own.map (·.2)))) (mLcD io (own.map (·.2)) gv mt me) :=
  ⟨pe_lock (pe_lc g.calm g.nd (pi_keys (pe_var hN hv hd hcd)) ok (fun s H L cl fp => (hg s H L cl fp g.blk).pe) (fun s H L cl fp => (ht s H L cl fp g.blk).pe) (fun s H L cl fp => (he s H L cl fp g.blk).pe) hs),
    fun M0 ad σ H env Q R w => lcD_sn (hg X.s_0 X.H_0 0 [] [] g.blk).sn (ht X.s_0 X.H_0 0 [] [] g.blk).sn (he X.s_0 X.H_0 0 [] [] g.blk).sn R w⟩
end
@[simp] theorem lend_t (d : D) : lendS (.t d) = .t d := rfl
@[simp] theorem lend_l (d : D) : lendS (.l d) = .t d := rfl
@[simp] theorem lend_p (d : D) : lendS (.p d) = .u := rfl
@[simp] theorem lend_u : lendS .u = .u := rfl
@[simp] theorem lend_nil : lendE [] = [] := rfl
@[simp] theorem lend_cons (s : Sl) (env : Sls) : lendE (s :: env) = lendS s :: lendE env := rfl
@[simp] theorem z_mLcD (io : Nat) (vs : List Nat) (g : Gv) (tt : Ev1) (me : Ev) (env : Sls) : mLcD io vs g tt me env = (match env[io]? with
  | some (.l (.dic ds)) => if okWipe (lendE env) vs = true then do
      let q ← lcL vs g tt me (ds.map fun p => keyD p.1) (wipeE (lendE env) vs)
      if q.1.all fl1 = true then pure (.lst q.1, env) else .bad
    else .bad
  | _ => .bad) := by
  unfold mLcD
  congr
end Vm
end
section
set_option maxRecDepth 100000
set_option maxHeartbeats 4000000
/-! Vm, part ZQ: a dict comprehension whose keys are tuple displays. -/
namespace Vm
open PySem PySem.Spec PyProof.Rows L2
section
variable {X : Cx} {pins : List (Addr × Obj)} {σ : L2.St} {H : Hp} {s : Shared}
/-- the store of a comprehension's turn -/
theorem storeT {E : Value → Shared → Prop} {Q : Unit → Shared → Prop} {T b : Addr} {kvs : List (List Key × V)} {k : List Key} {v : V} {r : Value} (hu : X.A.units + 1 < cLine) (I : Inv X pins σ H s) (e : H T = some (.dT kvs)) (hz : kvs.length < sizeLine)
    (eb : H b = some (.tup (k.map kV))) (rv : RelV v r) (h : ∀ s', Inv X pins σ (upd H T (.dT (putK kvs k v))) s' → Q () s') : wpAny (model X.prog X.w) X.A (dictSet T (.ref b) r) Q E s := by
  obtain ⟨z, ns, xs, rel, dd⟩ := dt_of I.hok e
  have lx : xs.length ≤ sizeLine := by rw [← Paired.length rel]; exact z
  have lk : (putK kvs k v).length ≤ sizeLine := Nat.le_trans (length_putK kvs k v) hz
  refine wpAny_dictSet_heap (hsz := lx) (Nat.lt_of_succ_lt hu) (key_of I.hok eb) dd fun h' d2 sb => h _ ?_
  obtain ⟨o2, e2, p2, g2, c2, a2, n2, i2, u2⟩ := d2
  refine d_write I (by rw [e]; exact True.intro) sb ⟨o2, g2⟩ ⟨lk, ns, _, (rel.put k eb rv).keeps fun c ys ec => ?_, o2, e2, p2, g2, c2, a2, n2, u2⟩
  rw [upd_ne (ne_of ec e (fun z => nomatch z))]
  exact ec
/-- {(a, b): v for tg in iter if ..}: S i holds ahead of turn i, of at most N turns; T the new dict -/
def tDcT (wi : TI) (g : TG) (tt : TT) (tk tv : TE) (vs : List Nat) : TE := fun σ H Q => wi σ H fun J H1 => ∀ T, H1 T = none → ∃ (N : Nat) (S : Nat → Hp → Prop), S 0 (upd H1 T (.dT [])) ∧
  ∀ i H2, S i H2 → (J.stop i H2 ∧ Q (.ref T) H2) ∨ (i < N ∧ J.go i H2 ∧ ∀ x H3, J.yld i H2 x H3 → g x (wipe σ vs) H3 fun τ H4 => wipe τ vs = wipe σ vs ∧ tt τ H4 fun b H5 =>
    if b = true then tk τ H5 fun y H6 => tv τ H6 fun z H7 => ∃ kvs k c, y = .ref c ∧ H7 c = some (.tup (k.map kV)) ∧ H7 T = some (.dT kvs) ∧ kvs.length < sizeLine ∧ S (i + 1) (upd H7 T (.dT (putK kvs k z))) else S (i + 1) H5)
end
section
variable {X : Cx}
/-- what one turn starts from, in the block's surroundings B -/
structure AtTurn (B : Cx) (τ : L2.St) (fp : List Addr) (tn : Nat → Heap → Prop) (N : Nat) (S : Nat → Hp → Prop) (n i : Nat) (H : Hp) (s : Shared) : Prop where
  inv : Inv B [] τ H s
  it : tn i s.heap
  off : ∀ b ∈ fp, H b = none
  on : S i H
  left : n = N - i
theorem turnT {B : Cx} {τ0 : L2.St} {vs : List Nat} {kx vx tg : Expr} {ifs : List Expr} {g : TG} {tt : TT} {tk tv : TE} {fp : List Addr} {it T : Addr} {tn : Nat → Heap → Prop} {J : It} {N : Nat} {S : Nat → Hp → Prop} {Qd : Hp → Prop} {R : Result → Shared → Prop}
    (hu : B.A.units + 1 < cLine) (hx : B.xe = fun _ _ => False) (hc : B.calm = true) (pg : PG B tg g) (pt : PTs B ifs tt) (pk : PE B kx tk) (pv : PE B vx tv) (Tn : Turn B.prog B.w B.K tg J fp it tn)
    (stat : ∀ {τ : L2.St} {H : Hp} {s : Shared}, Inv B [] τ H s → (∀ b ∈ fp, H b = none) → ∀ b ∈ fp, FpOk B [] H b)
    (word : ∀ i H2, S i H2 → (J.stop i H2 ∧ Qd H2) ∨ (i < N ∧ J.go i H2 ∧ ∀ x H3, J.yld i H2 x H3 → g x (wipe τ0 vs) H3 fun τ H4 => wipe τ vs = wipe τ0 vs ∧ tt τ H4 fun b H5 =>
      if b = true then tk τ H5 fun y H6 => tv τ H6 fun z H7 => ∃ kvs k c, y = .ref c ∧ H7 c = some (.tup (k.map kV)) ∧ H7 T = some (.dT kvs) ∧ kvs.length < sizeLine ∧ S (i + 1) (upd H7 T (.dT (putK kvs k z))) else S (i + 1) H5))
    (fin : ∀ H s, Inv B [] (wipe τ0 vs) H s → Qd H → R (.ok .next) s) (n : Nat) (s : Shared) (hI : ∃ i H, AtTurn B (wipe τ0 vs) fp tn N S n i H s) :
    wpAny (model B.prog B.w) B.A (pyNext (.ref it)) (fun r s1 => match r with
      | none => R (.ok .next) s1
      | some v => wpAny (model B.prog B.w) B.A (letOwnedTupleGo tg (.ref it) v) (fun _ s2 => wpAny (model B.prog B.w) B.A (assign tg B.env v) (fun _ s3 =>
          wpAny (model B.prog B.w) B.A (forIn ifs true fun c r => if r = true then do let ok ← isTrue c B.env (eval c B.env); pure (ForInStep.yield ok) else pure (ForInStep.yield r)) (fun ok s4 =>
            if ok = true then wpAny (model B.prog B.w) B.A (eval kx B.env) (fun kv s5 => wpAny (model B.prog B.w) B.A (eval vx B.env) (fun vv s6 =>
              wpAny (model B.prog B.w) B.A (dictSet T kv vv) (fun _ s7 => ∃ m, m < n ∧ ∃ i H, AtTurn B (wipe τ0 vs) fp tn N S m i H s7) (notedBy (model B.prog B.w) B.A B.env fun e s' => R (.error e) s') s6) (notedBy (model B.prog B.w) B.A B.env fun e s' => R (.error e) s') s5) (notedBy (model B.prog B.w) B.A B.env fun e s' => R (.error e) s') s4
            else ∃ m, m < n ∧ ∃ i H, AtTurn B (wipe τ0 vs) fp tn N S m i H s4) (notedBy (model B.prog B.w) B.A B.env fun e s' => R (.error e) s') s3) (notedBy (model B.prog B.w) B.A B.env fun e s' => R (.error e) s') s2) (notedBy (model B.prog B.w) B.A B.env fun e s' => R (.error e) s') s1) (notedBy (model B.prog B.w) B.A B.env fun e s' => R (.error e) s') s := by
  have cl : ∀ {α : Type} {f : Sem α} {Q : α → Shared → Prop} {s : Shared}, wpAny (model B.prog B.w) B.A f Q B.xe s → wpAny (model B.prog B.w) B.A f Q (fun _ _ => False) s := fun h => by
    rw [hx] at h
    exact h
  obtain ⟨i, H, a⟩ := hI
  rcases word i H a.on with ⟨hstop, hq⟩ | ⟨hi, hgo, hy⟩
  · refine thnF (Tn.done B rfl rfl rfl hc i [] s _ H (fun _ _ => False) a.inv (stat a.inv a.off) a.it hstop) fun r s1 ⟨e, I1⟩ => ?_
    subst e
    exact fin H s1 I1 hq
  · refine thnF (Tn.item B rfl rfl rfl hc i [] s _ H (fun _ _ => False) a.inv (stat a.inv a.off) a.it hgo) fun r s1 ⟨u, e, w1⟩ => ?_
    subst e
    refine thnF w1 fun _ s2 ⟨x, H2, I2, rx, yx, t2, o2⟩ => ?_
    have P2 := I2.pinned (stat I2 o2) (Tn.obj _ _ t2)
    refine thnF (cl (pg.run _ s2 _ H2 x u _ P2 rx (hy x H2 yx))) fun _ s3 ⟨τ, H3, I3, hw, w3⟩ => ?_
    have next : ∀ {s' : Shared} {H' : Hp}, Inv B ([] ++ pinsAt fp s2.heap) τ H' s' → S (i + 1) H' → ∃ m, m < n ∧ ∃ i H, AtTurn B (wipe τ0 vs) fp tn N S m i H s' := fun {s' H'} I' on => by
      have held : ∀ b ∈ fp, ∀ o, s2.heap.get? b = some o → s'.heap.get? b = some o ∧ H' b = none := fun b hb o e => by
        obtain ⟨z1, z2, _⟩ := I'.pin (b, o) (List.mem_append_right _ (List.mem_append_right _ (mem_pinsAt hb e)))
        exact ⟨z1, z2⟩
      have len : (wipe τ0 vs).length = τ.length := by rw [← hw, wipe_length]
      refine ⟨N - (i + 1), by rw [a.left]; omega, i + 1, H', ⟨(I'.unpinned (pins := [])).weak len fun j v e => ?_, Tn.keep _ _ _ t2 fun b hb o e => (held b hb o e).1, fun b hb => ?_, on, rfl⟩⟩
      · rw [← hw] at e
        exact (wipe_some e).1
      · obtain ⟨o, e, _⟩ := Tn.obj _ _ t2 b hb
        exact (held b hb o e).2
    refine thnF (cl (pt.run _ s3 τ H3 _ I3 w3)) fun b s4 ⟨H4, I4, w4⟩ => ?_
    cases b with
    | false =>
      rw [if_neg (by simp)] at w4
      rw [if_neg (by simp)]
      exact next I4 w4
    | true =>
      rw [if_pos rfl] at w4
      rw [if_pos rfl]
      refine thnF (cl (pk.run _ s4 τ H4 _ I4 w4)) fun kv s5 ⟨y, H5, I5, r5, w5⟩ => ?_
      refine thnF (cl (pv.run _ s5 τ H5 _ I5 w5)) fun vv s6 ⟨z, H6, I6, r6, kvs, k, c, ey, hc6, hT, hz, on⟩ => ?_
      subst ey
      obtain rfl : kv = Value.ref c := r5
      exact storeT hu I6 hT hz hc6 r6 fun s7 I7 => next I7 on
theorem dcT_core {pins : List (Addr × Obj)} {s : Shared} {σ : L2.St} {H : Hp} {Q : VK} {use : Option (Value → Sem Unit)} {Qf : Value → Shared → Prop} {kx vx tg iter : Expr} {ifs : List Expr} {scope : Scope} {own : List (Str × Nat)} {pos pos' : Pos} {wi : TI} {g : TG} {tt : TT} {tk tv : TE} (hu : X.A.units + 1 < cLine) (hc : X.calm = true) (hN : X.N.Nodup) (hi : PI X tg iter wi) (ok : BlkOk X.N X.env.scope scope own)
    (hg : ∀ (s : Shared) (H : Hp) (L : Addr) (cl : List (Str × Addr)) (fp : List Addr), PG (X.blk s H scope (compEnvC scope cl L X.env) fp) tg g) (ht : ∀ (s : Shared) (H : Hp) (L : Addr) (cl : List (Str × Addr)) (fp : List Addr), PTs (X.blk s H scope (compEnvC scope cl L X.env) fp) ifs tt)
    (hk : ∀ (s : Shared) (H : Hp) (L : Addr) (cl : List (Str × Addr)) (fp : List Addr), PE (X.blk s H scope (compEnvC scope cl L X.env) fp) kx tk)
    (hv : ∀ (s : Shared) (H : Hp) (L : Addr) (cl : List (Str × Addr)) (fp : List Addr), PE (X.blk s H scope (compEnvC scope cl L X.env) fp) vx tv) (hs : ∀ x, foldedSetIterable iter X.env x = pure x)
    (I : Inv X pins σ H s) (h : tDcT wi g tt tk tv (own.map (·.2)) σ H Q)
    (back : ∀ T L s' m H', Inv X pins σ H' s' → Q (.ref T) H' → s'.heap.Ns L m → FpOk X pins H' L → compPost (model X.prog X.w) X.A X.xe use Qf (.ref T) L (.ok .next) s') :
    wpAny (model X.prog X.w) X.A (comprehension (.DictComp kx vx [⟨tg, iter, ifs, 0⟩] scope pos) scope X.env pos' newDict false (eval iter X.env) use) Qf X.xe s := by
  refine wpAny_comprehension_free (use := use) rfl hs (closure_ok fun y hy e => (ok.free y hy e).elim (fun z => I.ok.has _ (.inl z)) fun z => I.ok.has _ (.inr z)) ok.kind (fun y hy e => by rw [ok.uniq y hy, e])
    (thn (hi.run pins s σ H _ I h) fun _ s1 a1 => thn a1 fun _ s2 ⟨it, fp, tn, J, H2, e2, I2, Tn, t2, f2, q2⟩ => ?_)
  subst e2
  refine wpAny_newObj_type (newEnv_comp ?_)
  -- T: the new dict
  obtain ⟨T, eT⟩ : ∃ T, T = s2.heap.objs.size := ⟨_, rfl⟩
  rw [← eT]
  obtain ⟨N, S, S0, word⟩ := q2 T (I2.hok.fresh (Nat.le_of_eq eT.symm))
  obtain ⟨s3, e3⟩ : ∃ s3 : Shared, s3 = { s2 with heap := s2.heap.push { cls := .type "dict", data := .dict #[] } } := ⟨_, rfl⟩
  rw [← e3]
  have h3 : s3.heap = s2.heap.push { cls := .type "dict", data := .dict #[] } := by rw [e3]
  have I3 : Inv X pins σ (upd H2 T (.dT [])) s3 := by
    rw [e3, eT]
    exact I2.laid (t' := s2.toks) (fun b o e => Heap.get?_push_of_some _ e) (Nat.le_refl _) (dt_empty s2.heap I2.big)
  obtain ⟨H3, eH⟩ : ∃ H3, H3 = upd H2 T (.dT []) := ⟨_, rfl⟩
  rw [← eH] at I3 S0
  have f3 : ∀ b ∈ fp, FpOk X pins H3 b ∧ b < s3.heap.objs.size := fun b hb => by
    obtain ⟨o, e, _⟩ := Tn.obj _ _ t2 b hb
    have lt := Heap.lt_size e
    refine ⟨⟨?_, (f2 b hb).2⟩, by rw [h3, Heap.size_push]; exact Nat.lt_succ_of_lt lt⟩
    rw [eH, upd_ne (by rw [eT]; exact Nat.ne_of_lt lt)]
    exact (f2 b hb).1
  have t3 : tn 0 s3.heap := Tn.keep _ _ _ t2 fun b _ o e => by rw [h3]; exact Heap.get?_push_of_some _ e
  have I4 := block_start I3 ok hN f3
  obtain ⟨cl, ecl⟩ : ∃ cl, cl = cellsFrom (s3.heap.objs.size + 1) scope.names (cloFrom X.env.cells scope.names []) := ⟨_, rfl⟩
  rw [← ecl] at I4
  have pg := hg s3 H3 s3.heap.objs.size cl fp
  have pt := ht s3 H3 s3.heap.objs.size cl fp
  have pk := hk s3 H3 s3.heap.objs.size cl fp
  have pv := hv s3 H3 s3.heap.objs.size cl fp
  show codeAny _ _ (.compStart (.DictComp kx vx [⟨tg, iter, ifs, 0⟩] scope pos) 0 (.ref it) (.ref T) (compEnvC scope (cellsFrom (s3.heap.objs.size + 1) scope.names (cloFrom X.env.cells scope.names [])) s3.heap.objs.size X.env)) _ { s3 with heap := pushCells (s3.heap.push { cls := .type "dict", data := .dict #[] }) scope.names }
  rw [← ecl]
  obtain ⟨ce, ece⟩ : ∃ ce, ce = compEnvC scope cl s3.heap.objs.size X.env := ⟨_, rfl⟩
  have cL : ce.locals = s3.heap.objs.size := by rw [ece]; rfl
  rw [← ece] at I4 pg pt pk pv ⊢
  obtain ⟨s4, e4⟩ : ∃ s4 : Shared, s4 = { s3 with heap := pushCells (s3.heap.push { cls := .type "dict", data := .dict #[] }) scope.names } := ⟨_, rfl⟩
  rw [← e4] at I4 ⊢
  have t4 : tn 0 s4.heap := Tn.keep _ _ _ t3 fun b _ o e => by rw [e4]; exact pushCells_keeps _ _ _ _ (Heap.get?_push_of_some _ e)
  have stat : ∀ {τ : L2.St} {H' : Hp} {s' : Shared}, Inv (X.blk s3 H3 scope ce fp) [] τ H' s' → (∀ b ∈ fp, H' b = none) → ∀ b ∈ fp, FpOk (X.blk s3 H3 scope ce fp) [] H' b := fun {τ H' s'} I' o b hb =>
    ⟨o b hb, (I'.ok.exf b hb).1, I'.ok.exfs b hb, .inl hb, fun x c e => (I'.ok.exf b hb).2 x c e, fun p hp => by cases hp⟩
  have lp := turnT (B := X.blk s3 H3 scope ce fp) (τ0 := σ) (vs := own.map (·.2)) (kx := kx) (vx := vx) (T := T) (N := N) (S := S) (Qd := fun H => Q (.ref T) H) (R := compPost (model X.prog X.w) X.A X.xe use Qf (.ref T) s3.heap.objs.size) hu rfl hc pg pt pk pv Tn stat word
    (fun H' s' I' hq => by
      have I7 : Inv X pins σ H' s' := I3.call' (ch := fp) I'.os I'.base I'.hok I'.bare fun b hb => ⟨(f3 b hb).1.2.2.2.1, (f3 b hb).1.2.1, (f3 b hb).1.2.2.2.2.1, (f3 b hb).1.2.2.2.2.2⟩
      have nC : H' s3.heap.objs.size = none := by rw [← cL]; exact I'.free
      obtain ⟨m, hn, _⟩ := I'.loc
      have hn : s'.heap.Ns ce.locals m := hn
      rw [cL] at hn
      exact back T s3.heap.objs.size s' m H' I7 hq hn (I3.fpOk (Nat.le_refl _) nC))
  have loop : codeAny (model X.prog X.w) X.A (.compLoop (.DictComp kx vx [⟨tg, iter, ifs, 0⟩] scope pos) 0 (.ref it) (.ref T) ce) (compPost (model X.prog X.w) X.A X.xe use Qf (.ref T) s3.heap.objs.size) s4 :=
    compLoop_anyD _ lp N ⟨0, H3, ⟨I4, t4, fun b hb => (f3 b hb).1.1, S0, by omega⟩⟩
  exact codeAny_compStart_dict loop (Tn.self X.A 0 _ _ _ t4 loop)
theorem pe_dcT {kx vx tg iter : Expr} {ifs : List Expr} {scope : Scope} {own : List (Str × Nat)} {pos : Pos} {wi : TI} {g : TG} {tt : TT} {tk tv : TE} (hu : X.A.units + 1 < cLine) (hc : X.calm = true) (hN : X.N.Nodup) (hi : PI X tg iter wi) (ok : BlkOk X.N X.env.scope scope own)
    (hg : ∀ (s : Shared) (H : Hp) (L : Addr) (cl : List (Str × Addr)) (fp : List Addr), PG (X.blk s H scope (compEnvC scope cl L X.env) fp) tg g) (ht : ∀ (s : Shared) (H : Hp) (L : Addr) (cl : List (Str × Addr)) (fp : List Addr), PTs (X.blk s H scope (compEnvC scope cl L X.env) fp) ifs tt)
    (hk : ∀ (s : Shared) (H : Hp) (L : Addr) (cl : List (Str × Addr)) (fp : List Addr), PE (X.blk s H scope (compEnvC scope cl L X.env) fp) kx tk)
    (hv : ∀ (s : Shared) (H : Hp) (L : Addr) (cl : List (Str × Addr)) (fp : List Addr), PE (X.blk s H scope (compEnvC scope cl L X.env) fp) vx tv) (hs : ∀ x, foldedSetIterable iter X.env x = pure x := by intro _; rfl) :
    PE X (.DictComp kx vx [⟨tg, iter, ifs, 0⟩] scope pos) (tDcT wi g tt tk tv (own.map (·.2))) := by
  refine ⟨fun pins s σ H Q I h => ?_⟩
  rw [arm_eval_DictComp]
  refine dcT_core hu hc hN hi ok hg ht hk hv hs I h fun T L s' m H' I' q hn f => ⟨m, hn, fun h2 sb => ?_⟩
  obtain ⟨c0, c1, c2, c3, c4, c5⟩ := f
  exact ⟨.ref T, H', I'.turned (t' := s'.toks) (fun b o hb e => (sb.2 b hb).trans e) c0 c1 c3 c4 c5, rfl, q⟩
theorem ps_setDcT {i : Nat} {y : Str} {py spos : Pos} {kx vx tg iter : Expr} {ifs : List Expr} {scope : Scope} {own : List (Str × Nat)} {pos : Pos} {wi : TI} {g : TG} {tt : TT} {tk tv : TE} (hu : X.A.units + 1 < cLine) (hc : X.calm = true) (hN : X.N.Nodup) (hi : PI X tg iter wi) (ok : BlkOk X.N X.env.scope scope own)
    (hg : ∀ (s : Shared) (H : Hp) (L : Addr) (cl : List (Str × Addr)) (fp : List Addr), PG (X.blk s H scope (compEnvC scope cl L X.env) fp) tg g) (ht : ∀ (s : Shared) (H : Hp) (L : Addr) (cl : List (Str × Addr)) (fp : List Addr), PTs (X.blk s H scope (compEnvC scope cl L X.env) fp) ifs tt)
    (hk : ∀ (s : Shared) (H : Hp) (L : Addr) (cl : List (Str × Addr)) (fp : List Addr), PE (X.blk s H scope (compEnvC scope cl L X.env) fp) kx tk)
    (hv : ∀ (s : Shared) (H : Hp) (L : Addr) (cl : List (Str × Addr)) (fp : List Addr), PE (X.blk s H scope (compEnvC scope cl L X.env) fp) vx tv) (hy : X.N[i]? = some y) (hyl : X.env.scope.names.lookup y = some .local) (hsw : swapsWith (.DictComp kx vx [⟨tg, iter, ifs, 0⟩] scope pos) (some (.Name y py)) spos.line X.env = pure true) (hs : ∀ x, foldedSetIterable iter X.env x = pure x := by intro _; rfl) :
    PS X (.Assign [.Name y py] (.DictComp kx vx [⟨tg, iter, ifs, 0⟩] scope pos) spos) (tAsg (tDcT wi g tt tk tv (own.map (·.2))) (gName i)) := by
  refine ⟨fun pins s σ H D I h => ?_⟩
  rw [exec_Assign_Name_used _ _ _ _ hsw]
  refine wpAny_bind (wpAny_standAt (wpAny_bind ?_))
  show wpAny _ X.A (do let _ ← comprehension (.DictComp kx vx [⟨tg, iter, ifs, 0⟩] scope pos) scope X.env (firstIterPos [⟨tg, iter, ifs, 0⟩] pos) newDict false (eval iter X.env) (some (assign (.Name y py) X.env))) _ _ s
  have h2 : tDcT wi g tt tk tv (own.map (·.2)) σ H (fun x H1 => gName i x σ H1 D.nx) := h
  refine wpAny_bind (thn (dcT_core (Qf := fun _ s' => SP X pins D .next s') hu hc hN hi ok hg ht hk hv hs I h2 fun T L s' m H' I' q hn f => ?_) fun _ s' hq => wpAny_pure (wpAny_pure hq))
  show wpAny _ _ (assign (.Name y py) X.env (.ref T)) _ _ _
  refine wpAny_assign_Name (store_ok2 (v := V.ref T) I' hN hy (.inl hyl) rfl (fun s2 I2 ⟨a, sb, ha⟩ => ?_) (.inr hyl))
  obtain ⟨c0, c1, c2, c3, c4, c5⟩ := f
  have ne : L ≠ a := ha.elim (fun z => by rw [z]; exact c1) fun z e => c4 y a z e.symm
  exact ⟨m, hn.sameBut sb ne, fun h3 sb3 => ⟨_, H', I2.turned (t' := s2.toks) (fun b o hb e => (sb3.2 b hb).trans e) c0 c1 c3 c4 c5, q⟩⟩
theorem sw_trueD {kx vx : Expr} {gs : List Comprehension} {scope : Scope} {pos py : Pos} {y : Str} {l : Nat} {env : Env} (hk : env.scope.kind = .function) (hy : env.scope.names.lookup y = some .local) (hl : (py.line == pos.line) = true)
    (ha : (scope.names.any fun (n, k) => n == y && (k == .local || k == .cell)) = false) : swapsWith (.DictComp kx vx gs scope pos) (some (.Name y py)) l env = pure true := by
  have ky : env.kindOf y = some .local := hy
  have hb : env.blockKind = .function := by unfold Env.blockKind; rw [hk]; rfl
  unfold swapsWith
  simp only [hb, ky, ha, Expr.pos, hl]
  rfl
end
section
variable {C : Cfg}
theorem RE.otherT {ad : Nat → Addr} {σ : L2.St} {H : Hp} {env : Sls} (R : RE C ad H σ env) {a : Addr} {us us' : List (List Key × V)} (ha : C.M0 a) (hno : ¬ Ow env ad a) (h0 : C.H0 a = none) (ho : H a = some (.dT us)) : RE C ad (upd H a (.dT us')) σ env ∧ Ext (fun b => b = a) H (upd H a (.dT us')) := by
  have x : Ext (fun b => b = a) H (upd H a (.dT us')) := by
    refine ⟨fun b o e n _ => by rw [upd_ne n]; exact e, fun b xs e => ?_, fun b o u e => ?_, fun b e => ?_⟩
    · rw [upd_ne fun q => by rw [q, ho] at e; cases e]; exact e
    · rw [upd_ne fun q => by rw [q, ho] at e; cases e]; exact e
    · by_cases q : b = a
      · rw [q, upd_same]; exact fun z => nomatch z
      · rw [upd_ne q]; exact e
  refine ⟨⟨R.len, fun i s h => ?_, R.inj, R.loc, R.par, fun b o e n nt => ?_, R.frk, fun b e => x.trk b (R.trk b e), fun b e => x.trk b (R.m0 b e), tabs_off ho (fun _ z => nomatch z) (fun _ _ z => by unfold LamX.CodeO at z; cases z) R.tabs⟩, x⟩
  · refine SlOk.ext (C := C) (R.sl i s h) (fun o => ?_) (x.mono fun b e => .inl (e ▸ ha)) fun b z => .inl z
    rw [upd_ne fun e => hno ⟨i, s, h, o, e⟩]
  · rw [upd_ne fun q => by rw [q, h0] at e; cases e]
    exact R.same b o e n nt
end
abbrev KDs := List (List Key × D)
def dcL (vs : List Nat) (g : Gv) (tt : Ev1) (ms : Evs) (mv : Ev) : List D → KDs → Sls → Res (KDs × Sls)
  | [], acc, env => .ok (acc, env)
  | d :: ds, acc, env => do
    let e1 ← noE (g d env)
    let b ← noE (tt e1)
    if b.1 = true then do
      let r ← noE (ms b.2)
      let ys ← kpL r.1
      (match keysL ys with
      | some kk => if ys.length ≤ 1000 ∧ acc.length < sizeLine then do
          let q ← noE (mv r.2)
          let y ← kp q.1
          dcL vs g tt ms mv ds (putD acc kk y) (wipeE q.2 vs)
        else .bad
      | none => .bad)
    else dcL vs g tt ms mv ds acc (wipeE b.2 vs)
def mDcT (mi : Em) (vs : List Nat) (g : Gv) (tt : Ev1) (ms : Evs) (mv : Ev) : Ev := fun env => do
  let r ← mi env
  if okWipe r.2 vs = true then do
    let q ← dcL vs g tt ms mv r.1 [] (wipeE r.2 vs)
    pure (.dct q.1, backE r.2 q.2 vs)
  else .bad
section
variable {X : Cx} {C : Cfg} {W : WX} {k : Nat}
theorem dcT_sn {g : TG} {gv : Gv} {tt : TT} {mt : Ev1} {wi : TI} {mi : Em} {vs : List Nat} {tk : TA} {ms : Evs} {tv : TE} {mv : Ev} (hi : ∀ (M0 : Addr → Prop) (ad : Nat → Addr) (σ : L2.St) (H : Hp) (env : Sls) (R : It → Hp → Prop), RE (C.w M0) ad H σ env →
      (mi env).Wp (fun r => ∀ J hs H', RE (C.w M0) ad H' σ r.2 → Stp (C.w M0) ad H env H' r.2 → RpH C.K H' (Mo (C.w M0) r.2 ad) hs → Wk C.K J hs r.1 → r.1.length ≤ sizeLine → R J H') (Er (C.w M0) ad σ W) → wi σ H R)
    (hg : ∀ (M0 : Addr → Prop) (ad : Nat → Addr) (σ : L2.St) (H : Hp) (env : Sls) (d : D) (v : V) (Q : L2.St → Hp → Prop), RE (C.w M0) ad H σ env → Rp C.K H (Mo (C.w M0) env ad) d v →
      (gv d env).Wp (fun env' => ∀ σ', RE (C.w M0) ad H σ' env' → (∀ a, Ow env' ad a → Ow env ad a) → σ'.length = σ.length → (∀ j, j ∉ vs → σ'[j]? = σ[j]?) → Q σ' H) (fun _ => False) → g v σ H Q)
    (ht : ∀ (M0 : Addr → Prop) (ad : Nat → Addr) (σ : L2.St) (H : Hp) (env : Sls) (Q : Bool → Hp → Prop), RE (C.w M0) ad H σ env →
      (mt env).Wp (fun r => ∀ H', RE (C.w M0) ad H' σ r.2 → Stp (C.w M0) ad H env H' r.2 → Q r.1 H') (Er (C.w M0) ad σ W0) → tt σ H Q)
    (hk : ∀ (M0 : Addr → Prop) (ad : Nat → Addr) (σ : L2.St) (H : Hp) (env : Sls) (Q : List V → Hp → Prop), RE (C.w M0) ad H σ env →
      (ms env).Wp (fun r => ∀ us H', RE (C.w M0) ad H' σ r.2 → Stp (C.w M0) ad H env H' r.2 → VRL (C.w M0) ad H' σ r.2 r.1 us → Q us H') (Er (C.w M0) ad σ W0) → tk σ H Q)
    (hv : ∀ (M0 : Addr → Prop) (ad : Nat → Addr) (σ : L2.St) (H : Hp) (env : Sls) (Q : VK), RE (C.w M0) ad H σ env →
      (mv env).Wp (fun r => ∀ v H', RE (C.w M0) ad H' σ r.2 → Stp (C.w M0) ad H env H' r.2 → VR (C.w M0) ad H' σ r.2 r.1 v → Q v H') (Er (C.w M0) ad σ W0) → tv σ H Q)
    {M0 : Addr → Prop} {ad : Nat → Addr} {σ : L2.St} {H : Hp} {env : Sls} {Q : VK} (R : RE (C.w M0) ad H σ env)
    (w : (mDcT mi vs gv mt ms mv env).Wp (fun r => ∀ a H', H a = none → RE ((C.w M0).add a) ad H' σ r.2 → Stp (C.w M0) ad H env H' r.2 → CellOk C.K H' (Mo ((C.w M0).add a) r.2 ad) r.1 a → Q (.ref a) H') (Er (C.w M0) ad σ W)) : tDcT wi g tt (tTup tk) tv vs σ H Q := by
  unfold mDcT at w
  rw [wp_bind] at w
  refine hi M0 ad σ H env _ R (w.imp (fun r w1 J hds H1 R1 S1 Rh Wlk Hz => ?_) fun _ z => z)
  clear w
  obtain ⟨ds, env1⟩ := r
  simp only at w1 R1 S1 Rh Wlk Hz
  split at w1
  · rename_i hw
    intro L hL
    rw [wp_bind] at w1
    have sL : Same H1 (upd H1 L (.dT [])) := same_new hL
    have HL0 : H L = none := by
      cases z : H L with
      | none => rfl
      | some o => exact absurd hL (S1.ext.trk L (by rw [z]; exact fun z => nomatch z))
    have h0L : C.H0 L = none := by
      cases z : C.H0 L with
      | none => rfl
      | some o => exact absurd hL (R1.trk L (by show C.H0 L ≠ none; rw [z]; exact fun z => nomatch z))
    have LnO : ¬ Ow env1 ad L := fun z => R1.mtrk (.inr z) hL
    have RA : RE ((C.w M0).add L) ad (upd H1 L (.dT [])) σ env1 := R1.growAdd sL hL (by rw [upd_same]; exact fun z => nomatch z)
    refine ⟨ds.length, fun i H => i ≤ ds.length ∧ ∃ (env' : Sls) (acc : KDs) (us : List (List Key × V)), RE ((C.w M0).add L) ad H (L2.wipe σ vs) env' ∧ Ext (Ow env1 ad) H1 H ∧ (∀ a, Ow env' ad a → Ow env1 ad a) ∧
        H L = some (.dT us) ∧ RpK C.K H (Mo ((C.w M0).add L) env' ad) acc us ∧ acc.length ≤ sizeLine ∧
        (dcL vs gv mt ms mv (ds.drop i) acc env').Wp (fun q => ∀ H', RE ((C.w M0).add L) ad H' σ (backE env1 q.2 vs) → Ext (Ow env1 ad) H1 H' → (∀ a, Ow (backE env1 q.2 vs) ad a → Ow env1 ad a) →
          CellOk C.K H' (Mo ((C.w M0).add L) (backE env1 q.2 vs) ad) (.dct q.1) L → Q (.ref L) H') (fun _ => True), ⟨Nat.zero_le _, wipeE env1 vs, [], [], RA.wipe vs, .of_same sL, ow_wipe vs, upd_same, ⟨rfl, fun i p q e _ => by simp at e, fun i p q e _ => by simp at e⟩, Nat.zero_le _, ?_⟩, ?_⟩
    · rw [List.drop_zero]
      cases q : dcL vs gv mt ms mv ds [] (wipeE env1 vs) with
      | ok r =>
        rw [q] at w1
        intro H' R' x' mo' c'
        exact w1 L H' HL0 R' (S1.trans ⟨x', mo'⟩) c'
      | err c => exact True.intro
      | bad => rw [q] at w1; exact w1.elim
    · rintro i H2 ⟨hil, env2, acc, us, R2, x2, ow2, hus, rac, hacc, w2⟩
      have Rh2 : RpH C.K H2 (Mo ((C.w M0).add L) env2 ad) hds := Rh.ext (x2.mono fun a z => .inr z) fun b z => by
        rcases mo_add.mp z with z | z
        · exact .inl (z.imp id (ow2 b))
        · exact .inr (z ▸ hL)
      by_cases hlt : i < ds.length
      · have ed : ds[i]? = some ds[i] := List.getElem?_eq_getElem hlt
        have edr : ds.drop i = ds[i] :: ds.drop (i + 1) := List.drop_eq_getElem_cons hlt
        obtain ⟨hgo, hy⟩ := Wlk.go H2 _ i _ (fun a z => R2.mtrk z) Rh2 ed
        rw [edr] at w2
        unfold dcL at w2
        refine .inr ⟨hlt, hgo, fun x H3 y => ?_⟩
        obtain ⟨s3, rx⟩ := hy x H3 y
        have R3 : RE ((C.w M0).add L) ad H3 (L2.wipe σ vs) env2 := R2.grow s3
        rw [wp_bind] at w2
        refine hg _ ad (L2.wipe σ vs) H3 env2 ds[i] x _ R3 rx ((noE_wp (E' := fun _ => False) w2).imp (fun env3 w3 σ3 R3' ow3 l3 o3 => ?_) fun _ z => z)
        have ew : L2.wipe σ3 vs = L2.wipe σ vs := by
          rw [st_wipe_eq l3 o3]
          exact st_wipe_eq (wipe_length _ _) fun j hj => wipe_out hj
        refine ⟨ew, ?_⟩
        rw [wp_bind] at w3
        refine ht _ ad σ3 H3 env3 _ R3' ((noE_wp (E' := Er ((C.w M0).add L) ad σ3 W0) w3).imp (fun b w4 H4 R4 S4 => ?_) fun _ z => z)
        have x4 : Ext (Ow env1 ad) H2 H4 := (Ext.of_same s3).trans (S4.ext.mono fun a z => ow2 a (ow3 a z))
        have ow4 : ∀ a, Ow b.2 ad a → Ow env1 ad a := fun a z => ow2 a (ow3 a (S4.ow a z))
        have lowM : ∀ {e1 e2 : Sls}, (∀ a, Ow e2 ad a → Ow e1 ad a) → ∀ a, Mo ((C.w M0).add L) e2 ad a → Mo ((C.w M0).add L) e1 ad a := fun h a z => z.imp id (h a)
        split
        · rename_i hb
          rw [if_pos hb, wp_bind] at w4
          refine hk _ ad σ3 H4 b.2 _ R4 ((noE_wp (E' := Er ((C.w M0).add L) ad σ3 W0) w4).imp (fun r w5 ks H5 R5 S5 V5 => ?_) fun _ z => z)
          rw [wp_bind] at w5
          obtain ⟨w6, rks⟩ := kpL_rp V5 w5
          cases ek : keysL r.1 with
          | none => rw [ek] at w6; exact w6.elim
          | some kk =>
            rw [ek] at w6
            simp only at w6
            split at w6
            · rename_i hz
              have ekv := keysL_vs ek rks
              refine ⟨by rw [rks.len]; exact Nat.le_trans hz.1 (by decide), fun p hn => ?_⟩
              have sP : Same H5 (upd H5 p (.tup ks)) := same_new hn
              have R6 := R5.grow sP
              rw [wp_bind] at w6
              refine hv _ ad σ3 _ r.2 _ R6 ((noE_wp (E' := Er ((C.w M0).add L) ad σ3 W0) w6).imp (fun q w7 v H7 R7 S7 V7 => ?_) fun _ z => z)
              rw [wp_bind] at w7
              obtain ⟨_, w8, rv⟩ := kp_rp V7 w7
              have x5 : Ext (Ow env1 ad) H2 H5 := x4.trans (S5.ext.mono ow4)
              have ow5 : ∀ a, Ow r.2 ad a → Ow env1 ad a := fun a z => ow4 a (S5.ow a z)
              have x7 : Ext (Ow env1 ad) H2 H7 := (x5.trans (.of_same sP)).trans (S7.ext.mono ow5)
              have ow7 : ∀ a, Ow q.2 ad a → Ow env1 ad a := fun a z => ow5 a (S7.ow a z)
              have hL7 : H7 L = some (.dT us) := x7.stay L _ hus LnO fun _ z => nomatch z
              have hp7 : H7 p = some (.tup (kk.map kV)) := by rw [← ekv]; exact S7.ext.tups p ks upd_same
              obtain ⟨R8, x8⟩ := R7.otherT (us' := putK us kk v) (.inr rfl) (fun z => LnO (ow7 L z)) h0L hL7
              have rac7 : RpK C.K H7 (Mo ((C.w M0).add L) q.2 ad) acc us := rac.ext (((Ext.of_same s3).trans ((S4.ext.trans (S5.ext.mono S4.ow)).mono fun a z => .inr (ow3 a z))).trans ((Ext.of_same sP).trans (S7.ext.mono fun a z => .inr (ow3 a (S4.ow a (S5.ow a z)))))) fun a z => .inl (z.imp id fun z => ow3 a (S4.ow a (S5.ow a (S7.ow a z))))
              refine ⟨us, kk, p, rfl, hp7, hL7, by rw [rac7.len]; exact hz.2, hlt, wipeE q.2 vs, putD acc kk q.1, putK us kk v, by rw [← ew]; exact R8.wipe vs, ?_, fun a z => ow7 a (ow_wipe vs a z), upd_same, ?_, Nat.le_trans (length_putD _ _ _) hz.2, w8⟩
              · refine ⟨fun b o e n nt => ?_, fun b xs e => ?_, fun b o u e => ?_, fun b e => ?_⟩
                · rw [upd_ne fun q => by rw [q, hL] at e; cases e]
                  exact x7.stay b o (x2.stay b o e n nt) n nt
                · rw [upd_ne fun q => by rw [q, hL] at e; cases e]
                  exact x7.tups b xs (x2.tups b xs e)
                · rw [upd_ne fun q => by rw [q, hL] at e; cases e]
                  exact x7.frzs b o u (x2.frzs b o u e)
                · rw [upd_ne fun q => by rw [q] at e; exact e hL]
                  exact x7.trk b (x2.trk b e)
              · refine (rac7.put rv).ext (x8.mono fun b e => ?_) fun a z => .inl (lowM (fun a z => ow_wipe vs a z) a z)
                rw [e]
                exact .inl (.inr rfl)
            · exact w6.elim
        · rename_i hb
          rw [if_neg hb] at w4
          have hL4 : H4 L = some (.dT us) := x4.stay L _ hus LnO fun _ z => nomatch z
          refine ⟨hlt, wipeE b.2 vs, acc, us, by rw [← ew]; exact R4.wipe vs, x2.trans x4, fun a z => ow4 a (ow_wipe vs a z), hL4, ?_, hacc, w4⟩
          exact rac.ext ((Ext.of_same s3).trans (S4.ext.mono fun a z => .inr (ow3 a z))) fun a z => .inl (z.imp id fun z => ow3 a (S4.ow a (ow_wipe vs a z)))
      · have ei : i = ds.length := by omega
        subst ei
        rw [List.drop_length] at w2
        unfold dcL at w2
        refine .inl ⟨Wlk.stop H2 _ Rh2, ?_⟩
        have xb : Ext (Mo ((C.w M0).add L) env1 ad) (upd H1 L (.dT [])) H2 := by
          refine ⟨fun b o e n nt => ?_, fun b xs e => ?_, fun b o u e => ?_, fun b e => ?_⟩
          · rw [upd_ne fun q => n (.inl (.inr q))] at e
            exact x2.stay b o e (fun z => n (.inr z)) nt
          · by_cases q : b = L
            · rw [q, upd_same] at e; cases e
            · rw [upd_ne q] at e; exact x2.tups b xs e
          · by_cases q : b = L
            · rw [q, upd_same] at e; cases e
            · rw [upd_ne q] at e; exact x2.frzs b o u e
          · by_cases q : b = L
            · rw [q, hus]; exact fun z => nomatch z
            · rw [upd_ne q] at e; exact x2.trk b e
        obtain ⟨RB, mb⟩ := RE.back RA xb R2 ow2 hw
        rw [backS_wipe] at RB
        exact w2 H2 RB x2 (fun a z => ow2 a (mb a z)) ⟨hacc, us, hus, rac.ext .refl fun a z => .inl (z.imp id (mb a))⟩
  · exact w1.elim
variable {tg iter vx : Expr} {ks ifs : List Expr} {scope : Scope} {own : List (Str × Nat)} {wi : TI} {gt : TG} {tt : TT} {tk : TA} {tv : TE} {mi : Em} {gv : Gv} {mt : Ev1} {ms : Evs} {mv : Ev} {pos tp : Pos}
theorem ef_dcT {x1} (g : Gd X C W k) (hi : IM X C W tg iter wi mi) (ok : BlkOk X.N X.env.scope scope own)
    (hg : ∀ (s : Shared) (H : Hp) (L : Addr) (cl : List (Str × Addr)) (fp : List Addr), Gd (X.blk s H scope (compEnvC scope cl L X.env) fp) C W0 k → GM (X.blk s H scope (compEnvC scope cl L X.env) fp) C tg gt (own.map (·.2)) gv)
    (ht : ∀ (s : Shared) (H : Hp) (L : Addr) (cl : List (Str × Addr)) (fp : List Addr), Gd (X.blk s H scope (compEnvC scope cl L X.env) fp) C W0 k → TMs (X.blk s H scope (compEnvC scope cl L X.env) fp) C W0 ifs tt mt)
    (hk : ∀ (s : Shared) (H : Hp) (L : Addr) (cl : List (Str × Addr)) (fp : List Addr), Gd (X.blk s H scope (compEnvC scope cl L X.env) fp) C W0 k → AM (X.blk s H scope (compEnvC scope cl L X.env) fp) C W0 ks tk ms)
    (hv : ∀ (s : Shared) (H : Hp) (L : Addr) (cl : List (Str × Addr)) (fp : List Addr), Gd (X.blk s H scope (compEnvC scope cl L X.env) fp) C W0 k → EM (X.blk s H scope (compEnvC scope cl L X.env) fp) C W0 vx tv mv)
    (hs : ∀ x, foldedSetIterable iter X.env x = pure x := by intro _; rfl) :
    EF X C W (.DictComp (.Tuple ks x1 tp) vx [⟨tg, iter, ifs, 0⟩] scope pos) (tDcT wi gt tt (tTup tk) tv (own.map (·.2))) (mDcT mi (own.map (·.2)) gv mt ms mv) :=
  ⟨pe_dcT (hu_of g.room) g.calm g.nd hi.pe ok (fun s H L cl fp => (hg s H L cl fp g.blk).pe) (fun s H L cl fp => (ht s H L cl fp g.blk).pe) (fun s H L cl fp => pe_tup (hk s H L cl fp g.blk).pe) (fun s H L cl fp => (hv s H L cl fp g.blk).pe) hs,
    fun M0 ad σ H env Q R w => dcT_sn hi.sn (hg X.s_0 X.H_0 0 [] [] g.blk).sn (ht X.s_0 X.H_0 0 [] [] g.blk).sn (hk X.s_0 X.H_0 0 [] [] g.blk).sn (hv X.s_0 X.H_0 0 [] [] g.blk).sn R w⟩
theorem sm_dcTA {x1} {fresh : Bool} {i : Nat} {y : Str} {py spos : Pos} (g : Gd X C W k) (hi : IM X C W tg iter wi mi) (ok : BlkOk X.N X.env.scope scope own)
    (hg : ∀ (s : Shared) (H : Hp) (L : Addr) (cl : List (Str × Addr)) (fp : List Addr), Gd (X.blk s H scope (compEnvC scope cl L X.env) fp) C W0 k → GM (X.blk s H scope (compEnvC scope cl L X.env) fp) C tg gt (own.map (·.2)) gv)
    (ht : ∀ (s : Shared) (H : Hp) (L : Addr) (cl : List (Str × Addr)) (fp : List Addr), Gd (X.blk s H scope (compEnvC scope cl L X.env) fp) C W0 k → TMs (X.blk s H scope (compEnvC scope cl L X.env) fp) C W0 ifs tt mt)
    (hk : ∀ (s : Shared) (H : Hp) (L : Addr) (cl : List (Str × Addr)) (fp : List Addr), Gd (X.blk s H scope (compEnvC scope cl L X.env) fp) C W0 k → AM (X.blk s H scope (compEnvC scope cl L X.env) fp) C W0 ks tk ms)
    (hv : ∀ (s : Shared) (H : Hp) (L : Addr) (cl : List (Str × Addr)) (fp : List Addr), Gd (X.blk s H scope (compEnvC scope cl L X.env) fp) C W0 k → EM (X.blk s H scope (compEnvC scope cl L X.env) fp) C W0 vx tv mv)
    (hy : X.N[i]? = some y := by rfl) (hyl : X.env.scope.names.lookup y = some .local := by rfl) (hsw : swapsWith (.DictComp (.Tuple ks x1 tp) vx [⟨tg, iter, ifs, 0⟩] scope pos) (some (.Name y py)) spos.line X.env = pure true := by exact sw_trueD rfl rfl rfl (by decide +kernel)) (hs : ∀ x, foldedSetIterable iter X.env x = pure x := by intro _; rfl) :
    SM X C W (.Assign [.Name y py] (.DictComp (.Tuple ks x1 tp) vx [⟨tg, iter, ifs, 0⟩] scope pos) spos) (tAsg (tDcT wi gt tt (tTup tk) tv (own.map (·.2))) (gName i)) (match fresh with | true => mSetL i (mDcT mi (own.map (·.2)) gv mt ms mv) | false => mSet i (mDcT mi (own.map (·.2)) gv mt ms mv)) := by
  have hp : PS X (.Assign [.Name y py] (.DictComp (.Tuple ks x1 tp) vx [⟨tg, iter, ifs, 0⟩] scope pos) spos) (tAsg (tDcT wi gt tt (tTup tk) tv (own.map (·.2))) (gName i)) := ps_setDcT (hu_of g.room) g.calm g.nd hi.pe ok (fun s H L cl fp => (hg s H L cl fp g.blk).pe) (fun s H L cl fp => (ht s H L cl fp g.blk).pe) (fun s H L cl fp => pe_tup (hk s H L cl fp g.blk).pe) (fun s H L cl fp => (hv s H L cl fp g.blk).pe) hy hyl hsw hs
  have he2 := ef_dcT (pos := pos) (tp := tp) (x1 := x1) g hi ok hg ht hk hv hs
  cases fresh with
  | true => exact sm_lcL hp he2
  | false => exact sm_lc hp (em_of_ef he2)
end
/-! ### plainly -/
theorem dc1m {α : Type} {vs : List Nat} {g : Gv} {ms : Evs} {mv : Ev} {env : Sls} (c : α → D) (kk : α → List Key) (y : α → D) : ∀ (xs : List α) (acc : KDs), acc.length + xs.length ≤ 1000000 →
    (∀ x ∈ xs, ∃ e1 ys e2 e3, g (c x) env = .ok e1 ∧ ms e1 = .ok (ys, e2) ∧ kpL ys = .ok ys ∧ keysL ys = some (kk x) ∧ ys.length ≤ 1000 ∧ mv e2 = .ok (y x, e3) ∧ kp (y x) = .ok (y x) ∧ wipeE e3 vs = env) →
    dcL vs g mYes ms mv (xs.map c) acc env = .ok (xs.foldl (fun a x => putD a (kk x) (y x)) acc, env)
  | [], acc, _, _ => rfl
  | x :: xs, acc, hz, h => by
    obtain ⟨e1, ys, e2, e3, h1, h2, h3, h4, h5, h6, h7, h8⟩ := h x (.head _)
    have l := length_putD acc (kk x) (y x)
    rw [List.length_cons] at hz
    have ih := dc1m (vs := vs) (g := g) (ms := ms) (mv := mv) (env := env) c kk y xs (putD acc (kk x) (y x)) (by omega) fun z hz => h z (.tail _ hz)
    have hl : acc.length < sizeLine := Nat.lt_of_lt_of_le (show acc.length < 1000000 by omega) (by decide)
    rw [List.map_cons, List.foldl_cons]
    unfold dcL
    simp only [h1, noE_ok, y1, mYes, if_true, h2, h3, h4, h5, hl, and_self, h6, h7, h8, ih]
@[simp] theorem z_mDcT (mi : Em) (vs : List Nat) (g : Gv) (tt : Ev1) (ms : Evs) (mv : Ev) (env : Sls) : mDcT mi vs g tt ms mv env = (do
  let r ← mi env
  if okWipe r.2 vs = true then do
    let q ← dcL vs g tt ms mv r.1 [] (wipeE r.2 vs)
    pure (.dct q.1, backE r.2 q.2 vs)
  else .bad) := rfl
end Vm
end
section
set_option maxRecDepth 100000
set_option maxHeartbeats 4000000
/-! Vm, part ZR: x in l, where x and the items are plain data of a small depth. -/
namespace Vm
open PySem PySem.Spec PyProof.Rows L2
/-- x in l, l a list or a tuple of data -/
def rInS (K : PySem.W.Frag) (neg : Bool) : R2 := fun x y H Q => ∃ d ds, Dp K H x d ∧ (Dp K H y (.list ds) ∨ Dp K H y (.tuple ds)) ∧ d.canLay0 = true ∧ PyData.canLayAll0 ds = true ∧ d.depth ≤ 60 ∧ Q (.bl (if neg then !ds.any (fun z => PyData.eqv z d) else ds.any fun z => PyData.eqv z d)) H
theorem op_inS {X : Cx} (hu : X.A.units + 64 < cLine) : OpR X (compareOp .In) (rInS X.K false) := by
  intro pins s σ H x y v u Q I rx ry h
  obtain ⟨d, ds, hd, he, c1, c2, hl, q⟩ := h
  have room : X.A.units + 1 + min (PyData.depthAll ds) d.depth < cLine := by
    have := Nat.min_le_right (PyData.depthAll ds) d.depth
    omega
  obtain ⟨as, r1⟩ := Dp.reads I d x v hd rx
  rcases he with he | he
  · obtain ⟨bs, r2⟩ := Dp.reads I (.list ds) y u he ry
    exact SeqAt.in_list_reads r2 r1 c2 c1 room ⟨.bl _, H, I, rfl, q⟩
  · obtain ⟨bs, r2⟩ := Dp.reads I (.tuple ds) y u he ry
    exact SeqAt.in_tuple_reads r2 r1 c2 c1 room ⟨.bl _, H, I, rfl, q⟩
theorem op_ninS {X : Cx} (hu : X.A.units + 64 < cLine) : OpR X (compareOp .NotIn) (rInS X.K true) := by
  intro pins s σ H x y v u Q I rx ry h
  obtain ⟨d, ds, hd, he, c1, c2, hl, q⟩ := h
  have room : X.A.units + 1 + min (PyData.depthAll ds) d.depth < cLine := by
    have := Nat.min_le_right (PyData.depthAll ds) d.depth
    omega
  obtain ⟨as, r1⟩ := Dp.reads I d x v hd rx
  rcases he with he | he
  · obtain ⟨bs, r2⟩ := Dp.reads I (.list ds) y u he ry
    exact SeqAt.notIn_list_reads r2 r1 c2 c1 room ⟨.bl _, H, I, rfl, q⟩
  · obtain ⟨bs, r2⟩ := Dp.reads I (.tuple ds) y u he ry
    exact SeqAt.notIn_tuple_reads r2 r1 c2 c1 room ⟨.bl _, H, I, rfl, q⟩
def itD (y : D) : Option (List D) := match y with
  | .lst ds => some ds
  | .tup ds => some ds
  | _ => none
def inS (neg : Bool) (x y : D) : Res D := match itD y with
  | some ds => if x.py.canLay0 = true ∧ PyData.canLayAll0 (D.pyL ds) = true ∧ x.py.depth ≤ 60 then .ok (.bl (if neg then !(D.pyL ds).any (fun z => PyData.eqv z x.py) else (D.pyL ds).any fun z => PyData.eqv z x.py)) else .bad
  | none => .bad
section
variable {K : PySem.W.Frag}
theorem os_inS {neg : Bool} : OpS K (rInS K neg) (inS neg) := by
  intro H M x y dx dy Q tk rx ry w
  unfold inS at w
  cases e : itD dy with
  | none => rw [e] at w; exact w.elim
  | some ds =>
    rw [e] at w
    simp only at w
    split at w
    · rename_i hc
      obtain ⟨c1, c2, hl⟩ := hc
      refine ⟨dx.py, D.pyL ds, rx.dp c1, ?_, c1, c2, hl, w _ _ (.refl _) (.bl _)⟩
      cases dy with
      | lst es =>
        obtain rfl : es = ds := Option.some.inj e
        exact .inl (ry.dp (by simpa only [D.py, PyData.canLay0] using c2))
      | tup es =>
        obtain rfl : es = ds := Option.some.inj e
        exact .inr (ry.dp (by simpa only [D.py, PyData.canLay0] using c2))
      | _ => cases e
    · exact w.elim
theorem os_inSA : OpS K (rInS K false) (inS false) := os_inS
theorem os_ninSA : OpS K (rInS K true) (inS true) := os_inS
end
section
variable {X : Cx} {C : Cfg} {W : WX} {k : Nat}
theorem oInS (g : Gd X C W k) : OpR X (compareOp .In) (rInS C.K false) := g.kE ▸ op_inS g.room.units
theorem oNinS (g : Gd X C W k) : OpR X (compareOp .NotIn) (rInS C.K true) := g.kE ▸ op_ninS g.room.units
end
/-! ### rows of ints -/
theorem py_ints : ∀ ns : List Int, D.pyL (ns.map D.int) = ns.map PyData.int
  | [] => rfl
  | n :: ns => by rw [List.map_cons, D.pyL, py_ints ns]; rfl
theorem lay_ints : ∀ ns : List Int, PyData.canLayAll0 (ns.map PyData.int) = true ∧ PyData.depthAll (ns.map PyData.int) = 0
  | [] => by simp [PyData.canLayAll0, PyData.depthAll]
  | n :: ns => by
    obtain ⟨h1, h2⟩ := lay_ints ns
    simp [PyData.canLayAll0, PyData.depthAll, PyData.canLay0, PyData.depth, h1, h2]
theorem py_row (b : List Int) : (rowD b).py = .tuple (b.map PyData.int) := by
  unfold rowD
  rw [D.py, py_ints]
theorem row_lay (b : List Int) : (rowD b).py.canLay0 = true := by
  rw [py_row, PyData.canLay0, (lay_ints b).1]
theorem row_depth (b : List Int) : (rowD b).py.depth ≤ 60 := by
  rw [py_row, PyData.depth, (lay_ints b).2]
  omega
theorem eqv_ints : ∀ a b : List Int, PyData.eqvAll (a.map PyData.int) (b.map PyData.int) = decide (a = b)
  | [], [] => by simp [PyData.eqvAll]
  | [], b :: bs => by simp [PyData.eqvAll]
  | a :: as, [] => by simp [PyData.eqvAll]
  | a :: as, b :: bs => by
    rw [List.map_cons, List.map_cons]
    simp only [PyData.eqvAll, PyData.eqv, eqv_ints as bs]
    by_cases h : a = b <;> by_cases g : as = bs <;> simp [h, g]
theorem eqv_row (a b : List Int) : PyData.eqv (rowD a).py (rowD b).py = decide (a = b) := by
  rw [py_row, py_row]
  simp only [PyData.eqv]
  exact eqv_ints a b
theorem lay_rows : ∀ bs : List (List Int), PyData.canLayAll0 (D.pyL (bs.map rowD)) = true
  | [] => by simp [D.pyL, PyData.canLayAll0]
  | b :: bs => by rw [List.map_cons, D.pyL, PyData.canLayAll0, row_lay, lay_rows bs]; rfl
theorem any_rows (b : List Int) : ∀ bs : List (List Int), (D.pyL (bs.map rowD)).any (fun z => PyData.eqv z (rowD b).py) = decide (b ∈ bs)
  | [] => by simp [D.pyL]
  | a :: bs => by
    rw [List.map_cons, D.pyL, List.any_cons, any_rows b bs, eqv_row]
    by_cases h : a = b
    · subst h; simp
    · have h2 : ¬ b = a := fun e => h e.symm
      simp [h, h2]
theorem in_rows (neg : Bool) (b : List Int) (bs : List (List Int)) : inS neg (rowD b) (.lst (bs.map rowD)) = .ok (.bl (if neg then !decide (b ∈ bs) else decide (b ∈ bs))) := by
  unfold inS
  show (if _ then _ else _) = _
  rw [if_pos ⟨row_lay b, lay_rows bs, row_depth b⟩, any_rows]
@[simp] theorem z_mExt (i : Nat) (m : Ev) (env : Sls) : mExt i m env = (match env[i]?.bind Sl.con with
  | some (.lst _) => do
    let r ← m env
    let d ← kp r.1
    match r.2[i]? with
    | some s => (match s.con, d with
      | some (.lst ds), .lst es => if ds.length + es.length ≤ sizeLine then pure (.non, r.2.set i (s.put (.lst (ds ++ es)))) else .bad
      | _, _ => .bad)
    | _ => .bad
  | _ => .bad) := rfl
end Vm
end
section
set_option maxRecDepth 100000
set_option maxHeartbeats 4000000
/-! Vm, part ZS: list(range(..)), tuple(range(..)). -/
namespace Vm
open PySem PySem.Spec PyProof.Rows L2
def rgD (a b : Int) : List D := (List.range (b - a).toNat).map fun i : Nat => D.int (a + (i : Int))
theorem rgD_len (a b : Int) : (rgD a b).length = (b - a).toNat := by unfold rgD; rw [List.length_map, List.length_range]
theorem rp_rg {K : PySem.W.Frag} {H : Hp} {M : Addr → Prop} (a b : Int) : RpL K H M (rgD a b) (rgV a b) := by
  refine ⟨by rw [rgD_len, rgV_length], fun i d v h1 h2 => ?_⟩
  unfold rgD at h1
  unfold rgV at h2
  rw [List.getElem?_map] at h1 h2
  cases q : (List.range (b - a).toNat)[i]? with
  | none => rw [q] at h1; cases h1
  | some z => rw [q] at h1 h2; cases h1; cases h2; exact .int _
theorem rg2_RgOk {i j : Int} (h : rg2 (i, j) = true) : RgOk i j := by
  rw [rg2_eq] at h
  simp only at h
  refine ⟨?_, ?_, ?_, ?_, ?_⟩ <;> omega
theorem rgD_size {i j : Int} (h : rg2 (i, j) = true) : (rgD i j).length ≤ sizeLine := by
  rw [rg2_eq] at h
  simp only at h
  rw [rgD_len, sizeLine_eq]
  omega
noncomputable def mLrg1 (ma : Ev) : Ev := fun env => do
  let r1 ← ma env
  match r1.1 with
  | .int j => if rg2 (0, j) = true then pure (.lst (rgD 0 j), r1.2) else .bad
  | _ => .bad
noncomputable def mLrg2 (ma mb : Ev) : Ev := fun env => do
  let r1 ← ma env
  let r2 ← mb r1.2
  match r1.1, r2.1 with
  | .int i, .int j => if rg2 (i, j) = true then pure (.lst (rgD i j), r2.2) else .bad
  | _, _ => .bad
noncomputable def mTrg1 (ma : Ev) : Ev := fun env => do
  let r1 ← ma env
  match r1.1 with
  | .int j => if rg2 (0, j) = true then pure (.tup (rgD 0 j), r1.2) else .bad
  | _ => .bad
@[simp] theorem z_mLrg1 (ma : Ev) (env : Sls) : mLrg1 ma env = (do
  let r1 ← ma env
  match r1.1 with
  | .int j => if rg2 (0, j) = true then pure (.lst (rgD 0 j), r1.2) else .bad
  | _ => .bad) := rfl
@[simp] theorem z_mLrg2 (ma mb : Ev) (env : Sls) : mLrg2 ma mb env = (do
  let r1 ← ma env
  let r2 ← mb r1.2
  match r1.1, r2.1 with
  | .int i, .int j => if rg2 (i, j) = true then pure (.lst (rgD i j), r2.2) else .bad
  | _, _ => .bad) := rfl
@[simp] theorem z_mTrg1 (ma : Ev) (env : Sls) : mTrg1 ma env = (do
  let r1 ← ma env
  match r1.1 with
  | .int j => if rg2 (0, j) = true then pure (.tup (rgD 0 j), r1.2) else .bad
  | _ => .bad) := rfl
section
variable {X : Cx} {C : Cfg} {W : WX} {k : Nat} {a b : Expr} {ta tb : TE} {ma mb : Ev} {p p2 q pos : Pos}
theorem vr_int {C : Cfg} {ad : Nat → Addr} {H : Hp} {σ : L2.St} {env : Sls} {i : Int} {v : V} (h : VR C ad H σ env (.int i) v) : v = .int i := by
  have h : Rp C.K H (Mo C env ad) (.int i) v := h
  cases h
  rfl
theorem ef_lrg1 (g : Gd X C W k) (hg : Gl X "list") (hm : X.mg "list" = none) (hg2 : Gl X "range") (hm2 : X.mg "range" = none) (ha : EM X C W a ta ma)
    (na : starEach [a] X.env = (false, eval a X.env) :: starEach [] X.env := by rfl) (nb : starEach [.Call (.Name "range" p2) [a] [] q] X.env = (false, eval (.Call (.Name "range" p2) [a] [] q) X.env) :: starEach [] X.env := by rfl) :
    EF X C W (.Call (.Name "list" p) [.Call (.Name "range" p2) [a] [] q] [] pos) (tLstRg (tRg1 ta)) (mLrg1 ma) := by
  refine ⟨pe_listRg g.calm hg hm (prg_1 hg2 hm2 ha.pe na) nb, fun M0 ad σ H env Q R w => ?_⟩
  unfold mLrg1 at w
  refine ha.sn' R w fun r1 v1 H1 R1 S1 V1 w1 => ?_
  obtain ⟨d1, e1⟩ := r1
  cases d1 with
  | int j =>
    simp only at w1 V1
    split at w1
    · rename_i hc
      refine ⟨j, vr_int V1, rg2_RgOk hc, fun p hn => w1 p _ ?_ (R1.growAdd (same_new hn) hn (by rw [upd_same]; exact fun z => nomatch z)) (S1.trans (.grow (same_new hn))) ((cell_new (rp_rg 0 j) hn (rgD_size hc)).ext rfl .refl fun b z => .inl (mo_add.mp z))⟩
      cases z : H p with
      | none => rfl
      | some o => exact absurd hn (S1.ext.trk p (by rw [z]; exact fun z => nomatch z))
    · exact w1.elim
  | _ => exact w1.elim
theorem ef_lrg2 (g : Gd X C W k) (hg : Gl X "list") (hm : X.mg "list" = none) (hg2 : Gl X "range") (hm2 : X.mg "range" = none) (ha : EM X C W a ta ma) (hb : EM X C W b tb mb)
    (na : starEach [a, b] X.env = (false, eval a X.env) :: starEach [b] X.env := by rfl) (na2 : starEach [b] X.env = (false, eval b X.env) :: starEach [] X.env := by rfl) (hp : (backTo q (starEach [b] X.env)).any (·.1) = false := by rfl)
    (nb : starEach [.Call (.Name "range" p2) [a, b] [] q] X.env = (false, eval (.Call (.Name "range" p2) [a, b] [] q) X.env) :: starEach [] X.env := by rfl) :
    EF X C W (.Call (.Name "list" p) [.Call (.Name "range" p2) [a, b] [] q] [] pos) (tLstRg (tRg2 ta tb)) (mLrg2 ma mb) := by
  refine ⟨pe_listRg g.calm hg hm (prg_2 hg2 hm2 ha.pe hb.pe na na2 hp) nb, fun M0 ad σ H env Q R w => ?_⟩
  unfold mLrg2 at w
  refine ha.sn' R w fun r1 v1 H1 R1 S1 V1 w1 => ?_
  refine hb.sn' R1 w1 fun r2 v2 H2 R2 S2 V2 w2 => ?_
  obtain ⟨d1, e1⟩ := r1
  obtain ⟨d2, e2⟩ := r2
  cases d1 with
  | int i =>
    cases d2 with
    | int j =>
      simp only at w2 V1 V2
      split at w2
      · rename_i hc
        refine ⟨i, j, vr_int V1, vr_int V2, rg2_RgOk hc, fun p hn => w2 p _ ?_ (R2.growAdd (same_new hn) hn (by rw [upd_same]; exact fun z => nomatch z)) ((S1.trans S2).trans (.grow (same_new hn))) ((cell_new (rp_rg i j) hn (rgD_size hc)).ext rfl .refl fun b z => .inl (mo_add.mp z))⟩
        cases z : H p with
        | none => rfl
        | some o => exact absurd hn ((S1.trans S2).ext.trk p (by rw [z]; exact fun z => nomatch z))
      · exact w2.elim
    | _ => exact w2.elim
  | _ => exact w2.elim
theorem em_trg1 (g : Gd X C W k) (hg : Gl X "tuple") (hm : X.mg "tuple" = none) (hg2 : Gl X "range") (hm2 : X.mg "range" = none) (ha : EM X C W a ta ma)
    (na : starEach [a] X.env = (false, eval a X.env) :: starEach [] X.env := by rfl) (nb : starEach [.Call (.Name "range" p2) [a] [] q] X.env = (false, eval (.Call (.Name "range" p2) [a] [] q) X.env) :: starEach [] X.env := by rfl) :
    EM X C W (.Call (.Name "tuple" p) [.Call (.Name "range" p2) [a] [] q] [] pos) (tTupRg (tRg1 ta)) (mTrg1 ma) := by
  refine ⟨pe_tupRg g.calm hg hm (prg_1 hg2 hm2 ha.pe na) nb, fun M0 ad σ H env Q R w => ?_⟩
  unfold mTrg1 at w
  refine ha.sn' R w fun r1 v1 H1 R1 S1 V1 w1 => ?_
  obtain ⟨d1, e1⟩ := r1
  cases d1 with
  | int j =>
    simp only at w1 V1
    split at w1
    · rename_i hc
      refine ⟨j, vr_int V1, rg2_RgOk hc, fun p hn => w1 _ _ (R1.grow (same_new hn)) (S1.trans (.grow (same_new hn))) (.of (.tup' (.of upd_same) (rgD_size hc) (rp_rg 0 j)))⟩
    · exact w1.elim
  | _ => exact w1.elim
end
end Vm
end
section
set_option maxRecDepth 100000
set_option maxHeartbeats 4000000
/-! Vm, part ZT: list(range(i, j)), the bounds of any size. -/
namespace Vm
open PySem PySem.Spec PyProof.Rows L2
section
variable {P : Program} {w : World} {A : Around} {E : Value → Shared → Prop} {s : Shared}
abbrev lgO (i m e : Int) : Obj := { cls := .type "longrange_iterator", data := .fields #[rawInt i, rawInt m, rawInt e] }
abbrev AtL (h : Heap) (Z : Addr) (xs : Array Value) (cap : Nat) : Prop := h.get? Z = some { cls := .type "list", dict := none, data := .seq xs cap, slots := #[] }
theorem ext_long {R : Result → Shared → Prop} {q : Addr} {i j e : Int} {t u v : Tok} {m : Nat} (cold : A.handled = none) (rg : IsRange s.heap q i j e t u v) (big : Builtin.Range.small i j e = false)
    (sz : Builtin.Range.rangeSize i j e = m) (few : m ≤ 2 ^ 24) (Z : Addr) (back : Value) (cap : Nat) (at0 : AtL s.heap Z #[] cap)
    (k : ∀ g tk xs cap', (∀ b o, b ≠ Z → s.heap.get? b = some o → g.get? b = some o) → AtL g Z xs cap' → ItemsOf (fun n z => ∃ t, z = .int (i + n * e) t) xs m → R (.ok (.ret back)) { s with heap := g, toks := tk }) :
    wpAny (model P w) A.in1 (Builtin.List.listExtendWith (.ref Z) (.ref q) back) (fun fin z => match fin with | .done f => R (.ok f) z | .again c => c.quiet = true ∧ codeAny (model P w) A c R z) (fun x z => R (.error x) z) s := by
  have Zq : Z ≠ q := fun z => by
    subst z
    have z2 := rg.symm.trans at0
    simp at z2
  have ltZ : Z < s.heap.objs.size := Heap.lt_size at0
  have neZ : Z ≠ s.heap.objs.size := Nat.ne_of_lt ltZ
  have out : Z ∉ [s.heap.objs.size] := fun z => neZ (List.mem_singleton.mp z)
  have walk := (Walks.longrange (prog := P) (w := w) (A := A.in1) cold s.heap.objs.size i e m).toS
  have key : ∀ (h : Heap) (c tk : Nat), IsLongIter h s.heap.objs.size (i + ((0 : Nat) : Int) * e) ((m : Int) - ((0 : Nat) : Int)) e → (∀ b o, b ≠ Z → s.heap.get? b = some o → h.get? b = some o) → AtL h Z #[] c →
      codeAny (model P w) A (.builtin "list.extend.loop" ⟨[.ref Z, .ref s.heap.objs.size, back], []⟩) R { s with heap := h, toks := tk } := by
    intro h c tk hit hk atZ
    refine codeAny_extend_loopS walk (by rw [sizeLine_eq]; omega) Z out back m 0 _ #[] c rfl (Nat.zero_le _) hit atZ (ItemsOf.nil _) fun z xs c' mv at2 its => ?_
    rw [Moved.eq_with mv]
    refine k z.heap z.toks xs c' (fun b o hb hh => mv.heap b o (fun mm => ?_) (hk b o hb hh)) at2 its
    rcases List.mem_cons.mp mm with z1 | z1
    · exact hb z1
    · exact absurd (Heap.lt_size hh) (by rw [List.mem_singleton.mp z1]; exact Nat.lt_irrefl _)
  unfold Builtin.List.listExtendWith; refine wpAny_bind (wpAny_typeOf (T := "range") ⟨_, rg, rfl⟩ ?_)
  have b1 : Builtin.List.listSameRef (.ref Z) (.ref q) = false := by simp [Builtin.List.listSameRef, Zq]
  have b2 : (Value.type "range" == Value.type "list") = false := by decide
  have b3 : (Value.type "range" == Value.type "tuple") = false := by decide
  simp only [b1, b2, b3, Bool.or_false, Bool.false_eq_true, if_false]
  refine wpAny_bind (wpAny_pyIter_longrange rg big ?_)
  refine wpAny_bind (wpAny_holding (wpAny_hint_range (n := m) (Heap.get?_push_of_some _ rg) sz few ?_))
  have itr : IsLongIter (s.heap.push (lgO i (Builtin.Range.rangeSize i j e) e)) s.heap.objs.size (i + ((0 : Nat) : Int) * e) ((m : Int) - ((0 : Nat) : Int)) e := by
    show IsLongIter _ _ _ _ _
    rw [sz]
    simpa using Heap.get?_push_size _ rfl
  have at1 := Heap.get?_push_of_some (lgO i (Builtin.Range.rangeSize i j e) e) at0
  refine wpAny_ite_split (fun _ => ?_) (fun _ => ?_)
  · refine wpAny_bind (wpAny_rule ?_)
    refine wpAny_bind ?_
    show wpAny _ _ (updateSeq Z (·.push .none) >>= fun _ => updateSeq Z (·.pop)) _ _ _
    refine wpAny_bind (wpAny_updateSeq at1 rfl ?_)
    have at2 := Heap.get?_update_self (Obj.mapSeq (·.push Value.none)) at1 rfl
    refine wpAny_updateSeq (hz := by seq_fits) at2 rfl ?_
    have at3 := Heap.get?_update_self (Obj.mapSeq (·.pop)) at2 rfl
    refine wpAny_pure ⟨plainId_quiet F.plain_extend_loop _, key _ _ _ ?_ (fun b o hb hh => ?_) at3⟩
    · exact (Heap.get?_update_other _ _ neZ).trans ((Heap.get?_update_other _ _ neZ).trans itr)
    · exact (Heap.get?_update_other _ _ (Ne.symm hb)).trans ((Heap.get?_update_other _ _ (Ne.symm hb)).trans (Heap.get?_push_of_some _ hh))
  · exact wpAny_pure ⟨plainId_quiet F.plain_extend_loop _, key _ cap _ itr (fun b o _ hh => Heap.get?_push_of_some _ hh) at1⟩
theorem init_long {R : Result → Shared → Prop} {q : Addr} {i j e : Int} {t u v : Tok} {m : Nat} (cold : A.handled = none) (rg : IsRange s.heap q i j e t u v) (big : Builtin.Range.small i j e = false)
    (sz : Builtin.Range.rangeSize i j e = m) (few : m ≤ 2 ^ 24) (Z : Addr) (at0 : AtL s.heap Z #[] 0)
    (k : ∀ g tk xs cap', (∀ b o, b ≠ Z → s.heap.get? b = some o → g.get? b = some o) → AtL g Z xs cap' → ItemsOf (fun n z => ∃ t, z = .int (i + n * e) t) xs m → R (.ok (.ret .none)) { s with heap := g, toks := tk }) :
    wpAny (model P w) A.in1 (Builtin.«list.__init__» ⟨[.ref Z, .ref q], []⟩) (fun fin z => match fin with | .done f => R (.ok f) z | .again c => c.quiet = true ∧ codeAny (model P w) A c R z) (fun x z => R (.error x) z) s := by
  have Zq : Z ≠ q := fun z => by
    subst z
    have z2 := rg.symm.trans at0
    simp at z2
  show wpAny _ _ (Builtin.List.listItems (.ref Z) >>= fun old => Builtin.List.listUpdate (.ref Z) (fun _ => #[]) >>= fun _ => letGo old.toList.reverse >>= fun _ => Builtin.List.listExtendWith (.ref Z) (.ref q) .none) _ _ s
  refine wpAny_bind ?_
  unfold Builtin.List.listItems
  refine wpAny_bind (wpAny_seqItems at0 rfl (wpAny_pure ?_))
  show wpAny _ _ (updateSeq Z (fun _ => #[]) >>= fun _ => letGo (#[] : Array Value).toList.reverse >>= fun _ => Builtin.List.listExtendWith (.ref Z) (.ref q) .none) _ _ s
  refine wpAny_bind (wpAny_updateSeq at0 rfl ?_)
  have at2 := Heap.get?_update_self (Obj.mapSeq (fun _ => (#[] : Array Value))) at0 rfl
  have oth : ∀ b o, b ≠ Z → s.heap.get? b = some o → (s.heap.update Z (Obj.mapSeq (fun _ => (#[] : Array Value)))).get? b = some o := fun b o hb hh => (Heap.get?_update_other _ _ (Ne.symm hb)).trans hh
  exact wpAny_bind (wpAny_letGo (ext_long cold (oth q _ (Ne.symm Zq) rg) big sz few Z .none _ at2 fun g tk xs c hk atZ its => k g tk xs c (fun b o hb hh => hk b o hb (oth b o hb hh)) atZ its))
theorem call_list_long {Q : Value → Shared → Prop} {q : Addr} {i j e : Int} {t u v : Tok} {m : Nat} (cold : A.handled = none) (rg : IsRange s.heap q i j e t u v) (big : Builtin.Range.small i j e = false)
    (sz : Builtin.Range.rangeSize i j e = m) (few : m ≤ 2 ^ 24)
    (k : ∀ g tk xs cap, (∀ b o, s.heap.get? b = some o → g.get? b = some o) → AtL g s.heap.objs.size xs cap → ItemsOf (fun n z => ∃ t, z = .int (i + n * e) t) xs m → Q (.ref s.heap.objs.size) { s with heap := g, toks := tk }) :
    wpAny (model P w) A (call (.type "list") [.ref q]) Q E s := by
  refine callType_codes (Q₁ := fun x z => x = .ref s.heap.objs.size ∧ z = { s with heap := s.heap.push { cls := .type "list", data := .seq #[] } }) F.called_list (F.typeCall_list_1 _) F.entry_list_init (code_list_new _ ⟨rfl, rfl⟩) fun x z hx => ?_
  obtain ⟨rfl, rfl⟩ := hx
  have at0 : AtL (s.heap.push { cls := .type "list", data := .seq #[] }) s.heap.objs.size #[] 0 := Heap.get?_push_size _ rfl
  refine ⟨⟨_, at0, rfl⟩, F.args_list_init_2 _ _, init_long (A := A.in1) cold (Heap.get?_push_of_some _ rg) big sz few _ at0 fun g tk xs c hk atZ its => ?_⟩
  exact ⟨rfl, k g tk xs c (fun b o hh => hk b o (Nat.ne_of_lt (Heap.lt_size hh)) (Heap.get?_push_of_some _ hh)) atZ its⟩
end
section
variable {X : Cx} {e : Expr} {te : L2.St → Hp → (Int → Int → Hp → Prop) → Prop}
/-- bounds of any size, not too far apart -/
def RgAny (a b : Int) : Prop := (b - a).toNat ≤ 2 ^ 24
def tLstRgA (te : L2.St → Hp → (Int → Int → Hp → Prop) → Prop) : TE := fun σ H Q => te σ H fun a b H1 => RgAny a b ∧ ∀ q, H1 q = none → Q (.ref q) (upd H1 q (.lst (rgV a b)))
theorem pe_listRgA {p pos : Pos} (hc : X.calm = true) (hg : Gl X "list") (hm : X.mg "list" = none) (he : PRg X e te) (na : starEach [e] X.env = (false, eval e X.env) :: starEach [] X.env := by rfl) :
    PE X (.Call (.Name "list" p) [e] [] pos) (tLstRgA te) := by
  refine ⟨fun pins s σ H Q I h => ?_⟩
  refine Call_ (ld_blt I hg hm boot_list (PyProof.Rows.callWith_type1 (args_cons (thn (he pins s σ H _ I h) fun x s1 z => args_nil ?_) na) na))
  obtain ⟨r, a, b, t, u, v, H1, rfl, hr, I1, ok, q⟩ := z
  have fin : ∀ (g : Heap) (tk : Nat) (xs : Array Value) (cap : Nat), (∀ b o, s1.heap.get? b = some o → g.get? b = some o) → AtL g s1.heap.objs.size xs cap → ItemsOf (fun n z => ∃ t, z = .int (a + n * 1) t) xs (b - a).toNat →
      ∃ x H', Inv X pins σ H' { s1 with heap := g, toks := tk } ∧ RelV x (.ref s1.heap.objs.size) ∧ Q x H' := by
    intro g tk xs cap hk at2 its
    refine ⟨.ref s1.heap.objs.size, upd H1 s1.heap.objs.size (.lst (rgV a b)), I1.laid hk (Nat.le_refl _) (show ObjOk X.prog X.w _ _ _ (.lst (rgV a b)) from ⟨?_, xs.toList, cap, vals_rg its, ?_⟩), rfl, q _ (I1.hok.fresh (Nat.le_refl _))⟩
    · rw [rgV_length, sizeLine_eq]
      have : (b - a).toNat ≤ 2 ^ 24 := ok
      omega
    · rw [Array.toArray_toList]
      exact at2
  cases sm : Builtin.Range.small a b 1 with
  | true => exact call_list_range (n := (b - a).toNat) (I1.ok.hd hc) hr sm (rangeSize_nat a b) ok fun g tk xs cap hk at2 its => fin g tk xs cap hk at2 its
  | false => exact call_list_long (m := (b - a).toNat) (I1.ok.hd hc) hr sm (rangeSize_nat a b) ok fun g tk xs cap hk at2 its => fin g tk xs cap hk at2 its
end
/-- the rule with the size alone asked -/
theorem rg3_ex : ∃ f : Int × Int → Bool, ∀ p, (f p = true) = (p.2 - p.1 ≤ 100000) := ⟨fun p => decide (p.2 - p.1 ≤ 100000), fun p => decide_eq_true_eq⟩
noncomputable def rg3 : Int × Int → Bool := Classical.choose rg3_ex
theorem rg3_eq (p : Int × Int) : (rg3 p = true) = (p.2 - p.1 ≤ 100000) := Classical.choose_spec rg3_ex p
noncomputable def mLrgA (ma mb : Ev) : Ev := fun env => do
  let r1 ← ma env
  let r2 ← mb r1.2
  match r1.1, r2.1 with
  | .int i, .int j => if rg3 (i, j) = true then pure (.lst (rgD i j), r2.2) else .bad
  | _, _ => .bad
@[simp] theorem z_mLrgA (ma mb : Ev) (env : Sls) : mLrgA ma mb env = (do
  let r1 ← ma env
  let r2 ← mb r1.2
  match r1.1, r2.1 with
  | .int i, .int j => if rg3 (i, j) = true then pure (.lst (rgD i j), r2.2) else .bad
  | _, _ => .bad) := rfl
section
variable {X : Cx} {C : Cfg} {W : WX} {k : Nat} {a b : Expr} {ta tb : TE} {ma mb : Ev} {p p2 q pos : Pos}
theorem ef_lrgA (g : Gd X C W k) (hg : Gl X "list") (hm : X.mg "list" = none) (hg2 : Gl X "range") (hm2 : X.mg "range" = none) (ha : EM X C W a ta ma) (hb : EM X C W b tb mb)
    (na : starEach [a, b] X.env = (false, eval a X.env) :: starEach [b] X.env := by rfl) (na2 : starEach [b] X.env = (false, eval b X.env) :: starEach [] X.env := by rfl) (hp : (backTo q (starEach [b] X.env)).any (·.1) = false := by rfl)
    (nb : starEach [.Call (.Name "range" p2) [a, b] [] q] X.env = (false, eval (.Call (.Name "range" p2) [a, b] [] q) X.env) :: starEach [] X.env := by rfl) :
    EF X C W (.Call (.Name "list" p) [.Call (.Name "range" p2) [a, b] [] q] [] pos) (tLstRgA (tRg2 ta tb)) (mLrgA ma mb) := by
  refine ⟨pe_listRgA g.calm hg hm (prg_2 hg2 hm2 ha.pe hb.pe na na2 hp) nb, fun M0 ad σ H env Q R w => ?_⟩
  unfold mLrgA at w
  refine ha.sn' R w fun r1 v1 H1 R1 S1 V1 w1 => ?_
  refine hb.sn' R1 w1 fun r2 v2 H2 R2 S2 V2 w2 => ?_
  obtain ⟨d1, e1⟩ := r1
  obtain ⟨d2, e2⟩ := r2
  cases d1 with
  | int i =>
    cases d2 with
    | int j =>
      simp only at w2 V1 V2
      split at w2
      · rename_i hc
        rw [rg3_eq] at hc
        simp only at hc
        have hz : (rgD i j).length ≤ sizeLine := by rw [rgD_len, sizeLine_eq]; omega
        refine ⟨i, j, vr_int V1, vr_int V2, (by show (j - i).toNat ≤ 2 ^ 24; omega), fun p hn => w2 p _ ?_ (R2.growAdd (same_new hn) hn (by rw [upd_same]; exact fun z => nomatch z)) ((S1.trans S2).trans (.grow (same_new hn))) ((cell_new (rp_rg i j) hn hz).ext rfl .refl fun b z => .inl (mo_add.mp z))⟩
        cases z : H p with
        | none => rfl
        | some o => exact absurd hn ((S1.trans S2).ext.trk p (by rw [z]; exact fun z => nomatch z))
      · exact w2.elim
    | _ => exact w2.elim
  | _ => exact w2.elim
end
end Vm
end
section
set_option maxRecDepth 100000
set_option maxHeartbeats 4000000
/-! Vm, part ZU: owned lists are lent for a test; `for x in xs: x.append(0)`, where xs are lists of the def's own making. -/
namespace Vm
open PySem PySem.Spec PyProof.Rows L2
section
variable {X : Cx} {C : Cfg} {W : WX} {k : Nat}
/-! ### lending -/
theorem RE.lend0 {ad : Nat → Addr} {H : Hp} {σ : L2.St} {env : Sls} (R : RE C ad H σ env) : RE C ad H σ (lendE env) := by
  have mo : ∀ b, Mo C (lendE env) ad b → Mo C env ad b ∨ H b = none := fun b z => z.elim (fun z => .inl (.inl z)) fun z => absurd z ow_lend
  have no : ∀ (i : Nat) (s : Sl), (lendE env)[i]? = some s → s.isOwn = true → False := fun i s e o => by
    obtain ⟨s0, _, rfl⟩ := lend_at e
    rw [lend_own] at o
    cases o
  have cel : ∀ (i : Nat) (d0 : D) (s : Sl), env[i]? = some s → (s = .l d0 ∨ s = .r d0) → CellOk C.K H (Mo C env ad) d0 (ad i) → σ[i]?.join = some (.ref (ad i)) → SlOk C H (Mo C (lendE env) ad) (σ[i]?.join) (.t d0) (ad i) := fun i d0 s e hs c hv => by
    have hno : ¬ Mo C (lendE env) ad (ad i) := fun z => z.elim (R.loc i d0 (hs.imp (fun q => by rw [e, q]) fun q => by rw [e, q])).2 ow_lend
    exact ⟨.ref (ad i), hv, cell_rp (c.ext rfl .refl mo) hno fun _ z => z⟩
  refine ⟨by unfold lendE; rw [List.length_map]; exact R.len, fun i s e => ?_, fun i j s t e1 e2 o => (no _ _ e1 o).elim, fun i d e => (e.elim (fun e => no _ _ e rfl) fun e => no _ _ e rfl).elim, fun i d e => (no _ _ e rfl).elim, R.same, R.frk, R.trk, R.m0, R.tabs⟩
  obtain ⟨s0, e0, rfl⟩ := lend_at e
  have q := R.sl i s0 e0
  cases s0 with
  | u => trivial
  | p _ => trivial
  | t d0 =>
    obtain ⟨y, h1, h2⟩ := q
    exact ⟨y, h1, h2.ext .refl mo⟩
  | l d0 => exact cel i d0 _ e0 (.inl rfl) q.2 q.1
  | r d0 => exact cel i d0 _ e0 (.inr rfl) q.2 q.1
/-- .. and come back as they were -/
theorem RE.back0 {ad : Nat → Addr} {H H' : Hp} {σ : L2.St} {env env' : Sls} (R : RE C ad H σ env) (R' : RE C ad H' σ env') (x : Ext (Ow (lendE env) ad) H H') : RE C ad H' σ env ∧ Stp C ad H env H' env := by
  have x1 : Ext (Ow env ad) H H' := x.mono fun a z => absurd z ow_lend
  have x2 : Ext (Mo C env ad) H H' := x.mono fun a z => absurd z ow_lend
  have keep : ∀ b o, H b = some o → (∀ ps, o ≠ .tbl ps) → H' b = some o := fun b o e t => x.stay b o e ow_lend t
  refine ⟨⟨R.len, fun i s e => ?_, R.inj, R.loc, R.par, R'.same, R.frk, R'.trk, R'.m0, R'.tabs⟩, ⟨x1, fun _ h => h⟩⟩
  have q := R.sl i s e
  have cel : ∀ d, CellOk C.K H (Mo C env ad) d (ad i) → CellOk C.K H' (Mo C env ad) d (ad i) := fun d c => by
    refine c.ext ?_ x2 fun b z => .inl z
    cases z : H (ad i) with
    | none => exact absurd z c.trk
    | some o => exact keep _ _ z (c.notbl z)
  cases s with
  | u => trivial
  | t d => obtain ⟨y, h1, h2⟩ := q; exact ⟨y, h1, h2.ext x2 fun b z => .inl z⟩
  | l d => exact ⟨q.1, cel d q.2⟩
  | p d => exact ⟨q.1, cel d q.2⟩
  | r d => exact ⟨q.1, cel d q.2⟩
def mLendT (m : Ev1) : Ev1 := fun env => do
  let r ← m (lendE env)
  pure (r.1, env)
theorem tm_lend {e : Expr} {t : TT} {m : Ev1} (h : TM X C W e t m) : TM X C W e t (mLendT m) := by
  refine ⟨h.pe, fun M0 ad σ H env Q R w => ?_⟩
  unfold mLendT at w
  refine h.sn' (RE.lend0 R) w fun r H1 R1 S1 w1 => ?_
  obtain ⟨R2, S2⟩ := RE.back0 R R1 S1.ext
  exact w1 H1 R2 S2

/-! ### statements that may spoil lists -/
def FinX (C : Cfg) (Dn : L2.Ends) (r : Out × Sls) : Prop :=
  match r.1 with
  | .next => ∀ ad' σ' H', RE C ad' H' σ' r.2 → Dn.nx σ' H'
  | .brk => ∀ ad' σ' H', RE C ad' H' σ' r.2 → Dn.bk σ' H'
  | .cont => ∀ ad' σ' H', RE C ad' H' σ' r.2 → Dn.ct σ' H'
  | .ret d => ∀ ad' σ' H' v, RetOk C ad' H' σ' r.2 d v → Dn.rt v H'
theorem FinX.fin {Dn : L2.Ends} {ad : Nat → Addr} {H : Hp} {env : Sls} {r : Out × Sls} (h : FinX C Dn r) : Fin C Dn ad H env r := by
  obtain ⟨o, e2⟩ := r
  cases o with
  | next => exact fun ad' σ' H' R' _ => h ad' σ' H' R'
  | brk => exact fun ad' σ' H' R' _ => h ad' σ' H' R'
  | cont => exact fun ad' σ' H' R' _ => h ad' σ' H' R'
  | ret d => exact h
structure SX (X : Cx) (C : Cfg) (W : WX) (st : Stmt) (t : TS) (m : Sv) : Prop where
  pe : PS X st t
  sn : ∀ (ad : Nat → Addr) (σ : L2.St) (H : Hp) (env : Sls) (Dn : L2.Ends), RE C ad H σ env → (m env).Wp (FinX C Dn) (ErS C W) → t Dn σ H
structure SSX (X : Cx) (C : Cfg) (W : WX) (st : List Stmt) (t : TS) (m : Sv) : Prop where
  pe : PSs X st t
  sn : ∀ (ad : Nat → Addr) (σ : L2.St) (H : Hp) (env : Sls) (Dn : L2.Ends), RE C ad H σ env → (m env).Wp (FinX C Dn) (ErS C W) → t Dn σ H
theorem SM.x {st : Stmt} {t : TS} {m : Sv} (h : SM X C W st t m) : SX X C W st t m := ⟨h.pe, fun ad σ H env Dn R w => h.sn ad σ H env Dn R (w.imp (fun _ z => z.fin) fun _ z => z)⟩
theorem ssx_one {st : Stmt} {t : TS} {m : Sv} (h : SX X C W st t m) : SSX X C W [st] t m := ⟨pss_one h.pe, h.sn⟩
theorem ssx_cons {st : Stmt} {sts : List Stmt} {t u : TS} {m1 m2 : Sv} (h1 : SX X C W st t m1) (h2 : SSX X C W sts u m2) : SSX X C W (st :: sts) (tSeq t u) (mSq m1 m2) := by
  refine ⟨pss_cons h1.pe h2.pe, fun ad σ H env Dn R w => ?_⟩
  unfold mSq at w
  rw [wp_bind] at w
  refine h1.sn ad σ H env { Dn with nx := u Dn } R (w.imp (fun r z => ?_) fun _ z => z)
  obtain ⟨o, e2⟩ := r
  cases o with
  | next => exact fun ad' σ' H' R' => h2.sn ad' σ' H' e2 Dn R' z
  | brk => exact z
  | cont => exact z
  | ret d => exact z
/-- data in which no list lies -/
def nol : D → Bool
  | .tup xs => xs.all D.flat
  | .scr _ => true
  | d => d.sc
theorem sq_stay {K : PySem.W.Frag} {H H' : Hp} {a : Addr} {xs : List V} (st : ∀ b o, H b = some o → (∀ xs, o ≠ .lst xs) → H' b = some o) (h : SqT K H a xs) : SqT K H' a xs := by
  rcases h with (h | ⟨o, h⟩) | h
  · exact .inl (.inl (st _ _ h fun _ z => nomatch z))
  · exact .inl (.inr ⟨o, st _ _ h fun _ z => nomatch z⟩)
  · exact .inr h
theorem Rp.flat2 {K : PySem.W.Frag} {H H' : Hp} {M M' : Addr → Prop} {d : D} {v : V} (st : ∀ b o, H b = some o → (∀ xs, o ≠ .lst xs) → H' b = some o) (h : Rp K H M d v) (f : d.flat = true) : Rp K H' M' d v := by
  have sc : ∀ {d : D} {v : V}, Rp K H M d v → d.sc = true → Rp K H' M' d v := fun h f => by
    cases h with
    | non => exact .non
    | bl b => exact .bl b
    | int i => exact .int i
    | str y => exact .str y
    | _ => cases f
  cases h with
  | tup h hl hz hi => exact .tup (sq_stay st h) hl hz fun i d v e1 e2 => sc (hi i d v e1 e2) (List.all_eq_true.mp f d (List.mem_of_getElem? e1))
  | non => exact .non
  | bl b => exact .bl b
  | int i => exact .int i
  | str y => exact .str y
  | _ => cases f
theorem Rp.nol {K : PySem.W.Frag} {H H' : Hp} {M M' : Addr → Prop} {d : D} {v : V} (st : ∀ b o, H b = some o → (∀ xs, o ≠ .lst xs) → H' b = some o) (h : Rp K H M d v) (f : Vm.nol d = true) : Rp K H' M' d v := by
  cases h with
  | tup h hl hz hi => exact .tup (sq_stay st h) hl hz fun i d v e1 e2 => (hi i d v e1 e2).flat2 st (List.all_eq_true.mp f d (List.mem_of_getElem? e1))
  | non => exact .non
  | bl b => exact .bl b
  | int i => exact .int i
  | str y => exact .str y
  | scr h hz =>
    refine .scr ?_ hz
    rcases h with ⟨o, h⟩ | h
    · exact .inl ⟨o, st _ _ h fun _ z => nomatch z⟩
    · exact .inr h
  | _ => cases f
def deadS : Sl → Sl
  | .t d => if nol d = true then .t d else .u
  | .l (.lst ds) => if ds.all nol = true then .l (.lst ds) else .u
  | _ => .u
def short (n : Nat) : D → Bool
  | .lst xs => decide (xs.length + n < sizeLine)
  | _ => false
def mMut (i : Nat) (mi : Ev) : Sv := fun env => do
  let r ← mi env
  match r.1 with
  | .lst ds => if (ds.all (short ds.length) && decide (i < r.2.length)) = true then pure (.next, (r.2.map deadS).set i .u) else .bad
  | _ => .bad
theorem dead_own {s : Sl} (h : (deadS s).isOwn = true) : ∃ ds, s = .l (.lst ds) ∧ ds.all nol = true ∧ deadS s = s := by
  cases s with
  | t d => by_cases q : nol d = true <;> simp [deadS, q, Sl.isOwn] at h
  | l d =>
    cases d with
    | lst ds =>
      by_cases q : ds.all nol = true
      · exact ⟨ds, rfl, q, by simp only [deadS]; rw [if_pos q]⟩
      · simp only [deadS] at h
        rw [if_neg q] at h
        cases h
    | _ => cases h
  | _ => cases h
theorem dead_at {env : Sls} {i j : Nat} {s : Sl} (h : ((env.map deadS).set i .u)[j]? = some s) : s = .u ∨ (j ≠ i ∧ ∃ s0, env[j]? = some s0 ∧ s = deadS s0) := by
  by_cases hj : i = j
  · subst hj
    rw [List.getElem?_set, if_pos rfl] at h
    split at h
    · cases h; exact .inl rfl
    · cases h
  · rw [List.getElem?_set_ne hj, List.getElem?_map] at h
    cases e : env[j]? with
    | none => rw [e] at h; cases h
    | some s0 => rw [e] at h; cases h; exact .inr ⟨fun z => hj z.symm, s0, rfl, rfl⟩
theorem dead_ok {H H' : Hp} {M M' : Addr → Prop} {v : Option V} {s : Sl} {a : Addr} (st : ∀ b o, H b = some o → (∀ xs, o ≠ .lst xs) → H' b = some o)
    (sl : ∀ ds, s = .l (.lst ds) → ∀ us, H a = some (.lst us) → H' a = some (.lst us)) (q : SlOk C H M v s a) : SlOk C H' M' v (deadS s) a := by
  cases s with
  | t d =>
    by_cases hd : nol d = true
    · have e : deadS (.t d) = .t d := by simp only [deadS]; rw [if_pos hd]
      rw [e]
      obtain ⟨y, q1, q2⟩ := q
      exact ⟨y, q1, q2.nol st hd⟩
    · have e : deadS (.t d) = .u := by simp only [deadS]; rw [if_neg hd]
      rw [e]
      trivial
  | l d =>
    cases d with
    | lst ds' =>
      by_cases hd : ds'.all nol = true
      · have e : deadS (.l (.lst ds')) = .l (.lst ds') := by simp only [deadS]; rw [if_pos hd]
        rw [e]
        obtain ⟨q1, q2, us, q3, q4⟩ := q
        exact ⟨q1, q2, us, sl _ rfl _ q3, q4.len, fun n d v e1 e2 => (q4.item n d v e1 e2).nol st (List.all_eq_true.mp hd d (List.mem_of_getElem? e1))⟩
      · have e : deadS (.l (.lst ds')) = .u := by simp only [deadS]; rw [if_neg hd]
        rw [e]
        trivial
    | _ => trivial
  | _ => trivial
theorem sx_mut (i : Nat) {tg iter : Expr} {body : List Stmt} {te : TE} {mi : Ev} {mb : Sv} {gv : Gv} {vs0 : List Nat} {pos : Pos} (g : Gd X C W k) (hL : ∀ a xs, C.H0 a = some (.lst xs) → C.M0 a) (h : EF X C W iter te mi)
    (hg : GM X C tg (gName i) vs0 gv) (hb : SSM X C W body (tDrop (tBM C.K "list" rAppend (tVar i) (tCons (tC (.int 0)) tNil))) mb)
    (hp : PassesOwn (model X.prog X.w) X.A X.env X.xe := by exact passes_of rfl) (hs : ∀ x, foldedSetIterable iter X.env x = pure x := by intro _; rfl) :
    SX X C W (.For tg iter body [] pos) (tFor (iList C.K te) (gName i) (tDrop (tBM C.K "list" rAppend (tVar i) (tCons (tC (.int 0)) tNil)))) (mMut i mi) := by
  refine ⟨ps_for hp g.calm (g.kE ▸ pi_list h.pe) hg.pe hb.pe hs, fun ad σ H env Dn R w => ?_⟩
  unfold mMut at w
  refine h.st R w fun r a H1 hn R1 S1 c w1 => ?_
  obtain ⟨d, env1⟩ := r
  simp only at w1 R1 S1 c
  cases d with
  | lst ds =>
    simp only at w1
    split at w1
    · rename_i hsh0
      obtain ⟨hsh, hie⟩ := Bool.and_eq_true_iff.mp hsh0
      have hie := of_decide_eq_true hie
      obtain ⟨hz, vs, hv, rl⟩ := c
      have RU : RE C ad H1 σ env1 := R1.unadd
      refine ⟨a, rfl, ⟨vs, .of hv⟩, ?_⟩
      -- the items
      have item : ∀ v, v ∈ vs → ∃ b us, v = V.ref b ∧ H1 b = some (.lst us) ∧ ¬ Mo (C.add a) env1 ad b ∧ us.length + ds.length < sizeLine := fun v hv => by
        obtain ⟨j, hj, e⟩ := List.getElem_of_mem hv
        have e1 : vs[j]? = some v := by rw [List.getElem?_eq_getElem hj, e]
        obtain ⟨d, e2, rp⟩ := rl.at2 e1
        have q := List.all_eq_true.mp hsh d (List.mem_of_getElem? e2)
        cases rp with
        | lst h1 hm hl hz hi =>
          refine ⟨_, _, rfl, h1, hm, ?_⟩
          rw [hl]
          exact of_decide_eq_true q
        | _ => cases q
      have na : V.ref a ∉ vs := fun z => by
        obtain ⟨b, us, e, _, hm, _⟩ := item _ z
        cases e
        exact hm (mo_add.mpr (.inr rfl))
      have nM : ∀ b, Mo C env1 ad b → V.ref b ∉ vs := fun b hb z => by
        obtain ⟨b', us, e, _, hm, _⟩ := item _ z
        cases e
        exact hm (mo_add.mpr (.inl hb))
      have isl : ∀ b o, H1 b = some o → (∀ xs, o ≠ .lst xs) → V.ref b ∉ vs := fun b o e ne z => by
        obtain ⟨b', us, e', e2, _⟩ := item _ z
        cases e'
        rw [e] at e2
        cases e2
        exact ne _ rfl
      refine ⟨fun i2 m σ2 H2 => m = ds.length - i2 ∧ i2 ≤ ds.length ∧ σ2.length = σ.length ∧ (∀ j, j ≠ i → σ2[j]? = σ[j]?) ∧ (∀ b o, H1 b = some o → V.ref b ∉ vs → H2 b = some o) ∧ (∀ b, H1 b ≠ none → H2 b ≠ none) ∧
        (∀ b, V.ref b ∈ vs → ∃ us, H2 b = some (.lst us) ∧ us.length + (ds.length - i2) < sizeLine), ⟨ds.length, by simp, Nat.zero_le _, rfl, fun _ _ => rfl, fun _ _ e _ => e, fun _ e => e, fun b hb => ?_⟩, ?_⟩
      · obtain ⟨b', us, e, e2, _, e3⟩ := item _ hb
        cases e
        exact ⟨us, e2, e3⟩
      · rintro i2 m σ2 H2 ⟨rfl, hil, l2, o2, st2, tk2, it2⟩
        have ha2 : H2 a = some (.lst vs) := st2 _ _ hv na
        by_cases hlt : i2 < ds.length
        · have hlv : i2 < vs.length := by rw [rl.len]; exact hlt
          have ev : vs[i2]? = some vs[i2] := List.getElem?_eq_getElem hlv
          refine .inr ⟨⟨vs, vs[i2], .of ha2, ev⟩, fun σ3 H3 => σ3.length = σ.length ∧ (∀ j, j ≠ i → σ3[j]? = σ[j]?) ∧ (∀ b o, H1 b = some o → V.ref b ∉ vs → H3 b = some o) ∧ (∀ b, H1 b ≠ none → H3 b ≠ none) ∧
            (∀ b, V.ref b ∈ vs → ∃ us, H3 b = some (.lst us) ∧ us.length + (ds.length - (i2 + 1)) < sizeLine), fun σ3 H3 h3 => ⟨ds.length - (i2 + 1), by omega, rfl, hlt, h3⟩, fun x H3 y => ?_⟩
          obtain ⟨e3, y⟩ := y
          subst e3
          have ex := y vs (.of ha2)
          rw [ev] at ex
          cases ex
          obtain ⟨b, _, eb, _⟩ := item _ (List.getElem_mem hlv)
          have hbm : V.ref b ∈ vs := by rw [← eb]; exact List.getElem_mem hlv
          obtain ⟨us, hb2, hlen⟩ := it2 b hbm
          rw [eb]
          have hi2 : i < σ2.length := by rw [l2, RU.len]; exact hie
          refine ⟨.ref b, by rw [List.getElem?_set_self hi2], .inl ⟨rfl, us, .of hb2⟩, ?_⟩
          refine ⟨b, us, .int 0, rfl, rfl, hb2, by omega, ?_⟩
          refine ⟨by rw [List.length_set]; exact l2, fun j hj => by rw [List.getElem?_set_ne (Ne.symm hj)]; exact o2 j hj, fun b' o e n => ?_, fun b' e => ?_, fun b' hb' => ?_⟩
          · rw [upd_ne fun z => by rw [z] at n; exact n hbm]
            exact st2 b' o e n
          · by_cases z : b' = b
            · rw [z, upd_same]; exact fun z => nomatch z
            · rw [upd_ne z]; exact tk2 b' e
          · by_cases z : b' = b
            · subst z
              rw [upd_same]
              refine ⟨_, rfl, ?_⟩
              rw [List.length_append]
              show us.length + 1 + _ < _
              omega
            · rw [upd_ne z]
              obtain ⟨us', q1, q2⟩ := it2 b' hb'
              exact ⟨us', q1, by omega⟩
        · have ei : i2 = ds.length := by omega
          subst ei
          refine .inl ⟨⟨vs, .of ha2, by rw [rl.len]; exact Nat.le_refl _⟩, ?_⟩
          refine w1 ad σ2 H2 ?_
          have stl : ∀ b o, H1 b = some o → (∀ xs, o ≠ .lst xs) → H2 b = some o := fun b o e n => st2 b o e (isl b o e n)
          refine ⟨by rw [List.length_set, List.length_map, l2]; exact RU.len, fun j s e => ?_, fun j j' s t e e' o o' q => ?_, fun j d e => ?_, fun j d e => ?_, fun b o e n nt => ?_, R.frk, fun b e => tk2 b (RU.trk b e), fun b e => tk2 b (RU.m0 b e), fun p hp => ?_⟩
          · rcases dead_at e with rfl | ⟨hj, s0, e0, rfl⟩
            · trivial
            · have q := RU.sl j s0 e0
              show SlOk C H2 _ (σ2[j]?.join) (deadS s0) (ad j)
              rw [o2 j hj]
              exact dead_ok stl (fun ds' es us q3 => st2 _ _ q3 (nM _ (.inr ⟨j, _, e0, by rw [es]; rfl, rfl⟩))) q
          · rcases dead_at e with rfl | ⟨hj, s0, e0, rfl⟩
            · cases o
            · rcases dead_at e' with rfl | ⟨hj', t0, e0', rfl⟩
              · cases o'
              · obtain ⟨_, h1, _, h2⟩ := dead_own o
                obtain ⟨_, h3, _, h4⟩ := dead_own o'
                exact RU.inj _ _ _ _ e0 e0' (by rw [← h2]; exact o) (by rw [← h4]; exact o') q
          · have fin : ∀ s, ((env1.map deadS).set i .u)[j]? = some s → s.isOwn = true → env1[j]? = some s := fun s e o => by
              rcases dead_at e with rfl | ⟨hj, s0, e0, rfl⟩
              · cases o
              · obtain ⟨_, h1, _, h2⟩ := dead_own o
                rw [h2]; exact e0
            exact RU.loc j d (e.imp (fun e => fin _ e rfl) fun e => fin _ e rfl)
          · rcases dead_at e with q | ⟨hj, s0, e0, q⟩
            · cases q
            · have o : (deadS s0).isOwn = true := by rw [← q]; rfl
              obtain ⟨_, h1, _, h2⟩ := dead_own o
              rw [h2, h1] at q
              cases q
          · have e1 := RU.same b o e n nt
            refine st2 b o e1 fun z => ?_
            obtain ⟨b', us, e', e2, hm, _⟩ := item _ z
            cases e'
            rw [e1] at e2
            cases e2
            exact hm (.inl (.inl (hL _ _ e)))
          · obtain ⟨ps, e1, e2, e3⟩ := RU.tabs p hp
            refine ⟨ps, stl _ _ e1 (fun _ z => nomatch z), e2, fun pos cv hc => ?_⟩
            obtain ⟨c', q1, q2⟩ := e3 pos cv hc
            exact ⟨c', q1, stl _ _ q2 (fun _ z => by unfold LamX.CodeO at z; cases z)⟩
    · exact w1.elim
  | _ => exact w1.elim
end
/-- a def's body that may spoil lists; the caller's lists are held by M0 -/
def BodyX (P : Program) (w : World) (K : PySem.W.Frag) (T : List (Addr × Str)) (mg : Str → Option Value) (base : Heap) (N : List Str) (qual : Str) (st : Stmt) (k : Nat) (m : Sv) : Prop :=
  ∀ (f : Addr) (cdv : Value) (A : Around) (outer : List Env) (s : Shared) (H : Hp) (E : XK) (M0 fr : Addr → Prop) (pa : Nat → Addr), (∀ a xs, H a = some (.lst xs) → M0 a) →
    Gd (cxOf (L2.CX P w) P w K mg base N qual (defScope st) f cdv A outer s H E) (mkC K T mg H M0 fr pa false) (fun cls d _ H' => E cls d H') k →
    ∃ t, SSX (cxOf (L2.CX P w) P w K mg base N qual (defScope st) f cdv A outer s H E) (mkC K T mg H M0 fr pa false) (fun cls d _ H' => E cls d H') (defBody st) t m
section
variable {P : Program} {w : World} {K : PySem.W.Frag} {mg : Str → Option Value} {base : Heap} {x : Str} {st : Stmt} {f : Addr} {fd : FuncData} {N ps : List Str} {k n : Nat} {m : Sv} {T : List (Addr × Str)}
theorem fnX (F : Fun K x x st f fd) (S : FnScope N ps (defScope st)) (hn : ps.length = n) (hm : mg x = some (.ref f)) (hb : Binds K fd ps []) (B : BodyX P w K T mg base N x st k m) :
    Fn P w K mg base (k + 1) x (spP K T mg n (fun ds => if ds.all nol = true then run N.length m ds else .bad)) := by
  refine ⟨f, fd, ps, F.okX S (fun vs H Q E h => h.1.trans hn.symm) (fun cdv A outer s H vs Q E hr h => ?_), hm, F.kp, hb⟩
  obtain ⟨hl, ht, M, ds, tk, r, q⟩ := h
  have hds : ds.length ≤ N.length := by rw [← r.len, hl, ← hn]; exact pre_len S
  dsimp only at q
  split at q
  · rename_i hnol
    have hL : ∀ a xs, H a = some (.lst xs) → (M a ∨ ∃ xs, H a = some (.lst xs)) := fun a xs e => .inr ⟨xs, e⟩
    obtain ⟨t, hs⟩ := B f cdv A outer s H E (fun a => M a ∨ ∃ xs, H a = some (.lst xs)) (fun _ => False) (fun _ => 0) hL (gd_of S hr)
    have r2 : RpL K H (fun a => M a ∨ ∃ xs, H a = some (.lst xs)) ds vs := ⟨r.len, fun i d v e1 e2 => (r.item i d v e1 e2).nol (fun _ _ e _ => e) (List.all_eq_true.mp hnol d (List.mem_of_getElem? e1))⟩
    have tk2 : ∀ a, (M a ∨ ∃ xs, H a = some (.lst xs)) → H a ≠ none := fun a z => z.elim (tk a) fun ⟨xs, e⟩ => by rw [e]; exact fun z => nomatch z
    refine ⟨t, hs.pe, hs.sn _ _ H _ _ (re_start hds tk2 ht r2) ?_⟩
    unfold run at q
    cases z : m (envOf N.length ds) with
    | ok r3 =>
      rw [z] at q
      obtain ⟨o, e2⟩ := r3
      cases o with
      | ret d =>
        intro ad' σ' H' v hR
        obtain ⟨R', rp⟩ := hR
        exact q v H' (R'.sme) (rp.less fun b z => .inl (.inl z))
      | next => exact fun ad' σ' H' R' => q .non H' (R'.sme) .non
      | brk => exact q.elim
      | cont => exact q.elim
    | err c =>
      rw [z] at q
      exact fun ad' σ' cls dd H' e' hc R' => q cls dd H' hc R'.sme
    | bad => rw [z] at q; exact q.elim
  · exact q.elim
end
end Vm
end
section
set_option maxRecDepth 100000
set_option maxHeartbeats 4000000
/-! Vm, part ZV: a comprehension over the keys of a dict with tuple keys that is data (not an own cell): it is locked meanwhile. -/
namespace Vm
open PySem PySem.Spec PyProof.Rows L2
abbrev Cfg.fx (C : Cfg) (F : Addr → Prop) : Cfg := { C with fr := F }
section
variable {K : PySem.W.Frag} {H : Hp} {M : Addr → Prop} {x : D} {v : V} {d : Addr} {us : List (List Key × V)} {od : Obj}
theorem sq_lock {a : Addr} {xs : List V} (hu : H d = some (.dT us)) (h : SqT K H a xs) : SqT K (upd H d (.frz od (.dT us))) a xs := by
  rcases h with (h | ⟨o, h⟩) | h
  · exact .inl (.inl (by rw [upd_ne fun e => by rw [e, hu] at h; cases h]; exact h))
  · exact .inl (.inr ⟨o, by rw [upd_ne fun e => by rw [e, hu] at h; cases h]; exact h⟩)
  · exact .inr h
theorem Rp.lock (hu : H d = some (.dT us)) (h : Rp K H M x v) : Rp K (upd H d (.frz od (.dT us))) M x v := by
  have st : ∀ b o, H b = some o → (∀ vs, o ≠ .dT vs) → upd H d (.frz od (.dT us)) b = some o := fun b o e n => by
    rw [upd_ne fun q => by rw [q, hu] at e; cases e; exact n _ rfl]; exact e
  induction h with
  | non => exact .non
  | bl b => exact .bl b
  | int i => exact .int i
  | str y => exact .str y
  | tup h hl hz _ ih => exact .tup (sq_lock hu h) hl hz ih
  | lst h hm hl hz _ ih => exact .lst (st _ _ h fun _ z => nomatch z) hm hl hz ih
  | scr h hz => exact .scr (h.imp (fun ⟨o, h⟩ => ⟨o, st _ _ h fun _ z => nomatch z⟩) id) hz
  | exc h hm hd => exact .exc (st _ _ h fun _ z => by unfold ExO at z; cases z) hm hd
  | dic h hm hl hz hk _ ih => exact .dic (h.imp (fun h => st _ _ h fun _ z => nomatch z) fun ⟨o, h⟩ => ⟨o, st _ _ h fun _ z => nomatch z⟩) hm hl hz hk ih
  | dct h hm hl hz hk _ ih =>
    rename_i a vs ds _
    refine .dct ?_ hm hl hz hk ih
    by_cases e : a = d
    · subst e
      rcases h with h | ⟨o, h⟩
      · rw [hu] at h; cases h; exact .inr ⟨od, upd_same⟩
      · rw [hu] at h; cases h
    · exact h.imp (fun h => by rw [upd_ne e]; exact h) fun ⟨o, h⟩ => ⟨o, by rw [upd_ne e]; exact h⟩
theorem sq_unl {a : Addr} {xs : List V} (hu : H d = some (.frz od (.dT us))) (h : SqT K H a xs) : SqT K (upd H d (.dT us)) a xs := by
  rcases h with (h | ⟨o, h⟩) | h
  · exact .inl (.inl (by rw [upd_ne fun e => by rw [e, hu] at h; cases h]; exact h))
  · exact .inl (.inr ⟨o, by rw [upd_ne fun e => by rw [e, hu] at h; cases h]; exact h⟩)
  · exact .inr h
theorem Rp.unl (hu : H d = some (.frz od (.dT us))) (h : Rp K H M x v) : Rp K (upd H d (.dT us)) M x v := by
  have st : ∀ b o, H b = some o → (∀ y vs, o ≠ .frz y (.dT vs)) → upd H d (.dT us) b = some o := fun b o e n => by
    rw [upd_ne fun q => by rw [q, hu] at e; cases e; exact n _ _ rfl]; exact e
  induction h with
  | non => exact .non
  | bl b => exact .bl b
  | int i => exact .int i
  | str y => exact .str y
  | tup h hl hz _ ih => exact .tup (sq_unl hu h) hl hz ih
  | lst h hm hl hz _ ih => exact .lst (st _ _ h fun _ _ z => nomatch z) hm hl hz ih
  | scr h hz => exact .scr (h.imp (fun ⟨o, h⟩ => ⟨o, st _ _ h fun _ _ z => nomatch z⟩) id) hz
  | exc h hm hd => exact .exc (st _ _ h fun _ _ z => by unfold ExO at z; cases z) hm hd
  | dic h hm hl hz hk _ ih => exact .dic (h.imp (fun h => st _ _ h fun _ _ z => nomatch z) fun ⟨o, h⟩ => ⟨o, st _ _ h fun _ _ z => nomatch z⟩) hm hl hz hk ih
  | dct h hm hl hz hk _ ih =>
    rename_i a vs ds _
    refine .dct ?_ hm hl hz hk ih
    by_cases e : a = d
    · subst e
      rcases h with h | ⟨o, h⟩
      · rw [hu] at h; cases h
      · rw [hu] at h; cases h; exact .inl upd_same
    · exact h.imp (fun h => by rw [upd_ne e]; exact h) fun ⟨o, h⟩ => ⟨o, by rw [upd_ne e]; exact h⟩
theorem CellOk.lock {a : Addr} {c : D} (hu : H d = some (.dT us)) (ne : a ≠ d) (h : CellOk K H M c a) : CellOk K (upd H d (.frz od (.dT us))) M c a := by
  cases c with
  | lst ds => obtain ⟨z, vs, h, r⟩ := h; exact ⟨z, vs, by rw [upd_ne ne]; exact h, r.len, fun i d v e f => (r.item i d v e f).lock hu⟩
  | dic ds => obtain ⟨z, vs, h, r⟩ := h; exact ⟨z, vs, by rw [upd_ne ne]; exact h, r.len, r.key, fun i d v e f => (r.item i d v e f).lock hu⟩
  | dct ds => obtain ⟨z, vs, h, r⟩ := h; exact ⟨z, vs, by rw [upd_ne ne]; exact h, r.len, r.key, fun i d v e f => (r.item i d v e f).lock hu⟩
  | _ => exact h.elim
theorem CellOk.unl {a : Addr} {c : D} (hu : H d = some (.frz od (.dT us))) (h : CellOk K H M c a) : a ≠ d ∧ CellOk K (upd H d (.dT us)) M c a := by
  have ne : a ≠ d := fun e => (h.kind).2 _ _ (by rw [e]; exact hu)
  refine ⟨ne, ?_⟩
  cases c with
  | lst ds => obtain ⟨z, vs, h, r⟩ := h; exact ⟨z, vs, by rw [upd_ne ne]; exact h, r.len, fun i d v e f => (r.item i d v e f).unl hu⟩
  | dic ds => obtain ⟨z, vs, h, r⟩ := h; exact ⟨z, vs, by rw [upd_ne ne]; exact h, r.len, r.key, fun i d v e f => (r.item i d v e f).unl hu⟩
  | dct ds => obtain ⟨z, vs, h, r⟩ := h; exact ⟨z, vs, by rw [upd_ne ne]; exact h, r.len, r.key, fun i d v e f => (r.item i d v e f).unl hu⟩
  | _ => exact h.elim
end
section
variable {C : Cfg} {ad : Nat → Addr} {σ : L2.St} {H : Hp} {env : Sls} {d : Addr} {us : List (List Key × V)} {od : Obj}
theorem SlOk.lock {M : Addr → Prop} {F : Addr → Prop} {v : Option V} {s : Sl} {a : Addr} (hu : H d = some (.dT us)) (ne : s.isOwn = true → a ≠ d) (h : SlOk C H M v s a) : SlOk (C.fx F) (upd H d (.frz od (.dT us))) M v s a := by
  cases s with
  | u => trivial
  | t f => obtain ⟨y, q1, q2⟩ := h; exact ⟨y, q1, q2.lock hu⟩
  | l f => exact ⟨h.1, h.2.lock hu (ne rfl)⟩
  | p f => exact ⟨h.1, h.2.lock hu (ne rfl)⟩
  | r f => exact ⟨h.1, h.2.lock hu (ne rfl)⟩
theorem SlOk.unl {M : Addr → Prop} {F : Addr → Prop} {v : Option V} {s : Sl} {a : Addr} (hu : H d = some (.frz od (.dT us))) (h : SlOk (C.fx F) H M v s a) : SlOk C (upd H d (.dT us)) M v s a := by
  cases s with
  | u => trivial
  | t f => obtain ⟨y, q1, q2⟩ := h; exact ⟨y, q1, q2.unl hu⟩
  | l f => exact ⟨h.1, (h.2.unl hu).2⟩
  | p f => exact ⟨h.1, (h.2.unl hu).2⟩
  | r f => exact ⟨h.1, (h.2.unl hu).2⟩
/-- what may change, and the dicts that stood at the entry -/
def frL (C : Cfg) (b : Addr) : Prop := C.fr b ∨ ∃ kvs, C.H0 b = some (.dT kvs)
theorem RE.fxd (R : RE C ad H σ env) : RE (C.fx (frL C)) ad H σ env := by
  refine ⟨R.len, R.sl, R.inj, R.loc, fun i f e => ⟨(R.par i f e).1, .inl (R.par i f e).2⟩, fun b o e n nt => R.same b o e (fun z => n (.inl z)) nt, fun b h => ?_, R.trk, R.m0, R.tabs⟩
  rcases h with h | ⟨kvs, h⟩
  · exact R.frk b h
  · exact ⟨_, h, (fun _ z => nomatch z), fun _ _ z => nomatch z⟩
theorem RE.lockV (R : RE C ad H σ env) (hu : H d = some (.dT us)) (hno : ¬ Ow env ad d) : RE (C.fx (frL C)) ad (upd H d (.frz od (.dT us))) σ env := by
  have RF := R.fxd
  refine ⟨R.len, fun i s e => ?_, R.inj, R.loc, RF.par, fun b o e n nt => ?_, RF.frk, fun b e => ?_, fun b e => ?_, ?_⟩
  · exact (R.sl i s e).lock hu fun o z => hno ⟨i, s, e, o, z⟩
  · have e1 := R.same b o e (fun z => n (.inl z)) nt
    have ne : b ≠ d := fun z => n (.inr ⟨us, by rw [z, hu] at e1; cases e1; exact e⟩)
    rw [upd_ne ne]
    exact e1
  · by_cases q : b = d
    · rw [q, upd_same]; exact fun z => nomatch z
    · rw [upd_ne q]; exact R.trk b e
  · by_cases q : b = d
    · rw [q, upd_same]; exact fun z => nomatch z
    · rw [upd_ne q]; exact R.m0 b e
  · exact tabs_off hu (fun _ z => nomatch z) (fun _ _ z => by unfold LamX.CodeO at z; cases z) R.tabs
/-- what stood at the entry and may not change is no own cell -/
theorem RE.noOw (R : RE C ad H σ env) {b : Addr} {o : HO} (e : C.H0 b = some o) (n : ¬ C.fr b) : ¬ Ow env ad b := by
  rintro ⟨i, s, h, ho, rfl⟩
  cases s with
  | u => cases ho
  | t _ => cases ho
  | l f => rw [(R.loc i f (.inl h)).1] at e; cases e
  | r f => rw [(R.loc i f (.inr h)).1] at e; cases e
  | p f => exact n (by rw [(R.par i f h).1]; exact (R.par i f h).2)
theorem RE.parOf {L : Addr} {H2 : Hp} {env2 : Sls} (R : RE C ad H σ env) (m2 : ∀ a, Ow env2 ad a → Ow env ad a) (R2 : RE ((C.add L).fx (frL C)) ad H2 σ env2) {i : Nat} {f : D} (h : env2[i]? = some (.p f)) : ad i = C.pa i ∧ C.fr (C.pa i) := by
  obtain ⟨q1, q2⟩ := R2.par i f h
  refine ⟨q1, ?_⟩
  by_cases n : C.fr (C.pa i)
  · exact n
  · rcases q2 with q2 | ⟨kvs, q2⟩
    · exact q2
    · exact absurd (m2 _ ⟨i, _, h, rfl, q1⟩) (R.noOw q2 n)
theorem RE.unlV {L : Addr} {H2 : Hp} {env2 : Sls} (R : RE C ad H σ env) (hu : H d = some (.dT us)) (x2 : Ext (Ow env ad) (upd H d (.frz od (.dT us))) H2) (m2 : ∀ a, Ow env2 ad a → Ow env ad a)
    (R2 : RE ((C.add L).fx (frL C)) ad H2 σ env2) (f2 : H2 d = some (.frz od (.dT us))) : RE (C.add L) ad (upd H2 d (.dT us)) σ env2 := by
  refine ⟨R2.len, fun i s e => (R2.sl i s e).unl f2, R2.inj, R2.loc, fun i f e => R.parOf m2 R2 e, fun b o e n nt => ?_, R.frk, fun b e => ?_, fun b e => ?_, ?_⟩
  · have e1 := R.same b o e n nt
    by_cases q : b = d
    · rw [q, hu] at e1
      rw [q, upd_same, e1]
    · rw [upd_ne q]
      exact x2.stay b o (by rw [upd_ne q]; exact e1) (R.noOw e n) nt
  · by_cases q : b = d
    · rw [q, upd_same]; exact fun z => nomatch z
    · rw [upd_ne q]; exact R2.trk b e
  · by_cases q : b = d
    · rw [q, upd_same]; exact fun z => nomatch z
    · rw [upd_ne q]; exact R2.m0 b e
  · exact tabs_off f2 (fun _ z => nomatch z) (fun _ _ z => by unfold LamX.CodeO at z; cases z) R2.tabs
theorem RE.unfx {L : Addr} {H2 : Hp} {env2 : Sls} (R : RE C ad H σ env) (x2 : Ext (Ow env ad) H H2) (m2 : ∀ a, Ow env2 ad a → Ow env ad a) (R2 : RE ((C.add L).fx (frL C)) ad H2 σ env2) : RE (C.add L) ad H2 σ env2 :=
  ⟨R2.len, R2.sl, R2.inj, R2.loc, fun i f e => R.parOf m2 R2 e, fun b o e n nt => x2.stay b o (R.same b o e n nt) (R.noOw e n) nt, R.frk, R2.trk, R2.m0, R2.tabs⟩
end
section
variable {X : Cx} {C : Cfg} {W : WX} {k : Nat} {tg elt : Expr} {te : TE} {me : Ev} {pos : Pos}
theorem lcT_sn {g : TG} {gv : Gv} {tt : TT} {mt : Ev1} {vs : List Nat} {io : Nat}
    (hg : ∀ (M0 : Addr → Prop) (ad : Nat → Addr) (σ : L2.St) (H : Hp) (env : Sls) (d : D) (v : V) (Q : L2.St → Hp → Prop), RE (C.w M0) ad H σ env → Rp C.K H (Mo (C.w M0) env ad) d v →
      (gv d env).Wp (fun env' => ∀ σ', RE (C.w M0) ad H σ' env' → (∀ a, Ow env' ad a → Ow env ad a) → σ'.length = σ.length → (∀ j, j ∉ vs → σ'[j]? = σ[j]?) → Q σ' H) (fun _ => False) → g v σ H Q)
    (ht : ∀ (M0 : Addr → Prop) (ad : Nat → Addr) (σ : L2.St) (H : Hp) (env : Sls) (Q : Bool → Hp → Prop), RE (C.w M0) ad H σ env →
      (mt env).Wp (fun r => ∀ H', RE (C.w M0) ad H' σ r.2 → Stp (C.w M0) ad H env H' r.2 → Q r.1 H') (Er (C.w M0) ad σ W0) → tt σ H Q)
    (he : ∀ (M0 : Addr → Prop) (ad : Nat → Addr) (σ : L2.St) (H : Hp) (env : Sls) (Q : VK), RE (C.w M0) ad H σ env →
      (me env).Wp (fun r => ∀ v H', RE (C.w M0) ad H' σ r.2 → Stp (C.w M0) ad H env H' r.2 → VR (C.w M0) ad H' σ r.2 r.1 v → Q v H') (Er (C.w M0) ad σ W0) → te σ H Q)
    {M0 : Addr → Prop} {ad : Nat → Addr} {σ : L2.St} {H : Hp} {env : Sls} {Q : VK} {ds : List (List Key × D)} {us0 : List (List Key × V)} {d : Addr} {od : Obj} (R : RE (C.w M0) ad H σ env)
    (hd : σ[io]? = some (some (.ref d))) (hf : H d = some (.frz od (.dT us0))) (hl : us0.length = ds.length) (hk : ∀ (i : Nat) (p : List Key × D) (q : List Key × V), ds[i]? = some p → us0[i]? = some q → q.1 = p.1) (Hz : ds.length ≤ sizeLine) (hw : okWipe env vs = true) (hsz : ∀ p ∈ ds, p.1.length ≤ sizeLine)
    (w : (lcL vs gv mt me (ds.map fun p => tupK p.1) (wipeE env vs)).Wp (fun q => ∀ L H', H L = none → RE ((C.w M0).add L) ad H' σ (backE env q.2 vs) → Ext (Ow env ad) H H' → (∀ a, Ow (backE env q.2 vs) ad a → Ow env ad a) →
      CellOk C.K H' (Mo ((C.w M0).add L) (backE env q.2 vs) ad) (.lst q.1) L → Q (.ref L) H') (fun _ => True)) : tLc (iKeys (tVar io)) g tt te vs σ H Q := by
  refine ⟨.ref d, hd, d, od, rfl, .inr ⟨us0, hf, ?_⟩⟩
  obtain ⟨H1, e1⟩ : ∃ H1, H1 = H := ⟨_, rfl⟩
  obtain ⟨env1, e2⟩ : ∃ env1, env1 = env := ⟨_, rfl⟩
  rw [← e2] at w hw
  have R1 : RE (C.w M0) ad H1 σ env1 := by rw [e1, e2]; exact R
  have S1 : Stp (C.w M0) ad H env H1 env1 := by rw [e1, e2]; exact .refl
  rw [show H = H1 from e1.symm] at hf w ⊢
  intro L hL
  have sL : Same H1 (upd H1 L (.lst [])) := same_new hL
  have HL0 : H1 L = none := hL
  have h0L : C.H0 L = none := by
    cases z : C.H0 L with
    | none => rfl
    | some o => exact absurd hL (R1.trk L (by show C.H0 L ≠ none; rw [z]; exact fun z => nomatch z))
  have LnO : ¬ Ow env1 ad L := fun z => R1.mtrk (.inr z) hL
  have RA : RE ((C.w M0).add L) ad (upd H1 L (.lst [])) σ env1 := R1.growAdd sL hL (by rw [upd_same]; exact fun z => nomatch z)
  -- the word: at turn i
  refine ⟨fun i m H => m = ds.length - i ∧ i ≤ ds.length ∧ ∃ (env' : Sls) (acc : List D) (us : List V), RE ((C.w M0).add L) ad H (L2.wipe σ vs) env' ∧ Ext (Ow env1 ad) H1 H ∧ (∀ a, Ow env' ad a → Ow env1 ad a) ∧
      H L = some (.lst us) ∧ RpL C.K H (Mo ((C.w M0).add L) env' ad) acc us ∧ acc.length ≤ i ∧
      (lcL vs gv mt me ((ds.drop i).map fun p => tupK p.1) env').Wp (fun q => ∀ H', RE ((C.w M0).add L) ad H' σ (backE env1 q.2 vs) → Ext (Ow env1 ad) H1 H' → (∀ a, Ow (backE env1 q.2 vs) ad a → Ow env1 ad a) →
        CellOk C.K H' (Mo ((C.w M0).add L) (backE env1 q.2 vs) ad) (.lst (acc ++ q.1)) L → Q (.ref L) H') (fun _ => True), ⟨ds.length, by simp, Nat.zero_le _, wipeE env1 vs, [], [], RA.wipe vs, .of_same sL, ow_wipe vs, upd_same, .nil, Nat.le_refl _, ?_⟩, ?_⟩
  · rw [List.drop_zero]
    cases q : lcL vs gv mt me (ds.map fun p => tupK p.1) (wipeE env1 vs) with
    | ok r =>
      rw [q] at w
      intro H' R' x' mo' c'
      exact w L H' HL0 R' x' mo' c'
    | err c => exact True.intro
    | bad => rw [q] at w; exact w.elim
  · rintro i m H2 ⟨rfl, hil, env2, acc, us, R2, x2, ow2, hus, rac, hacc, w2⟩
    by_cases hlt : i < ds.length
    · have ed : ds[i]? = some ds[i] := List.getElem?_eq_getElem hlt
      have edr : ds.drop i = ds[i] :: ds.drop (i + 1) := List.drop_eq_getElem_cons hlt
      rw [edr] at w2
      rw [List.map_cons] at w2
      unfold lcL at w2
      have f2 : H2 d = some (.frz od (.dT us0)) := x2.frzs _ _ _ hf
      have hil2 : i < us0.length := by rw [hl]; exact hlt
      have eu2 : us0[i]? = some us0[i] := List.getElem?_eq_getElem hil2
      have hgo : (Itkt d od us0).go i H2 := ⟨f2, hil2⟩
      have hy : ∀ x H', (Itkt d od us0).yld i H2 x H' → Same H2 H' ∧ Rp C.K H' (Mo ((C.w M0).add L) env2 ad) (tupK ds[i].1) x := fun x H' y => by
        obtain ⟨e1, k, v, q0, e3, e4, e5⟩ := y
        subst e1 e4
        have ek := hk i _ _ ed eu2
        rw [eu2] at e3
        rw [Option.some.inj e3] at ek
        rw [show k = ds[i].1 from ek] at e5
        exact ⟨fun _ _ h => h, rp_key e5 (hsz _ (List.mem_of_getElem? ed))⟩
      refine .inr ⟨hgo, fun H' => ∃ (env' : Sls) (acc : List D) (us : List V), RE ((C.w M0).add L) ad H' (L2.wipe σ vs) env' ∧ Ext (Ow env1 ad) H1 H' ∧ (∀ a, Ow env' ad a → Ow env1 ad a) ∧
        H' L = some (.lst us) ∧ RpL C.K H' (Mo ((C.w M0).add L) env' ad) acc us ∧ acc.length ≤ i + 1 ∧
        (lcL vs gv mt me ((ds.drop (i + 1)).map fun p => tupK p.1) env').Wp (fun q => ∀ H', RE ((C.w M0).add L) ad H' σ (backE env1 q.2 vs) → Ext (Ow env1 ad) H1 H' → (∀ a, Ow (backE env1 q.2 vs) ad a → Ow env1 ad a) →
          CellOk C.K H' (Mo ((C.w M0).add L) (backE env1 q.2 vs) ad) (.lst (acc ++ q.1)) L → Q (.ref L) H') (fun _ => True), fun H' h' => ⟨ds.length - (i + 1), by omega, rfl, hlt, h'⟩, fun x H3 y => ?_⟩
      obtain ⟨s3, rx⟩ := hy x H3 y
      have R3 : RE ((C.w M0).add L) ad H3 (L2.wipe σ vs) env2 := R2.grow s3
      rw [wp_bind] at w2
      refine hg _ ad (L2.wipe σ vs) H3 env2 (tupK ds[i].1) x _ R3 rx ((noE_wp (E' := fun _ => False) w2).imp (fun env3 w3 σ3 R3' ow3 l3 o3 => ?_) fun _ z => z)
      have ew : L2.wipe σ3 vs = L2.wipe σ vs := by
        rw [st_wipe_eq l3 o3]
        exact st_wipe_eq (wipe_length _ _) fun j hj => wipe_out hj
      refine ⟨ew, ?_⟩
      rw [wp_bind] at w3
      refine ht _ ad σ3 H3 env3 _ R3' ((noE_wp (E' := Er ((C.w M0).add L) ad σ3 W0) w3).imp (fun b w4 H4 R4 S4 => ?_) fun _ z => z)
      have x4 : Ext (Ow env1 ad) H2 H4 := (Ext.of_same s3).trans (S4.ext.mono fun a z => ow2 a (ow3 a z))
      have ow4 : ∀ a, Ow b.2 ad a → Ow env1 ad a := fun a z => ow2 a (ow3 a (S4.ow a z))
      have lowM : ∀ {e1 e2 : Sls}, (∀ a, Ow e2 ad a → Ow e1 ad a) → ∀ a, Mo ((C.w M0).add L) e2 ad a → Mo ((C.w M0).add L) e1 ad a := fun h a z => z.imp id (h a)
      split
      · rename_i hb
        rw [if_pos hb, wp_bind] at w4
        refine he _ ad σ3 H4 b.2 _ R4 ((noE_wp (E' := Er ((C.w M0).add L) ad σ3 W0) w4).imp (fun r w5 v H5 R5 S5 V5 => ?_) fun _ z => z)
        rw [wp_bind] at w5
        obtain ⟨_, w6, rv⟩ := kp_rp V5 w5
        have x5 : Ext (Ow env1 ad) H2 H5 := x4.trans (S5.ext.mono ow4)
        have ow5 : ∀ a, Ow r.2 ad a → Ow env1 ad a := fun a z => ow4 a (S5.ow a z)
        have hL5 : H5 L = some (.lst us) := x5.stay L _ hus LnO fun _ z => nomatch z
        obtain ⟨R6, x6⟩ := R5.other (us' := us ++ [v]) (.inr rfl) (fun z => LnO (ow5 L z)) h0L hL5
        have rac5 : RpL C.K H5 (Mo ((C.w M0).add L) r.2 ad) acc us := rac.ext ((Ext.of_same s3).trans ((S4.ext.trans (S5.ext.mono S4.ow)).mono fun a z => .inr (ow3 a z))) fun a z => .inl (z.imp id fun z => ow3 a (S4.ow a (S5.ow a z)))
        refine ⟨us, hL5, by rw [rac5.len]; omega, wipeE r.2 vs, acc ++ [r.1], us ++ [v], by rw [← ew]; exact R6.wipe vs, ?_, fun a z => ow5 a (ow_wipe vs a z), upd_same, ?_, by rw [List.length_append]; exact Nat.succ_le_succ hacc, ?_⟩
        · refine ⟨fun b o e n nt => ?_, fun b xs e => ?_, fun b o u e => ?_, fun b e => ?_⟩
          · rw [upd_ne fun q => by rw [q, hL] at e; cases e]
            exact x5.stay b o (x2.stay b o e n nt) n nt
          · rw [upd_ne fun q => by rw [q, hL] at e; cases e]
            exact x5.tups b xs (x2.tups b xs e)
          · rw [upd_ne fun q => by rw [q, hL] at e; cases e]
            exact x5.frzs b o u (x2.frzs b o u e)
          · rw [upd_ne fun q => by rw [q] at e; exact e hL]
            exact x5.trk b (x2.trk b e)
        · refine ((rac5.append (.one rv)).ext (x6.mono fun b e => ?_) fun a z => .inl (lowM (fun a z => ow_wipe vs a z) a z))
          rw [e]
          exact .inl (.inr rfl)
        · cases q : lcL vs gv mt me ((ds.drop (i + 1)).map fun p => tupK p.1) (wipeE r.2 vs) with
          | ok z =>
            rw [q] at w6
            intro H' R' x' m' c'
            exact w6 H' R' x' m' (by rw [List.append_assoc] at c'; exact c')
          | err c => exact True.intro
          | bad => rw [q] at w6; exact w6.elim
      · rename_i hb
        rw [if_neg hb] at w4
        have hL4 : H4 L = some (.lst us) := x4.stay L _ hus LnO fun _ z => nomatch z
        refine ⟨wipeE b.2 vs, acc, us, by rw [← ew]; exact R4.wipe vs, x2.trans x4, fun a z => ow4 a (ow_wipe vs a z), hL4, ?_, Nat.le_succ_of_le hacc, w4⟩
        exact rac.ext ((Ext.of_same s3).trans (S4.ext.mono fun a z => .inr (ow3 a z))) fun a z => .inl (z.imp id fun z => ow3 a (S4.ow a (ow_wipe vs a z)))
    · have ei : i = ds.length := by omega
      subst ei
      rw [List.drop_length, List.map_nil] at w2
      unfold lcL at w2
      refine .inl ⟨⟨x2.frzs _ _ _ hf, by rw [hl]; exact Nat.le_refl _⟩, ?_⟩
      have xb : Ext (Mo ((C.w M0).add L) env1 ad) (upd H1 L (.lst [])) H2 := by
        refine ⟨fun b o e n nt => ?_, fun b xs e => ?_, fun b o u e => ?_, fun b e => ?_⟩
        · rw [upd_ne fun q => n (.inl (.inr q))] at e
          exact x2.stay b o e (fun z => n (.inr z)) nt
        · by_cases q : b = L
          · rw [q, upd_same] at e; cases e
          · rw [upd_ne q] at e; exact x2.tups b xs e
        · by_cases q : b = L
          · rw [q, upd_same] at e; cases e
          · rw [upd_ne q] at e; exact x2.frzs b o u e
        · by_cases q : b = L
          · rw [q, hus]; exact fun z => nomatch z
          · rw [upd_ne q] at e; exact x2.trk b e
      obtain ⟨RB, mb⟩ := RE.back RA xb R2 ow2 hw
      rw [backS_wipe] at RB
      refine w2 H2 RB x2 (fun a z => ow2 a (mb a z)) ⟨?_, us, hus, ?_⟩
      · rw [List.append_nil]; exact Nat.le_trans hacc Hz
      · rw [List.append_nil]
        exact rac.less fun a z => z.imp id (mb a)

noncomputable def mLcV (io : Nat) (vs : List Nat) (g : Gv) (tt : Ev1) (me : Ev) : Ev := fun env => match env[io]? with
  | some (.t (.dct ds)) => if (okWipe env vs && ds.all fun p => decide (p.1.length ≤ 1000)) = true then do
      let q ← lcL vs g tt me (ds.map fun p => tupK p.1) (wipeE env vs)
      pure (.lst q.1, backE env q.2 vs)
    else .bad
  | _ => .bad
def tLcV (io : Nat) (g : TG) (tt : TT) (te : TE) (vs : List Nat) : TE := fun σ H Q => tLockE (tLc (iKeys (tVar io)) g tt te vs) σ H Q ∨ tLc (iKeys (tVar io)) g tt te vs σ H Q
theorem lcV_sn {g : TG} {gv : Gv} {tt : TT} {mt : Ev1} {vs : List Nat} {io : Nat}
    (hg : ∀ (M0 : Addr → Prop) (ad : Nat → Addr) (σ : L2.St) (H : Hp) (env : Sls) (d : D) (v : V) (Q : L2.St → Hp → Prop), RE ((C.fx (frL C)).w M0) ad H σ env → Rp C.K H (Mo ((C.fx (frL C)).w M0) env ad) d v →
      (gv d env).Wp (fun env' => ∀ σ', RE ((C.fx (frL C)).w M0) ad H σ' env' → (∀ a, Ow env' ad a → Ow env ad a) → σ'.length = σ.length → (∀ j, j ∉ vs → σ'[j]? = σ[j]?) → Q σ' H) (fun _ => False) → g v σ H Q)
    (ht : ∀ (M0 : Addr → Prop) (ad : Nat → Addr) (σ : L2.St) (H : Hp) (env : Sls) (Q : Bool → Hp → Prop), RE ((C.fx (frL C)).w M0) ad H σ env →
      (mt env).Wp (fun r => ∀ H', RE ((C.fx (frL C)).w M0) ad H' σ r.2 → Stp ((C.fx (frL C)).w M0) ad H env H' r.2 → Q r.1 H') (Er ((C.fx (frL C)).w M0) ad σ W0) → tt σ H Q)
    (he : ∀ (M0 : Addr → Prop) (ad : Nat → Addr) (σ : L2.St) (H : Hp) (env : Sls) (Q : VK), RE ((C.fx (frL C)).w M0) ad H σ env →
      (me env).Wp (fun r => ∀ v H', RE ((C.fx (frL C)).w M0) ad H' σ r.2 → Stp ((C.fx (frL C)).w M0) ad H env H' r.2 → VR ((C.fx (frL C)).w M0) ad H' σ r.2 r.1 v → Q v H') (Er ((C.fx (frL C)).w M0) ad σ W0) → te σ H Q)
    {M0 : Addr → Prop} {ad : Nat → Addr} {σ : L2.St} {H : Hp} {env : Sls} {Q : VK} (R : RE (C.w M0) ad H σ env)
    (w : (mLcV io vs gv mt me env).Wp (fun r => ∀ a H', H a = none → RE ((C.w M0).add a) ad H' σ r.2 → Stp (C.w M0) ad H env H' r.2 → CellOk C.K H' (Mo ((C.w M0).add a) r.2 ad) r.1 a → Q (.ref a) H') (Er (C.w M0) ad σ W)) : tLcV io g tt te vs σ H Q := by
  unfold mLcV at w
  split at w
  · rename_i ds h
    obtain ⟨x, hx, rp⟩ := R.sl io _ h
    have hio : io < σ.length := by rw [R.len]; exact (List.getElem?_eq_some_iff.mp h).1
    have e1 : σ[io]? = some σ[io] := List.getElem?_eq_getElem hio
    rw [e1] at hx
    have hx : σ[io] = some x := hx
    rw [hx] at e1
    cases rp with
    | dct hd hm hl hz hk hi =>
      rename_i a us _
      split at w
      · rename_i hw0
        obtain ⟨hw, hsz⟩ := Bool.and_eq_true_iff.mp hw0
        have hsz : ∀ p ∈ ds, p.1.length ≤ sizeLine := fun p hp => Nat.le_trans (of_decide_eq_true (List.all_eq_true.mp hsz p hp)) (by decide)
        rw [wp_bind] at w
        rcases hd with hu | ⟨od, hf⟩
        · refine .inl ⟨a, .dT us, hu, True.intro, fun od => ?_⟩
          have hno : ¬ Ow env ad a := fun z => hm (.inr z)
          have RL := RE.lockV (od := od) R hu hno
          refine lcT_sn (C := C.fx (frL C)) hg ht he (M0 := M0) RL e1 upd_same hl hk hz hw hsz ?_
          cases q : lcL vs gv mt me (ds.map fun p => tupK p.1) (wipeE env vs) with
          | err c => exact True.intro
          | bad => rw [q] at w; exact w.elim
          | ok r =>
            rw [q, wp_ok] at w
            intro L H2 hL R2 x2 m2 c2
            have f2 : H2 a = some (.frz od (.dT us)) := x2.frzs _ _ _ upd_same
            have nL : L ≠ a := fun e => by rw [e, upd_same] at hL; cases hL
            have hL' : H L = none := by rw [upd_ne nL] at hL; exact hL
            have R3 : RE ((C.w M0).add L) ad (upd H2 a (.dT us)) σ (backE env r.2 vs) := RE.unlV R hu x2 m2 R2 f2
            refine ⟨f2, w L _ hL' R3 ⟨⟨fun b o e n nt => ?_, fun b xs e => ?_, fun b o u e => ?_, fun b e => ?_⟩, m2⟩ (c2.unl f2).2⟩
            · by_cases q : b = a
              · rw [q, upd_same, ← hu, ← q, e]
              · rw [upd_ne q]
                exact x2.stay b o (by rw [upd_ne q]; exact e) n nt
            · have q : b ≠ a := fun z => by rw [z, hu] at e; cases e
              rw [upd_ne q]
              exact x2.tups b xs (by rw [upd_ne q]; exact e)
            · have q : b ≠ a := fun z => by rw [z, hu] at e; cases e
              rw [upd_ne q]
              exact x2.frzs b o u (by rw [upd_ne q]; exact e)
            · by_cases q : b = a
              · rw [q, upd_same]; exact fun z => nomatch z
              · rw [upd_ne q]
                exact x2.trk b (by rw [upd_ne q]; exact e)
        · refine .inr (lcT_sn (C := C.fx (frL C)) hg ht he (M0 := M0) R.fxd e1 hf hl hk hz hw hsz ?_)
          cases q : lcL vs gv mt me (ds.map fun p => tupK p.1) (wipeE env vs) with
          | err c => exact True.intro
          | bad => rw [q] at w; exact w.elim
          | ok r =>
            rw [q, wp_ok] at w
            intro L H2 hL R2 x2 m2 c2
            exact w L H2 hL (RE.unfx R x2 m2 R2) ⟨x2, m2⟩ c2
      · exact w.elim
  · exact w.elim
theorem ef_lcV (io : Nat) {y : Str} {py : Pos} {ifs : List Expr} {scope : Scope} {own : List (Str × Nat)} {gt : TG} {tt : TT} {gv : Gv} {mt : Ev1} (g : Gd X C W k) (ok : BlkOk X.N X.env.scope scope own)
    (hg : ∀ (s : Shared) (H : Hp) (L : Addr) (cl : List (Str × Addr)) (fp : List Addr), Gd (X.blk s H scope (compEnvC scope cl L X.env) fp) (C.fx (frL C)) W0 k → GM (X.blk s H scope (compEnvC scope cl L X.env) fp) (C.fx (frL C)) tg gt (own.map (·.2)) gv)
    (ht : ∀ (s : Shared) (H : Hp) (L : Addr) (cl : List (Str × Addr)) (fp : List Addr), Gd (X.blk s H scope (compEnvC scope cl L X.env) fp) (C.fx (frL C)) W0 k → TMs (X.blk s H scope (compEnvC scope cl L X.env) fp) (C.fx (frL C)) W0 ifs tt mt)
    (he : ∀ (s : Shared) (H : Hp) (L : Addr) (cl : List (Str × Addr)) (fp : List Addr), Gd (X.blk s H scope (compEnvC scope cl L X.env) fp) (C.fx (frL C)) W0 k → EM (X.blk s H scope (compEnvC scope cl L X.env) fp) (C.fx (frL C)) W0 elt te me)
    (hN : X.N[io]? = some y := by rfl) (hv : Vis X.env.scope y := by first | exact Or.inl rfl | exact Or.inr (Or.inl rfl) | exact Or.inr (Or.inr rfl)) (hd : (y == ("__debug__" : Str)) = false := by decide) (hcd : (y == ("__classdict__" : Str)) = false := by decide)
    (hs : ∀ x, foldedSetIterable (.Name y py) X.env x = pure x := by intro _; rfl) :
    EF X C W (.ListComp elt [⟨tg, .Name y py, ifs, 0⟩] scope pos) (tLcV io gt tt te (own.map (·.2))) (mLcV io (own.map (·.2)) gv mt me) := by
  have gF : Gd X (C.fx (frL C)) W k := ⟨g.kE, g.mE, g.calm, g.tk, g.room, g.nd⟩
  have p : PE X (.ListComp elt [⟨tg, .Name y py, ifs, 0⟩] scope pos) (tLc (iKeys (tVar io)) gt tt te (own.map (·.2))) :=
    pe_lc g.calm g.nd (pi_keys (pe_var hN hv hd hcd)) ok (fun s H L cl fp => (hg s H L cl fp gF.blk).pe) (fun s H L cl fp => (ht s H L cl fp gF.blk).pe) (fun s H L cl fp => (he s H L cl fp gF.blk).pe) hs
  exact ⟨⟨fun pins s σ H Q I h => h.elim ((pe_lock p).run pins s σ H Q I) (p.run pins s σ H Q I)⟩,
    fun M0 ad σ H env Q R w => lcV_sn (hg X.s_0 X.H_0 0 [] [] gF.blk).sn (ht X.s_0 X.H_0 0 [] [] gF.blk).sn (he X.s_0 X.H_0 0 [] [] gF.blk).sn R w⟩
end
@[simp] theorem z_mLcV (io : Nat) (vs : List Nat) (g : Gv) (tt : Ev1) (me : Ev) (env : Sls) : mLcV io vs g tt me env = (match env[io]? with
  | some (.t (.dct ds)) => if (okWipe env vs && ds.all fun p => decide (p.1.length ≤ 1000)) = true then do
      let q ← lcL vs g tt me (ds.map fun p => tupK p.1) (wipeE env vs)
      pure (.lst q.1, backE env q.2 vs)
    else .bad
  | _ => .bad) := by
  unfold mLcV
  congr
end Vm
end
section
set_option maxRecDepth 100000
set_option maxHeartbeats 4000000
/-! Vm, part ZW: repr of an integer, a truth, None. -/
namespace Vm
open PySem PySem.Spec PyProof.Rows L2
def rRepr : List V → Hp → VK → Prop := fun xs H Q => (∃ i, xs = [.int i] ∧ i.natAbs.log2 < 1920 ∧ Q (.str (toString i)) H) ∨ (∃ b : Bool, xs = [.bl b] ∧ Q (.str (if b then "True" else "False")) H) ∨ (xs = [.non] ∧ Q (.str "None") H)
theorem call_reprA {X : Cx} : CallR X (.builtin "repr") rRepr := by
  intro pins s σ H xs us Q I r h
  rcases h with ⟨i, rfl, hz, q⟩ | ⟨b, rfl, q⟩ | ⟨rfl, q⟩
  · obtain ⟨u, rfl, t, rfl⟩ := vals1 r
    exact PySem.P.repr_of_int hz ⟨.str _, H, I.tok _, ⟨_, rfl⟩, q⟩
  · obtain ⟨u, rfl, e⟩ := vals1 r
    cases (show u = Value.bool b from e)
    exact PySem.P.repr_of_bool ⟨.str _, H, I.tok _, ⟨_, rfl⟩, q⟩
  · obtain ⟨u, rfl, e⟩ := vals1 r
    cases (show u = Value.none from e)
    exact PySem.P.repr_of_none ⟨.str _, H, I.tok _, ⟨_, rfl⟩, q⟩
def repA (x : D) : Res D := match x with
  | .bl b => .ok (.str (if b then "True" else "False"))
  | .non => .ok (.str "None")
  | x => strI x
theorem cs_repA {K : PySem.W.Frag} : CallS K rRepr (one repA) := by
  intro H M vs ds Q tk r w
  obtain ⟨d, rfl, w1⟩ := one_inv w
  cases d with
  | bl b =>
    obtain ⟨v, rfl, rv⟩ := r.one
    cases rv with
    | bl b => exact .inr (.inl ⟨b, rfl, w1 _ _ (.refl _) (.str _)⟩)
  | non =>
    obtain ⟨v, rfl, rv⟩ := r.one
    cases rv with
    | non => exact .inr (.inr ⟨rfl, w1 _ _ (.refl _) (.str _)⟩)
  | _ => exact .inl (cs_strI H M vs _ Q tk r w)
end Vm
end
section
set_option maxRecDepth 100000
set_option maxHeartbeats 4000000
/-! Vm, part ZX: >= of tuples of integers. -/
namespace Vm
open PySem PySem.Spec PyProof.Rows L2
def rGeT (K : PySem.W.Frag) : R2 := fun x y H Q => ∃ (a b : Addr) (ns ms : List Int), x = .ref a ∧ y = .ref b ∧ SqT K H a (ns.map V.int) ∧ SqT K H b (ms.map V.int) ∧
  Q (.bl (Ob.lexAt (fun j => decide (ns.getD j 0 = ms.getD j 0)) (fun j => decide (ms.getD j 0 ≤ ns.getD j 0)) (decide (ns.length ≥ ms.length)) 0 (min ns.length ms.length))) H
theorem op_geT {X : Cx} (hu : X.A.units < cLine) : OpR X (compareOp .GtE) (rGeT X.K) := by
  intro pins s σ H x y v u Q I rx ry h
  obtain ⟨a, b, ns, ms, rfl, rfl, ha, hb, q⟩ := h
  cases rx
  cases ry
  obtain ⟨its, r1, p1, _⟩ := I.tuple ha
  obtain ⟨its2, r2, p2, _⟩ := I.tuple hb
  have i1 : IntsAre its ns := Vals.ints r1
  have i2 : IntsAre its2 ms := Vals.ints r2
  have e1 : its.toArray.size = ns.length := by rw [List.size_toArray]; exact i1.length
  have e2 : its2.toArray.size = ms.length := by rw [List.size_toArray]; exact i2.length
  have at1 : ∀ j (h1 : j < its.toArray.size), ∃ t, its.toArray[j] = .int (ns.getD j 0) t := fun j h1 => PyProof.Rows.IntsAre.int_at i1 _ _ (by simp at h1; simp [h1])
  have at2 : ∀ j (h1 : j < its2.toArray.size), ∃ t, its2.toArray[j] = .int (ms.getD j 0) t := fun j h1 => PyProof.Rows.IntsAre.int_at i2 _ _ (by simp at h1; simp [h1])
  have R := Ob.RcOp.tuples_ge (A := X.A) (s := s) (e := fun j => decide (ns.getD j 0 = ms.getD j 0)) (r := fun j => decide (ms.getD j 0 ≤ ns.getD j 0)) p1 p2 hu (fun j h1 h2 => by
    obtain ⟨t, et⟩ := at1 j h1
    obtain ⟨t', et'⟩ := at2 j h2
    rw [et, et']
    have z : (ns.getD j 0 == ms.getD j 0) = decide (ns.getD j 0 = ms.getD j 0) := by
      by_cases q : ns.getD j 0 = ms.getD j 0
      · rw [decide_eq_true q]; exact beq_iff_eq.mpr q
      · rw [decide_eq_false q]; exact beq_eq_false_iff_ne.mpr q
    rw [← z]
    exact SeqAt.EqAt.int_int _ _ _ _) (fun j h1 h2 _ => by
    obtain ⟨t, et⟩ := at1 j h1
    obtain ⟨t', et'⟩ := at2 j h2
    rw [et, et']
    exact Ob.RcOp.ge_int _ _ _ _)
  rw [e1, e2] at R
  have z : wpAny (model X.prog X.w) X.A (compareOp .GtE (.ref a) (.ref b)) (EP X pins σ Q) X.xe s := R X.prog X.w X.xe (EP X pins σ Q) ⟨.bl _, H, I, rfl, q⟩
  exact z
def geT (x y : D) : Res D := match x, y with
  | .tup a, .tup b => (match intsD a, intsD b with
    | some ns, some ms => .ok (.bl (Ob.lexAt (fun j => decide (ns.getD j 0 = ms.getD j 0)) (fun j => decide (ms.getD j 0 ≤ ns.getD j 0)) (decide (ns.length ≥ ms.length)) 0 (min ns.length ms.length)))
    | _, _ => .bad)
  | _, _ => .bad
theorem os_geT {K : PySem.W.Frag} : OpS K (rGeT K) geT := by
  intro H M x y dx dy Q tk rx ry w
  cases dx with
  | tup a =>
    cases dy with
    | tup b =>
      simp only [geT] at w
      cases h1 : intsD a with
      | none => rw [h1] at w; exact w.elim
      | some ns =>
        cases h2 : intsD b with
        | none => rw [h1, h2] at w; exact w.elim
        | some ms =>
          rw [h1, h2] at w
          simp only at w
          obtain ⟨p, vs, rfl, hp, _, q⟩ := rx.tup_inv
          obtain ⟨p2, vs2, rfl, hp2, _, q2⟩ := ry.tup_inv
          have e1 := ints_eq h1
          have e2 := ints_eq h2
          subst e1 e2
          rw [q.ints] at hp
          rw [q2.ints] at hp2
          exact ⟨p, p2, ns, ms, rfl, rfl, hp, hp2, w _ _ (.refl _) (.bl _)⟩
    | _ => exact w.elim
  | _ => exact w.elim
theorem oGeT {X : Cx} {C : Cfg} {W : WX} {k : Nat} (g : Gd X C W k) : OpR X (compareOp .GtE) (rGeT C.K) := g.kE ▸ op_geT (Nat.lt_of_le_of_lt (Nat.le_add_right _ _) g.room.units)
theorem geT_pair (a b c d : Int) : geT (.tup [.int a, .int b]) (.tup [.int c, .int d]) = .ok (.bl (decide (c < a ∨ (a = c ∧ d ≤ b)))) := by
  simp only [geT, intsD, Ob.lexAt, List.length_cons, List.length_nil, List.getD_cons_zero, List.getD_cons_succ]
  congr 2
  simp [Ob.lexAt]
  by_cases h1 : a = c
  · subst h1
    by_cases h2 : b = d
    · subst h2; simp
    · simp [h2]
  · simp [h1]
    by_cases h3 : c < a
    · simp [h3]; omega
    · simp [h3]; omega
end Vm
end
section
set_option maxRecDepth 100000
namespace Law
open PySem Vm
noncomputable section

abbrev b__law_draws : Sv :=
  (mRet (mLst (mCons (mCallB (two maxD) (mCons (mK (.int 0)) (mCons (mBin subD (mCallB (one intD) (mCons (mVar 0) mNil)) (mBin powD (mK (.int 10)) (mK (.int 18)))) mNil))) (mCons (mBin modD (mCallB (one intD) (mCons (mVar 0) mNil)) (mK (.int 999999999999999989))) (mCons (mK (.int 0)) mNil)))))
def m__law_draws (ds : List D) : Res D := runF 1 b__law_draws ds
abbrev b__law_pick : Sv :=
  (mSq (mIfS (mTru (mBin gtD (mBin ixA (mVar 0) (mK (.int 0))) (mK (.int 0)))) (mSq (mSet 4 (mBin modD (mCallB (one intD) (mCons (mBin ixA (mVar 0) (mK (.int 0))) mNil)) (mVar 1)))
    (mSq (mPut 0 (mK (.int 0)) (mBin divD (mBin ixA (mVar 0) (mK (.int 0))) (mVar 1)))
    (mRet (mVar 4)))) mSk)
    (mSq (mPut 0 (mK (.int 2)) (mBin addD (mBin ixA (mVar 0) (mK (.int 2))) (mK (.int 1))))
    (mSq (mSet 2 (mBin ixA (mVar 0) (mK (.int 2))))
    (mSq (mSet 3 (mBin addD (mBin addD (mBin ixA (mVar 0) (mK (.int 1))) (mBin mulD (mBin mulD (mK (.int 9176)) (mVar 2)) (mVar 2))) (mK (.int 31))))
    (mSq (mSet 3 (mBin addD (mBin mulD (mVar 3) (mBin addD (mBin ixA (mVar 0) (mK (.int 1))) (mBin mulD (mK (.int 40503)) (mVar 2)))) (mVar 2)))
    (mSq (mSet 3 (mBin divD (mBin modD (mCallB (one intD) (mCons (mBin addD (mBin mulD (mVar 3) (mVar 3)) (mBin mulD (mK (.int 77731)) (mVar 3))) mNil)) (mK (.int 1000000000000000003))) (mK (.int 4099))))
    (mRet (mBin modD (mBin divD (mBin modD (mCallB (one intD) (mCons (mBin mulD (mVar 3) (mBin addD (mBin addD (mVar 3) (mBin mulD (mK (.int 2)) (mVar 2))) (mK (.int 1)))) mNil)) (mK (.int 4294967291))) (mK (.int 32))) (mVar 1)))))))))
def m__law_pick (j : D) (ds : List D) : Res (D × D) := runJ 5 b__law_pick j ds
abbrev lb__law_wide_1 : Sv :=
  (mSet 2 (mBin addD (mBin mulD (mVar 2) (mBin powD (mK (.int 10)) (mK (.int 7)))) (mCallJ 2 m__law_pick (mCons (mVar 0) (mCons (mBin powD (mK (.int 10)) (mK (.int 7))) mNil)))))
abbrev b__law_wide : Sv :=
  (mSq (mIfS (mTru (mBin leD (mVar 1) (mBin powD (mK (.int 10)) (mK (.int 7))))) (mRet (mCallJ 2 m__law_pick (mCons (mVar 0) (mCons (mVar 1) mNil)))) mSk)
    (mSq (mSet 2 (mK (.int 0)))
    (mSq (mFor (mRng1 (mCons (mK (.int 5)) mNil)) (gmN 3) lb__law_wide_1)
    (mRet (mBin modD (mCallB (one intD) (mCons (mVar 2) mNil)) (mVar 1))))))
def m__law_wide (j : D) (ds : List D) : Res (D × D) := runJ 4 b__law_wide j ds
abbrev cm__law_jar_of_1 : Ev :=
  (mVar 11)
abbrev ct__law_jar_of_1 : Ev1 :=
  (mAndT (mTru (mBin eqD (mBin ixA (mBin ixA (mVar 5) (mVar 11)) (mK (.int 0))) (mK (.str "bill")))) (mTru (mBin leD (mBin ixA (mBin ixA (mVar 5) (mVar 11)) (mK (.int 1))) (mVar 8))))
abbrev lb__law_jar_of_1 : Sv :=
  (mSq (mSet 7 (mIf (mTru (mBin ltD (mVar 6) (mK (.int 4)))) (mBin ixA (mLst (mCons (mK (.int 0)) (mCons (mK (.int 7)) mNil))) (mBin modD (mCallB (one intD) (mCons (mVar 6) mNil)) (mK (.int 2)))) (mCallJ 2 m__law_pick (mCons (mVar 0) (mCons (mK (.int 11)) mNil)))))
    (mSq (mSet 8 (mBin subD (mCallJ 2 m__law_pick (mCons (mVar 0) (mCons (mVar 3) mNil))) (mBin divD (mVar 3) (mK (.int 2)))))
    (mSq (mSet 9 (mBin addD (mK (.int 1)) (mCallJ 2 m__law_wide (mCons (mVar 0) (mCons (mVar 4) mNil)))))
    (mSq (mSet 10 (mLc (mRng1 (mCons (mCallB (one lenD) (mCons (mVar 5) mNil)) mNil)) [11] (gmN 11) ct__law_jar_of_1 cm__law_jar_of_1))
    (mIfS (mTru (mBin eqD (mVar 7) (mK (.int 10)))) (mExp (mApp 5 (mTup (mCons (mK (.str "struck")) mNil)))) (mIfS (mTru (mBin ltD (mVar 7) (mK (.int 5)))) (mExp (mApp 5 (mTup (mCons (mK (.str "bill")) (mCons (mVar 8) (mCons (mVar 9) mNil)))))) (mIfS (mAndT (mTru (mBin ltD (mVar 7) (mK (.int 8)))) (mAndT (mTru (mVar 2)) (mTru (mBin neD (mVar 10) (mLst mNil))))) (mExp (mApp 5 (mTup (mCons (mK (.str "named")) (mCons (mVar 8) (mCons (mVar 9) (mCons (mBin ixA (mVar 10) (mCallJ 2 m__law_pick (mCons (mVar 0) (mCons (mCallB (one lenD) (mCons (mVar 10) mNil)) mNil)))) mNil))))))) (mExp (mApp 5 (mTup (mCons (mK (.str "pay")) (mCons (mVar 8) (mCons (mVar 9) mNil)))))))))))))
abbrev b__law_jar_of : Sv :=
  (mSq (mSetL 5 (mLst mNil))
    (mSq (mFor (mRng1 (mCons (mVar 1) mNil)) (gmN 6) lb__law_jar_of_1)
    (mRet (mCallB (one tupD) (mCons (mVar 5) mNil)))))
def m__law_jar_of (j : D) (ds : List D) : Res (D × D) := runJ 12 b__law_jar_of j ds
abbrev b__law_a_jar : Sv :=
  (mSq (mSet 3 (mBin ixA (mLst (mCons (mK (.int 4)) (mCons (mK (.int 12)) (mCons (mK (.int 400)) (mCons (mK (.int 2000001)) mNil))))) (mCallJ 2 m__law_pick (mCons (mVar 0) (mCons (mK (.int 4)) mNil)))))
    (mSq (mSet 4 (mBin ixA (mLst (mCons (mK (.int 4)) (mCons (mK (.int 12)) (mCons (mBin powD (mK (.int 10)) (mK (.int 6))) (mCons (mBin powD (mK (.int 10)) (mK (.int 30))) mNil))))) (mCallJ 2 m__law_pick (mCons (mVar 0) (mCons (mK (.int 4)) mNil)))))
    (mSq (mSet 5 (mBin subD (mVar 1) (mBin divD (mCallJ 2 m__law_pick (mCons (mVar 0) (mCons (mVar 1) mNil))) (mBin ixA (mLst (mCons (mK (.int 1)) (mCons (mK (.int 2)) (mCons (mK (.int 4)) mNil)))) (mCallJ 2 m__law_pick (mCons (mVar 0) (mCons (mK (.int 3)) mNil)))))))
    (mRet (mCallJ 5 m__law_jar_of (mCons (mVar 0) (mCons (mBin subD (mVar 5) (mBin mulD (mCallB (one intD) (mCons (mBin eqD (mCallJ 2 m__law_pick (mCons (mVar 0) (mCons (mK (.int 16)) mNil))) (mK (.int 0))) mNil)) (mVar 5))) (mCons (mVar 2) (mCons (mVar 3) (mCons (mVar 4) mNil))))))))))
def m__law_a_jar (j : D) (ds : List D) : Res (D × D) := runJ 6 b__law_a_jar j ds
abbrev cm__law_pairs_1 : Ev :=
  (mTup (mCons (mBin ixA (mVar 1) (mK (.int 0))) (mCons (mBin ixA (mVar 1) (mK (.int 1))) (mCons (mBin ixT (mVar 0) (mVar 1)) mNil))))
abbrev ct__law_pairs_1 : Ev1 :=
  (mTru (mBin gtD (mBin ixT (mVar 0) (mVar 1)) (mK (.int 0))))
abbrev b__law_pairs : Sv :=
  (mRet (mCallB (one sortA) (mCons (mLcV 0 [1] (gmN 1) ct__law_pairs_1 cm__law_pairs_1) mNil)))
def m__law_pairs (ds : List D) : Res D := run 2 b__law_pairs ds
abbrev cm__law_of_word_1 : Ev :=
  (mVar 3)
abbrev ct__law_of_word_1 : Ev1 :=
  (mAndT (mTru (mBin neD (mBin ixA (mBin ixA (mVar 0) (mVar 3)) (mK (.int 0))) (mK (.str "struck")))) (mTru (mBin eqD (mBin eqD (mBin ixA (mBin ixA (mVar 0) (mVar 3)) (mK (.int 0))) (mK (.str "bill"))) (mVar 1))))
abbrev cm__law_of_word_2 : Ev :=
  (mTup (mCons (mBin ixA (mBin ixA (mVar 0) (mVar 3)) (mK (.int 1))) (mCons (mVar 3) mNil)))
abbrev cm__law_of_word_3 : Ev :=
  (mVar 3)
abbrev b__law_of_word : Sv :=
  (mSq (mSet 2 (mLc (mRng1 (mCons (mCallB (one lenD) (mCons (mVar 0) mNil)) mNil)) [3] (gmN 3) ct__law_of_word_1 cm__law_of_word_1))
    (mRet (mLc (mSeq (mCallB (one sortA) (mCons (mLc (mSeq (mVar 2)) [3] (gmN 3) mYes cm__law_of_word_2) mNil))) [4, 3] (gmT 2 (gmCons (gmN 4) (gmCons (gmN 3) gmNil))) mYes cm__law_of_word_3)))
def m__law_of_word (ds : List D) : Res D := run 5 b__law_of_word ds
abbrev cm__law_lay_1 : Ev :=
  (mIf (mTru (mBin eqD (mBin ixA (mVar 9) (mK (.int 0))) (mK (.str "struck")))) (mK (.int 0)) (mBin ixA (mVar 9) (mK (.int 2))))
abbrev lb__law_lay_1 : Sv :=
  (mSq (mPar 10 11 (mCons (mBin ixA (mVar 6) (mCallJ 2 m__law_pick (mCons (mVar 0) (mCons (mCallB (one lenD) (mCons (mVar 6) mNil)) mNil)))) (mCons (mBin ixA (mVar 7) (mCallJ 2 m__law_pick (mCons (mVar 0) (mCons (mCallB (one lenD) (mCons (mVar 7) mNil)) mNil)))) mNil)))
    (mSq (mSet 8 (mCallB (two minD) (mCons (mBin ixA (mVar 3) (mVar 10)) (mCons (mBin ixA (mVar 3) (mVar 11)) mNil))))
    (mIfS (mTru (mBin gtD (mVar 8) (mK (.int 0)))) (mSq (mSet 12 (mIf (mTru (mBin eqD (mCallJ 2 m__law_pick (mCons (mVar 0) (mCons (mK (.int 2)) mNil))) (mK (.int 0)))) (mVar 8) (mBin addD (mK (.int 1)) (mCallJ 2 m__law_wide (mCons (mVar 0) (mCons (mVar 8) mNil))))))
    (mSq (mPutT 4 (mCons (mVar 10) (mCons (mVar 11) mNil)) (mBin addD (mGetA (mVar 4) (mTup (mCons (mVar 10) (mCons (mVar 11) mNil))) (mK (.int 0))) (mVar 12)))
    (mSq (mPut 3 (mVar 10) (mBin subD (mBin ixA (mVar 3) (mVar 10)) (mVar 12)))
    (mPut 3 (mVar 11) (mBin subD (mBin ixA (mVar 3) (mVar 11)) (mVar 12)))))) mSk)))
abbrev b__law_lay : Sv :=
  (mSq (mSetL 3 (mLc (mSeq (mVar 1)) [9] (gmN 9) mYes cm__law_lay_1))
    (mSq (mPar 6 7 (mCons (mCall 2 m__law_of_word (mCons (mVar 1) (mCons (mK (.bl true)) mNil))) (mCons (mCall 2 m__law_of_word (mCons (mVar 1) (mCons (mK (.bl false)) mNil))) mNil)))
    (mSq (mSetL 4 (mDicT0))
    (mSq (mIfS (mOrT (mTru (mBin eqD (mVar 6) (mLst mNil))) (mTru (mBin eqD (mVar 7) (mLst mNil)))) (mRet (mLst mNil)) mSk)
    (mSq (mFor (mRng1 (mCons (mCallJ 2 m__law_pick (mCons (mVar 0) (mCons (mBin addD (mVar 2) (mK (.int 1))) mNil))) mNil)) (gmN 5) lb__law_lay_1)
    (mRet (mCall 1 m__law_pairs (mCons (mGive 4) mNil))))))))
def m__law_lay (j : D) (ds : List D) : Res (D × D) := runJ 13 b__law_lay j ds
abbrev lb__law_swapped_1 : Sv :=
  (mPutT 4 (mCons (mVar 5) (mCons (mVar 6) mNil)) (mVar 7))
abbrev b__law_swapped : Sv :=
  (mSq (mSetL 4 (mDicT0))
    (mSq (mFor (mSeq (mVar 0)) (gmT 3 (gmCons (gmN 5) (gmCons (gmN 6) (gmCons (gmN 7) gmNil)))) lb__law_swapped_1)
    (mSq (mPar 5 6 (mCons (mBin ixA (mBin ixA (mVar 0) (mVar 1)) (mK (.int 0))) (mCons (mBin ixA (mBin ixA (mVar 0) (mVar 1)) (mK (.int 1))) mNil)))
    (mSq (mPar 8 9 (mCons (mBin ixA (mBin ixA (mVar 0) (mVar 2)) (mK (.int 0))) (mCons (mBin ixA (mBin ixA (mVar 0) (mVar 2)) (mK (.int 1))) mNil)))
    (mSq (mPutT 4 (mCons (mVar 5) (mCons (mVar 6) mNil)) (mBin subD (mBin ixT (mVar 4) (mTup (mCons (mVar 5) (mCons (mVar 6) mNil)))) (mVar 3)))
    (mSq (mPutT 4 (mCons (mVar 8) (mCons (mVar 9) mNil)) (mBin subD (mBin ixT (mVar 4) (mTup (mCons (mVar 8) (mCons (mVar 9) mNil)))) (mVar 3)))
    (mSq (mPutT 4 (mCons (mVar 5) (mCons (mVar 9) mNil)) (mBin addD (mGetA (mVar 4) (mTup (mCons (mVar 5) (mCons (mVar 9) mNil))) (mK (.int 0))) (mVar 3)))
    (mSq (mPutT 4 (mCons (mVar 8) (mCons (mVar 6) mNil)) (mBin addD (mGetA (mVar 4) (mTup (mCons (mVar 8) (mCons (mVar 6) mNil))) (mK (.int 0))) (mVar 3)))
    (mRet (mCall 1 m__law_pairs (mCons (mGive 4) mNil)))))))))))
def m__law_swapped (ds : List D) : Res D := run 10 b__law_swapped ds
abbrev cm__law_a_kin_1 : Ev :=
  (mTup (mCons (mVar 6) (mCons (mVar 9) mNil)))
abbrev ct__law_a_kin_1 : Ev1 :=
  (mAndT (mTru (mBin neD (mBin ixA (mVar 7) (mK (.int 0))) (mBin ixA (mBin ixA (mVar 3) (mVar 9)) (mK (.int 0))))) (mTru (mBin neD (mBin ixA (mVar 7) (mK (.int 1))) (mBin ixA (mBin ixA (mVar 3) (mVar 9)) (mK (.int 1))))))
abbrev lb__law_a_kin_1 : Sv :=
  (mSq (mSet 7 (mBin ixA (mVar 3) (mVar 6)))
    (mSet 5 (mBin addD (mVar 5) (mLc (mRng1 (mCons (mVar 6) mNil)) [9] (gmN 9) ct__law_a_kin_1 cm__law_a_kin_1))))
abbrev lb__law_a_kin_2 : Sv :=
  (mSq (mSet 5 (mLst mNil))
    (mSq (mFor (mRng1 (mCons (mCallB (one lenD) (mCons (mVar 3) mNil)) mNil)) (gmN 6) lb__law_a_kin_1)
    (mIfS (mTru (mBin neD (mVar 5) (mLst mNil))) (mSq (mUnp (gmT 2 (gmCons (gmN 6) (gmCons (gmN 9) gmNil))) (mBin ixA (mVar 5) (mCallJ 2 m__law_pick (mCons (mVar 0) (mCons (mCallB (one lenD) (mCons (mVar 5) mNil)) mNil)))))
    (mSq (mSet 8 (mCallB (two minD) (mCons (mBin ixA (mBin ixA (mVar 3) (mVar 6)) (mK (.int 2))) (mCons (mBin ixA (mBin ixA (mVar 3) (mVar 9)) (mK (.int 2))) mNil))))
    (mSet 3 (mCall 4 m__law_swapped (mCons (mVar 3) (mCons (mVar 6) (mCons (mVar 9) (mCons (mIf (mTru (mBin eqD (mCallJ 2 m__law_pick (mCons (mVar 0) (mCons (mK (.int 2)) mNil))) (mK (.int 0)))) (mVar 8) (mBin addD (mK (.int 1)) (mCallJ 2 m__law_wide (mCons (mVar 0) (mCons (mVar 8) mNil))))) mNil)))))))) mSk)))
abbrev b__law_a_kin : Sv :=
  (mSq (mSet 3 (mVar 1))
    (mSq (mFor (mRng1 (mCons (mVar 2) mNil)) (gmN 4) lb__law_a_kin_2)
    (mRet (mVar 3))))
def m__law_a_kin (j : D) (ds : List D) : Res (D × D) := runJ 10 b__law_a_kin j ds
abbrev cm__law_laid_on_1 : Ev :=
  (mK (.int 0))
abbrev lb__law_laid_on_1 : Sv :=
  (mSq (mPut 2 (mVar 3) (mBin addD (mBin ixA (mVar 2) (mVar 3)) (mVar 5)))
    (mPut 2 (mVar 4) (mBin addD (mBin ixA (mVar 2) (mVar 4)) (mVar 5))))
abbrev b__law_laid_on : Sv :=
  (mSq (mSetL 2 (mLc (mSeq (mVar 0)) [6] (gmN 6) mYes cm__law_laid_on_1))
    (mSq (mFor (mSeq (mVar 1)) (gmT 3 (gmCons (gmN 3) (gmCons (gmN 4) (gmCons (gmN 5) gmNil)))) lb__law_laid_on_1)
    (mRet (mGive 2))))
def m__law_laid_on (ds : List D) : Res D := run 7 b__law_laid_on ds
abbrev cm__law_near_one_1 : Ev :=
  (mIf (mTru (mBin neD (mBin ixA (mVar 13) (mK (.int 0))) (mK (.str "struck")))) (mBin ixA (mVar 13) (mK (.int 2))) (mK (.int 0)))
abbrev cm__law_near_one_2 : Ev :=
  (mTup (mCons (mBin ixA (mVar 13) (mK (.int 0))) (mCons (mBin ixA (mVar 13) (mK (.int 1))) mNil)))
abbrev lb__law_near_one_1 : Sv :=
  (mIfS (mAndT (mTru (mBin neD (mVar 9) (mVar 10))) (mAndT (mTru (mBin geD (mBin subD (mBin ixA (mVar 6) (mVar 9)) (mBin ixA (mVar 7) (mVar 9))) (mVar 12))) (mTru (mBin (inS true) (mTup (mCons (mVar 9) (mCons (mVar 11) mNil))) (mVar 8))))) (mRet (mCallB (one sortA) (mCons (mBin addD (mVar 4) (mLst (mCons (mTup (mCons (mVar 9) (mCons (mVar 11) (mCons (mVar 12) mNil)))) mNil))) mNil))) mSk)
abbrev b__law_near_one : Sv :=
  (mSq (mIfS (mTru (mBin eqD (mVar 2) (mLst mNil))) (mRet (mLst mNil)) mSk)
    (mSq (mSet 3 (mCallJ 2 m__law_pick (mCons (mVar 0) (mCons (mCallB (one lenD) (mCons (mVar 2) mNil)) mNil))))
    (mSq (mUnp (gmT 3 (gmCons (gmN 10) (gmCons (gmN 11) (gmCons (gmN 12) gmNil)))) (mBin ixA (mVar 2) (mVar 3)))
    (mSq (mSet 4 (mBin addD (mSl sliceD (mVar 2) mNo (mPart (mVar 3))) (mSl sliceD (mVar 2) (mPart (mBin addD (mVar 3) (mK (.int 1)))) mNo)))
    (mSq (mSet 5 (mCallJ 2 m__law_pick (mCons (mVar 0) (mCons (mK (.int 3)) mNil))))
    (mSq (mIfS (mTru (mBin eqD (mVar 5) (mK (.int 0)))) (mRet (mVar 4)) mSk)
    (mSq (mIfS (mAndT (mTru (mBin eqD (mVar 5) (mK (.int 1)))) (mTru (mBin gtD (mVar 12) (mK (.int 1))))) (mRet (mBin addD (mBin addD (mSl sliceD (mVar 2) mNo (mPart (mVar 3))) (mLst (mCons (mTup (mCons (mVar 10) (mCons (mVar 11) (mCons (mBin addD (mK (.int 1)) (mCallJ 2 m__law_wide (mCons (mVar 0) (mCons (mBin subD (mVar 12) (mK (.int 1))) mNil)))) mNil)))) mNil))) (mSl sliceD (mVar 2) (mPart (mBin addD (mVar 3) (mK (.int 1)))) mNo))) mSk)
    (mSq (mSet 6 (mLc (mSeq (mVar 1)) [13] (gmN 13) mYes cm__law_near_one_1))
    (mSq (mSet 7 (mCall 2 m__law_laid_on (mCons (mVar 1) (mCons (mVar 4) mNil))))
    (mSq (mSet 8 (mLc (mSeq (mVar 4)) [13] (gmN 13) mYes cm__law_near_one_2))
    (mSq (mFor (mSeq (mCall 2 m__law_of_word (mCons (mVar 1) (mCons (mK (.bl true)) mNil)))) (gmN 9) lb__law_near_one_1)
    (mRet (mVar 4)))))))))))))
def m__law_near_one (j : D) (ds : List D) : Res (D × D) := runJ 14 b__law_near_one j ds
abbrev b__law_same : Sv :=
  (mRet (mBin eqD (mCallB (one repA) (mCons (mVar 0) mNil)) (mCallB (one repA) (mCons (mVar 1) mNil))))
def m__law_same (ds : List D) : Res D := run 2 b__law_same ds
abbrev b_names_rightly : Sv :=
  (mSq (mIfS (mTru (mBin neD (mBin ixA (mVar 1) (mK (.int 0))) (mK (.str "named")))) (mRet (mK (.bl true))) mSk)
    (mSq (mIfS (mNotT (mTru (mChain leD ltD (mK (.int 0)) (mBin ixA (mVar 1) (mK (.int 3))) (mCallB (one lenD) (mCons (mVar 0) mNil))))) (mRet (mK (.bl false))) mSk)
    (mSq (mSet 2 (mBin ixA (mVar 0) (mBin ixA (mVar 1) (mK (.int 3)))))
    (mRet (mAndV (mBin eqD (mBin ixA (mVar 2) (mK (.int 0))) (mK (.str "bill"))) (mBin leD (mBin ixA (mVar 2) (mK (.int 1))) (mBin ixA (mVar 1) (mK (.int 1)))))))))
def m_names_rightly (ds : List D) : Res D := run 3 b_names_rightly ds
abbrev b_has_word : Sv :=
  (mRet (mAndV (mIsi "tuple" (mVar 0)) (mAndV (mBin gtD (mCallB (one lenD) (mCons (mVar 0) mNil)) (mK (.int 0))) (mAndV (mIsi "str" (mBin ixA (mVar 0) (mK (.int 0)))) (mBin inD (mBin ixA (mVar 0) (mK (.int 0))) (mVar 1))))))
def m_has_word (ds : List D) : Res D := run 2 b_has_word ds
abbrev b_is_integer : Sv :=
  (mRet (mAndV (mIsi "int" (mVar 0)) (mNotV (mIsi "bool" (mVar 0)))))
def m_is_integer (ds : List D) : Res D := run 1 b_is_integer ds
abbrev b_is_plain_entry : Sv :=
  (mSq (mIfS (mOrT (mNotT (mTru (mCall 2 m_has_word (mCons (mVar 0) (mCons (mTup (mCons (mK (.str "bill")) (mCons (mK (.str "pay")) mNil))) mNil))))) (mTru (mBin neD (mCallB (one lenD) (mCons (mVar 0) mNil)) (mK (.int 3))))) (mRet (mK (.bl false))) mSk)
    (mRet (mAndV (mCall 1 m_is_integer (mCons (mBin ixA (mVar 0) (mK (.int 1))) mNil)) (mAndV (mCall 1 m_is_integer (mCons (mBin ixA (mVar 0) (mK (.int 2))) mNil)) (mBin geD (mBin ixA (mVar 0) (mK (.int 2))) (mK (.int 1)))))))
def m_is_plain_entry (ds : List D) : Res D := run 1 b_is_plain_entry ds
abbrev b_has_entry_form : Sv :=
  (mSq (mIfS (mTru (mCall 2 m_has_word (mCons (mVar 0) (mCons (mTup (mCons (mK (.str "struck")) mNil)) mNil)))) (mRet (mBin eqD (mCallB (one lenD) (mCons (mVar 0) mNil)) (mK (.int 1)))) mSk)
    (mSq (mIfS (mAndT (mTru (mCall 2 m_has_word (mCons (mVar 0) (mCons (mTup (mCons (mK (.str "named")) mNil)) mNil)))) (mTru (mBin eqD (mCallB (one lenD) (mCons (mVar 0) mNil)) (mK (.int 4))))) (mRet (mAndV (mCall 1 m_is_plain_entry (mCons (mTup (mCons (mK (.str "pay")) (mCons (mBin ixA (mVar 0) (mK (.int 1))) (mCons (mBin ixA (mVar 0) (mK (.int 2))) mNil)))) mNil)) (mCall 1 m_is_integer (mCons (mBin ixA (mVar 0) (mK (.int 3))) mNil)))) mSk)
    (mRet (mCall 1 m_is_plain_entry (mCons (mVar 0) mNil)))))
def m_has_entry_form (ds : List D) : Res D := run 1 b_has_entry_form ds
abbrev cm_is_account_1 : Ev :=
  (mCall 1 m_has_entry_form (mCons (mVar 1) mNil))
abbrev cm_is_account_2 : Ev :=
  (mCall 2 m_names_rightly (mCons (mVar 0) (mCons (mVar 1) mNil)))
abbrev b_is_account : Sv :=
  (mSq (mIfS (mNotT (mTru (mIsi "tuple" (mVar 0)))) (mRet (mK (.bl false))) mSk)
    (mSq (mIfS (mNotT (mTru (mCallB (one (onB fun ns => .ok (.bl (ns.all id)))) (mCons (mLc (mSeq (mVar 0)) [1] (gmN 1) mYes cm_is_account_1) mNil)))) (mRet (mK (.bl false))) mSk)
    (mRet (mCallB (one (onB fun ns => .ok (.bl (ns.all id)))) (mCons (mLc (mSeq (mVar 0)) [1] (gmN 1) mYes cm_is_account_2) mNil)))))
def m_is_account (ds : List D) : Res D := run 2 b_is_account ds
abbrev b_need_account : Sv :=
  (mIfS (mNotT (mTru (mCall 1 m_is_account (mCons (mVar 0) mNil)))) (mRai "InvalidAccount") mSk)
def m_need_account (ds : List D) : Res D := run 1 b_need_account ds
abbrev cm_rests_of_1 : Ev :=
  (mIf (mTru (mBin eqD (mBin ixA (mVar 6) (mK (.int 0))) (mK (.str "struck")))) (mK (.int 0)) (mBin ixA (mVar 6) (mK (.int 2))))
abbrev lb_rests_of_1 : Sv :=
  (mSq (mPut 2 (mVar 3) (mBin subD (mBin ixA (mVar 2) (mVar 3)) (mVar 5)))
    (mPut 2 (mVar 4) (mBin subD (mBin ixA (mVar 2) (mVar 4)) (mVar 5))))
abbrev b_rests_of : Sv :=
  (mSq (mSetL 2 (mLc (mSeq (mVar 0)) [6] (gmN 6) mYes cm_rests_of_1))
    (mSq (mFor (mSeq (mVar 1)) (gmT 3 (gmCons (gmN 3) (gmCons (gmN 4) (gmCons (gmN 5) gmNil)))) lb_rests_of_1)
    (mRet (mGive 2))))
def m_rests_of (ds : List D) : Res D := run 7 b_rests_of ds
abbrev b_is_place : Sv :=
  (mRet (mAndV (mCall 1 m_is_integer (mCons (mVar 1) mNil)) (mAndV (mChain leD ltD (mK (.int 0)) (mVar 1) (mCallB (one lenD) (mCons (mVar 0) mNil))) (mBin inD (mBin ixA (mBin ixA (mVar 0) (mVar 1)) (mK (.int 0))) (mVar 2)))))
def m_is_place (ds : List D) : Res D := run 3 b_is_place ds
abbrev b_is_pair : Sv :=
  (mSq (mIfS (mOrT (mNotT (mTru (mIsi "tuple" (mVar 1)))) (mTru (mBin neD (mCallB (one lenD) (mCons (mVar 1) mNil)) (mK (.int 3))))) (mRet (mK (.bl false))) mSk)
    (mSq (mIfS (mOrT (mNotT (mTru (mCall 3 m_is_place (mCons (mVar 0) (mCons (mBin ixA (mVar 1) (mK (.int 0))) (mCons (mTup (mCons (mK (.str "bill")) mNil)) mNil)))))) (mNotT (mTru (mCall 3 m_is_place (mCons (mVar 0) (mCons (mBin ixA (mVar 1) (mK (.int 1))) (mCons (mK (.tup [.str "pay", .str "named"])) mNil))))))) (mRet (mK (.bl false))) mSk)
    (mRet (mAndV (mCall 1 m_is_integer (mCons (mBin ixA (mVar 1) (mK (.int 2))) mNil)) (mBin geD (mBin ixA (mVar 1) (mK (.int 2))) (mK (.int 1)))))))
def m_is_pair (ds : List D) : Res D := run 2 b_is_pair ds
abbrev cm_fits_account_1 : Ev :=
  (mCall 2 m_is_pair (mCons (mVar 0) (mCons (mVar 4) mNil)))
abbrev lb_fits_account_1 : Sv :=
  (mIfS (mTru (mBin geT (mSl sliceD (mBin ixA (mVar 1) (mBin subD (mVar 2) (mK (.int 1)))) mNo (mPart (mK (.int 2)))) (mSl sliceD (mBin ixA (mVar 1) (mVar 2)) mNo (mPart (mK (.int 2)))))) (mRet (mK (.bl false))) mSk)
abbrev cm_fits_account_2 : Ev :=
  (mBin geD (mVar 3) (mK (.int 0)))
abbrev b_fits_account : Sv :=
  (mSq (mIfS (mOrT (mNotT (mTru (mIsi "list" (mVar 1)))) (mNotT (mTru (mCallB (one (onB fun ns => .ok (.bl (ns.all id)))) (mCons (mLc (mSeq (mVar 1)) [4] (gmN 4) mYes cm_fits_account_1) mNil))))) (mRet (mK (.bl false))) mSk)
    (mSq (mFor (mRng2 (mCons (mK (.int 1)) (mCons (mCallB (one lenD) (mCons (mVar 1) mNil)) mNil))) (gmN 2) lb_fits_account_1)
    (mRet (mCallB (one (onB fun ns => .ok (.bl (ns.all id)))) (mCons (mLc (mSeq (mCall 2 m_rests_of (mCons (mVar 0) (mCons (mVar 1) mNil)))) [3] (gmN 3) mYes cm_fits_account_2) mNil)))))
def m_fits_account (ds : List D) : Res D := run 5 b_fits_account ds
abbrev b_need_laying : Sv :=
  (mIfS (mNotT (mTru (mCall 2 m_fits_account (mCons (mVar 0) (mCons (mVar 1) mNil))))) (mRai "InvalidLaying") mSk)
def m_need_laying (ds : List D) : Res D := run 2 b_need_laying ds
abbrev cm_line_of_1 : Ev :=
  (mVar 2)
abbrev ct_line_of_1 : Ev1 :=
  (mTru (mBin neD (mBin ixA (mBin ixA (mVar 0) (mVar 2)) (mK (.int 0))) (mK (.str "struck"))))
abbrev b_line_of : Sv :=
  (mSq (mSet 1 (mLc (mRng1 (mCons (mCallB (one lenD) (mCons (mVar 0) mNil)) mNil)) [2] (gmN 2) ct_line_of_1 cm_line_of_1))
    (mRet (mSoLam 0 (mVar 1))))
def m_line_of (ds : List D) : Res D := run 3 b_line_of ds
abbrev cm_bill_line_1 : Ev :=
  (mVar 1)
abbrev ct_bill_line_1 : Ev1 :=
  (mTru (mBin eqD (mBin ixA (mBin ixA (mVar 0) (mVar 1)) (mK (.int 0))) (mK (.str "bill"))))
abbrev b_bill_line : Sv :=
  (mRet (mLc (mSeq (mCall 1 m_line_of (mCons (mVar 0) mNil))) [1] (gmN 1) ct_bill_line_1 cm_bill_line_1))
def m_bill_line (ds : List D) : Res D := run 2 b_bill_line ds
abbrev cm_payment_line_1 : Ev :=
  (mVar 1)
abbrev ct_payment_line_1 : Ev1 :=
  (mTru (mBin neD (mBin ixA (mBin ixA (mVar 0) (mVar 1)) (mK (.int 0))) (mK (.str "bill"))))
abbrev b_payment_line : Sv :=
  (mRet (mLc (mSeq (mCall 1 m_line_of (mCons (mVar 0) mNil))) [1] (gmN 1) ct_payment_line_1 cm_payment_line_1))
def m_payment_line (ds : List D) : Res D := run 2 b_payment_line ds
abbrev cm_laid_sums_1 : Ev :=
  (mBin ixA (mVar 4) (mK (.int 2)))
abbrev ct_laid_sums_1 : Ev1 :=
  (mTru (mBin eqD (mBin ixA (mVar 4) (mVar 2)) (mVar 3)))
abbrev cm_laid_sums_2 : Ev :=
  (mTup (mCons (mVar 3) (mCons (mCallB (one (onT fun ns => .ok (.int ns.sum))) (mCons (mLc (mSeq (mVar 0)) [4] (gmN 4) ct_laid_sums_1 cm_laid_sums_1) mNil)) mNil)))
abbrev b_laid_sums : Sv :=
  (mRet (mLc (mSeq (mVar 1)) [3] (gmN 3) mYes cm_laid_sums_2))
def m_laid_sums (ds : List D) : Res D := run 5 b_laid_sums ds
abbrev b_are_akin : Sv :=
  (mSq (mSet 3 (mCall 1 m_bill_line (mCons (mVar 0) mNil)))
    (mSq (mIfS (mTru (mBin neD (mCall 3 m_laid_sums (mCons (mVar 1) (mCons (mVar 3) (mCons (mK (.int 0)) mNil)))) (mCall 3 m_laid_sums (mCons (mVar 2) (mCons (mVar 3) (mCons (mK (.int 0)) mNil)))))) (mRet (mK (.bl false))) mSk)
    (mSq (mSet 4 (mCall 1 m_payment_line (mCons (mVar 0) mNil)))
    (mRet (mBin eqD (mCall 3 m_laid_sums (mCons (mVar 1) (mCons (mVar 4) (mCons (mK (.int 1)) mNil)))) (mCall 3 m_laid_sums (mCons (mVar 2) (mCons (mVar 4) (mCons (mK (.int 1)) mNil)))))))))
def m_are_akin (ds : List D) : Res D := run 5 b_are_akin ds
abbrev b_akin : Sv :=
  (mSq (mExp (mCall 1 m_need_account (mCons (mVar 0) mNil)))
    (mSq (mExp (mCall 2 m_need_laying (mCons (mVar 0) (mCons (mVar 1) mNil))))
    (mSq (mExp (mCall 2 m_need_laying (mCons (mVar 0) (mCons (mVar 2) mNil))))
    (mRet (mCall 3 m_are_akin (mCons (mVar 0) (mCons (mVar 1) (mCons (mVar 2) mNil))))))))
def m_akin (ds : List D) : Res D := run 3 b_akin ds
abbrev lb_law_1 : Sv :=
  (mIfS (mNotT (mTru (mCall 2 m__law_same (mCons (mCall 3 m_akin (mCons (mVar 5) (mCons (mVar 10) (mCons (mVar 11) mNil)))) (mCons (mVar 8) mNil))))) (mRet (mK (.bl false))) mSk)
abbrev lb_law_2 : Sv :=
  (mSq (mSetL 3 (mCallF 1 m__law_draws (mCons (mVar 2) mNil)))
    (mSq (mSet 4 (mBin ixA (mLst (mCons (mK (.int 8)) (mCons (mK (.int 16)) (mCons (mK (.int 40)) mNil)))) (mCallJ 2 m__law_pick (mCons (mVar 3) (mCons (mK (.int 3)) mNil)))))
    (mSq (mSet 5 (mCallJ 3 m__law_a_jar (mCons (mVar 3) (mCons (mVar 4) (mCons (mK (.bl true)) mNil)))))
    (mSq (mSet 6 (mCallJ 3 m__law_lay (mCons (mVar 3) (mCons (mVar 5) (mCons (mVar 4) mNil)))))
    (mSq (mSet 7 (mCallJ 3 m__law_a_kin (mCons (mVar 3) (mCons (mVar 6) (mCons (mCallJ 2 m__law_pick (mCons (mVar 3) (mCons (mK (.int 4)) mNil))) mNil)))))
    (mSq (mIfS (mTru (mBin eqD (mCallJ 2 m__law_pick (mCons (mVar 3) (mCons (mK (.int 2)) mNil))) (mK (.int 0)))) (mSet 7 (mCallJ 3 m__law_near_one (mCons (mVar 3) (mCons (mVar 5) (mCons (mVar 7) mNil))))) mSk)
    (mSq (mSet 8 (mBin eqD (mCall 2 m__law_laid_on (mCons (mVar 5) (mCons (mVar 6) mNil))) (mCall 2 m__law_laid_on (mCons (mVar 5) (mCons (mVar 7) mNil)))))
    (mSq (mSet 9 (mLst (mCons (mCallB (one lstT) (mCons (mVar 6) mNil)) (mCons (mCallB (one lstT) (mCons (mVar 7) mNil)) mNil))))
    (mSq (mFor (mSeq (mLst (mCons (mTup (mCons (mVar 6) (mCons (mVar 7) mNil))) (mCons (mTup (mCons (mVar 7) (mCons (mVar 6) mNil))) (mCons (mTup (mCons (mVar 6) (mCons (mVar 7) mNil))) mNil))))) (gmT 2 (gmCons (gmN 10) (gmCons (gmN 11) gmNil))) lb_law_1)
    (mIfS (mOrT (mTru (mBin isntD (mCallK 3 [0, 2, 1] m_akin (mCons (mVar 5) (mCons (mVar 7) (mCons (mVar 7) mNil)))) (mK (.bl true)))) (mTru (mBin neD (mLst (mCons (mVar 6) (mCons (mVar 7) mNil))) (mVar 9)))) (mRet (mK (.bl false))) mSk))))))))))
abbrev b_law : Sv :=
  (mSq (mSet 1 (mK (.int 80086708338943961850699493502416407409877663626188170023127069525461180924)))
    (mSq (mFor (mSeq (mBin addD (mLst (mCons (mVar 1) mNil)) (mSl sliceD (mVar 0) mNo (mPart (mK (.int 16)))))) (gmN 2) lb_law_2)
    (mRet (mK (.bl true)))))
def m_law (ds : List D) : Res D := run 12 b_law ds
end
end Law
end
section
namespace Law
open PySem Vm
inductive Ent where
  | bill (d s : Int)
  | pay (d s : Int)
  | named (d s k : Int)
  | struck
def Ent.D : Ent → D
  | .bill d s => .tup [.str "bill", .int d, .int s]
  | .pay d s => .tup [.str "pay", .int d, .int s]
  | .named d s k => .tup [.str "named", .int d, .int s, .int k]
  | .struck => .tup [.str "struck"]
def Ent.live : Ent → Bool
  | .struck => false
  | _ => true
def Ent.isBill : Ent → Bool
  | .bill _ _ => true
  | _ => false
def Ent.isPay : Ent → Bool
  | .pay _ _ => true
  | .named _ _ _ => true
  | _ => false
def Ent.plain : Ent → Bool
  | .named _ _ _ => false
  | _ => true
def Ent.day : Ent → Int
  | .bill d _ => d
  | .pay d _ => d
  | .named d _ _ => d
  | .struck => 0
def Ent.sum : Ent → Int
  | .bill _ s => s
  | .pay _ s => s
  | .named _ s _ => s
  | .struck => 0
def Ent.ok : Ent → Bool
  | .struck => true
  | e => decide (1 ≤ e.sum)
def accD (es : List Ent) : D := .tup (es.map Ent.D)
@[simp] theorem D_bill (d s : Int) : (Ent.bill d s).D = .tup [.str "bill", .int d, .int s] := rfl
@[simp] theorem D_pay (d s : Int) : (Ent.pay d s).D = .tup [.str "pay", .int d, .int s] := rfl
@[simp] theorem D_named (d s k : Int) : (Ent.named d s k).D = .tup [.str "named", .int d, .int s, .int k] := rfl
@[simp] theorem D_struck : Ent.struck.D = .tup [.str "struck"] := rfl
@[simp] theorem kp_ent (e : Ent) : kp e.D = .ok e.D := by cases e <;> rfl
@[simp] theorem rs_ent (env : Sls) (e : Ent) : rs env e.D = .ok e.D := by cases e <;> rfl
@[simp] theorem al_ent (e : Ent) (ds : List D) : allKp (e.D :: ds) = allKp ds := by cases e <;> rfl
@[simp] theorem kp_acc (es : List Ent) : kp (accD es) = .ok (accD es) := rfl
@[simp] theorem rs_acc (env : Sls) (es : List Ent) : rs env (accD es) = .ok (accD es) := rfl
@[simp] theorem al_acc (es : List Ent) (ds : List D) : allKp (accD es :: ds) = allKp ds := rfl
/-- the named bill stands there and is no later -/
def nameOk (es : List Ent) (e : Ent) : Bool := match e with
  | .named d _ k => decide (0 ≤ k ∧ k < es.length) && (match es[k.toNat]? with
    | some (.bill d' _) => decide (d' ≤ d)
    | _ => false)
  | _ => true
@[simp] theorem ok_bill (d s : Int) : (Ent.bill d s).ok = decide (1 ≤ s) := rfl
@[simp] theorem ok_pay (d s : Int) : (Ent.pay d s).ok = decide (1 ≤ s) := rfl
@[simp] theorem ok_named (d s k : Int) : (Ent.named d s k).ok = decide (1 ≤ s) := rfl
@[simp] theorem is_int (i : Int) : m_is_integer [.int i] = .ok (.bl true) := by simp [m_is_integer]
theorem form_ok {e : Ent} (h : e.ok = true) : m_has_entry_form [e.D] = .ok (.bl true) := by
  cases e with
  | struck => simp [m_has_entry_form, m_has_word, Ent.D]
  | _ => simp at h; simp [m_has_entry_form, m_has_word, m_is_plain_entry, Ent.D, h]
end Law
end
section
namespace Law
open PySem Vm
/-- an account of the program -/
structure Acc (es : List Ent) : Prop where
  len : es.length ≤ 1000
  ok : ∀ e ∈ es, e.ok = true
  names : ∀ e ∈ es, nameOk es e = true
theorem at_ent (es : List Ent) (i : Nat) (h : i < es.length) : L2.atI (es.map Ent.D) (i : Int) = some es[i].D := by
  rw [atI_nat _ i (by rw [List.length_map]; exact h), List.getElem_map]
theorem names_ok {es : List Ent} {e : Ent} (h : nameOk es e = true) : m_names_rightly [accD es, e.D] = .ok (.bl true) := by
  cases e with
  | named d s k =>
    simp only [nameOk, Bool.and_eq_true, decide_eq_true_eq] at h
    obtain ⟨⟨h0, h1⟩, h2⟩ := h
    have hk : k.toNat < es.length := by omega
    have hat := at_ent es k.toNat hk
    rw [Int.toNat_of_nonneg h0] at hat
    rw [List.getElem?_eq_getElem hk] at h2
    cases q : es[k.toNat] with
    | bill d' s' =>
      rw [q] at h2 hat
      simp at h2
      simp [m_names_rightly, Ent.D, accD, h0, h1] at hat ⊢
      simp [hat, h2]
    | _ => rw [q] at h2; simp at h2
  | _ => simp [m_names_rightly, Ent.D]
theorem is_acc {es : List Ent} (A : Acc es) : m_is_account [accD es] = .ok (.bl true) := by
  have h1 := lc1m (i := 1) (m := cm_is_account_1) (env := [.t (accD es), .u]) Ent.D (fun _ => .bl true) es fun e he => by
    have := form_ok (A.ok e he)
    exact ⟨by simp [this], rfl⟩
  have h2 := lc1m (i := 1) (m := cm_is_account_2) (env := [.t (accD es), .u]) Ent.D (fun _ => .bl true) es fun e he => by
    have := names_ok (A.names e he)
    exact ⟨by simp [this], rfl⟩
  simp only [accD] at h1 h2 ⊢
  simp [m_is_account, h1, h2]
end Law
end
section
namespace Law
open PySem Vm
def Ent.word : Ent → Str
  | .bill _ _ => "bill"
  | .pay _ _ => "pay"
  | .named _ _ _ => "named"
  | .struck => "struck"
@[simp] theorem ix_w (e : Ent) : ixA e.D (.int 0) = .ok (.str e.word) := by cases e <;> simp [Ent.D, Ent.word]
theorem ix_d {e : Ent} (h : e.live = true) : ixA e.D (.int 1) = .ok (.int e.day) := by cases e <;> simp [Ent.live] at h <;> simp [Ent.D, Ent.day]
theorem ix_s {e : Ent} (h : e.live = true) : ixA e.D (.int 2) = .ok (.int e.sum) := by cases e <;> simp [Ent.live] at h <;> simp [Ent.D, Ent.sum]
@[simp] theorem ww_bill (e : Ent) : (e.word = "bill") = (e.isBill = true) := by cases e <;> simp [Ent.word, Ent.isBill]
@[simp] theorem ww_struck (e : Ent) : (e.word = "struck") = (e.live = false) := by cases e <;> simp [Ent.word, Ent.live]
@[simp] theorem ww_named (e : Ent) : (e.word = "named") = (e.plain = false) := by cases e <;> simp [Ent.word, Ent.plain]
theorem live_or {e : Ent} (h : e.live = true) : e.isBill = !e.isPay := by cases e <;> simp [Ent.live] at h <;> rfl
def gE (es : List Ent) (i : Nat) : Ent := es.getD i .struck
theorem gE_at {es : List Ent} {i : Nat} (h : i < es.length) : es[i]? = some (gE es i) := by
  unfold gE
  rw [List.getD_eq_getElem?_getD, List.getElem?_eq_getElem h]
  rfl
theorem gE_mem {es : List Ent} {i : Nat} (h : i < es.length) : gE es i ∈ es := List.mem_of_getElem? (gE_at h)
theorem ix_acc (es : List Ent) (i : Nat) (h : i < es.length) : ixA (accD es) (.int i) = .ok (gE es i).D := by
  unfold gE
  have := at_ent es i h
  simp only [accD, y32, y30, this]
  rw [List.getD_eq_getElem?_getD, List.getElem?_eq_getElem h]
  rfl
theorem len_acc (es : List Ent) : lenD (accD es) = .ok (.int es.length) := by simp [accD]
@[simp] theorem need_acc {es : List Ent} (A : Acc es) : m_need_account [accD es] = .ok .non := by simp [m_need_account, is_acc A]
abbrev lvN (es : List Ent) (i : Nat) : Bool := (gE es i).live
abbrev dyN (es : List Ent) (i : Nat) : Int := (gE es i).day
abbrev smN (es : List Ent) (i : Nat) : Int := (gE es i).sum
abbrev blN (es : List Ent) (i : Nat) : Bool := (gE es i).isBill
def leN (es : List Ent) (p q : Nat) : Bool := decide (dyN es p < dyN es q ∨ (dyN es p = dyN es q ∧ p ≤ q))
/-- the indexes along the line -/
def ln (es : List Ent) : List Nat := ((List.range es.length).filter (lvN es)).mergeSort (leN es)
abbrev nD (i : Nat) : D := .int (i : Int)
theorem ln_perm (es : List Ent) : (ln es).Perm ((List.range es.length).filter (lvN es)) := List.mergeSort_perm _ _
theorem ln_mem {es : List Ent} {i : Nat} : i ∈ ln es ↔ i < es.length ∧ lvN es i = true := by
  rw [(ln_perm es).mem_iff, List.mem_filter, List.mem_range]
theorem ln_nodup (es : List Ent) : (ln es).Nodup := (ln_perm es).nodup_iff.mpr (List.Pairwise.filter _ List.nodup_range)
theorem ln_len (es : List Ent) : (ln es).length ≤ es.length := by
  rw [(ln_perm es).length_eq]
  have := List.length_filter_le (lvN es) (List.range es.length)
  rwa [List.length_range] at this
theorem line_of_ok {es : List Ent} (hz : es.length ≤ 1000) : m_line_of [accD es] = .ok (.lst ((ln es).map nD)) := by
  have h1 := lf1m (i := 2) (t := ct_line_of_1) (m := cm_line_of_1) (env := [.t (accD es), .u, .u]) nD (lvN es) nD (List.range es.length) (fun i hi => by
    have hi' : i < es.length := List.mem_range.mp hi
    simp [ix_acc es i hi', nD]) (fun i hi _ => ⟨by simp [nD], rfl⟩)
  have h2 : rg1 (es.length : Int) = true := rg1_lit _ (by omega)
  have h3 : soLam (es.map Ent.D) (((List.range es.length).filter (lvN es)).map fun i : Nat => (i : Int)) = .ok (.lst ((ln es).map nD)) := by
    have hd : ∀ i ∈ (List.range es.length).filter (lvN es), (es.map Ent.D)[i]? = some (gE es i).D ∧ (gE es i).live = true := fun i hi => by
      obtain ⟨a, b⟩ := List.mem_filter.mp hi
      have ha := List.mem_range.mp a
      refine ⟨?_, b⟩
      rw [List.getElem?_map, gE_at ha]
      rfl
    have hday : ∀ i ∈ (List.range es.length).filter (lvN es), dayOf (es.map Ent.D) (i : Int) = dyN es i := fun i hi => by
      obtain ⟨a, b⟩ := hd i hi
      unfold dayOf
      rw [Int.toNat_natCast, a]
      show (match some (gE es i).D with | some (.tup (_ :: .int d :: _)) => d | _ => 0) = (gE es i).day
      generalize gE es i = e at b
      cases e <;> first | rfl | cases b
    unfold soLam
    rw [if_pos]
    · unfold ln
      rw [← List.map_mergeSort (r := leN es) (f := fun i : Nat => (i : Int))]
      · rw [List.map_map]; rfl
      · intro p hp q hq
        unfold leN leDay
        rw [hday p hp, hday q hq]
        simp
    · rw [List.all_eq_true]
      intro z hz
      obtain ⟨i, hi, rfl⟩ := List.mem_map.mp hz
      obtain ⟨a, b⟩ := hd i hi
      unfold dayAt
      rw [Int.toNat_natCast, a]
      generalize gE es i = e at b
      cases e <;> first | (simp [Ent.D]; done) | cases b
  have h4 := rangeD_map es.length
  have h5 := ints_mapf (fun i : Nat => (i : Int)) ((List.range es.length).filter (lvN es))
  simp only [accD] at h1 ⊢
  simp [m_line_of, mSoLam, h2, h4, h1, h5, h3]
end Law
end
section
namespace Law
open PySem Vm
@[simp] theorem kp_lnD (xs : List Nat) : kp (.lst (xs.map nD)) = .ok (.lst (xs.map nD)) := rfl
theorem bill_line_ok {es : List Ent} (hz : es.length ≤ 1000) : m_bill_line [accD es] = .ok (.lst (((ln es).filter (blN es)).map nD)) := by
  have h0 := line_of_ok hz
  have h1 := lf1m (i := 1) (t := ct_bill_line_1) (m := cm_bill_line_1) (env := [.t (accD es), .u]) nD (blN es) nD (ln es) (fun i hi => by
    have hi' : i < es.length := (ln_mem.mp hi).1
    simp [ix_acc es i hi', nD]) (fun i hi _ => ⟨by simp [nD], rfl⟩)
  simp [m_bill_line, h0, h1]
def cutE (day : Int) (e : Ent) : Ent := if e.live = true ∧ e.day ≤ day then e else .struck
def cut (es : List Ent) (day : Int) : List Ent := es.map (cutE day)
theorem cutE_ok {day : Int} {e : Ent} (h : e.ok = true) : (cutE day e).ok = true := by
  unfold cutE
  split
  · exact h
  · rfl
theorem cut_len (es : List Ent) (day : Int) : (cut es day).length = es.length := List.length_map _
theorem gE_cut (es : List Ent) (day : Int) (i : Nat) : gE (cut es day) i = cutE day (gE es i) := by
  unfold gE cut
  rw [List.getD_eq_getElem?_getD, List.getD_eq_getElem?_getD, List.getElem?_map]
  cases es[i]? with
  | some e => rfl
  | none => simp [cutE, Ent.live]
/-- pairs (bill, payment, sum) -/
abbrev Tr := Nat × Nat × Int
def tD (p : Tr) : D := .tup [nD p.1, nD p.2.1, .int p.2.2]
def sb (rs : List Int) (i : Nat) (x : Int) : List Int := rs.set i (rs.getD i 0 - x)
@[simp] theorem sb_len (rs : List Int) (i : Nat) (x : Int) : (sb rs i x).length = rs.length := List.length_set
theorem sb_at (rs : List Int) (i j : Nat) (x : Int) (h : i < rs.length) : (sb rs i x).getD j 0 = rs.getD j 0 - (if i = j then x else 0) := by
  unfold sb
  rw [List.getD_eq_getElem?_getD, List.getD_eq_getElem?_getD, List.getElem?_set, List.getD_eq_getElem?_getD]
  by_cases q : i = j
  · subst q
    simp [h]
  · simp [q]
def restsL (rs : List Int) (ps : List Tr) : List Int := ps.foldl (fun rs p => sb (sb rs p.1 p.2.2) p.2.1 p.2.2) rs
theorem restsL_len : ∀ (ps : List Tr) (rs : List Int), (restsL rs ps).length = rs.length
  | [], _ => rfl
  | p :: ps, rs => by
    show (restsL _ ps).length = _
    rw [restsL_len ps]
    simp
def trS (ps : List Tr) (i : Nat) : Int := (ps.map fun p => (if p.1 = i then p.2.2 else 0) + (if p.2.1 = i then p.2.2 else 0)).sum
theorem restsL_at : ∀ (ps : List Tr) (rs : List Int) (i : Nat), (∀ p ∈ ps, p.1 < rs.length ∧ p.2.1 < rs.length) → (restsL rs ps).getD i 0 = rs.getD i 0 - trS ps i
  | [], rs, i, _ => by simp [restsL, trS]
  | p :: ps, rs, i, h => by
    show (restsL (sb (sb rs p.1 p.2.2) p.2.1 p.2.2) ps).getD i 0 = _
    obtain ⟨h1, h2⟩ := h p (.head _)
    rw [restsL_at ps _ i (fun q hq => by simp; exact h q (.tail _ hq)), sb_at _ _ _ _ (by simp; exact h2), sb_at _ _ _ _ h1]
    simp only [trS, List.map_cons, List.sum_cons]
    omega
theorem at_rs (rs : List Int) (i : Nat) (h : i < rs.length) : L2.atI (rs.map D.int) (i : Int) = some (.int (rs.getD i 0)) := by
  rw [atI_nat _ i (by rw [List.length_map]; exact h), List.getElem_map, List.getD_eq_getElem?_getD, List.getElem?_eq_getElem h]
  rfl
theorem set_rs (rs : List Int) (i : Nat) (x : Int) : (rs.map D.int).set i (.int x) = (rs.set i x).map D.int := List.map_set.symm
theorem sm_acc (es : List Ent) (e : Ent) : (if e.live = false then (0 : Int) else e.sum) = e.sum := by cases e <;> rfl
theorem rests_of_ok {es : List Ent} {ps : List Tr} (hb : ∀ p ∈ ps, p.1 < es.length ∧ p.2.1 < es.length) : m_rests_of [accD es, .lst (ps.map tD)] = .ok (.lst ((restsL (es.map Ent.sum) ps).map D.int)) := by
  have h1 := lc1m (i := 6) (m := cm_rests_of_1) (env := [.t (accD es), .t (.lst (ps.map tD)), .u, .u, .u, .u, .u]) Ent.D (fun e => .int e.sum) es fun e he => by
    cases hl : e.live with
    | true => exact ⟨by simp [hl, ix_s hl], rfl⟩
    | false =>
      have : e.sum = 0 := by cases e <;> first | rfl | cases hl
      exact ⟨by simp [hl, this], rfl⟩
  have e1 : (es.map fun e => D.int e.sum) = (es.map Ent.sum).map D.int := by rw [List.map_map]; rfl
  rw [e1] at h1
  have key : ∀ (ps : List Tr) (rs : List Int) (x3 x4 x5 x6 : Sl), (∀ p ∈ ps, p.1 < rs.length ∧ p.2.1 < rs.length) → np x3 = true → np x4 = true → np x5 = true → ∀ a b, ∃ y3 y4 y5,
      forL (gmT 3 (gmCons (gmN 3) (gmCons (gmN 4) (gmCons (gmN 5) gmNil)))) lb_rests_of_1 (ps.map tD) [a, b, .l (.lst (rs.map D.int)), x3, x4, x5, x6] = .ok (.next, [a, b, .l (.lst ((restsL rs ps).map D.int)), y3, y4, y5, x6]) := by
    intro ps
    induction ps with
    | nil => intro rs x3 x4 x5 x6 _ _ _ _ a b; exact ⟨x3, x4, x5, rfl⟩
    | cons p ps ih =>
      intro rs x3 x4 x5 x6 hb n3 n4 n5 a b
      obtain ⟨p1, p2⟩ := hb p (.head _)
      obtain ⟨y3, y4, y5, q⟩ := ih (sb (sb rs p.1 p.2.2) p.2.1 p.2.2) (.t (nD p.1)) (.t (nD p.2.1)) (.t (.int p.2.2)) x6 (fun z hz => by simp; exact hb z (.tail _ hz)) rfl rfl rfl a b
      refine ⟨y3, y4, y5, ?_⟩
      have a1 := at_rs rs p.1 p1
      have a2 := ixN_nat rs.length p.1 p1
      have a3 := at_rs (sb rs p.1 p.2.2) p.2.1 (by simpa using p2)
      have a4 := ixN_nat rs.length p.2.1 p2
      have s1 : (rs.map D.int).set p.1 (.int (rs.getD p.1 0 - p.2.2)) = (sb rs p.1 p.2.2).map D.int := set_rs _ _ _
      have s2 : ((sb rs p.1 p.2.2).map D.int).set p.2.1 (.int ((sb rs p.1 p.2.2).getD p.2.1 0 - p.2.2)) = (sb (sb rs p.1 p.2.2) p.2.1 p.2.2).map D.int := set_rs _ _ _
      simp only [nD] at q
      rw [List.map_cons]
      unfold forL
      simp [tD, nD, n3, n4, n5, a1, a2, s1, a3, a4, s2, q, -List.map_set, -List.getD_eq_getElem?_getD]
      rfl
  obtain ⟨y3, y4, y5, q⟩ := key ps (es.map Ent.sum) .u .u .u .u (by simpa using hb) rfl rfl rfl (.t (accD es)) (.t (.lst (ps.map tD)))
  simp only [accD] at h1 q ⊢
  simp [m_rests_of, h1, q, mGive, -List.map_map]
end Law
end
section
namespace Law
open PySem Vm
def Jar (n : Int) (s : D) : Prop := ∃ a b c : Int, s = .lst [.int a, .int b, .int c] ∧ 0 ≤ b ∧ b < 10 ^ 18 ∧ 0 ≤ c ∧ c ≤ n
theorem small {x : Int} {n : Nat} (h : x.natAbs ≤ n) (h2 : n < 2 ^ 250 := by decide) : x.natAbs < 2 ^ 250 := Nat.lt_of_le_of_lt h h2
theorem pick_ok {n : Int} {s : D} {u : Int} (hn : n < 1000000) (h : Jar n s) (hu : 0 < u) (h2 : u.natAbs < 2 ^ 250) : ∃ (d : Int) (s' : D), m__law_pick s [.int u] = .ok (.int d, s') ∧ 0 ≤ d ∧ d < u ∧ Jar (n + 1) s' := by
  obtain ⟨a, b, c, rfl, h3, h4, h5, h6⟩ := h
  by_cases ha : 0 < a
  · refine ⟨a % u, .lst [.int (a / u), .int b, .int c], ?_, Int.emod_nonneg _ (by omega), Int.emod_lt_of_pos _ hu, a / u, b, c, rfl, h3, h4, h5, by omega⟩
    simp [m__law_pick, div_ok, hu, h2, L2.ixN, ha]
  · have b0 : (c + 1).natAbs ≤ 1000000 := by omega
    have b1 : ((9176 : Int) * (c + 1)).natAbs ≤ 9176 * 1000000 := bd_mul (by decide) b0
    have b2 : (9176 * (c + 1) * (c + 1)).natAbs ≤ 9176 * 1000000 * 1000000 := bd_mul b1 b0
    have b3 : ((40503 : Int) * (c + 1)).natAbs ≤ 40503 * 1000000 := bd_mul (by decide) b0
    generalize e1 : b + 9176 * (c + 1) * (c + 1) + 31 = x1
    have c1 : x1.natAbs ≤ 10 ^ 20 := by omega
    generalize e2 : b + 40503 * (c + 1) = x2
    have c2 : x2.natAbs ≤ 10 ^ 20 := by omega
    have c3 : (x1 * x2).natAbs ≤ 10 ^ 20 * 10 ^ 20 := bd_mul c1 c2
    generalize e3 : x1 * x2 + (c + 1) = x3
    have c4 : x3.natAbs ≤ 10 ^ 41 := by omega
    have d1 := mul_ok (i := 9176) (by decide) (small b0)
    have d2 := mul_ok (small b1) (small b0)
    have d3 := mul_ok (i := 40503) (by decide) (small b0)
    have d4 := mul_ok (small c1) (small c2)
    have d5 := mul_ok (small c4) (small c4)
    have d6 := mul_ok (i := 77731) (by decide) (small c4)
    generalize e4 : (x3 * x3 + 77731 * x3) % 1000000000000000003 / 4099 = x4
    have c5 : x4.natAbs ≤ 10 ^ 18 := by omega
    have d7 := mul_ok (i := 2) (by decide) (small b0)
    have c6 : (x4 + 2 * (c + 1) + 1).natAbs ≤ 10 ^ 19 := by omega
    have d8 := mul_ok (small c5) (small c6)
    refine ⟨_, .lst [.int a, .int b, .int (c + 1)], ?_, Int.emod_nonneg _ (by omega), Int.emod_lt_of_pos (x4 * (x4 + 2 * (c + 1) + 1) % 4294967291 / 32) hu, a, b, c + 1, rfl, h3, h4, by omega, by omega⟩
    simp [m__law_pick, div_ok, hu, h2, L2.ixN, ha, d1, d2, d3, d4, d5, d6, d7, d8, e1, e2, e3, e4]
def Wok (u : Int) : Prop := 0 < u ∧ u.natAbs < 2 ^ 240
theorem wide_ok {n : Int} {s : D} {u : Int} (hn : n < 900000) (h : Jar n s) (hu : 0 < u) (h2 : u.natAbs < 2 ^ 250) : ∃ (d : Int) (s' : D), m__law_wide s [.int u] = .ok (.int d, s') ∧ 0 ≤ d ∧ d < u ∧ Jar (n + 5) s' := by
  by_cases hb : u ≤ 10000000
  · obtain ⟨d, s', p, q1, q2, q3⟩ := pick_ok (by omega) h hu h2
    obtain ⟨a, b, c, rfl, h3, h4, h5, h6⟩ := q3
    exact ⟨d, _, by simp [m__law_wide, hb, p], q1, q2, a, b, c, rfl, h3, h4, h5, by omega⟩
  · obtain ⟨d1, s1, p1, q1, r1, j1⟩ := pick_ok (u := 10000000) (by omega) h (by decide) (by decide)
    obtain ⟨d2, s2, p2, q2, r2, j2⟩ := pick_ok (u := 10000000) (by omega) j1 (by decide) (by decide)
    obtain ⟨d3, s3, p3, q3, r3, j3⟩ := pick_ok (u := 10000000) (by omega) j2 (by decide) (by decide)
    obtain ⟨d4, s4, p4, q4, r4, j4⟩ := pick_ok (u := 10000000) (by omega) j3 (by decide) (by decide)
    obtain ⟨d5, s5, p5, q5, r5, j5⟩ := pick_ok (u := 10000000) (by omega) j4 (by decide) (by decide)
    have m0 := mul_ok (i := 0) (j := 10000000) (by decide) (by decide)
    have m1 := mul_ok (i := d1) (j := 10000000) (small (n := 10 ^ 40) (by omega)) (by decide)
    have m2 := mul_ok (i := d1 * 10000000 + d2) (j := 10000000) (small (n := 10 ^ 40) (by omega)) (by decide)
    have m3 := mul_ok (i := (d1 * 10000000 + d2) * 10000000 + d3) (j := 10000000) (small (n := 10 ^ 40) (by omega)) (by decide)
    have m4 := mul_ok (i := ((d1 * 10000000 + d2) * 10000000 + d3) * 10000000 + d4) (j := 10000000) (small (n := 10 ^ 40) (by omega)) (by decide)
    refine ⟨_, s5, ?_, Int.emod_nonneg ((((d1 * 10000000 + d2) * 10000000 + d3) * 10000000 + d4) * 10000000 + d5) (by omega), Int.emod_lt_of_pos _ hu, by rw [show n + 5 = n + 1 + 1 + 1 + 1 + 1 by omega]; exact j5⟩
    have hr := rg1_ok (j := 5) (by decide) (by decide)
    have er : rangeD 0 5 = [.int 0, .int 1, .int 2, .int 3, .int 4] := rfl
    simp [m__law_wide, hb, p1, p2, p3, p4, p5, m0, m1, m2, m3, m4, er, hr, hu, forL]
end Law
end
section
namespace Law
open PySem PySem.Spec PyProof.Rows L2 Vm
/-! tables of sums by pairs, and layings -/
def row3 (p : Tr) : List Int := [(p.1 : Int), (p.2.1 : Int), p.2.2]
theorem tD_row (p : Tr) : tD p = rowD (row3 p) := rfl
def leT (p q : Tr) : Bool := leR (row3 p) (row3 q)
def sortT (ps : List Tr) : List Tr := ps.mergeSort leT
theorem sortT_perm (ps : List Tr) : (sortT ps).Perm ps := List.mergeSort_perm _ _
theorem sortA_tr (ps : List Tr) : sortA (.lst (ps.map tD)) = .ok (.lst ((sortT ps).map tD)) := by
  have e : ps.map tD = (ps.map row3).map rowD := by rw [List.map_map]; rfl
  rw [e, sortA_rows fun b hb => by
    obtain ⟨p, _, rfl⟩ := List.mem_map.mp hb
    exact fun z => nomatch z]
  unfold sortR sortT
  rw [← List.map_mergeSort (r := leT) (s := leR) (f := row3) fun p _ q _ => rfl, List.map_map]
  rfl
abbrev Kp := Nat × Nat
abbrev Sm := List (Kp × Int)
def kyK (k : Kp) : List Key := [.inl (k.1 : Int), .inl (k.2 : Int)]
theorem kyK_inj {k j : Kp} (h : kyK k = kyK j) : k = j := by
  unfold kyK at h
  injection h with h1 h2
  injection h2 with h2 _
  have a : (k.1 : Int) = j.1 := Sum.inl.inj h1
  have b : (k.2 : Int) = j.2 := Sum.inl.inj h2
  exact Prod.ext (by omega) (by omega)
def smD (s : Sm) : List (List Key × D) := s.map fun x => (kyK x.1, .int x.2)
def vl : Sm → Kp → Option Int
  | [], _ => none
  | x :: s, k => if x.1 = k then some x.2 else vl s k
def pt : Sm → Kp → Int → Sm
  | [], k, v => [(k, v)]
  | x :: s, k, v => if x.1 = k then (k, v) :: s else x :: pt s k v
def ks (s : Sm) : List Kp := s.map (·.1)
theorem valD_sm : ∀ (s : Sm) (k : Kp), valD (smD s) (kyK k) = (vl s k).map D.int
  | [], k => rfl
  | x :: s, k => by
    have ih := valD_sm s k
    unfold valD smD at *
    rw [List.map_cons]
    simp only [vl]
    by_cases h : x.1 = k
    · rw [if_pos h, List.find?_cons_of_pos (by simp [h])]
      rfl
    · rw [if_neg h, List.find?_cons_of_neg (by simp only [decide_eq_true_eq]; exact fun z => h (kyK_inj z)), ih]
theorem pt_new : ∀ (s : Sm) (k : Kp) (v : Int), k ∉ ks s → pt s k v = s ++ [(k, v)]
  | [], k, v, _ => rfl
  | x :: s, k, v, h => by
    have h1 : x.1 ≠ k := fun z => h (by unfold ks; rw [List.map_cons, z]; exact .head _)
    have h2 : k ∉ ks s := fun z => h (by unfold ks; rw [List.map_cons]; exact .tail _ z)
    unfold pt
    rw [if_neg h1, pt_new s k v h2]
    rfl
theorem map_id_out : ∀ (s : Sm) (k : Kp) (v : D), k ∉ ks s → (smD s).map (fun kv => if kv.1 = kyK k then (kv.1, v) else kv) = smD s
  | [], k, v, _ => rfl
  | x :: s, k, v, h => by
    have h1 : x.1 ≠ k := fun z => h (by unfold ks; rw [List.map_cons, z]; exact .head _)
    have h2 : k ∉ ks s := fun z => h (by unfold ks; rw [List.map_cons]; exact .tail _ z)
    have ih := map_id_out s k v h2
    unfold smD at *
    rw [List.map_cons, List.map_cons, ih, if_neg fun z => h1 (kyK_inj z)]
theorem pt_map : ∀ (s : Sm) (k : Kp) (v : Int), (ks s).Nodup → k ∈ ks s → (smD s).map (fun kv => if kv.1 = kyK k then (kv.1, .int v) else kv) = smD (pt s k v)
  | [], k, v, _, h => by cases h
  | x :: s, k, v, nd, h => by
    have nd' := List.nodup_cons.mp (show (x.1 :: ks s).Nodup from nd)
    unfold pt
    by_cases q : x.1 = k
    · subst q
      rw [if_pos rfl]
      have := map_id_out s x.1 (.int v) nd'.1
      unfold smD at *
      rw [List.map_cons, List.map_cons, List.map_cons, this, if_pos rfl]
    · rw [if_neg q]
      have hk : k ∈ ks s := by
        rcases List.mem_cons.mp (show k ∈ x.1 :: ks s from h) with z | z
        · exact absurd z.symm q
        · exact z
      have := pt_map s k v nd'.2 hk
      unfold smD at *
      rw [List.map_cons, List.map_cons, List.map_cons, this, if_neg fun z => q (kyK_inj z)]
theorem putD_sm {s : Sm} (nd : (ks s).Nodup) (k : Kp) (v : Int) : putD (smD s) (kyK k) (.int v) = smD (pt s k v) := by
  unfold putD
  by_cases h : k ∈ ks s
  · rw [if_pos]
    · exact pt_map s k v nd h
    · obtain ⟨x, hx, e⟩ := List.mem_map.mp h
      rw [List.any_eq_true]
      exact ⟨(kyK x.1, .int x.2), List.mem_map.mpr ⟨x, hx, rfl⟩, by simp [show x.1 = k from e]⟩
  · rw [if_neg, pt_new s k v h]
    · unfold smD
      rw [List.map_append]
      rfl
    · rw [List.any_eq_true]
      rintro ⟨y, hy, e⟩
      obtain ⟨x, hx, rfl⟩ := List.mem_map.mp hy
      exact h (List.mem_map.mpr ⟨x, hx, kyK_inj (of_decide_eq_true e)⟩)
theorem mem_pt : ∀ {s : Sm} {k : Kp} {v : Int} {x : Kp × Int}, x ∈ pt s k v → x = (k, v) ∨ x ∈ s
  | [], k, v, x, h => .inl (List.mem_singleton.mp h)
  | y :: s, k, v, x, h => by
    unfold pt at h
    split at h
    · rcases List.mem_cons.mp h with h | h
      · exact .inl h
      · exact .inr (.tail _ h)
    · rcases List.mem_cons.mp h with h | h
      · exact .inr (h ▸ .head _)
      · exact (mem_pt h).imp id fun z => .tail _ z
theorem mem_ks_pt {s : Sm} {k j : Kp} {v : Int} (h : j ∈ ks (pt s k v)) : j = k ∨ j ∈ ks s := by
  obtain ⟨x, hx, rfl⟩ := List.mem_map.mp h
  rcases mem_pt hx with e | e
  · exact .inl (by rw [e])
  · exact .inr (List.mem_map.mpr ⟨x, e, rfl⟩)
theorem nd_pt : ∀ {s : Sm} {k : Kp} {v : Int}, (ks s).Nodup → (ks (pt s k v)).Nodup
  | [], k, v, _ => by simp [pt, ks]
  | x :: s, k, v, nd => by
    have nd' := List.nodup_cons.mp (show (x.1 :: ks s).Nodup from nd)
    unfold pt
    by_cases q : x.1 = k
    · rw [if_pos q]
      exact List.nodup_cons.mpr ⟨by rw [← q]; exact nd'.1, nd'.2⟩
    · rw [if_neg q]
      refine List.nodup_cons.mpr ⟨fun z => ?_, nd_pt nd'.2⟩
      rcases mem_ks_pt z with z | z
      · exact q z
      · exact nd'.1 z
theorem len_pt : ∀ (s : Sm) (k : Kp) (v : Int), (pt s k v).length ≤ s.length + 1
  | [], k, v => by simp [pt]
  | x :: s, k, v => by
    have := len_pt s k v
    unfold pt
    split
    · simp
    · simp only [List.length_cons]; omega
def tot (s : Sm) (f : Kp → Bool) : Int := (s.map fun x => if f x.1 = true then x.2 else 0).sum
theorem tot_pt (f : Kp → Bool) : ∀ (s : Sm) (k : Kp) (v : Int), tot (pt s k v) f = tot s f + if f k = true then v - (vl s k).getD 0 else 0
  | [], k, v => by
    simp only [pt, tot, vl, List.map_cons, List.map_nil, List.sum_cons, List.sum_nil, Option.getD_none]
    split <;> omega
  | x :: s, k, v => by
    have ih := tot_pt f s k v
    unfold pt vl
    by_cases q : x.1 = k
    · subst q
      simp only [if_pos, tot, List.map_cons, List.sum_cons, Option.getD_some]
      split <;> omega
    · rw [if_neg q, if_neg q]
      simp only [tot, List.map_cons, List.sum_cons] at ih ⊢
      omega
theorem vl_same : ∀ (s : Sm) (k : Kp) (v : Int), vl (pt s k v) k = some v
  | [], k, v => by simp [pt, vl]
  | x :: s, k, v => by
    unfold pt
    split
    · simp [vl]
    · rename_i h
      unfold vl
      rw [if_neg h]
      exact vl_same s k v
theorem vl_else : ∀ (s : Sm) (k j : Kp) (v : Int), j ≠ k → vl (pt s k v) j = vl s j
  | [], k, j, v, h => by simp [pt, vl, Ne.symm h]
  | x :: s, k, j, v, h => by
    unfold pt
    split
    · rename_i q
      unfold vl
      rw [if_neg (Ne.symm h), if_neg (fun z => h (by rw [← z, q]))]
    · unfold vl
      rw [vl_else s k j v h]
theorem vl_mem : ∀ {s : Sm} {x : Kp × Int}, (ks s).Nodup → x ∈ s → vl s x.1 = some x.2
  | y :: s, x, nd, h => by
    have nd' := List.nodup_cons.mp (show (y.1 :: ks s).Nodup from nd)
    unfold vl
    rcases List.mem_cons.mp h with h | h
    · subst h; simp
    · rw [if_neg fun z => nd'.1 (by rw [z]; exact List.mem_map.mpr ⟨x, h, rfl⟩)]
      exact vl_mem nd'.2 h
theorem vl_in : ∀ {s : Sm} {k : Kp} {v : Int}, vl s k = some v → (k, v) ∈ s
  | y :: s, k, v, h => by
    unfold vl at h
    split at h
    · rename_i q
      cases h
      rw [← q]
      exact .head _
    · exact .tail _ (vl_in h)
theorem tot_nn {s : Sm} (h : ∀ x ∈ s, 0 ≤ x.2) (f : Kp → Bool) : 0 ≤ tot s f := by
  induction s with
  | nil => exact Int.le_refl _
  | cons x s ih =>
    have := ih fun y hy => h y (.tail _ hy)
    have h1 := h x (.head _)
    simp only [tot, List.map_cons, List.sum_cons] at this ⊢
    split <;> omega
/-! layings -/
abbrev keyT (p : Tr) : Kp := (p.1, p.2.1)
def ltK (a b : Kp) : Prop := a.1 < b.1 ∨ (a.1 = b.1 ∧ a.2 < b.2)
structure PrOk (es : List Ent) (k : Kp) : Prop where
  b1 : k.1 < es.length
  b2 : (gE es k.1).isBill = true
  p1 : k.2 < es.length
  p2 : (gE es k.2).isPay = true
theorem PrOk.ne {es : List Ent} {k : Kp} (h : PrOk es k) : k.1 ≠ k.2 := fun e => by
  have h1 := h.b2
  have h2 := h.p2
  rw [e] at h1
  cases hg : gE es k.2 <;> rw [hg] at h1 h2 <;> simp [Ent.isBill, Ent.isPay] at h1 h2
structure Fit (es : List Ent) (ps : List Tr) : Prop where
  pr : ∀ p ∈ ps, PrOk es (keyT p) ∧ 1 ≤ p.2.2
  inc : ps.Pairwise fun p q => ltK (keyT p) (keyT q)
  bd : ∀ i, i < es.length → trS ps i ≤ smN es i
theorem trS_cons (p : Tr) (ps : List Tr) (i : Nat) : trS (p :: ps) i = ((if p.1 = i then p.2.2 else 0) + (if p.2.1 = i then p.2.2 else 0)) + trS ps i := rfl
theorem trS_nil (i : Nat) : trS [] i = 0 := rfl
theorem trS_append (ps qs : List Tr) (i : Nat) : trS (ps ++ qs) i = trS ps i + trS qs i := by
  unfold trS
  rw [List.map_append, List.sum_append]
theorem sum_perm {xs ys : List Int} (h : xs.Perm ys) : xs.sum = ys.sum := by
  induction h with
  | nil => rfl
  | cons x _ ih => simp only [List.sum_cons, ih]
  | swap x y l => simp only [List.sum_cons]; omega
  | trans _ _ h1 h2 => rw [h1, h2]
theorem trS_perm {ps qs : List Tr} (h : ps.Perm qs) (i : Nat) : trS ps i = trS qs i := by
  unfold trS
  exact sum_perm (h.map _)
theorem trS_nn {ps : List Tr} (h : ∀ p ∈ ps, 0 ≤ p.2.2) (i : Nat) : 0 ≤ trS ps i := by
  induction ps with
  | nil => exact Int.le_refl _
  | cons p ps ih =>
    have := ih fun q hq => h q (.tail _ hq)
    have h1 := h p (.head _)
    rw [trS_cons]
    split <;> split <;> omega
theorem leT_key {p q : Tr} (h : leT p q = true) (n : keyT p ≠ keyT q) : ltK (keyT p) (keyT q) := by
  unfold leT leR row3 at h
  rw [decide_eq_true_eq] at h
  rw [List.cons_le_cons_iff, List.cons_le_cons_iff] at h
  unfold ltK
  rcases h with h | ⟨h, h | ⟨h2, _⟩⟩
  · exact .inl (by show p.1 < q.1; omega)
  · exact .inr ⟨by show p.1 = q.1; omega, by show p.2.1 < q.2.1; omega⟩
  · exact absurd (Prod.ext (by show p.1 = q.1; omega) (by show p.2.1 = q.2.1; omega)) n
theorem sortT_inc {ps : List Tr} (nd : (ps.map keyT).Nodup) : (sortT ps).Pairwise fun p q => ltK (keyT p) (keyT q) := by
  have h1 : (sortT ps).Pairwise fun p q => leT p q = true := List.pairwise_mergeSort (le := leT) (fun a b c h1 h2 => leR_trans (row3 a) (row3 b) (row3 c) h1 h2) (fun a b => leR_total (row3 a) (row3 b)) ps
  have h2 : ((sortT ps).map keyT).Nodup := ((sortT_perm ps).map _).nodup_iff.mpr nd
  exact (h1.and (List.pairwise_map.mp h2)).imp fun h => leT_key h.1 h.2
theorem inc_nd {ps : List Tr} (h : ps.Pairwise fun p q => ltK (keyT p) (keyT q)) : (ps.map keyT).Nodup := List.pairwise_map.mpr (h.imp fun {p q} h e => by
  unfold ltK at h
  rw [e] at h
  omega)
/-- the pairs of a table -/
def prs (s : Sm) : List Tr := sortT ((s.filter fun x => decide (0 < x.2)).map fun x => (x.1.1, x.1.2, x.2))
theorem prs_nd {s : Sm} (nd : (ks s).Nodup) : (((s.filter fun x => decide (0 < x.2)).map fun x => ((x.1.1, x.1.2, x.2) : Tr)).map keyT).Nodup := by
  rw [List.map_map]
  exact List.Sublist.nodup ((List.filter_sublist).map _) nd
theorem trS_prs {s : Sm} (nn : ∀ x ∈ s, 0 ≤ x.2) (i : Nat) : trS (prs s) i = tot s (fun k => k.1 == i) + tot s (fun k => k.2 == i) := by
  unfold prs
  rw [trS_perm (sortT_perm _)]
  induction s with
  | nil => rfl
  | cons x s ih =>
    have := ih fun y hy => nn y (.tail _ hy)
    have h0 := nn x (.head _)
    by_cases h : 0 < x.2
    · rw [List.filter_cons_of_pos (by simpa using h), List.map_cons, trS_cons, this]
      simp only [tot, List.map_cons, List.sum_cons, beq_iff_eq]
      omega
    · have e : x.2 = 0 := by omega
      rw [List.filter_cons_of_neg (by simpa using h), this]
      simp only [tot, List.map_cons, List.sum_cons, e]
      simp
structure Sd (es : List Ent) (s : Sm) : Prop where
  nd : (ks s).Nodup
  pr : ∀ x ∈ s, PrOk es x.1 ∧ 0 ≤ x.2
  bd : ∀ i, i < es.length → tot s (fun k => k.1 == i) + tot s (fun k => k.2 == i) ≤ smN es i
theorem Sd.fit {es : List Ent} {s : Sm} (S : Sd es s) : Fit es (prs s) := by
  refine ⟨fun p hp => ?_, sortT_inc (prs_nd S.nd), fun i hi => ?_⟩
  · obtain ⟨x, hx, rfl⟩ := List.mem_map.mp ((sortT_perm _).mem_iff.mp hp)
    obtain ⟨h1, h2⟩ := List.mem_filter.mp hx
    have := of_decide_eq_true h2
    exact ⟨(S.pr x h1).1, by show 1 ≤ x.2; omega⟩
  · rw [trS_prs fun x hx => (S.pr x hx).2]
    exact S.bd i hi
theorem prs_len (s : Sm) : (prs s).length ≤ s.length := by
  unfold prs
  rw [(sortT_perm _).length_eq, List.length_map]
  exact List.length_filter_le _ _
end Law
end
section
namespace Law
open PySem Vm
theorem draws_ok (c : Int) : ∃ s, m__law_draws [.int c] = .ok s ∧ Jar 0 s := by
  refine ⟨.lst [.int (if 0 < c - 1000000000000000000 then c - 1000000000000000000 else 0), .int (c % 999999999999999989), .int 0], ?_, _, _, 0, rfl, Int.emod_nonneg _ (by decide), Int.lt_trans (Int.emod_lt_of_pos _ (by decide)) (by decide), by decide, by decide⟩
  simp [m__law_draws]
theorem Jar.mono {n m : Int} {s : D} (h : Jar n s) (l : n ≤ m) : Jar m s := by
  obtain ⟨a, b, c, e, h1, h2, h3, h4⟩ := h
  exact ⟨a, b, c, e, h1, h2, h3, by omega⟩
theorem sq_ok {m1 m2 : Sv} {env e2 : Sls} {r : Res (Out × Sls)} (h : m1 env = .ok (.next, e2)) (h2 : m2 e2 = r) : mSq m1 m2 env = r := by
  rw [z_mSq, h, ← h2]
  rfl
theorem nats_lay (xs : List Nat) : Lay 1 (.lst (xs.map nD)) := lay_lst fun x hx => by
  obtain ⟨i, _, rfl⟩ := List.mem_map.mp hx
  exact lay_int _ _
theorem nats_ne (xs : List Nat) : neD (.lst (xs.map nD)) (.lst []) = .ok (.bl (!xs.isEmpty)) := by
  rw [ne_lst0 (nats_lay xs)]
  cases xs <;> rfl
theorem nats_eq (xs : List Nat) : eqD (.lst (xs.map nD)) (.lst []) = .ok (.bl xs.isEmpty) := by
  rw [eq_lst0 (nats_lay xs)]
  cases xs <;> rfl
theorem gE_eq {es : List Ent} {i : Nat} (h : i < es.length) : es[i] = gE es i := Option.some.inj ((List.getElem?_eq_getElem h).symm.trans (gE_at h))
theorem at_gE {es : List Ent} {i : Nat} (h : i < es.length) : L2.atI (es.map Ent.D) (i : Int) = some (gE es i).D := by
  rw [at_ent es i h, gE_eq h]
theorem nameOk_snoc {es : List Ent} {e x : Ent} (h : nameOk es x = true) : nameOk (es ++ [e]) x = true := by
  cases x with
  | named d s k =>
    simp only [nameOk, Bool.and_eq_true, decide_eq_true_eq] at h ⊢
    obtain ⟨⟨h0, h1⟩, h2⟩ := h
    have hk : k.toNat < es.length := by omega
    refine ⟨⟨h0, by rw [List.length_append]; simp; omega⟩, ?_⟩
    rw [List.getElem?_append_left hk]
    exact h2
  | _ => rfl
theorem acc_snoc {es : List Ent} (A : Acc es) (hz : es.length < 1000) {e : Ent} (h1 : e.ok = true) (h2 : nameOk (es ++ [e]) e = true) : Acc (es ++ [e]) := by
  refine ⟨by rw [List.length_append]; exact hz, fun x hx => ?_, fun x hx => ?_⟩
  · rcases List.mem_append.mp hx with hx | hx
    · exact A.ok x hx
    · rw [List.mem_singleton.mp hx]; exact h1
  · rcases List.mem_append.mp hx with hx | hx
    · exact nameOk_snoc (A.names x hx)
    · rw [List.mem_singleton.mp hx]; exact h2
def bF (es : List Ent) (w : Int) (i : Nat) : Bool := (gE es i).isBill && decide (dyN es i ≤ w)
theorem range_get {n i : Nat} (h : i < n) : (rangeD 0 n)[i]? = some (.int i) := by
  unfold rangeD
  rw [List.getElem?_map, List.getElem?_range h]
  simp
def Jo (nm : Bool) (e : Ent) : Prop := (nm = false → e.plain = true) ∧ e.sum ≤ 10 ^ 30
theorem jar_step {n : Int} {s : D} {es : List Ent} {x0 : Int} {nm : Bool} {span top : Int} {i : Nat} (hi : i ≤ 60) (hn : n < 500000) (J : Jar n s) (A : Acc es) (hz : es.length ≤ 60) (s0 : 0 < span) (s1 : span ≤ 2000001) (t0 : 0 < top) (t1 : top ≤ 10 ^ 30)
    {x7 x8 x9 x10 : Sl} (n7 : np x7 = true) (n8 : np x8 = true) (n9 : np x9 = true) (n10 : np x10 = true) :
    ∃ (s' : D) (e : Ent) (y7 y8 y9 y10 : Sl), lb__law_jar_of_1 [.p s, .t (.int x0), .t (.bl nm), .t (.int span), .t (.int top), .l (.lst (es.map Ent.D)), .t (.int (i : Int)), x7, x8, x9, x10, .u] =
      .ok (.next, [.p s', .t (.int x0), .t (.bl nm), .t (.int span), .t (.int top), .l (.lst ((es ++ [e]).map Ent.D)), .t (.int (i : Int)), y7, y8, y9, y10, .u]) ∧ np y7 = true ∧ np y8 = true ∧ np y9 = true ∧ np y10 = true ∧ Jar (n + 8) s' ∧ Acc (es ++ [e]) ∧ Jo nm e := by
  have sz : 100000 ≤ sizeLine := by decide
  -- the way
  have hw : ∃ (w : Int) (s1 : D), (mSet 7 (mIf (mTru (mBin ltD (mVar 6) (mK (.int 4)))) (mBin ixA (mLst (mCons (mK (.int 0)) (mCons (mK (.int 7)) mNil))) (mBin modD (mCallB (one intD) (mCons (mVar 6) mNil)) (mK (.int 2)))) (mCallJ 2 m__law_pick (mCons (mVar 0) (mCons (mK (.int 11)) mNil)))))
      [.p s, .t (.int x0), .t (.bl nm), .t (.int span), .t (.int top), .l (.lst (es.map Ent.D)), .t (.int (i : Int)), x7, x8, x9, x10, .u] = .ok (.next, [.p s1, .t (.int x0), .t (.bl nm), .t (.int span), .t (.int top), .l (.lst (es.map Ent.D)), .t (.int (i : Int)), .t (.int w), x8, x9, x10, .u]) ∧ Jar (n + 1) s1 := by
    by_cases h : (i : Int) < 4
    · rcases (by omega : (i : Int) % 2 = 0 ∨ (i : Int) % 2 = 1) with q | q
      · exact ⟨0, s, by simp [h, q, n7, L2.atI, L2.ixN], J.mono (by omega)⟩
      · exact ⟨7, s, by simp [h, q, n7, L2.atI, L2.ixN], J.mono (by omega)⟩
    · obtain ⟨w, s1, p, _, _, j1⟩ := pick_ok (u := 11) (by omega) J (by decide) (by decide)
      exact ⟨w, s1, by simp [h, p, n7], j1⟩
  obtain ⟨w, s2, e1, j1⟩ := hw
  obtain ⟨a, s3, p2, a0, a1, j2⟩ := pick_ok (u := span) (by omega) j1 s0 (by omega)
  obtain ⟨b, s4, p3, b0, b1, j3⟩ := wide_ok (u := top) (by omega) j2 t0 (by omega)
  generalize hW : a - span / 2 = W at *
  have e2 : (mSet 8 (mBin subD (mCallJ 2 m__law_pick (mCons (mVar 0) (mCons (mVar 3) mNil))) (mBin divD (mVar 3) (mK (.int 2)))))
      [.p s2, .t (.int x0), .t (.bl nm), .t (.int span), .t (.int top), .l (.lst (es.map Ent.D)), .t (.int (i : Int)), .t (.int w), x8, x9, x10, .u] = .ok (.next, [.p s3, .t (.int x0), .t (.bl nm), .t (.int span), .t (.int top), .l (.lst (es.map Ent.D)), .t (.int (i : Int)), .t (.int w), .t (.int W), x9, x10, .u]) := by
    have d1 := div_ok (i := span) (j := 2) (by omega) (by decide)
    simp [p2, n8, d1, hW]
  have e3 : (mSet 9 (mBin addD (mK (.int 1)) (mCallJ 2 m__law_wide (mCons (mVar 0) (mCons (mVar 4) mNil)))))
      [.p s3, .t (.int x0), .t (.bl nm), .t (.int span), .t (.int top), .l (.lst (es.map Ent.D)), .t (.int (i : Int)), .t (.int w), .t (.int W), x9, x10, .u] = .ok (.next, [.p s4, .t (.int x0), .t (.bl nm), .t (.int span), .t (.int top), .l (.lst (es.map Ent.D)), .t (.int (i : Int)), .t (.int w), .t (.int W), .t (.int (1 + b)), x10, .u]) := by
    simp [p3, n9]
  have c1 := lf1m (i := 11) (t := ct__law_jar_of_1) (m := cm__law_jar_of_1) (env := [.p s4, .t (.int x0), .t (.bl nm), .t (.int span), .t (.int top), .l (.lst (es.map Ent.D)), .t (.int (i : Int)), .t (.int w), .t (.int W), .t (.int (1 + b)), x10, .u]) (fun k : Nat => D.int (k : Int)) (bF es W) nD (List.range es.length) (fun k hk => by
    have e := at_gE (List.mem_range.mp hk)
    unfold bF
    have dd : dyN es k = (gE es k).day := rfl
    rw [dd]
    cases hg : gE es k <;> rw [hg] at e <;> simp [e, Ent.isBill, Ent.day, Ent.D] <;> exact decide_eq_decide.mpr Iff.rfl) (fun k hk _ => ⟨by simp [nD], rfl⟩)
  generalize hB : (List.range es.length).filter (bF es W) = B at *
  have memB : ∀ k ∈ B, k < es.length ∧ (gE es k).isBill = true ∧ dyN es k ≤ W := fun k hk => by
    rw [← hB] at hk
    obtain ⟨h1, h2⟩ := List.mem_filter.mp hk
    unfold bF at h2
    rw [Bool.and_eq_true, decide_eq_true_eq] at h2
    exact ⟨List.mem_range.mp h1, h2⟩
  have lenB : B.length ≤ 60 := by
    rw [← hB]
    exact Nat.le_trans (List.length_filter_le _ _) (by rw [List.length_range]; exact hz)
  have rr : rangeD 0 es.length = (List.range es.length).map fun k : Nat => D.int (k : Int) := rangeD_map _
  have r1 := rg1_ok (j := (es.length : Int)) (by omega) (by omega)
  have e4 : (mSet 10 (mLc (mRng1 (mCons (mCallB (one lenD) (mCons (mVar 5) mNil)) mNil)) [11] (gmN 11) ct__law_jar_of_1 cm__law_jar_of_1))
      [.p s4, .t (.int x0), .t (.bl nm), .t (.int span), .t (.int top), .l (.lst (es.map Ent.D)), .t (.int (i : Int)), .t (.int w), .t (.int W), .t (.int (1 + b)), x10, .u] = .ok (.next, [.p s4, .t (.int x0), .t (.bl nm), .t (.int span), .t (.int top), .l (.lst (es.map Ent.D)), .t (.int (i : Int)), .t (.int w), .t (.int W), .t (.int (1 + b)), .t (.lst (B.map nD)), .u]) := by
    generalize hE : es.map Ent.D = E at *
    have hl : E.length = es.length := by rw [← hE, List.length_map]
    simp [hl, r1, rr, c1, n10]
  have lz : es.length < sizeLine := by omega
  have kB : ∀ k : Nat, B[k]? ≠ none → True := fun _ _ => True.intro
  have nB := nats_ne B
  have fin : ∀ (s' : D) (e : Ent) (y10 : Sl), np y10 = true → Jar (n + 8) s' → Acc (es ++ [e]) → Jo nm e →
      (mIfS (mTru (mBin eqD (mVar 7) (mK (.int 10)))) (mExp (mApp 5 (mTup (mCons (mK (.str "struck")) mNil)))) (mIfS (mTru (mBin ltD (mVar 7) (mK (.int 5)))) (mExp (mApp 5 (mTup (mCons (mK (.str "bill")) (mCons (mVar 8) (mCons (mVar 9) mNil)))))) (mIfS (mAndT (mTru (mBin ltD (mVar 7) (mK (.int 8)))) (mAndT (mTru (mVar 2)) (mTru (mBin neD (mVar 10) (mLst mNil))))) (mExp (mApp 5 (mTup (mCons (mK (.str "named")) (mCons (mVar 8) (mCons (mVar 9) (mCons (mBin ixA (mVar 10) (mCallJ 2 m__law_pick (mCons (mVar 0) (mCons (mCallB (one lenD) (mCons (mVar 10) mNil)) mNil)))) mNil))))))) (mExp (mApp 5 (mTup (mCons (mK (.str "pay")) (mCons (mVar 8) (mCons (mVar 9) mNil)))))))))
        [.p s4, .t (.int x0), .t (.bl nm), .t (.int span), .t (.int top), .l (.lst (es.map Ent.D)), .t (.int (i : Int)), .t (.int w), .t (.int W), .t (.int (1 + b)), .t (.lst (B.map nD)), .u] =
        .ok (.next, [.p s', .t (.int x0), .t (.bl nm), .t (.int span), .t (.int top), .l (.lst ((es ++ [e]).map Ent.D)), .t (.int (i : Int)), .t (.int w), .t (.int W), .t (.int (1 + b)), y10, .u]) →
      ∃ (s' : D) (e : Ent) (y7 y8 y9 y10 : Sl), lb__law_jar_of_1 [.p s, .t (.int x0), .t (.bl nm), .t (.int span), .t (.int top), .l (.lst (es.map Ent.D)), .t (.int (i : Int)), x7, x8, x9, x10, .u] =
      .ok (.next, [.p s', .t (.int x0), .t (.bl nm), .t (.int span), .t (.int top), .l (.lst ((es ++ [e]).map Ent.D)), .t (.int (i : Int)), y7, y8, y9, y10, .u]) ∧ np y7 = true ∧ np y8 = true ∧ np y9 = true ∧ np y10 = true ∧ Jar (n + 8) s' ∧ Acc (es ++ [e]) ∧ Jo nm e := fun s' e y10 k1 k2 k3 k4 k5 =>
    ⟨s', e, _, _, _, y10, sq_ok e1 (sq_ok e2 (sq_ok e3 (sq_ok e4 k5))), rfl, rfl, rfl, k1, k2, k3, k4⟩
  have j4 : Jar (n + 8) s4 := j3.mono (by omega)
  have hl2 : (es.map Ent.D).length < sizeLine := by rw [List.length_map]; exact lz
  have map1 : ∀ e : Ent, (es ++ [e]).map Ent.D = es.map Ent.D ++ [e.D] := fun e => by rw [List.map_append]; rfl
  by_cases w10 : w = 10
  · refine fin s4 .struck (.t (.lst (B.map nD))) rfl j4 (acc_snoc A (by omega) rfl rfl) ⟨fun _ => rfl, by decide⟩ ?_
    rw [map1]
    generalize es.map Ent.D = E at *
    simp [w10, hl2]
  by_cases w5 : w < 5
  · refine fin s4 (.bill W (1 + b)) (.t (.lst (B.map nD))) rfl j4 (acc_snoc A (by omega) (by rw [ok_bill, decide_eq_true_eq]; omega) rfl) ⟨fun _ => rfl, by show 1 + b ≤ _; omega⟩ ?_
    rw [map1]
    generalize es.map Ent.D = E at *
    simp [w10, w5, hl2]
  have pay : (w < 8 → nm = true → B = []) → ∃ (s' : D) (e : Ent) (y7 y8 y9 y10 : Sl), lb__law_jar_of_1 [.p s, .t (.int x0), .t (.bl nm), .t (.int span), .t (.int top), .l (.lst (es.map Ent.D)), .t (.int (i : Int)), x7, x8, x9, x10, .u] =
      .ok (.next, [.p s', .t (.int x0), .t (.bl nm), .t (.int span), .t (.int top), .l (.lst ((es ++ [e]).map Ent.D)), .t (.int (i : Int)), y7, y8, y9, y10, .u]) ∧ np y7 = true ∧ np y8 = true ∧ np y9 = true ∧ np y10 = true ∧ Jar (n + 8) s' ∧ Acc (es ++ [e]) ∧ Jo nm e := fun hb => by
    refine fin s4 (.pay W (1 + b)) (.t (.lst (B.map nD))) rfl j4 (acc_snoc A (by omega) (by rw [ok_pay, decide_eq_true_eq]; omega) rfl) ⟨fun _ => rfl, by show 1 + b ≤ _; omega⟩ ?_
    rw [map1]
    generalize es.map Ent.D = E at *
    by_cases w8 : w < 8
    · cases nm with
      | false => simp [w10, w5, w8, hl2]
      | true =>
        have := hb w8 rfl
        subst this
        simp at nB
        simp [w10, w5, w8, hl2, nB]
    · simp [w10, w5, w8, hl2]
  by_cases w8 : w < 8
  · cases nm with
    | false => exact pay fun _ z => by cases z
    | true =>
      by_cases hb : B = []
      · exact pay fun _ _ => hb
      · have hpos : 0 < B.length := List.length_pos_iff.mpr hb
        obtain ⟨o, s5, p5, o0, o1, j5⟩ := pick_ok (u := (B.length : Int)) (by omega) j3 (by omega) (by omega)
        have ho : o.toNat < B.length := by omega
        obtain ⟨k1, k2, k3⟩ := memB _ (List.getElem_mem ho)
        have hat : L2.atI (B.map nD) o = some (nD B[o.toNat]) := by
          have := atI_nat (B.map nD) o.toNat (by rw [List.length_map]; exact ho)
          rw [Int.toNat_of_nonneg o0, List.getElem_map] at this
          exact this
        generalize B[o.toNat] = k at *
        obtain ⟨d', s', hbk⟩ : ∃ d' s', gE es k = .bill d' s' := by
          cases hg : gE es k <;> rw [hg] at k2 <;> first | exact ⟨_, _, rfl⟩ | cases k2
        refine fin s5 (.named W (1 + b) k) (.t (.lst (B.map nD))) rfl (j5.mono (by omega)) (acc_snoc A (by omega) (by rw [show (Ent.named W (1 + b) (k : Int)).ok = decide (1 ≤ 1 + b) from rfl, decide_eq_true_eq]; omega) ?_) ⟨fun z => (by cases z), by show 1 + b ≤ _; omega⟩ ?_
        · simp only [nameOk, Bool.and_eq_true, decide_eq_true_eq, Int.toNat_natCast]
          refine ⟨⟨by omega, by rw [List.length_append]; simp; omega⟩, ?_⟩
          rw [List.getElem?_append_left k1, gE_at k1, hbk]
          have : dyN es k = d' := by show (gE es k).day = d'; rw [hbk]; rfl
          simp only [decide_eq_true_eq]
          omega
        · rw [map1]
          have hbe : B.isEmpty = false := by cases B <;> first | rfl | exact absurd rfl hb
          rw [hbe] at nB
          have hbl : (B.map nD).length = B.length := List.length_map _
          generalize es.map Ent.D = E at *
          generalize B.map nD = BB at *
          have : nD k = .int (k : Int) := rfl
          simp at nB
          simp [w10, w5, w8, hl2, nB, hbl, p5, hat]
  · exact pay fun z => absurd z w8
theorem jar_of_ok {n : Int} {s : D} {count : Nat} {nm : Bool} {span top : Int} (hn : n < 400000) (J : Jar n s) (h0 : count ≤ 60) (s0 : 0 < span) (s1 : span ≤ 2000001) (t0 : 0 < top) (t1 : top ≤ 10 ^ 30) :
    ∃ (es : List Ent) (s' : D), m__law_jar_of s [.int (count : Int), .bl nm, .int span, .int top] = .ok (accD es, s') ∧ Jar (n + 8 * count) s' ∧ Acc es ∧ es.length = count ∧ (∀ e ∈ es, Jo nm e) := by
  obtain ⟨e', q, s', es, x6, x7, x8, x9, x10, rfl, -, -, -, -, -, j, A, el, pl⟩ := forL_inv (gv := gmN 6) (b := lb__law_jar_of_1)
    (fun i e => ∃ (s' : D) (es : List Ent) (x6 x7 x8 x9 x10 : Sl), e = [.p s', .t (.int (count : Int)), .t (.bl nm), .t (.int span), .t (.int top), .l (.lst (es.map Ent.D)), x6, x7, x8, x9, x10, .u] ∧ np x6 = true ∧ np x7 = true ∧ np x8 = true ∧ np x9 = true ∧ np x10 = true ∧ Jar (n + 8 * i) s' ∧ Acc es ∧ es.length = i ∧ (∀ e ∈ es, Jo nm e))
    (rangeD 0 count) [.p s, .t (.int (count : Int)), .t (.bl nm), .t (.int span), .t (.int top), .l (.lst []), .u, .u, .u, .u, .u, .u] 0 ⟨s, [], .u, .u, .u, .u, .u, rfl, rfl, rfl, rfl, rfl, rfl, J.mono (by omega), ⟨by simp, (fun e he => by cases he), (fun e he => by cases he)⟩, rfl, (fun e he => by cases he)⟩ (fun i d e hi ⟨s', es, x6, x7, x8, x9, x10, he, n6, n7, n8, n9, n10, j, A, el, pl⟩ => by
      subst he
      have hl := (List.getElem?_eq_some_iff.mp hi).1
      rw [rangeD_length] at hl
      rw [range_get hl] at hi
      cases hi
      rw [Nat.zero_add] at j el
      obtain ⟨s2, x, y7, y8, y9, y10, b, m7, m8, m9, m10, j2, A2, p2⟩ := jar_step (x0 := (count : Int)) (nm := nm) (span := span) (top := top) (i := i) (by omega) (by omega) j A (by omega) s0 s1 t0 t1 n7 n8 n9 n10
      refine ⟨_, _, by simp [n6], .inl b, s2, es ++ [x], _, y7, y8, y9, y10, rfl, rfl, m7, m8, m9, m10, j2.mono (by omega), A2, by rw [List.length_append, el]; simp, fun e he => ?_⟩
      rcases List.mem_append.mp he with he | he
      · exact pl e he
      · rw [List.mem_singleton.mp he]; exact p2)
  rw [rangeD_length, Nat.zero_add] at j el
  refine ⟨es, s', ?_, j, A, el, pl⟩
  have r1 := rg1_ok (j := (count : Int)) (by omega) (by omega)
  have ha : accD es = .tup (es.map Ent.D) := rfl
  rw [ha]
  generalize es.map Ent.D = E at *
  simp [m__law_jar_of, r1, q]
theorem a_jar_ok {n : Int} {s : D} {many : Int} {nm : Bool} (hn : n < 300000) (J : Jar n s) (h0 : 0 < many) (h1 : many ≤ 60) :
    ∃ (es : List Ent) (s' : D), m__law_a_jar s [.int many, .bl nm] = .ok (accD es, s') ∧ Jar (n + 600) s' ∧ Acc es ∧ es.length ≤ many ∧ (∀ e ∈ es, Jo nm e) := by
  obtain ⟨a, s1, p1, a0, a1, j1⟩ := pick_ok (u := 4) (by omega) J (by decide) (by decide)
  obtain ⟨b, s2, p2, b0, b1, j2⟩ := pick_ok (u := 4) (by omega) j1 (by decide) (by decide)
  obtain ⟨c, s3, p3, c0, c1, j3⟩ := pick_ok (u := many) (by omega) j2 h0 (by omega)
  obtain ⟨d, s4, p4, d0, d1, j4⟩ := pick_ok (u := 3) (by omega) j3 (by decide) (by decide)
  obtain ⟨e, s5, p5, e0, e1, j5⟩ := pick_ok (u := 16) (by omega) j4 (by decide) (by decide)
  obtain ⟨span, hs, sp0, sp1⟩ : ∃ span : Int, L2.atI [D.int 4, .int 12, .int 400, .int 2000001] a = some (.int span) ∧ 0 < span ∧ span ≤ 2000001 := by
    rcases (by omega : a = 0 ∨ a = 1 ∨ a = 2 ∨ a = 3) with rfl | rfl | rfl | rfl <;> exact ⟨_, rfl, by decide, by decide⟩
  obtain ⟨top, ht, t0, t1⟩ : ∃ top : Int, L2.atI [D.int 4, .int 12, .int 1000000, .int 1000000000000000000000000000000] b = some (.int top) ∧ 0 < top ∧ top ≤ 10 ^ 30 := by
    rcases (by omega : b = 0 ∨ b = 1 ∨ b = 2 ∨ b = 3) with rfl | rfl | rfl | rfl <;> exact ⟨_, rfl, by decide, by decide⟩
  obtain ⟨q, hq, q0, q1⟩ : ∃ q : Int, L2.atI [D.int 1, .int 2, .int 4] d = some (.int q) ∧ 0 < q ∧ q ≤ 4 := by
    rcases (by omega : d = 0 ∨ d = 1 ∨ d = 2) with rfl | rfl | rfl <;> exact ⟨_, rfl, by decide, by decide⟩
  have dq := div_ok (i := c) (j := q) q0 (by omega)
  have k0 : 0 ≤ c / q := Int.ediv_nonneg c0 (by omega)
  have k1 : c / q ≤ c := Int.ediv_le_self _ c0
  generalize hk : many - c / q = K at *
  have K0 : 0 ≤ K ∧ K ≤ many := by omega
  obtain ⟨C, hC, hC2⟩ : ∃ C : Nat, (C : Int) = K - (if e = 0 then 1 else 0) * K ∧ C ≤ 60 := by
    by_cases h : e = 0
    · exact ⟨0, by simp [h], by omega⟩
    · exact ⟨K.toNat, by simp [h]; omega, by omega⟩
  obtain ⟨es, s6, p6, j6, A, el, pl⟩ := jar_of_ok (nm := nm) (span := span) (top := top) (by omega) j5 hC2 sp0 sp1 t0 t1
  have m1 : mulD (.int (if e = 0 then 1 else 0)) (.int K) = .ok (.int ((if e = 0 then 1 else 0) * K)) := mul_ok (by split <;> decide) (small (n := 60) (by omega))
  have hCl : (C : Int) ≤ many := by
    rw [hC]
    split <;> omega
  rw [hC] at p6
  refine ⟨es, s6, ?_, j6.mono (by omega), A, by omega, pl⟩
  have ka : ∀ xs, allKp (accD es :: xs) = allKp xs := fun _ => rfl
  by_cases h : e = 0
  · subst h
    simp at m1 p6
    simp [m__law_a_jar, p1, p2, p3, p4, p5, hs, ht, hq, dq, hk, m1, p6]
  · simp [h] at m1 p6
    simp [m__law_a_jar, p1, p2, p3, p4, p5, hs, ht, hq, dq, hk, h, m1, p6]
end Law
end
section
namespace Law
open PySem Vm
def bwF (es : List Ent) (b : Bool) (i : Nat) : Bool := lvN es i && (blN es i == b)
def bwL (es : List Ent) (b : Bool) : List Nat := ((List.range es.length).filter (bwF es b)).mergeSort fun x y => leR [dyN es x, (x : Int)] [dyN es y, (y : Int)]
theorem bw_mem {es : List Ent} {b : Bool} {i : Nat} : i ∈ bwL es b ↔ i < es.length ∧ bwF es b i = true := by
  unfold bwL
  rw [(List.mergeSort_perm _ _).mem_iff, List.mem_filter, List.mem_range]
theorem bw_len (es : List Ent) (b : Bool) : (bwL es b).length ≤ es.length := by
  unfold bwL
  rw [(List.mergeSort_perm _ _).length_eq]
  exact Nat.le_trans (List.length_filter_le _ _) (by rw [List.length_range]; exact Nat.le_refl _)
theorem of_word_ok {es : List Ent} (hz : es.length ≤ 1000) (b : Bool) : m__law_of_word [accD es, .bl b] = .ok (.lst ((bwL es b).map nD)) := by
  have c1 := lf1m (i := 3) (t := ct__law_of_word_1) (m := cm__law_of_word_1) (env := [.t (accD es), .t (.bl b), .u, .u, .u]) (fun k : Nat => D.int (k : Int)) (bwF es b) nD (List.range es.length) (fun k hk => by
    have e := ix_acc es k (List.mem_range.mp hk)
    have q : bwF es b k = ((gE es k).live && ((gE es k).isBill == b)) := rfl
    cases hg : gE es k <;> rw [hg] at e q <;> simp [e, q, Ent.isBill, Ent.live, Ent.D]) (fun k hk _ => ⟨by simp [nD], rfl⟩)
  generalize hF : (List.range es.length).filter (bwF es b) = F at *
  have memF : ∀ k ∈ F, k < es.length ∧ (gE es k).live = true := fun k hk => by
    rw [← hF] at hk
    obtain ⟨h1, h2⟩ := List.mem_filter.mp hk
    unfold bwF at h2
    rw [Bool.and_eq_true] at h2
    exact ⟨List.mem_range.mp h1, h2.1⟩
  have c2 := lc1m (i := 3) (m := cm__law_of_word_2) (env := [.t (accD es), .t (.bl b), .t (.lst (F.map nD)), .u, .u]) nD (fun k => rowD [dyN es k, (k : Int)]) F (fun k hk => by
    have e := ix_acc es k (memF k hk).1
    have d := ix_d (memF k hk).2
    have q : dyN es k = (gE es k).day := rfl
    exact ⟨by simp [e, d, q, rowD, rs_ent], rfl⟩)
  have e2 : (F.map fun k => rowD [dyN es k, (k : Int)]) = (F.map fun k => [dyN es k, (k : Int)]).map rowD := by rw [List.map_map]; rfl
  have s1 : sortA (.lst ((F.map fun k => [dyN es k, (k : Int)]).map rowD)) = .ok (.lst ((sortR (F.map fun k => [dyN es k, (k : Int)])).map rowD)) := sortA_rows fun x hx => by
    obtain ⟨k, _, rfl⟩ := List.mem_map.mp hx
    exact fun z => nomatch z
  have e3 : sortR (F.map fun k => [dyN es k, (k : Int)]) = (bwL es b).map fun k => [dyN es k, (k : Int)] := by
    unfold sortR bwL
    rw [hF]
    exact (List.map_mergeSort (r := fun x y => leR [dyN es x, (x : Int)] [dyN es y, (y : Int)]) (s := leR) (f := fun k : Nat => [dyN es k, (k : Int)]) fun p _ q _ => rfl).symm
  have e4 : ((bwL es b).map fun k => [dyN es k, (k : Int)]).map rowD = (bwL es b).map fun k => D.tup [.int (dyN es k), .int (k : Int)] := by rw [List.map_map]; rfl
  have c3 := lc2m (i := 4) (j := 3) (m := cm__law_of_word_3) (env := [.t (accD es), .t (.bl b), .t (.lst (F.map nD)), .u, .u]) (fun k : Nat => .int (dyN es k)) (fun k : Nat => .int (k : Int)) nD (bwL es b) (fun k hk => ⟨by simp [nD], rfl⟩)
  rw [e2] at c2
  rw [e3, e4] at s1
  have rr : rangeD 0 es.length = (List.range es.length).map fun k : Nat => D.int (k : Int) := rangeD_map _
  have r1 := rg1_ok (j := (es.length : Int)) (by omega) (by omega)
  generalize ((bwL es b).map fun k => D.tup [.int (dyN es k), .int (k : Int)]) = R1 at *
  generalize ((F.map fun k => [dyN es k, (k : Int)]).map rowD) = R2 at *
  generalize F.map nD = FD at *
  generalize (bwL es b).map nD = BD at *
  have s1' : mSet 2 (mLc (mRng1 (mCons (mCallB (one lenD) (mCons (mVar 0) mNil)) mNil)) [3] (gmN 3) ct__law_of_word_1 cm__law_of_word_1) [.t (accD es), .t (.bl b), .u, .u, .u] = .ok (.next, [.t (accD es), .t (.bl b), .t (.lst FD), .u, .u]) := by
    simp only [accD] at c1 ⊢
    simp [c1, rr, r1]
  exact run_ends (ends_sq s1' (ends_is (by simp [c2, s1, c3]; rfl)))
theorem bw_pr {es : List Ent} {b p : Nat} (hb : b ∈ bwL es true) (hp : p ∈ bwL es false) : PrOk es (b, p) := by
  obtain ⟨h1, h2⟩ := bw_mem.mp hb
  obtain ⟨h3, h4⟩ := bw_mem.mp hp
  unfold bwF at h2 h4
  rw [Bool.and_eq_true, beq_iff_eq] at h2 h4
  refine ⟨h1, h2.2, h3, ?_⟩
  have a : (gE es p).live = true := h4.1
  have c : (gE es p).isBill = false := h4.2
  show (gE es p).isPay = true
  cases hg : gE es p <;> rw [hg] at a c <;> simp [Ent.live, Ent.isBill, Ent.isPay] at a c ⊢
/-! the table's pairs -/
@[simp] theorem rs_dct (env : Sls) (ds : List (List L2.Key × D)) : rs env (.dct ds) = .ok (.dct ds) := rfl
@[simp] theorem kp_dct (ds : List (List L2.Key × D)) : kp (.dct ds) = .ok (.dct ds) := rfl
@[simp] theorem al_dct (ds : List (List L2.Key × D)) (xs : List D) : allKp (.dct ds :: xs) = allKp xs := rfl
@[simp] theorem isDct_t (ds : List (List L2.Key × D)) : isDct (.dct ds) = true := rfl
theorem smD_keys (s : Sm) : ((smD s).map fun p => tupK p.1) = s.map fun x => D.tup [.int (x.1.1 : Int), .int (x.1.2 : Int)] := by
  unfold smD
  rw [List.map_map]
  rfl
theorem tkey_ky (a b : Nat) : tkey (.tup [.int (a : Int), .int (b : Int)]) = some (kyK (a, b)) := rfl
theorem ixT_sm {s : Sm} {a b : Nat} {v : Int} (h : vl s (a, b) = some v) : ixT (.dct (smD s)) (.tup [.int (a : Int), .int (b : Int)]) = .ok (.int v) := by
  unfold ixT
  simp only [tkey_ky, valD_sm, h]
  rfl
theorem getA_sm (s : Sm) (a b : Nat) : getA (.dct (smD s)) (.tup [.int (a : Int), .int (b : Int)]) (.int 0) = .ok (.int ((vl s (a, b)).getD 0)) := by
  unfold getA
  simp only [tkey_ky, valD_sm]
  cases vl s (a, b) <;> rfl
theorem smD_short (s : Sm) : ((smD s).all fun p => decide (p.1.length ≤ 1000)) = true := by
  rw [List.all_eq_true]
  intro p hp
  obtain ⟨x, _, rfl⟩ := List.mem_map.mp hp
  rfl
theorem pairs_ok {s : Sm} (nd : (ks s).Nodup) : m__law_pairs [.dct (smD s)] = .ok (.lst ((prs s).map tD)) := by
  have c1 := lf1m (i := 1) (t := ct__law_pairs_1) (m := cm__law_pairs_1) (env := [.t (.dct (smD s)), .u]) (fun x : Kp × Int => D.tup [.int (x.1.1 : Int), .int (x.1.2 : Int)]) (fun x => decide (0 < x.2)) (fun x => tD (x.1.1, x.1.2, x.2)) s (fun x hx => by
    have := ixT_sm (a := x.1.1) (b := x.1.2) (vl_mem nd hx)
    simp [this]) (fun x hx _ => by
    have := ixT_sm (a := x.1.1) (b := x.1.2) (vl_mem nd hx)
    exact ⟨by simp [this, tD], rfl⟩)
  have e1 : (s.filter fun x => decide (0 < x.2)).map (fun x => tD (x.1.1, x.1.2, x.2)) = ((s.filter fun x => decide (0 < x.2)).map fun x => ((x.1.1, x.1.2, x.2) : Tr)).map tD := by rw [List.map_map]; rfl
  rw [e1] at c1
  have s1 := sortA_tr ((s.filter fun x => decide (0 < x.2)).map fun x => ((x.1.1, x.1.2, x.2) : Tr))
  have k1 := smD_keys s
  have k2 := smD_short s
  unfold prs
  generalize ((s.filter fun x => decide (0 < x.2)).map fun x => ((x.1.1, x.1.2, x.2) : Tr)) = T at *
  generalize T.map tD = TD at *
  generalize (sortT T).map tD = SD at *
  generalize smD s = E at *
  generalize s.map (fun x => D.tup [.int (x.1.1 : Int), .int (x.1.2 : Int)]) = KE at *
  have hv : mLcV 0 [1] (gmN 1) ct__law_pairs_1 cm__law_pairs_1 [.t (.dct E), .u] = .ok (.lst TD, [.t (.dct E), .u]) := by
    rw [z_mLcV]
    show (if (okWipe [.t (.dct E), .u] [1] && (E.all fun p => decide (p.1.length ≤ 1000))) = true then _ else _) = _
    rw [show okWipe [.t (.dct E), .u] [1] = true from rfl, k2]
    have c1' : lcL [1] (gmN 1) ct__law_pairs_1 cm__law_pairs_1 KE (wipeE [.t (.dct E), .u] [1]) = .ok (TD, [.t (.dct E), .u]) := c1
    rw [if_pos (by rfl), k1, c1']
    rfl
  exact run_ends (ends_is (by simp [-z_mLcV, hv, s1]; rfl))
/-! what is laid on each entry -/
def neg3 (p : Tr) : Tr := (p.1, p.2.1, -p.2.2)
theorem trS_neg (ps : List Tr) (i : Nat) : trS (ps.map neg3) i = -trS ps i := by
  induction ps with
  | nil => rfl
  | cons p ps ih =>
    rw [List.map_cons, trS_cons, trS_cons, ih]
    simp only [neg3]
    by_cases h1 : p.1 = i <;> by_cases h2 : p.2.1 = i <;> simp only [h1, h2, if_true, if_false] <;> omega
def lo (es : List Ent) (ps : List Tr) : List Int := (List.range es.length).map fun i => trS ps i
theorem adds_eq {es : List Ent} {ps : List Tr} (hb : ∀ p ∈ ps, p.1 < es.length ∧ p.2.1 < es.length) : restsL (List.replicate es.length 0) (ps.map neg3) = lo es ps := by
  refine List.ext_getElem ?_ fun i h1 h2 => ?_
  · rw [restsL_len]; simp [lo]
  · have hi : i < es.length := by rw [restsL_len, List.length_replicate] at h1; exact h1
    have e := restsL_at (ps.map neg3) (List.replicate es.length 0) i (fun p hp => by
      obtain ⟨q, hq, rfl⟩ := List.mem_map.mp hp
      rw [List.length_replicate]
      exact hb q hq)
    rw [List.getD_eq_getElem?_getD, List.getElem?_eq_getElem h1, List.getD_eq_getElem?_getD, List.getElem?_eq_getElem (by rw [List.length_replicate]; exact hi), List.getElem_replicate, trS_neg] at e
    simp only [Option.getD_some] at e
    rw [e]
    simp [lo]
theorem laid_loop {es : List Ent} {P : D} (x3 x4 x5 : Sl) : ∀ (ps : List Tr) (rs : List Int) (x3 x4 x5 : Sl), np x3 = true → np x4 = true → np x5 = true → rs.length = es.length → (∀ p ∈ ps, p.1 < es.length ∧ p.2.1 < es.length) →
    ∃ y3 y4 y5, forL (gmT 3 (gmCons (gmN 3) (gmCons (gmN 4) (gmCons (gmN 5) gmNil)))) lb__law_laid_on_1 (ps.map tD) [.t (accD es), .t P, .l (.lst (rs.map D.int)), x3, x4, x5, .u] = .ok (.next, [.t (accD es), .t P, .l (.lst ((restsL rs (ps.map neg3)).map D.int)), y3, y4, y5, .u])
  | [], rs, x3, x4, x5, _, _, _, _, _ => ⟨x3, x4, x5, rfl⟩
  | p :: ps, rs, x3, x4, x5, n3, n4, n5, hl, hb => by
    obtain ⟨h1, h2⟩ := hb p (.head _)
    obtain ⟨y3, y4, y5, q⟩ := laid_loop (es := es) (P := P) x3 x4 x5 ps (sb (sb rs p.1 (-p.2.2)) p.2.1 (-p.2.2)) (.t (.int p.1)) (.t (.int p.2.1)) (.t (.int p.2.2)) rfl rfl rfl (by simp [hl]) fun q hq => hb q (.tail _ hq)
    refine ⟨y3, y4, y5, ?_⟩
    have a1 := at_rs rs p.1 (by omega)
    have a2 := at_rs (sb rs p.1 (-p.2.2)) p.2.1 (by simp; omega)
    have i1 := ixN_nat rs.length p.1 (by omega)
    have i2 := ixN_nat rs.length p.2.1 (by omega)
    have g : gmT 3 (gmCons (gmN 3) (gmCons (gmN 4) (gmCons (gmN 5) gmNil))) (tD p) [.t (accD es), .t P, .l (.lst (rs.map D.int)), x3, x4, x5, .u] = .ok [.t (accD es), .t P, .l (.lst (rs.map D.int)), .t (.int p.1), .t (.int p.2.1), .t (.int p.2.2), .u] := by simp [tD, n3, n4, n5]
    have b : lb__law_laid_on_1 [.t (accD es), .t P, .l (.lst (rs.map D.int)), .t (.int p.1), .t (.int p.2.1), .t (.int p.2.2), .u] = .ok (.next, [.t (accD es), .t P, .l (.lst ((sb (sb rs p.1 (-p.2.2)) p.2.1 (-p.2.2)).map D.int)), .t (.int p.1), .t (.int p.2.1), .t (.int p.2.2), .u]) := by
      have s1 : mPut 2 (mVar 3) (mBin addD (mBin ixA (mVar 2) (mVar 3)) (mVar 5)) [.t (accD es), .t P, .l (.lst (rs.map D.int)), .t (.int p.1), .t (.int p.2.1), .t (.int p.2.2), .u] = .ok (.next, [.t (accD es), .t P, .l (.lst ((sb rs p.1 (-p.2.2)).map D.int)), .t (.int p.1), .t (.int p.2.1), .t (.int p.2.2), .u]) := by
        have e : (rs.map D.int).set p.1 (.int (rs.getD p.1 0 + p.2.2)) = (sb rs p.1 (-p.2.2)).map D.int := by
          rw [set_rs]; unfold sb; rw [Int.sub_neg]
        rw [List.getD_eq_getElem?_getD] at e
        have ll : (rs.map D.int).length = rs.length := List.length_map _
        generalize rs.map D.int = R at *
        simp [a1, ll, i1, e]
      have s2 : mPut 2 (mVar 4) (mBin addD (mBin ixA (mVar 2) (mVar 4)) (mVar 5)) [.t (accD es), .t P, .l (.lst ((sb rs p.1 (-p.2.2)).map D.int)), .t (.int p.1), .t (.int p.2.1), .t (.int p.2.2), .u] = .ok (.next, [.t (accD es), .t P, .l (.lst ((sb (sb rs p.1 (-p.2.2)) p.2.1 (-p.2.2)).map D.int)), .t (.int p.1), .t (.int p.2.1), .t (.int p.2.2), .u]) := by
        have e : ((sb rs p.1 (-p.2.2)).map D.int).set p.2.1 (.int ((sb rs p.1 (-p.2.2)).getD p.2.1 0 + p.2.2)) = (sb (sb rs p.1 (-p.2.2)) p.2.1 (-p.2.2)).map D.int := by
          show _ = ((sb rs p.1 (-p.2.2)).set p.2.1 ((sb rs p.1 (-p.2.2)).getD p.2.1 0 - -p.2.2)).map D.int
          rw [set_rs, Int.sub_neg]
        rw [List.getD_eq_getElem?_getD] at e
        have ll : ((sb rs p.1 (-p.2.2)).map D.int).length = rs.length := by simp
        generalize (sb rs p.1 (-p.2.2)).map D.int = R at *
        simp [a2, ll, i2, e]
      exact sq_ok s1 s2
    rw [List.map_cons]
    unfold forL
    rw [g]
    simp only [noE_ok, y1, b]
    exact q
theorem laid_on_ok {es : List Ent} {ps : List Tr} (hb : ∀ p ∈ ps, p.1 < es.length ∧ p.2.1 < es.length) : m__law_laid_on [accD es, .lst (ps.map tD)] = .ok (.lst ((lo es ps).map D.int)) := by
  have c1 := lc1m (i := 6) (m := cm__law_laid_on_1) (env := [.t (accD es), .t (.lst (ps.map tD)), .u, .u, .u, .u, .u]) Ent.D (fun _ => .int 0) es (fun e he => ⟨by simp, rfl⟩)
  obtain ⟨y3, y4, y5, q⟩ := laid_loop (es := es) (P := .lst (ps.map tD)) .u .u .u ps (List.replicate es.length 0) .u .u .u rfl rfl rfl (by simp) hb
  rw [adds_eq hb] at q
  have e1 : (es.map fun _ => D.int 0) = (List.replicate es.length (0 : Int)).map D.int := by
    rw [List.map_replicate]
    exact List.map_const' ..
  rw [e1] at c1
  generalize (lo es ps).map D.int = LO at *
  generalize (List.replicate es.length (0 : Int)).map D.int = Z at *
  generalize ps.map tD = PP at *
  simp only [accD] at c1 q ⊢
  refine run_ends (ends_sq (e2 := [.t (.tup (es.map Ent.D)), .t (.lst PP), .l (.lst Z), .u, .u, .u, .u]) (by simp [c1]) ?_)
  exact ends_sq (by simp [q]; rfl) (ends_is (by simp; rfl))
end Law
end
section
namespace Law
open PySem Vm
def EndsJ (m : Sv) (env : Sls) (d j : D) : Prop := ∃ e', m env = .ok (.ret d, e') ∧ e'[0]? = some (.p j)
theorem sqJ {m1 m2 : Sv} {env e2 : Sls} {d j : D} (h : m1 env = .ok (.next, e2)) (h2 : EndsJ m2 e2 d j) : EndsJ (mSq m1 m2) env d j := by
  obtain ⟨e', q, p⟩ := h2
  refine ⟨e', ?_, p⟩
  rw [z_mSq, h]
  simpa using q
theorem nowJ {m1 m2 : Sv} {env e2 : Sls} {d j : D} (h : m1 env = .ok (.ret d, e2)) (p : e2[0]? = some (.p j)) : EndsJ (mSq m1 m2) env d j := ⟨e2, by rw [z_mSq, h]; rfl, p⟩
theorem isJ {m : Sv} {env e2 : Sls} {d j : D} (h : m env = .ok (.ret d, e2)) (p : e2[0]? = some (.p j)) : EndsJ m env d j := ⟨e2, h, p⟩
theorem runJ_ends {n : Nat} {m : Sv} {j0 : D} {ds : List D} {d j : D} (h : EndsJ m (envJ n j0 ds) d j) : runJ n m j0 ds = .ok (d, j) := by
  obtain ⟨e', q, p⟩ := h
  rw [z_runJ, q]
  simp [p]
theorem sm_nn {es : List Ent} (A : Acc es) (i : Nat) : 0 ≤ smN es i := by
  show 0 ≤ (gE es i).sum
  by_cases hi : i < es.length
  · have := A.ok _ (gE_mem hi)
    cases hg : gE es i with
    | bill d s => rw [hg] at this; have h := of_decide_eq_true (show decide (1 ≤ s) = true from this); show 0 ≤ s; omega
    | pay d s => rw [hg] at this; have h := of_decide_eq_true (show decide (1 ≤ s) = true from this); show 0 ≤ s; omega
    | named d s k => rw [hg] at this; have h := of_decide_eq_true (show decide (1 ≤ s) = true from this); show 0 ≤ s; omega
    | struck => exact Int.le_refl 0
  · unfold gE
    rw [List.getD_eq_getElem?_getD, List.getElem?_eq_none (by omega)]
    exact Int.le_refl 0
theorem Fit.nil {es : List Ent} (A : Acc es) : Fit es [] := ⟨(fun p hp => by cases hp), .nil, fun i _ => by rw [trS_nil]; exact sm_nn A i⟩
theorem nat_pick {n : Int} {s : D} {xs : List Nat} (hn : n < 900000) (J : Jar n s) (h0 : xs ≠ []) (hz : xs.length ≤ 1000000) :
    ∃ (k : Nat) (o : Int) (s' : D), m__law_pick s [.int (xs.length : Int)] = .ok (.int o, s') ∧ L2.atI (xs.map nD) o = some (.int (k : Int)) ∧ k ∈ xs ∧ Jar (n + 1) s' := by
  have hpos : 0 < xs.length := List.length_pos_iff.mpr h0
  obtain ⟨o, s5, p5, o0, o1, j5⟩ := pick_ok (u := (xs.length : Int)) (by omega) J (by omega) (by omega)
  have ho : o.toNat < xs.length := by omega
  refine ⟨xs[o.toNat], o, s5, p5, ?_, List.getElem_mem ho, j5⟩
  have := atI_nat (xs.map nD) o.toNat (by rw [List.length_map]; exact ho)
  rw [Int.toNat_of_nonneg o0, List.getElem_map] at this
  exact this
theorem tot_step (s : Sm) (k : Kp) (m : Int) (f : Kp → Bool) : tot (pt s k ((vl s k).getD 0 + m)) f = tot s f + if f k = true then m else 0 := by
  rw [tot_pt]
  split <;> omega
def RsOk (es : List Ent) (rs : List Int) (S : Sm) : Prop := rs.length = es.length ∧ ∀ i, i < es.length → rs.getD i 0 = smN es i - (tot S (fun k => k.1 == i) + tot S (fun k => k.2 == i))
theorem rs_step {es : List Ent} {rs : List Int} {S : Sm} (R : RsOk es rs S) (Z : Sd es S) {b p : Nat} (P : PrOk es (b, p)) {m : Int} (m0 : 0 ≤ m) (m1 : m ≤ rs.getD b 0) (m2 : m ≤ rs.getD p 0) :
    RsOk es (sb (sb rs b m) p m) (pt S (b, p) ((vl S (b, p)).getD 0 + m)) ∧ Sd es (pt S (b, p) ((vl S (b, p)).getD 0 + m)) := by
  have hb : b < es.length := P.b1
  have hp : p < es.length := P.p1
  have ne : b ≠ p := P.ne
  have e : ∀ i, i < es.length → (sb (sb rs b m) p m).getD i 0 = smN es i - (tot (pt S (b, p) ((vl S (b, p)).getD 0 + m)) (fun k => k.1 == i) + tot (pt S (b, p) ((vl S (b, p)).getD 0 + m)) (fun k => k.2 == i)) := fun i hi => by
    rw [sb_at _ _ _ _ (by simp [R.1]; exact hp), sb_at _ _ _ _ (by rw [R.1]; exact hb), R.2 i hi, tot_step, tot_step]
    simp only [beq_iff_eq]
    omega
  refine ⟨⟨by simp [R.1], e⟩, nd_pt Z.nd, fun x hx => ?_, fun i hi => ?_⟩
  · rcases mem_pt hx with rfl | hx
    · refine ⟨P, ?_⟩
      show 0 ≤ (vl S (b, p)).getD 0 + m
      cases q : vl S (b, p) with
      | none => simpa using m0
      | some v =>
        have := (Z.pr _ (vl_in q)).2
        simp only [Option.getD_some]
        omega
    · exact Z.pr x hx
  · have h1 := e i hi
    rw [sb_at _ _ _ _ (by simp [R.1]; exact hp), sb_at _ _ _ _ (by rw [R.1]; exact hb)] at h1
    have h2 := R.2 i hi
    have h3 := Z.bd i hi
    have h4 : 0 ≤ rs.getD i 0 - (if b = i then m else 0) - (if p = i then m else 0) := by
      by_cases q1 : b = i
      · subst q1
        have : ¬ p = b := fun z => ne z.symm
        simp only [if_true, this, if_false]
        omega
      · by_cases q2 : p = i
        · subst q2
          simp only [q1, if_true, if_false]
          omega
        · simp only [q1, q2, if_false]
          omega
    omega
abbrev le (s : D) (es : List Ent) (many : D) (rs : List Int) (S : Sm) (x5 : Sl) (B P : List Nat) (x8 x10 x11 x12 : Sl) : Sls := [.p s, .t (accD es), .t many, .l (.lst (rs.map D.int)), .l (.dct (smD S)), x5, .t (.lst (B.map nD)), .t (.lst (P.map nD)), x8, .u, x10, x11, x12]
theorem lay_step {n : Int} {s : D} {es : List Ent} {many : D} {rs : List Int} {S : Sm} (hn : n < 400000) (J : Jar n s) (hz : es.length ≤ 60) (bd : ∀ e ∈ es, e.sum ≤ 10 ^ 30) (R : RsOk es rs S) (Z : Sd es S) (hS : S.length ≤ 1000)
    (hB : bwL es true ≠ []) (hP : bwL es false ≠ []) {x5 x8 x10 x11 x12 : Sl} (n8 : np x8 = true) (n10 : np x10 = true) (n11 : np x11 = true) (n12 : np x12 = true) :
    ∃ (s' : D) (rs' : List Int) (S' : Sm) (y8 y10 y11 y12 : Sl), lb__law_lay_1 (le s es many rs S x5 (bwL es true) (bwL es false) x8 x10 x11 x12) = .ok (.next, le s' es many rs' S' x5 (bwL es true) (bwL es false) y8 y10 y11 y12) ∧
      np y8 = true ∧ np y10 = true ∧ np y11 = true ∧ np y12 = true ∧ Jar (n + 8) s' ∧ RsOk es rs' S' ∧ Sd es S' ∧ S'.length ≤ S.length + 1 := by
  have sz : 100000 ≤ sizeLine := by decide
  obtain ⟨b, o1, s1, p1, a1, hb, j1⟩ := nat_pick (by omega) J hB (by have := bw_len es true; omega)
  obtain ⟨p, o2, s2, p2, a2, hp, j2⟩ := nat_pick (by omega) j1 hP (by have := bw_len es false; omega)
  have P := bw_pr hb hp
  have hbl : b < es.length := P.b1
  have hpl : p < es.length := P.p1
  have lB : ((bwL es true).map nD).length = (bwL es true).length := List.length_map _
  have lP : ((bwL es false).map nD).length = (bwL es false).length := List.length_map _
  have e1 : mPar 10 11 (mCons (mBin ixA (mVar 6) (mCallJ 2 m__law_pick (mCons (mVar 0) (mCons (mCallB (one lenD) (mCons (mVar 6) mNil)) mNil)))) (mCons (mBin ixA (mVar 7) (mCallJ 2 m__law_pick (mCons (mVar 0) (mCons (mCallB (one lenD) (mCons (mVar 7) mNil)) mNil)))) mNil))
      (le s es many rs S x5 (bwL es true) (bwL es false) x8 x10 x11 x12) = .ok (.next, le s2 es many rs S x5 (bwL es true) (bwL es false) x8 (.t (.int b)) (.t (.int p)) x12) := by
    unfold le
    generalize (bwL es true).map nD = BB at *
    generalize (bwL es false).map nD = PP at *
    simp [mPar, lB, lP, p1, p2, a1, a2, n10, n11]
  have r1 := at_rs rs b (by rw [R.1]; exact hbl)
  have r2 := at_rs rs p (by rw [R.1]; exact hpl)
  have e2 : mSet 8 (mCallB (two minD) (mCons (mBin ixA (mVar 3) (mVar 10)) (mCons (mBin ixA (mVar 3) (mVar 11)) mNil)))
      (le s2 es many rs S x5 (bwL es true) (bwL es false) x8 (.t (.int b)) (.t (.int p)) x12) = .ok (.next, le s2 es many rs S x5 (bwL es true) (bwL es false) (.t (.int (min (rs.getD b 0) (rs.getD p 0)))) (.t (.int b)) (.t (.int p)) x12) := by
    unfold le
    generalize (bwL es true).map nD = BB at *
    generalize (bwL es false).map nD = PP at *
    generalize rs.getD b 0 = u at *
    generalize rs.getD p 0 = v at *
    generalize rs.map D.int = RR at *
    simp [r1, r2, n8]
    omega
  have ub : rs.getD b 0 ≤ 10 ^ 30 := by
    have h1 := R.2 b hbl
    have h2 := bd _ (gE_mem hbl)
    have h3 := tot_nn (fun x hx => (Z.pr x hx).2) (fun k => k.1 == b)
    have h4 := tot_nn (fun x hx => (Z.pr x hx).2) (fun k => k.2 == b)
    have h5 : smN es b = (gE es b).sum := rfl
    omega
  by_cases hr : 0 < min (rs.getD b 0) (rs.getD p 0)
  · obtain ⟨q, s3, p3, q0, q1, j3⟩ := pick_ok (u := 2) (by omega) j2 (by decide) (by decide)
    obtain ⟨w, s4, p4, w0, w1, j4⟩ := wide_ok (u := min (rs.getD b 0) (rs.getD p 0)) (by omega) j3 hr (by omega)
    obtain ⟨m, s5, e3, m0, m1, j5⟩ : ∃ (m : Int) (s5 : D), mSet 12 (mIf (mTru (mBin eqD (mCallJ 2 m__law_pick (mCons (mVar 0) (mCons (mK (.int 2)) mNil))) (mK (.int 0)))) (mVar 8) (mBin addD (mK (.int 1)) (mCallJ 2 m__law_wide (mCons (mVar 0) (mCons (mVar 8) mNil)))))
        (le s2 es many rs S x5 (bwL es true) (bwL es false) (.t (.int (min (rs.getD b 0) (rs.getD p 0)))) (.t (.int b)) (.t (.int p)) x12) = .ok (.next, le s5 es many rs S x5 (bwL es true) (bwL es false) (.t (.int (min (rs.getD b 0) (rs.getD p 0)))) (.t (.int b)) (.t (.int p)) (.t (.int m))) ∧ 0 ≤ m ∧ m ≤ min (rs.getD b 0) (rs.getD p 0) ∧ Jar (n + 8) s5 := by
      generalize min (rs.getD b 0) (rs.getD p 0) = M at *
      unfold le
      generalize (bwL es true).map nD = BB at *
      generalize (bwL es false).map nD = PP at *
      generalize rs.map D.int = RR at *
      generalize smD S = SS at *
      by_cases hq : q = 0
      · exact ⟨M, s3, by simp [p3, hq, n12], by omega, Int.le_refl _, j3.mono (by omega)⟩
      · exact ⟨1 + w, s4, by simp [p3, hq, p4, n12], by omega, by omega, j4.mono (by omega)⟩
    obtain ⟨R', Z'⟩ := rs_step R Z P m0 (by omega) (by omega)
    refine ⟨s5, sb (sb rs b m) p m, _, .t (.int (min (rs.getD b 0) (rs.getD p 0))), .t (.int b), .t (.int p), .t (.int m), sq_ok e1 (sq_ok e2 ?_), rfl, rfl, rfl, rfl, j5, R', Z', len_pt _ _ _⟩
    have g1 := getA_sm S b p
    have g2 := putD_sm Z.nd (b, p) ((vl S (b, p)).getD 0 + m)
    have g3 : (smD S).length < sizeLine := by unfold smD; rw [List.length_map]; omega
    have i1 := ixN_nat rs.length b (by rw [R.1]; exact hbl)
    have i2 := ixN_nat rs.length p (by rw [R.1]; exact hpl)
    have r3 := at_rs (sb rs b m) p (by simp [R.1]; exact hpl)
    have e4 : mPutT 4 (mCons (mVar 10) (mCons (mVar 11) mNil)) (mBin addD (mGetA (mVar 4) (mTup (mCons (mVar 10) (mCons (mVar 11) mNil))) (mK (.int 0))) (mVar 12))
        (le s5 es many rs S x5 (bwL es true) (bwL es false) (.t (.int (min (rs.getD b 0) (rs.getD p 0)))) (.t (.int b)) (.t (.int p)) (.t (.int m))) = .ok (.next, le s5 es many rs (pt S (b, p) ((vl S (b, p)).getD 0 + m)) x5 (bwL es true) (bwL es false) (.t (.int (min (rs.getD b 0) (rs.getD p 0)))) (.t (.int b)) (.t (.int p)) (.t (.int m))) := by
      unfold le
      have kk : keysL [.int (b : Int), .int (p : Int)] = some (kyK (b, p)) := rfl
      generalize (bwL es true).map nD = BB at *
      generalize (bwL es false).map nD = PP at *
      generalize rs.map D.int = RR at *
      generalize smD (pt S (b, p) ((vl S (b, p)).getD 0 + m)) = S2 at *
      generalize (vl S (b, p)).getD 0 = V at *
      generalize smD S = SS at *
      simp [mPutT, mGetA, g1, g2, g3, kk]
    have e5 : mPut 3 (mVar 10) (mBin subD (mBin ixA (mVar 3) (mVar 10)) (mVar 12))
        (le s5 es many rs (pt S (b, p) ((vl S (b, p)).getD 0 + m)) x5 (bwL es true) (bwL es false) (.t (.int (min (rs.getD b 0) (rs.getD p 0)))) (.t (.int b)) (.t (.int p)) (.t (.int m))) = .ok (.next, le s5 es many (sb rs b m) (pt S (b, p) ((vl S (b, p)).getD 0 + m)) x5 (bwL es true) (bwL es false) (.t (.int (min (rs.getD b 0) (rs.getD p 0)))) (.t (.int b)) (.t (.int p)) (.t (.int m))) := by
      unfold le
      have e : (rs.map D.int).set b (.int (rs.getD b 0 - m)) = (sb rs b m).map D.int := by rw [set_rs]; rfl
      have ll : (rs.map D.int).length = rs.length := List.length_map _
      generalize (bwL es true).map nD = BB at *
      generalize (bwL es false).map nD = PP at *
      generalize (sb rs b m).map D.int = R2 at *
      generalize rs.getD b 0 = u at *
      generalize rs.map D.int = RR at *
      simp [r1, ll, i1, e]
    have e6 : mPut 3 (mVar 11) (mBin subD (mBin ixA (mVar 3) (mVar 11)) (mVar 12))
        (le s5 es many (sb rs b m) (pt S (b, p) ((vl S (b, p)).getD 0 + m)) x5 (bwL es true) (bwL es false) (.t (.int (min (rs.getD b 0) (rs.getD p 0)))) (.t (.int b)) (.t (.int p)) (.t (.int m))) = .ok (.next, le s5 es many (sb (sb rs b m) p m) (pt S (b, p) ((vl S (b, p)).getD 0 + m)) x5 (bwL es true) (bwL es false) (.t (.int (min (rs.getD b 0) (rs.getD p 0)))) (.t (.int b)) (.t (.int p)) (.t (.int m))) := by
      unfold le
      have e : ((sb rs b m).map D.int).set p (.int ((sb rs b m).getD p 0 - m)) = (sb (sb rs b m) p m).map D.int := by rw [set_rs]; rfl
      have ll : ((sb rs b m).map D.int).length = rs.length := by simp
      generalize (bwL es true).map nD = BB at *
      generalize (bwL es false).map nD = PP at *
      generalize (sb (sb rs b m) p m).map D.int = R3 at *
      generalize (sb rs b m).getD p 0 = u at *
      generalize (sb rs b m).map D.int = R2 at *
      simp [r3, ll, i2, e]
    have e7 := sq_ok e3 (sq_ok e4 (sq_ok e5 e6))
    generalize min (rs.getD b 0) (rs.getD p 0) = M at *
    rw [z_mIfS]
    have c : mTru (mBin gtD (mVar 8) (mK (.int 0))) (le s2 es many rs S x5 (bwL es true) (bwL es false) (.t (.int M)) (.t (.int b)) (.t (.int p)) x12) = .ok (true, le s2 es many rs S x5 (bwL es true) (bwL es false) (.t (.int M)) (.t (.int b)) (.t (.int p)) x12) := by
      unfold le
      simp [hr]
    rw [c, y1]
    simp only [if_true]
    exact e7
  · refine ⟨s2, rs, S, .t (.int (min (rs.getD b 0) (rs.getD p 0))), .t (.int b), .t (.int p), x12, sq_ok e1 (sq_ok e2 ?_), rfl, rfl, rfl, n12, j2.mono (by omega), R, Z, by omega⟩
    generalize min (rs.getD b 0) (rs.getD p 0) = M at *
    unfold le
    simp [hr]
theorem lay_ok {n : Int} {s : D} {es : List Ent} {many : Int} (hn : n < 300000) (J : Jar n s) (A : Acc es) (hz : es.length ≤ 60) (bd : ∀ e ∈ es, e.sum ≤ 10 ^ 30) (m0 : 0 ≤ many) (m1 : many ≤ 60) :
    ∃ (ps : List Tr) (s' : D), m__law_lay s [accD es, .int many] = .ok (.lst (ps.map tD), s') ∧ Jar (n + 600) s' ∧ Fit es ps ∧ ps.length ≤ 61 := by
  have c1 := lc1m (i := 9) (m := cm__law_lay_1) (env := [.p s, .t (accD es), .t (.int many), .u, .u, .u, .u, .u, .u, .u, .u, .u, .u]) Ent.D (fun e => .int e.sum) es fun e he => by
    cases hl : e.live with
    | true => exact ⟨by simp [hl, ix_s hl], rfl⟩
    | false =>
      cases e <;> simp [Ent.live] at hl
      exact ⟨by simp [Ent.sum], rfl⟩
  have ec : (es.map fun e => D.int e.sum) = (es.map Ent.sum).map D.int := by rw [List.map_map]; rfl
  rw [ec] at c1
  have o1 := of_word_ok (es := es) (by omega) true
  have o2 := of_word_ok (es := es) (by omega) false
  have q1 := nats_eq (bwL es true)
  have q2 := nats_eq (bwL es false)
  have e1 : mSetL 3 (mLc (mSeq (mVar 1)) [9] (gmN 9) mYes cm__law_lay_1) [.p s, .t (accD es), .t (.int many), .u, .u, .u, .u, .u, .u, .u, .u, .u, .u] = .ok (.next, [.p s, .t (accD es), .t (.int many), .l (.lst ((es.map Ent.sum).map D.int)), .u, .u, .u, .u, .u, .u, .u, .u, .u]) := by
    generalize (es.map Ent.sum).map D.int = RR at *
    simp only [accD] at c1 ⊢
    simp [c1]
  have e2 : mPar 6 7 (mCons (mCall 2 m__law_of_word (mCons (mVar 1) (mCons (mK (.bl true)) mNil))) (mCons (mCall 2 m__law_of_word (mCons (mVar 1) (mCons (mK (.bl false)) mNil))) mNil)) [.p s, .t (accD es), .t (.int many), .l (.lst ((es.map Ent.sum).map D.int)), .u, .u, .u, .u, .u, .u, .u, .u, .u] =
      .ok (.next, [.p s, .t (accD es), .t (.int many), .l (.lst ((es.map Ent.sum).map D.int)), .u, .u, .t (.lst ((bwL es true).map nD)), .t (.lst ((bwL es false).map nD)), .u, .u, .u, .u, .u]) := by
    simp [mPar, o1, o2]
  have e3 : mSetL 4 (mDicT0) [.p s, .t (accD es), .t (.int many), .l (.lst ((es.map Ent.sum).map D.int)), .u, .u, .t (.lst ((bwL es true).map nD)), .t (.lst ((bwL es false).map nD)), .u, .u, .u, .u, .u] = .ok (.next, le s es (.int many) (es.map Ent.sum) [] .u (bwL es true) (bwL es false) .u .u .u .u) := by
    simp [mDicT0, smD]
  by_cases he : bwL es true = [] ∨ bwL es false = []
  · refine ⟨[], s, runJ_ends (sqJ e1 (sqJ e2 (sqJ e3 (nowJ (e2 := le s es (.int many) (es.map Ent.sum) [] .u (bwL es true) (bwL es false) .u .u .u .u) ?_ rfl)))), J.mono (by omega), Fit.nil A, by simp⟩
    rcases he with h | h
    · rw [h] at q1
      simp at q1
      unfold le
      simp [h, q1]
    · rw [h] at q2
      simp at q2
      unfold le
      cases hb : (bwL es true).isEmpty <;> rw [hb] at q1 <;> simp [h, q1, q2]
  · have hB : bwL es true ≠ [] := fun z => he (.inl z)
    have hP : bwL es false ≠ [] := fun z => he (.inr z)
    obtain ⟨T, s1, p1, t0, t1, j1⟩ := pick_ok (u := many + 1) (by omega) J (by omega) (by omega)
    have R0 : RsOk es (es.map Ent.sum) [] := ⟨by simp, fun i hi => by
      have : (es.map Ent.sum).getD i 0 = smN es i := by
        rw [List.getD_eq_getElem?_getD, List.getElem?_map, gE_at hi]
        rfl
      rw [this]
      simp [tot]⟩
    have Z0 : Sd es [] := ⟨by simp [ks], (fun x hx => by cases hx), fun i _ => by have := sm_nn A i; simpa [tot] using this⟩
    obtain ⟨e', q, s', rs, S, x5, x8, x10, x11, x12, rfl, -, -, -, -, -, j, R, Z, lS⟩ := forL_inv (gv := gmN 5) (b := lb__law_lay_1)
      (fun i e => ∃ (s' : D) (rs : List Int) (S : Sm) (x5 x8 x10 x11 x12 : Sl), e = le s' es (.int many) rs S x5 (bwL es true) (bwL es false) x8 x10 x11 x12 ∧ np x5 = true ∧ np x8 = true ∧ np x10 = true ∧ np x11 = true ∧ np x12 = true ∧ Jar (n + 1 + 8 * i) s' ∧ RsOk es rs S ∧ Sd es S ∧ S.length ≤ i)
      (rangeD 0 T.toNat) (le s1 es (.int many) (es.map Ent.sum) [] .u (bwL es true) (bwL es false) .u .u .u .u) 0 ⟨s1, _, [], _, _, _, _, _, rfl, rfl, rfl, rfl, rfl, rfl, j1.mono (by omega), R0, Z0, by simp⟩ (fun i d e hi ⟨s', rs, S, x5, x8, x10, x11, x12, he, n5, n8, n10, n11, n12, j, R, Z, lS⟩ => by
        subst he
        have hl := (List.getElem?_eq_some_iff.mp hi).1
        rw [rangeD_length] at hl
        rw [range_get hl] at hi
        cases hi
        rw [Nat.zero_add] at j lS
        obtain ⟨s2, rs', S', y8, y10, y11, y12, b, m8, m10, m11, m12, j2, R', Z', lS'⟩ := lay_step (many := .int many) (by omega) j hz bd R Z (by omega) hB hP (x5 := .t (.int (i : Int))) n8 n10 n11 n12
        exact ⟨_, _, by unfold le; simp [n5], .inl b, s2, rs', S', _, y8, y10, y11, y12, rfl, rfl, m8, m10, m11, m12, j2.mono (by omega), R', Z', by omega⟩)
    rw [rangeD_length, Nat.zero_add] at j lS
    have hbB : (bwL es true).isEmpty = false := by cases h : bwL es true <;> first | rfl | exact absurd h hB
    have hbP : (bwL es false).isEmpty = false := by cases h : bwL es false <;> first | rfl | exact absurd h hP
    rw [hbB] at q1
    rw [hbP] at q2
    have r1 := rg1_ok (j := T) (by omega) (by omega)
    have po := pairs_ok Z.nd
    refine ⟨prs S, s', runJ_ends (sqJ e1 (sqJ e2 (sqJ e3 (sqJ (e2 := le s es (.int many) (es.map Ent.sum) [] .u (bwL es true) (bwL es false) .u .u .u .u) ?_ (sqJ (e2 := le s' es (.int many) rs S x5 (bwL es true) (bwL es false) x8 x10 x11 x12) ?_ (isJ (e2 := [.p s', .t (accD es), .t (.int many), .l (.lst (rs.map D.int)), .t (.dct (smD S)), x5, .t (.lst ((bwL es true).map nD)), .t (.lst ((bwL es false).map nD)), x8, .u, x10, x11, x12]) ?_ rfl)))))), j.mono (by omega), Z.fit, ?_⟩
    · unfold le
      generalize (bwL es true).map nD = BB at *
      generalize (bwL es false).map nD = PP at *
      simp [q1, q2]
    · rw [z_mFor]
      have hm : mRng1 (mCons (mCallJ 2 m__law_pick (mCons (mVar 0) (mCons (mBin addD (mVar 2) (mK (.int 1))) mNil))) mNil) (le s es (.int many) (es.map Ent.sum) [] .u (bwL es true) (bwL es false) .u .u .u .u) = .ok (rangeD 0 T.toNat, le s1 es (.int many) (es.map Ent.sum) [] .u (bwL es true) (bwL es false) .u .u .u .u) := by
        unfold le
        simp [p1, r1]
      rw [hm, y1]
      exact q
    · unfold le
      generalize (prs S).map tD = PD at *
      generalize smD S = SS at *
      simp [po]
    · have := prs_len S; omega
end Law
end
section
namespace Law
open PySem Vm
def T (ps : List Tr) : Sm := ps.map fun p => (keyT p, p.2.2)
theorem ks_T (ps : List Tr) : ks (T ps) = ps.map keyT := by unfold ks T; rw [List.map_map]; rfl
theorem tot_T (ps : List Tr) (i : Nat) : tot (T ps) (fun k => k.1 == i) + tot (T ps) (fun k => k.2 == i) = trS ps i := by
  induction ps with
  | nil => rfl
  | cons p ps ih =>
    rw [trS_cons, ← ih]
    simp only [T, tot, List.map_cons, List.sum_cons, beq_iff_eq]
    omega
theorem Fit.sd {es : List Ent} {ps : List Tr} (F : Fit es ps) : Sd es (T ps) := by
  refine ⟨by rw [ks_T]; exact inc_nd F.inc, fun x hx => ?_, fun i hi => by rw [tot_T]; exact F.bd i hi⟩
  obtain ⟨p, hp, rfl⟩ := List.mem_map.mp hx
  have := F.pr p hp
  exact ⟨this.1, by show 0 ≤ p.2.2; omega⟩
theorem trS_ge {ps : List Tr} (h : ∀ p ∈ ps, 1 ≤ p.2.2) {p : Tr} (hp : p ∈ ps) : p.2.2 ≤ trS ps p.1 := by
  induction ps with
  | nil => cases hp
  | cons q ps ih =>
    have nn := trS_nn (fun r hr => Int.le_trans (by decide) (h r (.tail _ hr))) p.1
    have h1 := h q (.head _)
    rw [trS_cons]
    rcases List.mem_cons.mp hp with e | hp
    · subst e
      simp only [if_true]
      split <;> omega
    · have := ih (fun r hr => h r (.tail _ hr)) hp
      split <;> split <;> omega
theorem Fit.le {es : List Ent} {ps : List Tr} (F : Fit es ps) (bd : ∀ e ∈ es, e.sum ≤ 10 ^ 30) {p : Tr} (hp : p ∈ ps) : p.2.2 ≤ 10 ^ 30 := by
  have h1 := trS_ge (fun q hq => (F.pr q hq).2) hp
  have h2 := F.bd p.1 (F.pr p hp).1.b1
  have h3 := bd _ (gE_mem (F.pr p hp).1.b1)
  have h4 : smN es p.1 = (gE es p.1).sum := rfl
  have h5 : smN es (keyT p).1 = smN es p.1 := rfl
  have h6 : (gE es (keyT p).1).sum = smN es p.1 := rfl
  omega
def gT (ps : List Tr) (i : Nat) : Tr := ps.getD i (0, 0, 0)
theorem gT_at {ps : List Tr} {i : Nat} (h : i < ps.length) : ps[i]? = some (gT ps i) := by
  unfold gT
  rw [List.getD_eq_getElem?_getD, List.getElem?_eq_getElem h]
  rfl
theorem gT_mem {ps : List Tr} {i : Nat} (h : i < ps.length) : gT ps i ∈ ps := List.mem_of_getElem? (gT_at h)
theorem at_tr {ps : List Tr} {i : Nat} (h : i < ps.length) : L2.atI (ps.map tD) (i : Int) = some (tD (gT ps i)) := by
  rw [atI_nat _ i (by rw [List.length_map]; exact h), List.getElem_map]
  have := gT_at h
  rw [List.getElem?_eq_getElem h] at this
  rw [Option.some.inj this]
@[simp] theorem rs_tD (env : Sls) (p : Tr) : rs env (tD p) = .ok (tD p) := rfl
@[simp] theorem kp_tD (p : Tr) : kp (tD p) = .ok (tD p) := rfl
@[simp] theorem al_tD (p : Tr) (ds : List D) : allKp (tD p :: ds) = allKp ds := rfl
@[simp] theorem ix_tD0 (p : Tr) : ixA (tD p) (.int 0) = .ok (.int (p.1 : Int)) := rfl
@[simp] theorem ix_tD1 (p : Tr) : ixA (tD p) (.int 1) = .ok (.int (p.2.1 : Int)) := rfl
@[simp] theorem ix_tD2 (p : Tr) : ixA (tD p) (.int 2) = .ok (.int p.2.2) := rfl
theorem tab_loop {L a1 a2 a3 : D} : ∀ (ps : List Tr) (S : Sm) (x5 x6 x7 : Sl), np x5 = true → np x6 = true → np x7 = true → (ks S ++ ps.map keyT).Nodup → S.length + ps.length ≤ 1000 →
    ∃ y5 y6 y7, np y5 = true ∧ np y6 = true ∧ np y7 = true ∧ forL (gmT 3 (gmCons (gmN 5) (gmCons (gmN 6) (gmCons (gmN 7) gmNil)))) lb__law_swapped_1 (ps.map tD) [.t L, .t a1, .t a2, .t a3, .l (.dct (smD S)), x5, x6, x7, .u, .u] =
      .ok (.next, [.t L, .t a1, .t a2, .t a3, .l (.dct (smD (S ++ T ps))), y5, y6, y7, .u, .u])
  | [], S, x5, x6, x7, n5, n6, n7, _, _ => ⟨x5, x6, x7, n5, n6, n7, by rw [show S ++ T [] = S from List.append_nil S]; rfl⟩
  | p :: ps, S, x5, x6, x7, n5, n6, n7, nd, hz => by
    have hk : keyT p ∉ ks S := fun z => (List.nodup_append.mp nd).2.2 _ z (keyT p) (by rw [List.map_cons]; exact .head _) rfl
    have e1 : pt S (keyT p) p.2.2 = S ++ [(keyT p, p.2.2)] := pt_new S _ _ hk
    have e2 : ks (S ++ [(keyT p, p.2.2)]) ++ ps.map keyT = ks S ++ (p :: ps).map keyT := by unfold ks; simp
    obtain ⟨y5, y6, y7, m5, m6, m7, q⟩ := tab_loop (L := L) (a1 := a1) (a2 := a2) (a3 := a3) ps (S ++ [(keyT p, p.2.2)]) (.t (.int p.1)) (.t (.int p.2.1)) (.t (.int p.2.2)) rfl rfl rfl (by rw [e2]; exact nd) (by simp at hz ⊢; omega)
    refine ⟨y5, y6, y7, m5, m6, m7, ?_⟩
    have e3 : S ++ [(keyT p, p.2.2)] ++ T ps = S ++ T (p :: ps) := by unfold T; simp
    rw [e3] at q
    have sz : 100000 ≤ sizeLine := by decide
    have g2 := putD_sm (List.nodup_append.mp nd).1 (keyT p) p.2.2
    rw [e1] at g2
    have g3 : (smD S).length < sizeLine := by unfold smD; rw [List.length_map]; simp at hz; omega
    have kk : keysL [.int (p.1 : Int), .int (p.2.1 : Int)] = some (kyK (keyT p)) := rfl
    have g : gmT 3 (gmCons (gmN 5) (gmCons (gmN 6) (gmCons (gmN 7) gmNil))) (tD p) [.t L, .t a1, .t a2, .t a3, .l (.dct (smD S)), x5, x6, x7, .u, .u] = .ok [.t L, .t a1, .t a2, .t a3, .l (.dct (smD S)), .t (.int p.1), .t (.int p.2.1), .t (.int p.2.2), .u, .u] := by simp [tD, n5, n6, n7]
    have b : lb__law_swapped_1 [.t L, .t a1, .t a2, .t a3, .l (.dct (smD S)), .t (.int p.1), .t (.int p.2.1), .t (.int p.2.2), .u, .u] = .ok (.next, [.t L, .t a1, .t a2, .t a3, .l (.dct (smD (S ++ [(keyT p, p.2.2)]))), .t (.int p.1), .t (.int p.2.1), .t (.int p.2.2), .u, .u]) := by
      generalize smD (S ++ [(keyT p, p.2.2)]) = S2 at *
      generalize smD S = S1 at *
      simp [mPutT, g2, g3, kk]
    rw [List.map_cons]
    unfold forL
    rw [g]
    simp only [noE_ok, y1, b]
    exact q
theorem swap_ok {es : List Ent} {ps : List Tr} (F : Fit es ps) (hz : ps.length ≤ 500) {i j : Nat} (hi : i < ps.length) (hj : j < ps.length) (nb : (gT ps i).1 ≠ (gT ps j).1) (np' : (gT ps i).2.1 ≠ (gT ps j).2.1) {m : Int} (m0 : 0 ≤ m) (m1 : m ≤ (gT ps i).2.2) (m2 : m ≤ (gT ps j).2.2) :
    ∃ qs : List Tr, m__law_swapped [.lst (ps.map tD), .int (i : Int), .int (j : Int), .int m] = .ok (.lst (qs.map tD)) ∧ Fit es qs ∧ qs.length ≤ ps.length + 2 := by
  have S := F.sd
  have hp := gT_mem hi
  have hq := gT_mem hj
  have P1 := (F.pr _ hp).1
  have P2 := (F.pr _ hq).1
  have a1 := at_tr hi
  have a2 := at_tr hj
  have v1 : vl (T ps) (keyT (gT ps i)) = some (gT ps i).2.2 := vl_mem (x := (keyT (gT ps i), (gT ps i).2.2)) S.nd (List.mem_map.mpr ⟨_, hp, rfl⟩)
  have v2 : vl (T ps) (keyT (gT ps j)) = some (gT ps j).2.2 := vl_mem (x := (keyT (gT ps j), (gT ps j).2.2)) S.nd (List.mem_map.mpr ⟨_, hq, rfl⟩)
  obtain ⟨y5, y6, y7, n5, n6, n7, q⟩ := tab_loop (L := .lst (ps.map tD)) (a1 := .int i) (a2 := .int j) (a3 := .int m) ps [] .u .u .u rfl rfl rfl (by simp only [ks, List.map_nil, List.nil_append]; exact inc_nd F.inc) (by simp; omega)
  rw [List.nil_append] at q
  have lT : (T ps).length = ps.length := List.length_map _
  generalize T ps = S0 at *
  generalize gT ps i = gi at *
  generalize gT ps j = gj at *
  obtain ⟨b, p, v⟩ := gi
  obtain ⟨b', p', v'⟩ := gj
  simp only [keyT] at nb np' m1 m2 v1 v2 P1 P2
  have k12 : ((b', p') : Kp) ≠ (b, p) := fun z => nb (Prod.mk.inj z).1.symm
  have w2 : vl (pt S0 (b, p) (v - m)) (b', p') = some v' := by rw [vl_else _ _ _ _ k12]; exact v2
  -- the four changes
  let S1 := pt S0 (b, p) (v - m)
  let S2 := pt S1 (b', p') (v' - m)
  let S3 := pt S2 (b, p') ((vl S2 (b, p')).getD 0 + m)
  let S4 := pt S3 (b', p) ((vl S3 (b', p)).getD 0 + m)
  have nd1 : (ks S1).Nodup := nd_pt S.nd
  have nd2 : (ks S2).Nodup := nd_pt nd1
  have nd3 : (ks S3).Nodup := nd_pt nd2
  have nd4 : (ks S4).Nodup := nd_pt nd3
  have t4 : ∀ f : Kp → Bool, tot S4 f = tot S0 f + (if f (b, p) = true then -m else 0) + (if f (b', p') = true then -m else 0) + (if f (b, p') = true then m else 0) + (if f (b', p) = true then m else 0) := fun f => by
    show tot (pt S3 (b', p) ((vl S3 (b', p)).getD 0 + m)) f = _
    rw [tot_step]
    show tot (pt S2 (b, p') ((vl S2 (b, p')).getD 0 + m)) f + _ = _
    rw [tot_step]
    show tot (pt S1 (b', p') (v' - m)) f + _ + _ = _
    rw [tot_pt]
    show tot (pt S0 (b, p) (v - m)) f + (if f (b', p') = true then v' - m - (vl (pt S0 (b, p) (v - m)) (b', p')).getD 0 else 0) + _ + _ = _
    rw [tot_pt, w2, v1]
    simp only [Option.getD_some]
    have e1 : (if f (b, p) = true then v - m - v else 0) = if f (b, p) = true then -m else 0 := by split <;> omega
    have e2 : (if f (b', p') = true then v' - m - v' else 0) = if f (b', p') = true then -m else 0 := by split <;> omega
    rw [e1, e2]
  have P3 : PrOk es (b, p') := ⟨P1.b1, P1.b2, P2.p1, P2.p2⟩
  have P4 : PrOk es (b', p) := ⟨P2.b1, P2.b2, P1.p1, P1.p2⟩
  have nn : ∀ (s : Sm) (k : Kp), (∀ x ∈ s, PrOk es x.1 ∧ 0 ≤ x.2) → 0 ≤ (vl s k).getD 0 := fun s k h => by
    cases q : vl s k with
    | none => exact Int.le_refl _
    | some x => exact (h _ (vl_in q)).2
  have pr1 : ∀ x ∈ S1, PrOk es x.1 ∧ 0 ≤ x.2 := fun x hx => by
    rcases mem_pt hx with rfl | hx
    · exact ⟨P1, by show 0 ≤ v - m; omega⟩
    · exact S.pr x hx
  have pr2 : ∀ x ∈ S2, PrOk es x.1 ∧ 0 ≤ x.2 := fun x hx => by
    rcases mem_pt hx with rfl | hx
    · exact ⟨P2, by show 0 ≤ v' - m; omega⟩
    · exact pr1 x hx
  have pr3 : ∀ x ∈ S3, PrOk es x.1 ∧ 0 ≤ x.2 := fun x hx => by
    rcases mem_pt hx with rfl | hx
    · exact ⟨P3, by have := nn S2 (b, p') pr2; show 0 ≤ (vl S2 (b, p')).getD 0 + m; omega⟩
    · exact pr2 x hx
  have pr4 : ∀ x ∈ S4, PrOk es x.1 ∧ 0 ≤ x.2 := fun x hx => by
    rcases mem_pt hx with rfl | hx
    · exact ⟨P4, by have := nn S3 (b', p) pr3; show 0 ≤ (vl S3 (b', p)).getD 0 + m; omega⟩
    · exact pr3 x hx
  have SD : Sd es S4 := by
    refine ⟨nd4, pr4, fun x hx => ?_⟩
    rw [t4, t4]
    have := S.bd x hx
    simp only [beq_iff_eq]
    by_cases c1 : b = x <;> by_cases c2 : b' = x <;> by_cases c3 : p = x <;> by_cases c4 : p' = x <;> simp only [c1, c2, c3, c4, if_true, if_false] <;> omega
  have l1 := len_pt S0 (b, p) (v - m)
  have l4 : S4.length ≤ ps.length + 2 := by
    have hh : ∀ (s : Sm) (k : Kp) (x : Int) (w : Int), vl s k = some w → (pt s k x).length = s.length := by
      intro s k x w h
      induction s with
      | nil => cases h
      | cons y s ih =>
        unfold vl at h
        unfold pt
        by_cases q : y.1 = k
        · rw [if_pos q]; rfl
        · rw [if_neg q] at h ⊢
          rw [List.length_cons, List.length_cons, ih h]
    have h1 : S1.length = S0.length := hh S0 (b, p) (v - m) v v1
    have h2 : S2.length = S1.length := hh S1 (b', p') (v' - m) v' w2
    have h3 := len_pt S2 (b, p') ((vl S2 (b, p')).getD 0 + m)
    have h4 := len_pt S3 (b', p) ((vl S3 (b', p)).getD 0 + m)
    have h3' : S3.length ≤ S2.length + 1 := h3
    have h4' : S4.length ≤ S3.length + 1 := h4
    omega
  refine ⟨prs S4, ?_, SD.fit, Nat.le_trans (prs_len S4) l4⟩
  have sz : 100000 ≤ sizeLine := by decide
  have L : ∀ s : Sm, s.length ≤ ps.length + 2 → (smD s).length < sizeLine := fun s h => by unfold smD; rw [List.length_map]; omega
  have h1 : S1.length ≤ S0.length + 1 := len_pt _ _ _
  have g0 := L S0 (by omega)
  have g1 := L S1 (by omega)
  have g2 : (smD S2).length < sizeLine := L S2 (by
    have h4' : S4.length ≤ ps.length + 2 := l4
    have := len_pt S1 (b', p') (v' - m)
    have h2 : S2.length ≤ S1.length + 1 := this
    omega)
  have g3 : (smD S3).length < sizeLine := by
    have h2 : S2.length ≤ S1.length + 1 := len_pt _ _ _
    have h3 : S3.length ≤ S2.length + 1 := len_pt _ _ _
    unfold smD; rw [List.length_map]; omega
  have u0 := putD_sm S.nd (b, p) (v - m)
  have u1 := putD_sm nd1 (b', p') (v' - m)
  have u2 := putD_sm nd2 (b, p') ((vl S2 (b, p')).getD 0 + m)
  have u3 := putD_sm nd3 (b', p) ((vl S3 (b', p)).getD 0 + m)
  have x0 := ixT_sm v1
  have x1 := ixT_sm (s := S1) w2
  have x2 := getA_sm S2 b p'
  have x3 := getA_sm S3 b' p
  have po := pairs_ok nd4
  have kk : ∀ x y : Nat, keysL [.int (x : Int), .int (y : Int)] = some (kyK (x, y)) := fun _ _ => rfl
  change putD (smD S0) (kyK (b, p)) (.int (v - m)) = smD S1 at u0
  change putD (smD S1) (kyK (b', p')) (.int (v' - m)) = smD S2 at u1
  change putD (smD S2) (kyK (b, p')) _ = smD S3 at u2
  change putD (smD S3) (kyK (b', p)) _ = smD S4 at u3
  generalize (vl S2 (b, p')).getD 0 = V2 at *
  generalize (vl S3 (b', p)).getD 0 = V3 at *
  clear_value S4
  generalize (prs S4).map tD = PD at *
  generalize smD S4 = D4 at *
  clear_value S3
  generalize smD S3 = D3 at *
  clear_value S2
  generalize smD S2 = D2 at *
  clear_value S1
  generalize smD S1 = D1 at *
  generalize hD0 : smD S0 = D0 at *
  generalize ps.map tD = PS at *
  have e0 : smD [] = [] := rfl
  rw [e0] at q
  refine run_ends (ends_sq (e2 := [.t (.lst PS), .t (.int i), .t (.int j), .t (.int m), .l (.dct []), .u, .u, .u, .u, .u]) (by simp [mDicT0]) ?_)
  refine ends_sq (e2 := [.t (.lst PS), .t (.int i), .t (.int j), .t (.int m), .l (.dct D0), y5, y6, y7, .u, .u]) (by simp [q]) ?_
  refine ends_sq (e2 := [.t (.lst PS), .t (.int i), .t (.int j), .t (.int m), .l (.dct D0), .t (.int b), .t (.int p), y7, .u, .u]) (by simp [mPar, a1, n5, n6]) ?_
  refine ends_sq (e2 := [.t (.lst PS), .t (.int i), .t (.int j), .t (.int m), .l (.dct D0), .t (.int b), .t (.int p), y7, .t (.int b'), .t (.int p')]) (by simp [mPar, a2]) ?_
  refine ends_sq (e2 := [.t (.lst PS), .t (.int i), .t (.int j), .t (.int m), .l (.dct D1), .t (.int b), .t (.int p), y7, .t (.int b'), .t (.int p')]) (by simp [mPutT, x0, kk, g0, u0]) ?_
  refine ends_sq (e2 := [.t (.lst PS), .t (.int i), .t (.int j), .t (.int m), .l (.dct D2), .t (.int b), .t (.int p), y7, .t (.int b'), .t (.int p')]) (by simp [mPutT, x1, kk, g1, u1]) ?_
  refine ends_sq (e2 := [.t (.lst PS), .t (.int i), .t (.int j), .t (.int m), .l (.dct D3), .t (.int b), .t (.int p), y7, .t (.int b'), .t (.int p')]) (by simp [mPutT, mGetA, x2, kk, g2, u2]) ?_
  refine ends_sq (e2 := [.t (.lst PS), .t (.int i), .t (.int j), .t (.int m), .l (.dct D4), .t (.int b), .t (.int p), y7, .t (.int b'), .t (.int p')]) (by simp [mPutT, mGetA, x3, kk, g3, u3]) ?_
  exact ends_is (by simp [po]; rfl)
end Law
end
section
namespace Law
open PySem Vm
def UT (x : Sl) : Prop := x = .u ∨ ∃ i : Int, x = .t (.int i)
theorem UT.np {x : Sl} (h : UT x) : Vm.np x = true := by rcases h with rfl | ⟨i, rfl⟩ <;> rfl
def pD (x : Kp) : D := .tup [nD x.1, nD x.2]
def Crs (ps : List Tr) (x : Kp) : Prop := x.1 < ps.length ∧ x.2 < x.1 ∧ (gT ps x.1).1 ≠ (gT ps x.2).1 ∧ (gT ps x.1).2.1 ≠ (gT ps x.2).2.1
def crF (ps : List Tr) (i f : Nat) : Bool := decide (((gT ps i).1 : Int) ≠ (gT ps f).1) && decide (((gT ps i).2.1 : Int) ≠ (gT ps f).2.1)
theorem spot_step {ps : List Tr} (hz : ps.length ≤ 100) {i : Nat} (hi : i < ps.length) {L : List Kp} (hL : L.length ≤ 10000) {s L0 t4 t2 : D} {x7 x8 x9 : Sl} (n7 : np x7 = true) (u9 : UT x9) :
    lb__law_a_kin_1 [.p s, .t L0, .t t2, .t (.lst (ps.map tD)), .t t4, .t (.lst (L.map pD)), .t (.int (i : Int)), x7, x8, x9] =
      .ok (.next, [.p s, .t L0, .t t2, .t (.lst (ps.map tD)), .t t4, .t (.lst ((L ++ ((List.range i).filter (crF ps i)).map fun f => (i, f)).map pD)), .t (.int (i : Int)), .t (tD (gT ps i)), x8, x9]) := by
  have sz : 100000 ≤ sizeLine := by decide
  have a1 := at_tr hi
  have c1 := lf1m (i := 9) (t := ct__law_a_kin_1) (m := cm__law_a_kin_1) (env := [.p s, .t L0, .t t2, .t (.lst (ps.map tD)), .t t4, .t (.lst (L.map pD)), .t (.int (i : Int)), .t (tD (gT ps i)), x8, .u]) (fun k : Nat => D.int (k : Int)) (crF ps i) (fun f => pD (i, f)) (List.range i) (fun f hf => by
    have hf' := List.mem_range.mp hf
    have a2 := at_tr (ps := ps) (i := f) (by omega)
    unfold crF
    generalize ps.map tD = PS at *
    generalize L.map pD = LS at *
    by_cases h1 : ((gT ps i).1 : Int) = (gT ps f).1 <;> by_cases h2 : ((gT ps i).2.1 : Int) = (gT ps f).2.1 <;> simp [a2, h1, h2]) (fun f hf _ => ⟨by simp [pD, nD], rfl⟩)
  have e1 : ((List.range i).filter (crF ps i)).map (fun f => pD (i, f)) = (((List.range i).filter (crF ps i)).map fun f => ((i, f) : Kp)).map pD := by rw [List.map_map]; rfl
  rw [e1] at c1
  have hlen : (((List.range i).filter (crF ps i)).map fun f => ((i, f) : Kp)).length ≤ i := by
    rw [List.length_map]
    exact Nat.le_trans (List.length_filter_le _ _) (by rw [List.length_range]; exact Nat.le_refl _)
  generalize (((List.range i).filter (crF ps i)).map fun f => ((i, f) : Kp)) = N at *
  have hs : (L.map pD).length + (N.map pD).length ≤ sizeLine := by rw [List.length_map, List.length_map]; omega
  have em : (L ++ N).map pD = L.map pD ++ N.map pD := List.map_append
  rw [em]
  have rr : rangeD 0 i = (List.range i).map fun k : Nat => D.int (k : Int) := rangeD_map _
  have r1 := rg1_ok (j := (i : Int)) (by omega) (by omega)
  refine sq_ok (e2 := [.p s, .t L0, .t t2, .t (.lst (ps.map tD)), .t t4, .t (.lst (L.map pD)), .t (.int (i : Int)), .t (tD (gT ps i)), x8, x9]) ?_ ?_
  · generalize ps.map tD = PS at *
    simp [a1, n7]
  · generalize L.map pD = LS at *
    generalize N.map pD = NS at *
    generalize ps.map tD = PS at *
    generalize tD (gT ps i) = G at *
    rcases u9 with rfl | ⟨z, rfl⟩ <;> simp [okWipe, wipeE, backE, r1, rr, c1, hs]
theorem kin_step {n : Int} {s : D} {es : List Ent} {ps : List Tr} {L0 t2 t4 : D} (hn : n < 500000) (J : Jar n s) (bd : ∀ e ∈ es, e.sum ≤ 10 ^ 30) (F : Fit es ps) (hz : ps.length ≤ 98) {x5 x6 x7 x8 x9 : Sl} (n5 : np x5 = true) (n6 : np x6 = true) (n7 : np x7 = true) (n8 : np x8 = true) (u9 : UT x9) :
    ∃ (s' : D) (qs : List Tr) (y5 y6 y7 y8 y9 : Sl), lb__law_a_kin_2 [.p s, .t L0, .t t2, .t (.lst (ps.map tD)), .t t4, x5, x6, x7, x8, x9] = .ok (.next, [.p s', .t L0, .t t2, .t (.lst (qs.map tD)), .t t4, y5, y6, y7, y8, y9]) ∧
      np y5 = true ∧ np y6 = true ∧ np y7 = true ∧ np y8 = true ∧ UT y9 ∧ Jar (n + 8) s' ∧ Fit es qs ∧ qs.length ≤ ps.length + 2 := by
  have sz : 100000 ≤ sizeLine := by decide
  obtain ⟨e', q, L, x6', x7', rfl, m6, m7, hL, hC⟩ := forL_inv (gv := gmN 6) (b := lb__law_a_kin_1)
    (fun i e => ∃ (L : List Kp) (x6 x7 : Sl), e = [.p s, .t L0, .t t2, .t (.lst (ps.map tD)), .t t4, .t (.lst (L.map pD)), x6, x7, x8, x9] ∧ np x6 = true ∧ np x7 = true ∧ L.length ≤ 100 * i ∧ ∀ x ∈ L, Crs ps x)
    (rangeD 0 ps.length) [.p s, .t L0, .t t2, .t (.lst (ps.map tD)), .t t4, .t (.lst []), x6, x7, x8, x9] 0 ⟨[], x6, x7, rfl, n6, n7, by simp, fun x hx => by cases hx⟩ (fun i d e hi ⟨L, x6, x7, he, n6, n7, hL, hC⟩ => by
      subst he
      have hl := (List.getElem?_eq_some_iff.mp hi).1
      rw [rangeD_length] at hl
      rw [range_get hl] at hi
      cases hi
      rw [Nat.zero_add] at hL
      have b := spot_step (s := s) (L0 := L0) (t2 := t2) (t4 := t4) (x8 := x8) (by omega) hl (L := L) (by omega) n7 u9
      refine ⟨_, _, by simp [n6], .inl b, _, _, _, rfl, rfl, rfl, ?_, fun x hx => ?_⟩
      · rw [List.length_append, List.length_map]
        have := List.length_filter_le (crF ps i) (List.range i)
        rw [List.length_range] at this
        omega
      · rcases List.mem_append.mp hx with hx | hx
        · exact hC x hx
        · obtain ⟨f, hf, rfl⟩ := List.mem_map.mp hx
          obtain ⟨h1, h2⟩ := List.mem_filter.mp hf
          unfold crF at h2
          rw [Bool.and_eq_true, decide_eq_true_eq, decide_eq_true_eq] at h2
          exact ⟨hl, List.mem_range.mp h1, (by show (gT ps i).1 ≠ (gT ps f).1; omega), (by show (gT ps i).2.1 ≠ (gT ps f).2.1; omega)⟩)
  rw [rangeD_length, Nat.zero_add] at hL
  have e1 : mSet 5 (mLst mNil) [.p s, .t L0, .t t2, .t (.lst (ps.map tD)), .t t4, x5, x6, x7, x8, x9] = .ok (.next, [.p s, .t L0, .t t2, .t (.lst (ps.map tD)), .t t4, .t (.lst []), x6, x7, x8, x9]) := by simp [n5]
  have r1 := rg1_ok (j := (ps.length : Int)) (by omega) (by omega)
  have e2 : mFor (mRng1 (mCons (mCallB (one lenD) (mCons (mVar 3) mNil)) mNil)) (gmN 6) lb__law_a_kin_1 [.p s, .t L0, .t t2, .t (.lst (ps.map tD)), .t t4, .t (.lst []), x6, x7, x8, x9] = .ok (.next, [.p s, .t L0, .t t2, .t (.lst (ps.map tD)), .t t4, .t (.lst (L.map pD)), x6', x7', x8, x9]) := by
    rw [z_mFor]
    have hm : mRng1 (mCons (mCallB (one lenD) (mCons (mVar 3) mNil)) mNil) [.p s, .t L0, .t t2, .t (.lst (ps.map tD)), .t t4, .t (.lst []), x6, x7, x8, x9] = .ok (rangeD 0 ps.length, [.p s, .t L0, .t t2, .t (.lst (ps.map tD)), .t t4, .t (.lst []), x6, x7, x8, x9]) := by
      simp [r1]
    rw [hm, y1]
    exact q
  have nl : neD (.lst (L.map pD)) (.lst []) = .ok (.bl (!L.isEmpty)) := by
    rw [ne_lst0 (k := 2) (lay_lst fun x hx => by
      obtain ⟨i, _, rfl⟩ := List.mem_map.mp hx
      exact lay_tup (k := 0) fun y hy => by
        simp at hy
        rcases hy with rfl | rfl <;> exact lay_int _ _)]
    cases L <;> rfl
  by_cases hLe : L = []
  · refine ⟨s, ps, .t (.lst (L.map pD)), x6', x7', x8, x9, sq_ok e1 (sq_ok e2 ?_), rfl, m6, m7, n8, u9, J.mono (by omega), F, by omega⟩
    subst hLe
    simp at nl
    generalize ps.map tD = PS at *
    simp [nl]
  · have hpos : 0 < L.length := List.length_pos_iff.mpr hLe
    obtain ⟨o, s1, p1, o0, o1, j1⟩ := pick_ok (u := (L.length : Int)) (by omega) J (by omega) (by omega)
    have ho : o.toNat < L.length := by omega
    have at1 : L2.atI (L.map pD) o = some (pD L[o.toNat]) := by
      have := atI_nat (L.map pD) o.toNat (by rw [List.length_map]; exact ho)
      rw [Int.toNat_of_nonneg o0, List.getElem_map] at this
      exact this
    obtain ⟨c1, c2, c3, c4⟩ := hC _ (List.getElem_mem ho)
    generalize L[o.toNat] = x at *
    obtain ⟨i, f⟩ := x
    simp only at c1 c2 c3 c4
    have hf : f < ps.length := by omega
    have a1 := at_tr c1
    have a2 := at_tr hf
    have g1 := (F.pr _ (gT_mem c1)).2
    have g2 := (F.pr _ (gT_mem hf)).2
    have g3 := F.le bd (gT_mem c1)
    have hLb : L.isEmpty = false := by cases L <;> first | rfl | exact absurd rfl hLe
    rw [hLb] at nl
    obtain ⟨r, s2, p2, r0, r1', j2⟩ := pick_ok (u := 2) (by omega) j1 (by decide) (by decide)
    have hmin : 0 < min (gT ps i).2.2 (gT ps f).2.2 := by omega
    obtain ⟨w, s3, p3, w0, w1, j3⟩ := wide_ok (u := min (gT ps i).2.2 (gT ps f).2.2) (by omega) j2 hmin (by omega)
    have hll : (L.map pD).length = L.length := List.length_map _
    have s4 : mUnp (gmT 2 (gmCons (gmN 6) (gmCons (gmN 9) gmNil))) (mBin ixA (mVar 5) (mCallJ 2 m__law_pick (mCons (mVar 0) (mCons (mCallB (one lenD) (mCons (mVar 5) mNil)) mNil)))) [.p s, .t L0, .t t2, .t (.lst (ps.map tD)), .t t4, .t (.lst (L.map pD)), x6', x7', x8, x9] =
        .ok (.next, [.p s1, .t L0, .t t2, .t (.lst (ps.map tD)), .t t4, .t (.lst (L.map pD)), .t (.int i), x7', x8, .t (.int f)]) := by
      have n9 := u9.np
      generalize ps.map tD = PS at *
      generalize L.map pD = LS at *
      simp [hll, p1, at1, pD, nD, m6, n9]
    have s5 : mSet 8 (mCallB (two minD) (mCons (mBin ixA (mBin ixA (mVar 3) (mVar 6)) (mK (.int 2))) (mCons (mBin ixA (mBin ixA (mVar 3) (mVar 9)) (mK (.int 2))) mNil))) [.p s1, .t L0, .t t2, .t (.lst (ps.map tD)), .t t4, .t (.lst (L.map pD)), .t (.int i), x7', x8, .t (.int f)] =
        .ok (.next, [.p s1, .t L0, .t t2, .t (.lst (ps.map tD)), .t t4, .t (.lst (L.map pD)), .t (.int i), x7', .t (.int (min (gT ps i).2.2 (gT ps f).2.2)), .t (.int f)]) := by
      generalize ps.map tD = PS at *
      generalize L.map pD = LS at *
      simp [a1, a2, n8]
      omega
    obtain ⟨m, s6, e6, M0, M1, j6⟩ : ∃ (m : Int) (s6 : D), mIf (mTru (mBin eqD (mCallJ 2 m__law_pick (mCons (mVar 0) (mCons (mK (.int 2)) mNil))) (mK (.int 0)))) (mVar 8) (mBin addD (mK (.int 1)) (mCallJ 2 m__law_wide (mCons (mVar 0) (mCons (mVar 8) mNil)))) [.p s1, .t L0, .t t2, .t (.lst (ps.map tD)), .t t4, .t (.lst (L.map pD)), .t (.int i), x7', .t (.int (min (gT ps i).2.2 (gT ps f).2.2)), .t (.int f)] =
        .ok (.int m, [.p s6, .t L0, .t t2, .t (.lst (ps.map tD)), .t t4, .t (.lst (L.map pD)), .t (.int i), x7', .t (.int (min (gT ps i).2.2 (gT ps f).2.2)), .t (.int f)]) ∧ 0 ≤ m ∧ m ≤ min (gT ps i).2.2 (gT ps f).2.2 ∧ Jar (n + 8) s6 := by
      generalize min (gT ps i).2.2 (gT ps f).2.2 = M at *
      generalize ps.map tD = PS at *
      generalize L.map pD = LS at *
      by_cases hr : r = 0
      · exact ⟨M, s2, by simp [p2, hr], by omega, Int.le_refl _, j2.mono (by omega)⟩
      · exact ⟨1 + w, s3, by simp [p2, hr, p3], by omega, by omega, j3.mono (by omega)⟩
    obtain ⟨qs, sw, Fq, lq⟩ := swap_ok F (by omega) c1 hf c3 c4 M0 (by omega) (by omega)
    refine ⟨s6, qs, .t (.lst (L.map pD)), .t (.int i), x7', .t (.int (min (gT ps i).2.2 (gT ps f).2.2)), .t (.int f), sq_ok e1 (sq_ok e2 ?_), rfl, rfl, m7, rfl, .inr ⟨_, rfl⟩, j6, Fq, lq⟩
    generalize min (gT ps i).2.2 (gT ps f).2.2 = M at *
    have s7 : mSet 3 (mCall 4 m__law_swapped (mCons (mVar 3) (mCons (mVar 6) (mCons (mVar 9) (mCons (mIf (mTru (mBin eqD (mCallJ 2 m__law_pick (mCons (mVar 0) (mCons (mK (.int 2)) mNil))) (mK (.int 0)))) (mVar 8) (mBin addD (mK (.int 1)) (mCallJ 2 m__law_wide (mCons (mVar 0) (mCons (mVar 8) mNil))))) mNil))))) [.p s1, .t L0, .t t2, .t (.lst (ps.map tD)), .t t4, .t (.lst (L.map pD)), .t (.int i), x7', .t (.int M), .t (.int f)] =
        .ok (.next, [.p s6, .t L0, .t t2, .t (.lst (qs.map tD)), .t t4, .t (.lst (L.map pD)), .t (.int i), x7', .t (.int M), .t (.int f)]) := by
      generalize hPS : ps.map tD = PS at *
      generalize L.map pD = LS at *
      generalize qs.map tD = QS at *
      generalize hmf : mIf (mTru (mBin eqD (mCallJ 2 m__law_pick (mCons (mVar 0) (mCons (mK (.int 2)) mNil))) (mK (.int 0)))) (mVar 8) (mBin addD (mK (.int 1)) (mCallJ 2 m__law_wide (mCons (mVar 0) (mCons (mVar 8) mNil)))) = mf at *
      simp [e6, sw]
    rw [z_mIfS]
    have c : mTru (mBin neD (mVar 5) (mLst mNil)) [.p s, .t L0, .t t2, .t (.lst (ps.map tD)), .t t4, .t (.lst (L.map pD)), x6', x7', x8, x9] = .ok (true, [.p s, .t L0, .t t2, .t (.lst (ps.map tD)), .t t4, .t (.lst (L.map pD)), x6', x7', x8, x9]) := by
      generalize ps.map tD = PS at *
      generalize L.map pD = LS at *
      simp at nl
      simp [nl]
    rw [c, y1]
    simp only [if_true]
    exact sq_ok s4 (sq_ok s5 s7)
theorem kin_ok {n : Int} {s : D} {es : List Ent} {ps : List Tr} {turns : Int} (hn : n < 400000) (J : Jar n s) (bd : ∀ e ∈ es, e.sum ≤ 10 ^ 30) (F : Fit es ps) (hz : ps.length ≤ 61) (t0 : 0 ≤ turns) (t1 : turns ≤ 4) :
    ∃ (qs : List Tr) (s' : D), m__law_a_kin s [.lst (ps.map tD), .int turns] = .ok (.lst (qs.map tD), s') ∧ Jar (n + 40) s' ∧ Fit es qs ∧ qs.length ≤ 69 := by
  obtain ⟨e', q, s', qs, x4, x5, x6, x7, x8, x9, rfl, -, -, -, -, -, -, j, Fq, lq⟩ := forL_inv (gv := gmN 4) (b := lb__law_a_kin_2)
    (fun i e => ∃ (s' : D) (qs : List Tr) (x4 x5 x6 x7 x8 x9 : Sl), e = [.p s', .t (.lst (ps.map tD)), .t (.int turns), .t (.lst (qs.map tD)), x4, x5, x6, x7, x8, x9] ∧ np x4 = true ∧ np x5 = true ∧ np x6 = true ∧ np x7 = true ∧ np x8 = true ∧ UT x9 ∧ Jar (n + 8 * i) s' ∧ Fit es qs ∧ qs.length ≤ 61 + 2 * i)
    (rangeD 0 turns.toNat) [.p s, .t (.lst (ps.map tD)), .t (.int turns), .t (.lst (ps.map tD)), .u, .u, .u, .u, .u, .u] 0 ⟨s, ps, .u, .u, .u, .u, .u, .u, rfl, rfl, rfl, rfl, rfl, rfl, .inl rfl, J.mono (by omega), F, by omega⟩ (fun i d e hi ⟨s', qs, x4, x5, x6, x7, x8, x9, he, n4, n5, n6, n7, n8, u9, j, Fq, lq⟩ => by
      subst he
      have hl := (List.getElem?_eq_some_iff.mp hi).1
      rw [rangeD_length] at hl
      rw [range_get hl] at hi
      cases hi
      rw [Nat.zero_add] at j lq
      obtain ⟨s2, rs, y5, y6, y7, y8, y9, b, m5, m6, m7, m8, v9, j2, Fr, lr⟩ := kin_step (L0 := .lst (ps.map tD)) (t2 := .int turns) (t4 := .int (i : Int)) (by omega) j bd Fq (by omega) n5 n6 n7 n8 u9
      exact ⟨_, _, by simp [n4], .inl b, s2, rs, _, y5, y6, y7, y8, y9, rfl, rfl, m5, m6, m7, m8, v9, j2.mono (by omega), Fr, by omega⟩)
  rw [rangeD_length, Nat.zero_add] at j lq
  have r1 := rg1_ok (j := turns) (by omega) (by omega)
  refine ⟨qs, s', ?_, j.mono (by omega), Fq, by omega⟩
  generalize ps.map tD = PS at *
  generalize qs.map tD = QS at *
  exact runJ_ends (sqJ (e2 := [.p s, .t (.lst PS), .t (.int turns), .t (.lst PS), .u, .u, .u, .u, .u, .u]) (by simp) (sqJ (by simp [r1, q]; rfl) (isJ (by simp; rfl) rfl)))
end Law
end
section
namespace Law
open PySem Vm
theorem trS_sub {qs ps : List Tr} (h : qs.Sublist ps) (nn : ∀ p ∈ ps, 0 ≤ p.2.2) (i : Nat) : trS qs i ≤ trS ps i := by
  induction h with
  | slnil => exact Int.le_refl _
  | cons p _ ih =>
    have := ih fun q hq => nn q (.tail _ hq)
    have h0 := nn p (.head _)
    rw [trS_cons]
    split <;> split <;> omega
  | cons_cons p _ ih =>
    have := ih fun q hq => nn q (.tail _ hq)
    rw [trS_cons, trS_cons]
    omega
theorem Fit.nn {es : List Ent} {ps : List Tr} (F : Fit es ps) : ∀ p ∈ ps, 0 ≤ p.2.2 := fun p hp => by have := (F.pr p hp).2; omega
theorem Fit.sub {es : List Ent} {ps qs : List Tr} (F : Fit es ps) (h : qs.Sublist ps) : Fit es qs :=
  ⟨fun p hp => F.pr p (h.subset hp), F.inc.sublist h, fun i hi => Int.le_trans (trS_sub h F.nn i) (F.bd i hi)⟩
def rst (ps : List Tr) (i : Nat) : List Tr := ps.take i ++ ps.drop (i + 1)
theorem cut_at {ps : List Tr} {i : Nat} (h : i < ps.length) : ps = ps.take i ++ gT ps i :: ps.drop (i + 1) := by
  have e := gT_at h
  rw [List.getElem?_eq_getElem h] at e
  rw [← Option.some.inj e, ← List.drop_eq_getElem_cons h, List.take_append_drop]
theorem rst_sub {ps : List Tr} {i : Nat} (h : i < ps.length) : (rst ps i).Sublist ps := by
  conv => rhs; rw [cut_at h]
  exact List.Sublist.append (List.Sublist.refl _) (List.sublist_cons_self _ _)
theorem trS_rst {ps : List Tr} {i : Nat} (h : i < ps.length) (k : Nat) : trS ps k = trS (rst ps i) k + ((if (gT ps i).1 = k then (gT ps i).2.2 else 0) + (if (gT ps i).2.1 = k then (gT ps i).2.2 else 0)) := by
  conv => lhs; rw [cut_at h]
  unfold rst
  rw [trS_append, trS_append, trS_cons]
  omega
theorem Fit.less {es : List Ent} {ps : List Tr} (F : Fit es ps) {i : Nat} (h : i < ps.length) {w : Int} (w0 : 1 ≤ w) (w1 : w ≤ (gT ps i).2.2) : Fit es (ps.take i ++ ((gT ps i).1, (gT ps i).2.1, w) :: ps.drop (i + 1)) := by
  have hm := gT_mem h
  refine ⟨fun p hp => ?_, ?_, fun k hk => ?_⟩
  · rcases List.mem_append.mp hp with hp | hp
    · exact F.pr p (List.mem_of_mem_take hp)
    · rcases List.mem_cons.mp hp with rfl | hp
      · exact ⟨(F.pr _ hm).1, w0⟩
      · exact F.pr p (List.mem_of_mem_drop hp)
  · have h1 : (ps.map keyT).Pairwise ltK := List.pairwise_map.mpr F.inc
    rw [cut_at h] at h1
    have h2 : ((ps.take i ++ ((gT ps i).1, (gT ps i).2.1, w) :: ps.drop (i + 1)).map keyT).Pairwise ltK := by
      rw [List.map_append, List.map_cons] at h1 ⊢
      exact h1
    exact List.pairwise_map.mp h2
  · have h1 := F.bd k hk
    have h2 := trS_rst h k
    rw [trS_append, trS_cons]
    unfold rst at h2
    rw [trS_append] at h2
    by_cases c1 : (gT ps i).1 = k <;> by_cases c2 : (gT ps i).2.1 = k <;> simp only [c1, c2, if_true, if_false] at h2 ⊢ <;> omega
theorem Fit.other {es : List Ent} {ps : List Tr} (F : Fit es ps) {i : Nat} (h : i < ps.length) {o : Nat} (ho : o ∈ bwL es true) (hr : (gT ps i).2.2 ≤ smN es o - trS (rst ps i) o) (hn : ((o, (gT ps i).2.1) : Kp) ∉ (rst ps i).map keyT) :
    Fit es (sortT (rst ps i ++ [(o, (gT ps i).2.1, (gT ps i).2.2)])) := by
  have P := (F.pr _ (gT_mem h))
  have Fr := F.sub (rst_sub h)
  obtain ⟨q1, q2⟩ := bw_mem.mp ho
  unfold bwF at q2
  rw [Bool.and_eq_true, beq_iff_eq] at q2
  have Po : PrOk es (o, (gT ps i).2.1) := ⟨q1, q2.2, P.1.p1, P.1.p2⟩
  refine ⟨fun p hp => ?_, sortT_inc ?_, fun k hk => ?_⟩
  · rcases List.mem_append.mp ((sortT_perm _).mem_iff.mp hp) with hp | hp
    · exact Fr.pr p hp
    · rw [List.mem_singleton.mp hp]; exact ⟨Po, P.2⟩
  · rw [List.map_append]
    refine List.nodup_append.mpr ⟨inc_nd Fr.inc, by simp, fun a ha b hb => ?_⟩
    rw [List.map_cons, List.map_nil, List.mem_singleton] at hb
    rw [hb]
    exact fun z => hn (by rw [z] at ha; exact ha)
  · rw [trS_perm (sortT_perm _), trS_append, trS_cons, trS_nil]
    have h1 := F.bd k hk
    have h2 := trS_rst h k
    have ne := Po.ne
    have ne2 : o ≠ (gT ps i).2.1 := ne
    have p2 := P.2
    by_cases c1 : o = k
    · subst c1
      have : ¬ (gT ps i).2.1 = o := fun z => ne2 z.symm
      simp only [this, if_true, if_false]
      omega
    · by_cases c2 : (gT ps i).2.1 = k
      · have : ¬ (gT ps i).1 = k := fun z => P.1.ne (z.trans c2.symm)
        simp only [c1, c2, this, if_true, if_false] at h2 ⊢
        omega
      · simp only [c1, c2, if_false] at h2 ⊢
        have := trS_sub (rst_sub h) F.nn k
        omega
theorem mem_kr {qs : List Tr} {a b : Nat} : [(a : Int), (b : Int)] ∈ qs.map (fun p => [(p.1 : Int), (p.2.1 : Int)]) ↔ ((a, b) : Kp) ∈ qs.map keyT := by
  rw [List.mem_map, List.mem_map]
  constructor
  · rintro ⟨p, hp, e⟩
    refine ⟨p, hp, ?_⟩
    injection e with e1 e2
    injection e2 with e2 _
    exact Prod.ext (by show p.1 = a; omega) (by show p.2.1 = b; omega)
  · rintro ⟨p, hp, e⟩
    refine ⟨p, hp, ?_⟩
    have e1 : p.1 = a := congrArg Prod.fst e
    have e2 : p.2.1 = b := congrArg Prod.snd e
    rw [e1, e2]
abbrev ne' (s : D) (es : List Ent) (PS : D) (i way : Int) (RS LF LO TK : List D) (x9 : Sl) (b p : Nat) (v : Int) : Sls := [.p s, .t (accD es), .t PS, .t (.int i), .t (.lst RS), .t (.int way), .t (.lst LF), .t (.lst LO), .t (.lst TK), x9, .t (.int b), .t (.int p), .t (.int v), .u]
theorem near_loop {es : List Ent} {ps : List Tr} (F : Fit es ps) {i : Nat} (h : i < ps.length) (hz : ps.length ≤ 100) {s PS : D} {i' way : Int} {b : Nat} : ∀ (os : List Nat) (x9 : Sl), np x9 = true → (∀ o ∈ os, o ∈ bwL es true) →
    ∃ r e', forL (gmN 9) lb__law_near_one_1 (os.map nD) (ne' s es PS i' way ((rst ps i).map tD) ((es.map Ent.sum).map D.int) ((lo es (rst ps i)).map D.int) (((rst ps i).map fun p => [(p.1 : Int), (p.2.1 : Int)]).map rowD) x9 b (gT ps i).2.1 (gT ps i).2.2) = .ok (r, e') ∧
      ((r = .next ∧ ∃ y9, e' = ne' s es PS i' way ((rst ps i).map tD) ((es.map Ent.sum).map D.int) ((lo es (rst ps i)).map D.int) (((rst ps i).map fun p => [(p.1 : Int), (p.2.1 : Int)]).map rowD) y9 b (gT ps i).2.1 (gT ps i).2.2) ∨
       ∃ qs, r = .ret (.lst (qs.map tD)) ∧ Fit es qs ∧ qs.length ≤ ps.length + 1 ∧ e'[0]? = some (.p s))
  | [], x9, _, _ => ⟨.next, _, rfl, .inl ⟨rfl, x9, rfl⟩⟩
  | o :: os, x9, n9, hos => by
    obtain ⟨r, e', q, hr⟩ := near_loop F h hz (s := s) (PS := PS) (i' := i') (way := way) (b := b) os (.t (.int (o : Int))) rfl fun k hk => hos k (.tail _ hk)
    have ho := hos o (.head _)
    have hol : o < es.length := (bw_mem.mp ho).1
    have lr : (rst ps i).length ≤ ps.length := (rst_sub h).length_le
    have a1 : L2.atI ((es.map Ent.sum).map D.int) (o : Int) = some (.int (smN es o)) := by
      rw [at_rs _ _ (by rw [List.length_map]; exact hol), List.getD_eq_getElem?_getD, List.getElem?_map, gE_at hol]
      rfl
    have a2 : L2.atI ((lo es (rst ps i)).map D.int) (o : Int) = some (.int (trS (rst ps i) o)) := by
      have hl : o < (lo es (rst ps i)).length := by unfold lo; rw [List.length_map, List.length_range]; exact hol
      rw [at_rs _ _ hl, List.getD_eq_getElem?_getD, List.getElem?_eq_getElem hl]
      simp [lo]
    have a3 := in_rows true [(o : Int), ((gT ps i).2.1 : Int)] ((rst ps i).map fun p => [(p.1 : Int), (p.2.1 : Int)])
    have rw2 : rowD [(o : Int), ((gT ps i).2.1 : Int)] = .tup [.int (o : Int), .int ((gT ps i).2.1 : Int)] := rfl
    rw [rw2] at a3
    have so := sortA_tr (rst ps i ++ [(o, (gT ps i).2.1, (gT ps i).2.2)])
    rw [List.map_append] at so
    have td : [((o, (gT ps i).2.1, (gT ps i).2.2) : Tr)].map tD = [.tup [.int (o : Int), .int ((gT ps i).2.1 : Int), .int (gT ps i).2.2]] := rfl
    rw [td] at so
    have hs : ((rst ps i).map tD).length + 1 ≤ sizeLine := by
      have sz : 100000 ≤ sizeLine := by decide
      rw [List.length_map]; omega
    have fo : (gT ps i).2.2 ≤ smN es o - trS (rst ps i) o → ((o, (gT ps i).2.1) : Kp) ∉ (rst ps i).map keyT → Fit es (sortT (rst ps i ++ [(o, (gT ps i).2.1, (gT ps i).2.2)])) := F.other h ho
    have mk : decide ([(o : Int), ((gT ps i).2.1 : Int)] ∈ (rst ps i).map (fun p => [(p.1 : Int), (p.2.1 : Int)])) = decide (((o, (gT ps i).2.1) : Kp) ∈ (rst ps i).map keyT) := decide_eq_decide.mpr mem_kr
    rw [mk] at a3
    have lq : (sortT (rst ps i ++ [(o, (gT ps i).2.1, (gT ps i).2.2)])).length ≤ ps.length + 1 := by
      rw [(sortT_perm _).length_eq, List.length_append]
      simp
      exact lr
    generalize sortT (rst ps i ++ [(o, (gT ps i).2.1, (gT ps i).2.2)]) = Q at *
    by_cases hm : ((o, (gT ps i).2.1) : Kp) ∈ (rst ps i).map keyT
    all_goals
      generalize (gT ps i).2.2 = V at *
      generalize (gT ps i).2.1 = PP at *
      generalize smN es o = SO at *
      generalize trS (rst ps i) o = TO at *
      simp only [hm, decide_true, decide_false, if_true, Bool.not_true, Bool.not_false] at a3
      rw [List.map_cons]
      unfold forL
      have g : ∀ RS LF LO TK, gmN 9 (nD o) (ne' s es PS i' way RS LF LO TK x9 b PP V) = .ok (ne' s es PS i' way RS LF LO TK (.t (.int (o : Int))) b PP V) := fun RS LF LO TK => by unfold ne'; simp [nD, n9]
      rw [g]
      simp only [noE_ok, y1]
      generalize (((rst ps i).map fun p => [(p.1 : Int), (p.2.1 : Int)]).map rowD) = TK at *
      generalize (lo es (rst ps i)).map D.int = LO at *
      generalize (es.map Ent.sum).map D.int = LF at *
      generalize hRS : (rst ps i).map tD = RS at *
      generalize hQD : Q.map tD = QD at *
    · have bb : lb__law_near_one_1 (ne' s es PS i' way RS LF LO TK (.t (.int (o : Int))) b PP V) = .ok (.next, ne' s es PS i' way RS LF LO TK (.t (.int (o : Int))) b PP V) := by
        unfold ne'
        by_cases c1 : (o : Int) = (b : Int) <;> by_cases c2 : V ≤ SO - TO <;> simp [c1, c2, a1, a2, a3]
      rw [bb]
      exact ⟨r, e', q, hr⟩
    · by_cases c1 : (o : Int) = (b : Int)
      · have bb : lb__law_near_one_1 (ne' s es PS i' way RS LF LO TK (.t (.int (o : Int))) b PP V) = .ok (.next, ne' s es PS i' way RS LF LO TK (.t (.int (o : Int))) b PP V) := by
          unfold ne'
          simp [c1]
        rw [bb]
        exact ⟨r, e', q, hr⟩
      · by_cases c2 : V ≤ SO - TO
        · have bb : lb__law_near_one_1 (ne' s es PS i' way RS LF LO TK (.t (.int (o : Int))) b PP V) = .ok (.ret (.lst QD), ne' s es PS i' way RS LF LO TK (.t (.int (o : Int))) b PP V) := by
            unfold ne'
            simp [c1, c2, a1, a2, a3, hs, so]
          rw [bb]
          exact ⟨_, _, rfl, .inr ⟨Q, by rw [hQD], fo c2 hm, lq, rfl⟩⟩
        · have bb : lb__law_near_one_1 (ne' s es PS i' way RS LF LO TK (.t (.int (o : Int))) b PP V) = .ok (.next, ne' s es PS i' way RS LF LO TK (.t (.int (o : Int))) b PP V) := by
            unfold ne'
            simp [c1, c2, a1, a2]
          rw [bb]
          exact ⟨r, e', q, hr⟩
end Law
end
section
namespace Law
open PySem Vm
theorem tr_lay (ps : List Tr) : Lay 2 (.lst (ps.map tD)) := lay_lst fun x hx => by
  obtain ⟨p, _, rfl⟩ := List.mem_map.mp hx
  exact lay_tup (k := 0) fun y hy => by
    simp at hy
    rcases hy with rfl | rfl | rfl <;> exact lay_int _ _
theorem tr_eq0 (ps : List Tr) : eqD (.lst (ps.map tD)) (.lst []) = .ok (.bl ps.isEmpty) := by
  rw [eq_lst0 (tr_lay ps)]
  cases ps <;> rfl
theorem near_ok {n : Int} {s : D} {es : List Ent} {ps : List Tr} (hn : n < 400000) (J : Jar n s) (A : Acc es) (hz : es.length ≤ 60) (bd : ∀ e ∈ es, e.sum ≤ 10 ^ 30) (F : Fit es ps) (hp : ps.length ≤ 90) :
    ∃ (qs : List Tr) (s' : D), m__law_near_one s [accD es, .lst (ps.map tD)] = .ok (.lst (qs.map tD), s') ∧ Jar (n + 20) s' ∧ Fit es qs ∧ qs.length ≤ ps.length + 1 := by
  have sz : 100000 ≤ sizeLine := by decide
  have q0 := tr_eq0 ps
  by_cases h0 : ps = []
  · subst h0
    refine ⟨[], s, ?_, J.mono (by omega), F, by simp⟩
    exact runJ_ends (nowJ (e2 := [.p s, .t (accD es), .t (.lst []), .u, .u, .u, .u, .u, .u, .u, .u, .u, .u, .u]) (by simp at q0; simp [q0]) rfl)
  · have hpos : 0 < ps.length := List.length_pos_iff.mpr h0
    obtain ⟨o, s1, p1, o0, o1, j1⟩ := pick_ok (u := (ps.length : Int)) (by omega) J (by omega) (by omega)
    obtain ⟨w, s2, p2, w0, w1, j2⟩ := pick_ok (u := 3) (by omega) j1 (by decide) (by decide)
    obtain ⟨i, rfl⟩ : ∃ i : Nat, o = (i : Int) := ⟨o.toNat, by omega⟩
    have hi : i < ps.length := by omega
    have a1 := at_tr hi
    have hx := gT_mem hi
    have Fr := F.sub (rst_sub hi)
    have lr : (rst ps i).length ≤ ps.length := (rst_sub hi).length_le
    have hb : ps.isEmpty = false := by cases ps <;> first | rfl | exact absurd rfl h0
    rw [hb] at q0
    have cu1 : cutD (ps.map tD) none (some (i : Int)) = (ps.take i).map tD := by rw [cut_head, List.map_take]
    have cu2 : cutD (ps.map tD) (some ((i : Int) + 1)) none = (ps.drop (i + 1)).map tD := by
      rw [show ((i : Int) + 1) = ((i + 1 : Nat) : Int) by omega, cut_from, List.map_drop]
    have hl1 : ((ps.take i).map tD).length + ((ps.drop (i + 1)).map tD).length ≤ sizeLine := by
      simp only [List.length_map, List.length_take, List.length_drop]; omega
    have er : (ps.take i).map tD ++ (ps.drop (i + 1)).map tD = (rst ps i).map tD := by unfold rst; rw [List.map_append]
    have lpm : (ps.map tD).length = ps.length := List.length_map _
    -- the head of the run
    have e1 : mIfS (mTru (mBin eqD (mVar 2) (mLst mNil))) (mRet (mLst mNil)) mSk [.p s, .t (accD es), .t (.lst (ps.map tD)), .u, .u, .u, .u, .u, .u, .u, .u, .u, .u, .u] = .ok (.next, [.p s, .t (accD es), .t (.lst (ps.map tD)), .u, .u, .u, .u, .u, .u, .u, .u, .u, .u, .u]) := by
      generalize ps.map tD = PS at *
      simp [q0]
    have e2 : mSet 3 (mCallJ 2 m__law_pick (mCons (mVar 0) (mCons (mCallB (one lenD) (mCons (mVar 2) mNil)) mNil))) [.p s, .t (accD es), .t (.lst (ps.map tD)), .u, .u, .u, .u, .u, .u, .u, .u, .u, .u, .u] = .ok (.next, [.p s1, .t (accD es), .t (.lst (ps.map tD)), .t (.int i), .u, .u, .u, .u, .u, .u, .u, .u, .u, .u]) := by
      generalize ps.map tD = PS at *
      simp [lpm, p1]
    have e3 : mUnp (gmT 3 (gmCons (gmN 10) (gmCons (gmN 11) (gmCons (gmN 12) gmNil)))) (mBin ixA (mVar 2) (mVar 3)) [.p s1, .t (accD es), .t (.lst (ps.map tD)), .t (.int i), .u, .u, .u, .u, .u, .u, .u, .u, .u, .u] =
        .ok (.next, [.p s1, .t (accD es), .t (.lst (ps.map tD)), .t (.int i), .u, .u, .u, .u, .u, .u, .t (.int (gT ps i).1), .t (.int (gT ps i).2.1), .t (.int (gT ps i).2.2), .u]) := by
      have ht : tD (gT ps i) = .tup [.int ((gT ps i).1 : Int), .int ((gT ps i).2.1 : Int), .int (gT ps i).2.2] := rfl
      rw [ht] at a1
      generalize (gT ps i).2.2 = V at *
      generalize ((gT ps i).2.1 : Int) = PP at *
      generalize ((gT ps i).1 : Int) = BB at *
      generalize ps.map tD = PS at *
      simp [a1]
    have e4 : mSet 4 (mBin addD (mSl sliceD (mVar 2) mNo (mPart (mVar 3))) (mSl sliceD (mVar 2) (mPart (mBin addD (mVar 3) (mK (.int 1)))) mNo)) [.p s1, .t (accD es), .t (.lst (ps.map tD)), .t (.int i), .u, .u, .u, .u, .u, .u, .t (.int (gT ps i).1), .t (.int (gT ps i).2.1), .t (.int (gT ps i).2.2), .u] =
        .ok (.next, [.p s1, .t (accD es), .t (.lst (ps.map tD)), .t (.int i), .t (.lst ((rst ps i).map tD)), .u, .u, .u, .u, .u, .t (.int (gT ps i).1), .t (.int (gT ps i).2.1), .t (.int (gT ps i).2.2), .u]) := by
      rw [← er]
      generalize (ps.take i).map tD = T1 at *
      generalize (ps.drop (i + 1)).map tD = T2 at *
      generalize ps.map tD = PS at *
      simp [cu1, cu2, hl1]
    have e5 : mSet 5 (mCallJ 2 m__law_pick (mCons (mVar 0) (mCons (mK (.int 3)) mNil))) [.p s1, .t (accD es), .t (.lst (ps.map tD)), .t (.int i), .t (.lst ((rst ps i).map tD)), .u, .u, .u, .u, .u, .t (.int (gT ps i).1), .t (.int (gT ps i).2.1), .t (.int (gT ps i).2.2), .u] =
        .ok (.next, [.p s2, .t (accD es), .t (.lst (ps.map tD)), .t (.int i), .t (.lst ((rst ps i).map tD)), .t (.int w), .u, .u, .u, .u, .t (.int (gT ps i).1), .t (.int (gT ps i).2.1), .t (.int (gT ps i).2.2), .u]) := by
      simp [p2]
    by_cases c0 : w = 0
    · refine ⟨rst ps i, s2, runJ_ends (sqJ e1 (sqJ e2 (sqJ e3 (sqJ e4 (sqJ e5 (nowJ (e2 := [.p s2, .t (accD es), .t (.lst (ps.map tD)), .t (.int i), .t (.lst ((rst ps i).map tD)), .t (.int w), .u, .u, .u, .u, .t (.int (gT ps i).1), .t (.int (gT ps i).2.1), .t (.int (gT ps i).2.2), .u]) (by simp [c0]) rfl)))))), j2.mono (by omega), Fr, by omega⟩
    have e6 : mIfS (mTru (mBin eqD (mVar 5) (mK (.int 0)))) (mRet (mVar 4)) mSk [.p s2, .t (accD es), .t (.lst (ps.map tD)), .t (.int i), .t (.lst ((rst ps i).map tD)), .t (.int w), .u, .u, .u, .u, .t (.int (gT ps i).1), .t (.int (gT ps i).2.1), .t (.int (gT ps i).2.2), .u] =
        .ok (.next, [.p s2, .t (accD es), .t (.lst (ps.map tD)), .t (.int i), .t (.lst ((rst ps i).map tD)), .t (.int w), .u, .u, .u, .u, .t (.int (gT ps i).1), .t (.int (gT ps i).2.1), .t (.int (gT ps i).2.2), .u]) := by
      simp [c0]
    by_cases c1 : w = 1 ∧ 1 < (gT ps i).2.2
    · have hle := F.le bd hx
      obtain ⟨m, s3, p3, m0, m1, j3⟩ := wide_ok (u := (gT ps i).2.2 - 1) (by omega) j2 (by omega) (by omega)
      have Fl := F.less hi (w := 1 + m) (by omega) (by omega)
      refine ⟨_, s3, runJ_ends (sqJ e1 (sqJ e2 (sqJ e3 (sqJ e4 (sqJ e5 (sqJ e6 (nowJ (e2 := [.p s3, .t (accD es), .t (.lst (ps.map tD)), .t (.int i), .t (.lst ((rst ps i).map tD)), .t (.int w), .u, .u, .u, .u, .t (.int (gT ps i).1), .t (.int (gT ps i).2.1), .t (.int (gT ps i).2.2), .u]) ?_ rfl))))))), j3.mono (by omega), Fl, ?_⟩
      · have em : (ps.take i ++ ((gT ps i).1, (gT ps i).2.1, 1 + m) :: ps.drop (i + 1)).map tD = (ps.take i).map tD ++ [.tup [.int ((gT ps i).1 : Int), .int ((gT ps i).2.1 : Int), .int (1 + m)]] ++ (ps.drop (i + 1)).map tD := by
          rw [List.map_append, List.map_cons, List.append_assoc]
          rfl
        rw [em]
        have hl2 : ((ps.take i).map tD).length + 1 ≤ sizeLine := by simp only [List.length_map, List.length_take]; omega
        have hl3 : ((ps.take i).map tD).length + 1 + ((ps.drop (i + 1)).map tD).length ≤ sizeLine := by simp only [List.length_map, List.length_take, List.length_drop]; omega
        obtain ⟨c1a, c1b⟩ := c1
        generalize (ps.take i).map tD = T1 at *
        generalize (ps.drop (i + 1)).map tD = T2 at *
        generalize (gT ps i).2.2 = V at *
        generalize ((gT ps i).2.1 : Int) = PP at *
        generalize ((gT ps i).1 : Int) = BB at *
        generalize ps.map tD = PS at *
        generalize (rst ps i).map tD = RS at *
        simp [c1a, c1b, cu1, cu2, p3, hl2, hl3]
      · rw [List.length_append, List.length_cons, List.length_take, List.length_drop]
        omega
    have e7 : mIfS (mAndT (mTru (mBin eqD (mVar 5) (mK (.int 1)))) (mTru (mBin gtD (mVar 12) (mK (.int 1))))) (mRet (mBin addD (mBin addD (mSl sliceD (mVar 2) mNo (mPart (mVar 3))) (mLst (mCons (mTup (mCons (mVar 10) (mCons (mVar 11) (mCons (mBin addD (mK (.int 1)) (mCallJ 2 m__law_wide (mCons (mVar 0) (mCons (mBin subD (mVar 12) (mK (.int 1))) mNil)))) mNil)))) mNil))) (mSl sliceD (mVar 2) (mPart (mBin addD (mVar 3) (mK (.int 1)))) mNo))) mSk
        [.p s2, .t (accD es), .t (.lst (ps.map tD)), .t (.int i), .t (.lst ((rst ps i).map tD)), .t (.int w), .u, .u, .u, .u, .t (.int (gT ps i).1), .t (.int (gT ps i).2.1), .t (.int (gT ps i).2.2), .u] =
        .ok (.next, [.p s2, .t (accD es), .t (.lst (ps.map tD)), .t (.int i), .t (.lst ((rst ps i).map tD)), .t (.int w), .u, .u, .u, .u, .t (.int (gT ps i).1), .t (.int (gT ps i).2.1), .t (.int (gT ps i).2.2), .u]) := by
      generalize ps.map tD = PS at *
      generalize (rst ps i).map tD = RS at *
      generalize (gT ps i).2.2 = V at *
      by_cases c2 : w = 1
      · have c3 : ¬ 1 < V := fun z => c1 ⟨c2, z⟩
        simp [c2, c3]
      · simp [c2]
    have c8 := lc1m (i := 13) (m := cm__law_near_one_1) (env := [.p s2, .t (accD es), .t (.lst (ps.map tD)), .t (.int i), .t (.lst ((rst ps i).map tD)), .t (.int w), .u, .u, .u, .u, .t (.int (gT ps i).1), .t (.int (gT ps i).2.1), .t (.int (gT ps i).2.2), .u]) Ent.D (fun e => .int e.sum) es fun e he => by
      cases hl : e.live with
      | true => exact ⟨by simp [hl, ix_s hl], rfl⟩
      | false =>
        cases e <;> simp [Ent.live] at hl
        exact ⟨by simp [Ent.sum], rfl⟩
    have ec : (es.map fun e => D.int e.sum) = (es.map Ent.sum).map D.int := by rw [List.map_map]; rfl
    rw [ec] at c8
    have hbr : ∀ p ∈ rst ps i, p.1 < es.length ∧ p.2.1 < es.length := fun p hp => ⟨(Fr.pr p hp).1.b1, (Fr.pr p hp).1.p1⟩
    have l9 := laid_on_ok hbr
    have c10 := lc1m (i := 13) (m := cm__law_near_one_2) (env := [.p s2, .t (accD es), .t (.lst (ps.map tD)), .t (.int i), .t (.lst ((rst ps i).map tD)), .t (.int w), .t (.lst ((es.map Ent.sum).map D.int)), .t (.lst ((lo es (rst ps i)).map D.int)), .u, .u, .t (.int (gT ps i).1), .t (.int (gT ps i).2.1), .t (.int (gT ps i).2.2), .u]) tD (fun p => rowD [(p.1 : Int), (p.2.1 : Int)]) (rst ps i) (fun p hp => ⟨by simp [rowD], rfl⟩)
    have ed : ((rst ps i).map fun p => rowD [(p.1 : Int), (p.2.1 : Int)]) = ((rst ps i).map fun p => [(p.1 : Int), (p.2.1 : Int)]).map rowD := by rw [List.map_map]; rfl
    rw [ed] at c10
    have ow := of_word_ok (es := es) (by omega) true
    obtain ⟨r, e', q, hr⟩ := near_loop F hi (by omega) (s := s2) (PS := .lst (ps.map tD)) (i' := i) (way := w) (b := (gT ps i).1) (bwL es true) .u rfl fun k hk => hk
    have e8 : mSet 6 (mLc (mSeq (mVar 1)) [13] (gmN 13) mYes cm__law_near_one_1) [.p s2, .t (accD es), .t (.lst (ps.map tD)), .t (.int i), .t (.lst ((rst ps i).map tD)), .t (.int w), .u, .u, .u, .u, .t (.int (gT ps i).1), .t (.int (gT ps i).2.1), .t (.int (gT ps i).2.2), .u] =
        .ok (.next, [.p s2, .t (accD es), .t (.lst (ps.map tD)), .t (.int i), .t (.lst ((rst ps i).map tD)), .t (.int w), .t (.lst ((es.map Ent.sum).map D.int)), .u, .u, .u, .t (.int (gT ps i).1), .t (.int (gT ps i).2.1), .t (.int (gT ps i).2.2), .u]) := by
      generalize (es.map Ent.sum).map D.int = RR at *
      generalize ps.map tD = PS at *
      generalize (rst ps i).map tD = RS at *
      simp only [accD] at c8 ⊢
      simp [c8]
    have e9 : mSet 7 (mCall 2 m__law_laid_on (mCons (mVar 1) (mCons (mVar 4) mNil))) [.p s2, .t (accD es), .t (.lst (ps.map tD)), .t (.int i), .t (.lst ((rst ps i).map tD)), .t (.int w), .t (.lst ((es.map Ent.sum).map D.int)), .u, .u, .u, .t (.int (gT ps i).1), .t (.int (gT ps i).2.1), .t (.int (gT ps i).2.2), .u] =
        .ok (.next, [.p s2, .t (accD es), .t (.lst (ps.map tD)), .t (.int i), .t (.lst ((rst ps i).map tD)), .t (.int w), .t (.lst ((es.map Ent.sum).map D.int)), .t (.lst ((lo es (rst ps i)).map D.int)), .u, .u, .t (.int (gT ps i).1), .t (.int (gT ps i).2.1), .t (.int (gT ps i).2.2), .u]) := by
      generalize (es.map Ent.sum).map D.int = RR at *
      generalize (lo es (rst ps i)).map D.int = LL at *
      generalize ps.map tD = PS at *
      generalize (rst ps i).map tD = RS at *
      simp [l9]
    have e10 : mSet 8 (mLc (mSeq (mVar 4)) [13] (gmN 13) mYes cm__law_near_one_2) [.p s2, .t (accD es), .t (.lst (ps.map tD)), .t (.int i), .t (.lst ((rst ps i).map tD)), .t (.int w), .t (.lst ((es.map Ent.sum).map D.int)), .t (.lst ((lo es (rst ps i)).map D.int)), .u, .u, .t (.int (gT ps i).1), .t (.int (gT ps i).2.1), .t (.int (gT ps i).2.2), .u] =
        .ok (.next, ne' s2 es (.lst (ps.map tD)) i w ((rst ps i).map tD) ((es.map Ent.sum).map D.int) ((lo es (rst ps i)).map D.int) (((rst ps i).map fun p => [(p.1 : Int), (p.2.1 : Int)]).map rowD) .u (gT ps i).1 (gT ps i).2.1 (gT ps i).2.2) := by
      unfold ne'
      generalize (((rst ps i).map fun p => [(p.1 : Int), (p.2.1 : Int)]).map rowD) = TK at *
      generalize (es.map Ent.sum).map D.int = RR at *
      generalize (lo es (rst ps i)).map D.int = LL at *
      generalize ps.map tD = PS at *
      generalize (rst ps i).map tD = RS at *
      simp [c10]
    have e11 : mFor (mSeq (mCall 2 m__law_of_word (mCons (mVar 1) (mCons (mK (.bl true)) mNil)))) (gmN 9) lb__law_near_one_1 (ne' s2 es (.lst (ps.map tD)) i w ((rst ps i).map tD) ((es.map Ent.sum).map D.int) ((lo es (rst ps i)).map D.int) (((rst ps i).map fun p => [(p.1 : Int), (p.2.1 : Int)]).map rowD) .u (gT ps i).1 (gT ps i).2.1 (gT ps i).2.2) = .ok (r, e') := by
      rw [z_mFor]
      have hm : mSeq (mCall 2 m__law_of_word (mCons (mVar 1) (mCons (mK (.bl true)) mNil))) (ne' s2 es (.lst (ps.map tD)) i w ((rst ps i).map tD) ((es.map Ent.sum).map D.int) ((lo es (rst ps i)).map D.int) (((rst ps i).map fun p => [(p.1 : Int), (p.2.1 : Int)]).map rowD) .u (gT ps i).1 (gT ps i).2.1 (gT ps i).2.2) = .ok ((bwL es true).map nD, ne' s2 es (.lst (ps.map tD)) i w ((rst ps i).map tD) ((es.map Ent.sum).map D.int) ((lo es (rst ps i)).map D.int) (((rst ps i).map fun p => [(p.1 : Int), (p.2.1 : Int)]).map rowD) .u (gT ps i).1 (gT ps i).2.1 (gT ps i).2.2) := by
        unfold ne'
        simp [ow]
      rw [hm, y1]
      exact q
    rcases hr with ⟨rfl, y9, rfl⟩ | ⟨qs, rfl, Fq, lq, he⟩
    · exact ⟨rst ps i, s2, runJ_ends (sqJ e1 (sqJ e2 (sqJ e3 (sqJ e4 (sqJ e5 (sqJ e6 (sqJ e7 (sqJ e8 (sqJ e9 (sqJ e10 (sqJ e11 (isJ (by unfold ne'; simp; rfl) rfl)))))))))))), j2.mono (by omega), Fr, by omega⟩
    · exact ⟨qs, s2, runJ_ends (sqJ e1 (sqJ e2 (sqJ e3 (sqJ e4 (sqJ e5 (sqJ e6 (sqJ e7 (sqJ e8 (sqJ e9 (sqJ e10 (nowJ e11 he))))))))))), j2.mono (by omega), Fq, lq⟩
end Law
end
section
namespace Law
open PySem Vm
/-! == of lists of integers, of rows -/
theorem eqv_ints2 (a b : List Int) : PyData.eqv (D.lst (a.map D.int)).py (D.lst (b.map D.int)).py = decide (a = b) := by
  rw [D.py, D.py, py_ints, py_ints]
  simp only [PyData.eqv]
  exact eqv_ints a b
theorem lay_i (a : List Int) : Lay 1 (.lst (a.map D.int)) := lay_lst fun x hx => by
  obtain ⟨i, _, rfl⟩ := List.mem_map.mp hx
  exact lay_int _ _
theorem eq_i (a b : List Int) : eqD (.lst (a.map D.int)) (.lst (b.map D.int)) = .ok (.bl (decide (a = b))) := by
  rw [eqD_gen (lay_i a) (lay_i b) (by decide) (by decide) (fun i z => nomatch z) (fun i z => nomatch z), eqv_ints2]
theorem eqv_rows : ∀ a b : List (List Int), PyData.eqvAll (D.pyL (a.map rowD)) (D.pyL (b.map rowD)) = decide (a = b)
  | [], [] => by simp [D.pyL, PyData.eqvAll]
  | [], b :: bs => by simp [D.pyL, PyData.eqvAll]
  | a :: as, [] => by simp [D.pyL, PyData.eqvAll]
  | a :: as, b :: bs => by
    rw [List.map_cons, List.map_cons, D.pyL, D.pyL]
    simp only [PyData.eqvAll, eqv_row, eqv_rows as bs]
    by_cases h : a = b <;> by_cases g : as = bs <;> simp [h, g]
theorem lay_r (a : List (List Int)) : Lay 2 (.lst (a.map rowD)) := lay_lst fun x hx => by
  obtain ⟨r, _, rfl⟩ := List.mem_map.mp hx
  exact lay_tup fun y hy => by
    obtain ⟨i, _, rfl⟩ := List.mem_map.mp hy
    exact lay_int _ _
theorem eqv_rows2 (a b : List (List Int)) : PyData.eqv (D.lst (a.map rowD)).py (D.lst (b.map rowD)).py = decide (a = b) := by
  rw [D.py, D.py]
  simp only [PyData.eqv]
  exact eqv_rows a b
theorem eq_r (a b : List (List Int)) : eqD (.lst (a.map rowD)) (.lst (b.map rowD)) = .ok (.bl (decide (a = b))) := by
  rw [eqD_gen (lay_r a) (lay_r b) (by decide) (by decide) (fun i z => nomatch z) (fun i z => nomatch z), eqv_rows2]
theorem ne_r (a b : List (List Int)) : neD (.lst (a.map rowD)) (.lst (b.map rowD)) = .ok (.bl (!decide (a = b))) := by
  rw [neD_gen (lay_r a) (lay_r b) (by decide) (by decide) (fun i z => nomatch z) (fun i z => nomatch z), eqv_rows2]
/-! is it a laying -/
theorem lenF (es : List Ent) (k w : D) : mCallB (one lenD) (mCons (mVar 0) mNil) [.t (accD es), .t k, .t w] = .ok (.int (es.length : Int), [.t (accD es), .t k, .t w]) := by simp [accD]
theorem place_b {es : List Ent} {k : Nat} (h : k < es.length) (hb : (gE es k).isBill = true) : m_is_place [accD es, .int (k : Int), .tup [.str "bill"]] = .ok (.bl true) := by
  have e := ix_acc es k h
  have hl := lenF es (.int (k : Int)) (.tup [.str "bill"])
  have h0 : (0 : Int) ≤ (k : Int) := by omega
  have h1 : (k : Int) < (es.length : Int) := by omega
  have rG : ∀ env, rs env (accD es) = .ok (accD es) := fun _ => rfl
  have iI : m_is_integer [.int (k : Int)] = .ok (.bl true) := by simp [m_is_integer]
  generalize accD es = G at *
  cases hg : gE es k <;> rw [hg] at hb e <;> simp [Ent.isBill] at hb
  simp only [Ent.D] at e
  exact run_ends (ends_is (by simp [-z_mCallB, hl, iI, h0, h1, e, rG]; rfl))
theorem place_p {es : List Ent} {k : Nat} (h : k < es.length) (hb : (gE es k).isPay = true) : m_is_place [accD es, .int (k : Int), .tup [.str "pay", .str "named"]] = .ok (.bl true) := by
  have e := ix_acc es k h
  have hl := lenF es (.int (k : Int)) (.tup [.str "pay", .str "named"])
  have h0 : (0 : Int) ≤ (k : Int) := by omega
  have h1 : (k : Int) < (es.length : Int) := by omega
  have rG : ∀ env, rs env (accD es) = .ok (accD es) := fun _ => rfl
  have iI : m_is_integer [.int (k : Int)] = .ok (.bl true) := by simp [m_is_integer]
  generalize accD es = G at *
  cases hg : gE es k <;> rw [hg] at hb e <;> simp [Ent.isPay] at hb
  all_goals
    simp only [Ent.D] at e
    exact run_ends (ends_is (by simp [-z_mCallB, hl, iI, h0, h1, e, rG]; rfl))
theorem pair_ok {es : List Ent} {p : Tr} (P : PrOk es (keyT p)) (h : 1 ≤ p.2.2) : m_is_pair [accD es, tD p] = .ok (.bl true) := by
  have h1 := place_b P.b1 P.b2
  have h2 := place_p P.p1 P.p2
  have iI : m_is_integer [.int p.2.2] = .ok (.bl true) := by simp [m_is_integer]
  have e0 := ix_tD0 p
  have e1 := ix_tD1 p
  have e2 := ix_tD2 p
  have ht : tD p = .tup [.int (p.1 : Int), .int (p.2.1 : Int), .int p.2.2] := rfl
  rw [ht] at e0 e1 e2 ⊢
  simp only [keyT] at h1 h2
  have rG : ∀ env, rs env (accD es) = .ok (accD es) := fun _ => rfl
  have kG : kp (accD es) = .ok (accD es) := rfl
  have aG : ∀ xs, allKp (accD es :: xs) = allKp xs := fun _ => rfl
  generalize accD es = G at *
  generalize (p.1 : Int) = A at *
  generalize (p.2.1 : Int) = B at *
  generalize p.2.2 = V at *
  simp [m_is_pair, h1, h2, iI, h, rG, kG, aG]
theorem fits_ok {es : List Ent} {ps : List Tr} (F : Fit es ps) (hz : ps.length ≤ 500) : m_fits_account [accD es, .lst (ps.map tD)] = .ok (.bl true) := by
  have aG : ∀ xs, allKp (accD es :: xs) = allKp xs := fun _ => rfl
  have rG : ∀ env, rs env (accD es) = .ok (accD es) := fun _ => rfl
  have c1 := lc1m (i := 4) (m := cm_fits_account_1) (env := [.t (accD es), .t (.lst (ps.map tD)), .u, .u, .u]) tD (fun _ => .bl true) ps (fun p hp => by
    have := pair_ok (F.pr p hp).1 (F.pr p hp).2
    generalize accD es = G at *
    exact ⟨by simp [this, aG, rG], rfl⟩)
  have a1 : onB (fun ns => .ok (.bl (ns.all id))) (.lst (ps.map fun _ => D.bl true)) = .ok (.bl true) := by
    rw [all_map (fun _ : Tr => true) ps]
    simp
  obtain ⟨e', q, x2, rfl, n2⟩ := forL_inv (gv := gmN 2) (b := lb_fits_account_1)
    (fun i e => ∃ x2, e = [.t (accD es), .t (.lst (ps.map tD)), x2, .u, .u] ∧ np x2 = true)
    (rangeD 1 (ps.length - 1)) [.t (accD es), .t (.lst (ps.map tD)), .u, .u, .u] 0 ⟨.u, rfl, rfl⟩ (fun i d e hi ⟨x2, he, n2⟩ => by
      subst he
      have hl := (List.getElem?_eq_some_iff.mp hi).1
      rw [rangeD_length] at hl
      have hd : d = .int ((i : Int) + 1) := by
        unfold rangeD at hi
        rw [List.getElem?_map, List.getElem?_range hl] at hi
        have hi := Option.some.inj hi
        rw [← hi]
        show D.int (1 + (i : Int)) = _
        congr 1
        omega
      subst hd
      have h0 : i < ps.length := by omega
      have h1 : i + 1 < ps.length := by omega
      have b0 := at_tr h0
      have b1 := at_tr h1
      have s := List.pairwise_iff_getElem.mp F.inc i (i + 1) h0 h1 (by omega)
      have d0 : ps[i] = gT ps i := Option.some.inj ((List.getElem?_eq_getElem h0).symm.trans (gT_at h0))
      have d1 : ps[i + 1] = gT ps (i + 1) := Option.some.inj ((List.getElem?_eq_getElem h1).symm.trans (gT_at h1))
      rw [d0, d1] at s
      refine ⟨[.t (accD es), .t (.lst (ps.map tD)), .t (.int ((i : Int) + 1)), .u, .u], [.t (accD es), .t (.lst (ps.map tD)), .t (.int ((i : Int) + 1)), .u, .u], by simp [n2], .inl ?_, _, rfl, rfl⟩
      generalize gT ps i = u at *
      generalize gT ps (i + 1) = v at *
      have cu : ∀ t : Tr, cutD [.int (t.1 : Int), .int (t.2.1 : Int), .int t.2.2] none (some 2) = [.int (t.1 : Int), .int (t.2.1 : Int)] := fun t => by
        rw [show (some 2 : Option Int) = some ((2 : Nat) : Int) from rfl, cut_head]
        rfl
      have g := geT_pair (u.1 : Int) (u.2.1 : Int) (v.1 : Int) (v.2.1 : Int)
      have gf : decide ((v.1 : Int) < u.1 ∨ ((u.1 : Int) = v.1 ∧ (v.2.1 : Int) ≤ u.2.1)) = false := by
        rw [decide_eq_false_iff_not]
        unfold ltK keyT at s
        simp only at s
        omega
      rw [gf] at g
      have tu : ∀ t : Tr, tD t = .tup [.int (t.1 : Int), .int (t.2.1 : Int), .int t.2.2] := fun _ => rfl
      rw [tu] at b0 b1
      have e1 : ((i : Int) + 1 - 1) = (i : Int) := by omega
      have e2 : (((i + 1 : Nat) : Int)) = (i : Int) + 1 := by omega
      rw [e2] at b1
      have cu1 := cu u
      have cu2 := cu v
      generalize (i : Int) = I at *
      generalize (u.1 : Int) = A at *
      generalize (u.2.1 : Int) = B at *
      generalize (v.1 : Int) = C at *
      generalize (v.2.1 : Int) = E at *
      generalize ps.map tD = PS at *
      simp [e1, b0, b1, cu1, cu2, g])
  have hb : ∀ p ∈ ps, p.1 < es.length ∧ p.2.1 < es.length := fun p hp => ⟨(F.pr p hp).1.b1, (F.pr p hp).1.p1⟩
  have ro := rests_of_ok (es := es) hb
  have nn : ∀ r ∈ restsL (es.map Ent.sum) ps, 0 ≤ r := fun r hr => by
    obtain ⟨k, hk, rfl⟩ := List.getElem_of_mem hr
    have hk2 : k < es.length := by rw [restsL_len, List.length_map] at hk; exact hk
    have e := restsL_at ps (es.map Ent.sum) k (fun p hp => by rw [List.length_map]; exact hb p hp)
    rw [List.getD_eq_getElem?_getD, List.getElem?_eq_getElem hk] at e
    have e2 : (es.map Ent.sum).getD k 0 = smN es k := by
      rw [List.getD_eq_getElem?_getD, List.getElem?_map, gE_at hk2]
      rfl
    rw [e2] at e
    simp only [Option.getD_some] at e
    rw [e]
    have := F.bd k hk2
    omega
  have c2 := lc1m (i := 3) (m := cm_fits_account_2) (env := [.t (accD es), .t (.lst (ps.map tD)), x2, .u, .u]) D.int (fun r => .bl (decide (0 ≤ r))) (restsL (es.map Ent.sum) ps) (fun r hr => ⟨by simp, rfl⟩)
  have a2 : onB (fun ns => .ok (.bl (ns.all id))) (.lst ((restsL (es.map Ent.sum) ps).map fun r => D.bl (decide (0 ≤ r)))) = .ok (.bl true) := by
    rw [all_map (fun r : Int => decide (0 ≤ r))]
    rw [List.all_eq_true.mpr fun r hr => decide_eq_true (nn r hr)]
  have rgm : mRng2 (mCons (mK (.int 1)) (mCons (mCallB (one lenD) (mCons (mVar 1) mNil)) mNil)) [.t (accD es), .t (.lst (ps.map tD)), .u, .u, .u] = .ok (rangeD 1 (ps.length - 1), [.t (accD es), .t (.lst (ps.map tD)), .u, .u, .u]) := by
    by_cases h0 : ps.length = 0
    · have := rg2_ok (i := 1) (j := 0) (by decide) (by decide) (by decide) (by decide)
      simp [h0, this]
    · have e1 : ((ps.length : Int) - 1).toNat = ps.length - 1 := by omega
      have := rg2_ok (i := 1) (j := (ps.length : Int)) (by decide) (by decide) (by omega) (by omega)
      simp [e1, this]
  generalize (restsL (es.map Ent.sum) ps).map (fun r => D.bl (decide (0 ≤ r))) = R2 at *
  generalize (restsL (es.map Ent.sum) ps).map D.int = R1 at *
  generalize ps.map (fun _ => D.bl true) = R3 at *
  generalize ps.map tD = PS at *
  generalize accD es = G at *
  refine run_ends (ends_sq (e2 := [.t G, .t (.lst PS), .u, .u, .u]) (by simp [c1, a1]) ?_)
  refine ends_sq (e2 := [.t G, .t (.lst PS), x2, .u, .u]) (by rw [z_mFor, rgm, y1]; exact q) ?_
  exact ends_is (by simp [ro, c2, a2, aG, rG, okWipe, wipeE, backE]; rfl)
theorem need_lay {es : List Ent} {ps : List Tr} (F : Fit es ps) (hz : ps.length ≤ 500) : m_need_laying [accD es, .lst (ps.map tD)] = .ok .non := by
  have h := fits_ok F hz
  have aG : ∀ xs, allKp (accD es :: xs) = allKp xs := fun _ => rfl
  generalize accD es = G at *
  generalize ps.map tD = PS at *
  simp [m_need_laying, h, aG]
/-! the sums on one side -/
def sd (ps : List Tr) (b : Bool) (k : Nat) : Int := ((ps.filter fun p => decide ((if b = true then p.1 else p.2.1) = k)).map (·.2.2)).sum
theorem sd_cons (p : Tr) (ps : List Tr) (b : Bool) (k : Nat) : sd (p :: ps) b k = (if (if b = true then p.1 else p.2.1) = k then p.2.2 else 0) + sd ps b k := by
  unfold sd
  by_cases h : (if b = true then p.1 else p.2.1) = k
  · rw [List.filter_cons_of_pos (by simp [h]), if_pos h]; simp
  · rw [List.filter_cons_of_neg (by simp [h]), if_neg h]; simp
theorem trS_sd (ps : List Tr) (k : Nat) : trS ps k = sd ps true k + sd ps false k := by
  induction ps with
  | nil => rfl
  | cons p ps ih =>
    rw [trS_cons, sd_cons, sd_cons, ih]
    simp only [if_true, Bool.false_eq_true, if_false]
    omega
theorem sd_zero {ps : List Tr} {b : Bool} {k : Nat} (h : ∀ p ∈ ps, (if b = true then p.1 else p.2.1) ≠ k) : sd ps b k = 0 := by
  induction ps with
  | nil => rfl
  | cons p ps ih => rw [sd_cons, if_neg (h p (.head _)), ih fun q hq => h q (.tail _ hq)]; rfl
def rwS (ps : List Tr) (b : Bool) (ks : List Nat) : List (List Int) := ks.map fun k : Nat => [(k : Int), sd ps b k]
theorem laid_sums_ok {ps : List Tr} (b : Bool) (ks : List Nat) : m_laid_sums [.lst (ps.map tD), .lst (ks.map nD), .int (if b = true then 0 else 1)] = .ok (.lst ((rwS ps b ks).map rowD)) := by
  have c1 := lc1m (i := 3) (m := cm_laid_sums_2) (env := [.t (.lst (ps.map tD)), .t (.lst (ks.map nD)), .t (.int (if b = true then 0 else 1)), .u, .u]) nD (fun k : Nat => rowD [(k : Int), sd ps b k]) ks (fun k hk => by
    have c2 := lf1m (i := 4) (t := ct_laid_sums_1) (m := cm_laid_sums_1) (env := [.t (.lst (ps.map tD)), .t (.lst (ks.map nD)), .t (.int (if b = true then 0 else 1)), .t (.int (k : Int)), .u]) tD (fun p => decide ((if b = true then p.1 else p.2.1) = k)) (fun p => .int p.2.2) ps (fun p hp => by
      cases b
      · have e : decide ((p.2.1 : Int) = (k : Int)) = decide (p.2.1 = k) := decide_eq_decide.mpr (by omega)
        simp [e]
      · have e : decide ((p.1 : Int) = (k : Int)) = decide (p.1 = k) := decide_eq_decide.mpr (by omega)
        simp [e]) (fun p hp _ => ⟨by simp, rfl⟩)
    have e1 : ((ps.filter fun p => decide ((if b = true then p.1 else p.2.1) = k)).map fun p => D.int p.2.2) = ((ps.filter fun p => decide ((if b = true then p.1 else p.2.1) = k)).map (·.2.2)).map D.int := by rw [List.map_map]; rfl
    rw [e1] at c2
    have sm : onT (fun ns => .ok (.int ns.sum)) (.lst (((ps.filter fun p => decide ((if b = true then p.1 else p.2.1) = k)).map (·.2.2)).map D.int)) = .ok (.int (sd ps b k)) := by
      show onI _ (.lst _) = _
      unfold onI
      simp only [ints_map]
      rfl
    generalize ((ps.filter fun p => decide ((if b = true then p.1 else p.2.1) = k)).map (·.2.2)).map D.int = Z at *
    generalize (if b = true then (0 : Int) else 1) = pl at *
    generalize ps.map tD = PS at *
    generalize ks.map nD = KS at *
    exact ⟨by simp [c2, sm, rowD], rfl⟩)
  have e2 : (ks.map fun k : Nat => rowD [(k : Int), sd ps b k]) = (rwS ps b ks).map rowD := by unfold rwS; rw [List.map_map]; rfl
  rw [e2] at c1
  generalize (rwS ps b ks).map rowD = RW at *
  generalize (if b = true then (0 : Int) else 1) = pl at *
  generalize ps.map tD = PS at *
  generalize ks.map nD = KS at *
  exact run_ends (ends_is (by simp [c1]; rfl))
theorem rwS_eq (ps qs : List Tr) (b : Bool) (ks : List Nat) : rwS ps b ks = rwS qs b ks ↔ ∀ k ∈ ks, sd ps b k = sd qs b k := by
  unfold rwS
  rw [List.map_inj_left]
  constructor
  · intro h k hk
    have := h k hk
    injection this with _ h2
    injection h2
  · intro h k hk
    rw [h k hk]
theorem pay_line_ok {es : List Ent} (hz : es.length ≤ 1000) : m_payment_line [accD es] = .ok (.lst (((ln es).filter fun i => !blN es i).map nD)) := by
  have h0 := line_of_ok hz
  have h1 := lf1m (i := 1) (t := ct_payment_line_1) (m := cm_payment_line_1) (env := [.t (accD es), .u]) nD (fun i => !blN es i) nD (ln es) (fun i hi => by
    have hi' : i < es.length := (ln_mem.mp hi).1
    have e := ix_acc es i hi'
    have b : blN es i = (gE es i).isBill := rfl
    cases hg : gE es i <;> rw [hg] at e b <;> simp [nD, e, b, Ent.isBill, Ent.D]) (fun i hi _ => ⟨by simp [nD], rfl⟩)
  simp [m_payment_line, h0, h1]
theorem lo_eq {es : List Ent} {ps qs : List Tr} (F : Fit es ps) (G : Fit es qs) : lo es ps = lo es qs ↔ (∀ k ∈ (ln es).filter (blN es), sd ps true k = sd qs true k) ∧ (∀ k ∈ (ln es).filter (fun i => !blN es i), sd ps false k = sd qs false k) := by
  have z : ∀ {rs : List Tr}, Fit es rs → ∀ k, (blN es k = true → sd rs false k = 0) ∧ (¬ (lvN es k = true ∧ blN es k = true) → sd rs true k = 0) ∧ (¬ (lvN es k = true ∧ blN es k = false) → sd rs false k = 0) := fun {rs} R k => by
    refine ⟨fun h => sd_zero fun p hp e => ?_, fun h => sd_zero fun p hp e => h ?_, fun h => sd_zero fun p hp e => h ?_⟩
    · simp only [Bool.false_eq_true, if_false] at e
      have h2 := (R.pr p hp).1.p2
      have h3 : (gE es k).isBill = true := h
      have h4 : (keyT p).2 = k := e
      rw [h4] at h2
      cases hg : gE es k <;> rw [hg] at h2 h3 <;> simp [Ent.isBill, Ent.isPay] at h2 h3
    · simp only [if_true] at e
      have h2 := (R.pr p hp).1.b2
      have h4 : (keyT p).1 = k := e
      rw [h4] at h2
      refine ⟨?_, h2⟩
      show (gE es k).live = true
      cases hg : gE es k <;> rw [hg] at h2 <;> simp [Ent.isBill, Ent.live] at h2 ⊢
    · simp only [Bool.false_eq_true, if_false] at e
      have h2 := (R.pr p hp).1.p2
      have h4 : (keyT p).2 = k := e
      rw [h4] at h2
      constructor
      · show (gE es k).live = true
        cases hg : gE es k <;> rw [hg] at h2 <;> simp [Ent.isPay, Ent.live] at h2 ⊢
      · show (gE es k).isBill = false
        cases hg : gE es k <;> rw [hg] at h2 <;> simp [Ent.isPay, Ent.isBill] at h2 ⊢
  unfold lo
  rw [List.map_inj_left]
  constructor
  · intro h
    refine ⟨fun k hk => ?_, fun k hk => ?_⟩
    · obtain ⟨h1, h2⟩ := List.mem_filter.mp hk
      have e := h k (List.mem_range.mpr (ln_mem.mp h1).1)
      rw [trS_sd, trS_sd, (z F k).1 h2, (z G k).1 h2] at e
      omega
    · obtain ⟨h1, h2⟩ := List.mem_filter.mp hk
      have e := h k (List.mem_range.mpr (ln_mem.mp h1).1)
      have nb : ¬ (lvN es k = true ∧ blN es k = true) := fun w => by
        have := w.2
        rw [this] at h2
        cases h2
      rw [trS_sd, trS_sd, (z F k).2.1 nb, (z G k).2.1 nb] at e
      omega
  · rintro ⟨h1, h2⟩ k hk
    rw [trS_sd, trS_sd]
    have hk := List.mem_range.mp hk
    by_cases hl : lvN es k = true
    · have hm : k ∈ ln es := ln_mem.mpr ⟨hk, hl⟩
      by_cases hb : blN es k = true
      · rw [h1 k (List.mem_filter.mpr ⟨hm, hb⟩), (z F k).1 hb, (z G k).1 hb]
      · have hb' : blN es k = false := by cases q : blN es k <;> first | rfl | exact absurd q hb
        rw [h2 k (List.mem_filter.mpr ⟨hm, by rw [hb']; rfl⟩), (z F k).2.1 fun w => hb w.2, (z G k).2.1 fun w => hb w.2]
    · rw [(z F k).2.1 fun w => hl w.1, (z G k).2.1 fun w => hl w.1, (z F k).2.2 fun w => hl w.1, (z G k).2.2 fun w => hl w.1]
theorem akin_ok {es : List Ent} {ps qs : List Tr} (A : Acc es) (F : Fit es ps) (G : Fit es qs) (hp : ps.length ≤ 500) (hq : qs.length ≤ 500) : m_akin [accD es, .lst (ps.map tD), .lst (qs.map tD)] = .ok (.bl (decide (lo es ps = lo es qs))) := by
  have n1 := need_acc A
  have n2 := need_lay F hp
  have n3 := need_lay G hq
  have b1 := bill_line_ok A.len
  have b2 := pay_line_ok A.len
  have l1 := laid_sums_ok (ps := ps) true ((ln es).filter (blN es))
  have l2 := laid_sums_ok (ps := qs) true ((ln es).filter (blN es))
  have l3 := laid_sums_ok (ps := ps) false ((ln es).filter fun i => !blN es i)
  have l4 := laid_sums_ok (ps := qs) false ((ln es).filter fun i => !blN es i)
  have e1 := ne_r (rwS ps true ((ln es).filter (blN es))) (rwS qs true ((ln es).filter (blN es)))
  have e2 := eq_r (rwS ps false ((ln es).filter fun i => !blN es i)) (rwS qs false ((ln es).filter fun i => !blN es i))
  have q : decide (lo es ps = lo es qs) = (decide (rwS ps true ((ln es).filter (blN es)) = rwS qs true ((ln es).filter (blN es))) && decide (rwS ps false ((ln es).filter fun i => !blN es i) = rwS qs false ((ln es).filter fun i => !blN es i))) := by
    rw [← Bool.decide_and]
    exact decide_eq_decide.mpr ((lo_eq F G).trans (and_congr (rwS_eq _ _ _ _).symm (rwS_eq _ _ _ _).symm))
  have rG : ∀ env, rs env (accD es) = .ok (accD es) := fun _ => rfl
  have aG : ∀ xs, allKp (accD es :: xs) = allKp xs := fun _ => rfl
  simp only [if_true, Bool.false_eq_true, if_false] at l1 l2 l3 l4
  have ak : m_are_akin [accD es, .lst (ps.map tD), .lst (qs.map tD)] = .ok (.bl (decide (lo es ps = lo es qs))) := by
    rw [q]
    clear q
    generalize decide (rwS ps true ((ln es).filter (blN es)) = rwS qs true ((ln es).filter (blN es))) = d1 at *
    generalize decide (rwS ps false ((ln es).filter fun i => !blN es i) = rwS qs false ((ln es).filter fun i => !blN es i)) = d2 at *
    generalize (rwS ps true ((ln es).filter (blN es))).map rowD = R1 at *
    generalize (rwS qs true ((ln es).filter (blN es))).map rowD = R2 at *
    generalize (rwS ps false ((ln es).filter fun i => !blN es i)).map rowD = R3 at *
    generalize (rwS qs false ((ln es).filter fun i => !blN es i)).map rowD = R4 at *
    generalize ((ln es).filter (blN es)).map nD = B1 at *
    generalize ((ln es).filter fun i => !blN es i).map nD = B2 at *
    generalize ps.map tD = PS at *
    generalize qs.map tD = QS at *
    generalize accD es = G at *
    cases d1 <;> simp at e1 <;> simp [m_are_akin, b1, b2, l1, l2, l3, l4, e1, e2, aG, rG]
  generalize decide (lo es ps = lo es qs) = dd at *
  generalize ps.map tD = PS at *
  generalize qs.map tD = QS at *
  generalize accD es = G at *
  refine run_ends (ends_sq (e2 := [.t G, .t (.lst PS), .t (.lst QS)]) (by simp [n1, aG]) ?_)
  refine ends_sq (e2 := [.t G, .t (.lst PS), .t (.lst QS)]) (by simp [n2, aG]) ?_
  refine ends_sq (e2 := [.t G, .t (.lst PS), .t (.lst QS)]) (by simp [n3, aG]) ?_
  exact ends_is (by simp [ak, aG]; rfl)
end Law
end
section
namespace Law
open PySem Vm
theorem same_bl (b : Bool) : m__law_same [.bl b, .bl b] = .ok (.bl true) := by
  cases b <;> simp [m__law_same, repA]
theorem lst_self (xs : List D) : lstT (.lst xs) = .ok (.lst xs) := rfl
theorem kept_ok (ps qs : List Tr) : neD (.lst [.lst (ps.map tD), .lst (qs.map tD)]) (.lst [.lst (ps.map tD), .lst (qs.map tD)]) = .ok (.bl false) := by
  have h : Lay 3 (.lst [.lst (ps.map tD), .lst (qs.map tD)]) := lay_lst fun x hx => by
    simp at hx
    rcases hx with rfl | rfl
    · exact tr_lay ps
    · exact tr_lay qs
  rw [neD_gen h h (by decide) (by decide) (fun i z => nomatch z) (fun i z => nomatch z), SeqAt.eqv_refl _ h.1]
  rfl
theorem one_cell {c : Int} {d : D} {x1 x3 x4 x5 x6 x7 x8 x9 x10 x11 : Sl} (n3 : np x3 = true) (n4 : np x4 = true) (n5 : np x5 = true) (n6 : np x6 = true) (n7 : np x7 = true) (n8 : np x8 = true) (n9 : np x9 = true) (n10 : np x10 = true) (n11 : np x11 = true) :
    ∃ y3 y4 y5 y6 y7 y8 y9 y10 y11, np y3 = true ∧ np y4 = true ∧ np y5 = true ∧ np y6 = true ∧ np y7 = true ∧ np y8 = true ∧ np y9 = true ∧ np y10 = true ∧ np y11 = true ∧
      lb_law_2 [.t d, x1, .t (.int c), x3, x4, x5, x6, x7, x8, x9, x10, x11] = .ok (.next, [.t d, x1, .t (.int c), y3, y4, y5, y6, y7, y8, y9, y10, y11]) := by
  obtain ⟨s0, p0, j0⟩ := draws_ok c
  obtain ⟨a, s1, p1, a0, a1, j1⟩ := pick_ok (u := 3) (by omega) j0 (by decide) (by decide)
  obtain ⟨size, hs, z0, z1⟩ : ∃ size : Int, L2.atI [D.int 8, .int 16, .int 40] a = some (.int size) ∧ 0 < size ∧ size ≤ 60 := by
    rcases (by omega : a = 0 ∨ a = 1 ∨ a = 2) with rfl | rfl | rfl <;> exact ⟨_, rfl, by decide, by decide⟩
  obtain ⟨es, s2, p2, j2, A, el, jo⟩ := a_jar_ok (nm := true) (by omega) j1 z0 z1
  have bd : ∀ e ∈ es, e.sum ≤ 10 ^ 30 := fun e he => (jo e he).2
  obtain ⟨ps, s3, p3, j3, F, lp⟩ := lay_ok (by omega) j2 A (by omega) bd (by omega : (0 : Int) ≤ size) z1
  obtain ⟨t, s4, p4, t0, t1, j4⟩ := pick_ok (u := 4) (by omega) j3 (by decide) (by decide)
  obtain ⟨ks, s5, p5, j5, Fk, lk⟩ := kin_ok (by omega) j4 bd F (by omega) t0 (by omega)
  obtain ⟨b, s6, p6, b0, b1, j6⟩ := pick_ok (u := 2) (by omega) j5 (by decide) (by decide)
  obtain ⟨ns, s7, p7, j7, Fn, lnn⟩ := near_ok (by omega) j6 A (by omega) bd Fk (by omega)
  have e1 : mSetL 3 (mCallF 1 m__law_draws (mCons (mVar 2) mNil)) [.t d, x1, .t (.int c), x3, x4, x5, x6, x7, x8, x9, x10, x11] = .ok (.next, [.t d, x1, .t (.int c), .l s0, x4, x5, x6, x7, x8, x9, x10, x11]) := by simp [p0, n3]
  have e2 : mSet 4 (mBin ixA (mLst (mCons (mK (.int 8)) (mCons (mK (.int 16)) (mCons (mK (.int 40)) mNil)))) (mCallJ 2 m__law_pick (mCons (mVar 3) (mCons (mK (.int 3)) mNil)))) [.t d, x1, .t (.int c), .l s0, x4, x5, x6, x7, x8, x9, x10, x11] = .ok (.next, [.t d, x1, .t (.int c), .l s1, .t (.int size), x5, x6, x7, x8, x9, x10, x11]) := by simp [p1, hs, n4]
  have e3 : mSet 5 (mCallJ 3 m__law_a_jar (mCons (mVar 3) (mCons (mVar 4) (mCons (mK (.bl true)) mNil)))) [.t d, x1, .t (.int c), .l s1, .t (.int size), x5, x6, x7, x8, x9, x10, x11] = .ok (.next, [.t d, x1, .t (.int c), .l s2, .t (.int size), .t (accD es), x6, x7, x8, x9, x10, x11]) := by simp [p2, n5]
  have e4 : mSet 6 (mCallJ 3 m__law_lay (mCons (mVar 3) (mCons (mVar 5) (mCons (mVar 4) mNil)))) [.t d, x1, .t (.int c), .l s2, .t (.int size), .t (accD es), x6, x7, x8, x9, x10, x11] = .ok (.next, [.t d, x1, .t (.int c), .l s3, .t (.int size), .t (accD es), .t (.lst (ps.map tD)), x7, x8, x9, x10, x11]) := by
    generalize ps.map tD = PS at *
    simp [p3, n6]
  have e5 : mSet 7 (mCallJ 3 m__law_a_kin (mCons (mVar 3) (mCons (mVar 6) (mCons (mCallJ 2 m__law_pick (mCons (mVar 3) (mCons (mK (.int 4)) mNil))) mNil)))) [.t d, x1, .t (.int c), .l s3, .t (.int size), .t (accD es), .t (.lst (ps.map tD)), x7, x8, x9, x10, x11] = .ok (.next, [.t d, x1, .t (.int c), .l s5, .t (.int size), .t (accD es), .t (.lst (ps.map tD)), .t (.lst (ks.map tD)), x8, x9, x10, x11]) := by
    generalize ps.map tD = PS at *
    generalize ks.map tD = KS at *
    simp [p4, p5, n7]
  obtain ⟨qs, s8, e6, Fq, lq⟩ : ∃ (qs : List Tr) (s8 : D), mIfS (mTru (mBin eqD (mCallJ 2 m__law_pick (mCons (mVar 3) (mCons (mK (.int 2)) mNil))) (mK (.int 0)))) (mSet 7 (mCallJ 3 m__law_near_one (mCons (mVar 3) (mCons (mVar 5) (mCons (mVar 7) mNil))))) mSk [.t d, x1, .t (.int c), .l s5, .t (.int size), .t (accD es), .t (.lst (ps.map tD)), .t (.lst (ks.map tD)), x8, x9, x10, x11] =
      .ok (.next, [.t d, x1, .t (.int c), .l s8, .t (.int size), .t (accD es), .t (.lst (ps.map tD)), .t (.lst (qs.map tD)), x8, x9, x10, x11]) ∧ Fit es qs ∧ qs.length ≤ 500 := by
    by_cases h : b = 0
    · refine ⟨ns, s7, ?_, Fn, by omega⟩
      generalize ps.map tD = PS at *
      generalize ks.map tD = KS at *
      generalize ns.map tD = NS at *
      simp [p6, h, p7]
    · refine ⟨ks, s6, ?_, Fk, by omega⟩
      generalize ps.map tD = PS at *
      generalize ks.map tD = KS at *
      simp [p6, h]
  have hb : ∀ {rs : List Tr}, Fit es rs → ∀ p ∈ rs, p.1 < es.length ∧ p.2.1 < es.length := fun R p hp => ⟨(R.pr p hp).1.b1, (R.pr p hp).1.p1⟩
  have l1 := laid_on_ok (hb F)
  have l2 := laid_on_ok (hb Fq)
  have q1 := eq_i (lo es ps) (lo es qs)
  have e7 : mSet 8 (mBin eqD (mCall 2 m__law_laid_on (mCons (mVar 5) (mCons (mVar 6) mNil))) (mCall 2 m__law_laid_on (mCons (mVar 5) (mCons (mVar 7) mNil)))) [.t d, x1, .t (.int c), .l s8, .t (.int size), .t (accD es), .t (.lst (ps.map tD)), .t (.lst (qs.map tD)), x8, x9, x10, x11] =
      .ok (.next, [.t d, x1, .t (.int c), .l s8, .t (.int size), .t (accD es), .t (.lst (ps.map tD)), .t (.lst (qs.map tD)), .t (.bl (decide (lo es ps = lo es qs))), x9, x10, x11]) := by
    generalize decide (lo es ps = lo es qs) = dd at *
    generalize (lo es ps).map D.int = L1 at *
    generalize (lo es qs).map D.int = L2 at *
    generalize ps.map tD = PS at *
    generalize qs.map tD = QS at *
    simp [l1, l2, q1, n8]
  have e8 : mSet 9 (mLst (mCons (mCallB (one lstT) (mCons (mVar 6) mNil)) (mCons (mCallB (one lstT) (mCons (mVar 7) mNil)) mNil))) [.t d, x1, .t (.int c), .l s8, .t (.int size), .t (accD es), .t (.lst (ps.map tD)), .t (.lst (qs.map tD)), .t (.bl (decide (lo es ps = lo es qs))), x9, x10, x11] =
      .ok (.next, [.t d, x1, .t (.int c), .l s8, .t (.int size), .t (accD es), .t (.lst (ps.map tD)), .t (.lst (qs.map tD)), .t (.bl (decide (lo es ps = lo es qs))), .t (.lst [.lst (ps.map tD), .lst (qs.map tD)]), x10, x11]) := by
    generalize decide (lo es ps = lo es qs) = dd at *
    generalize ps.map tD = PS at *
    generalize qs.map tD = QS at *
    simp [lst_self, n9]
  have a1 := akin_ok A F Fq (by omega) lq
  have a2 := akin_ok A Fq F lq (by omega)
  have a3 := akin_ok A Fq Fq lq lq
  rw [show decide (lo es qs = lo es ps) = decide (lo es ps = lo es qs) from decide_eq_decide.mpr ⟨Eq.symm, Eq.symm⟩] at a2
  rw [show decide (lo es qs = lo es qs) = true from decide_eq_true rfl] at a3
  have sb := same_bl (decide (lo es ps = lo es qs))
  have kp1 := kept_ok ps qs
  have aG : ∀ xs, allKp (accD es :: xs) = allKp xs := fun _ => rfl
  generalize decide (lo es ps = lo es qs) = dd at *
  have kk : ∀ (is : List Nat) (a b c : D), pick [0, 2, 1] [a, b, c] = [a, c, b] := fun _ a b c => rfl
  refine ⟨.l s8, .t (.int size), .t (accD es), .t (.lst (ps.map tD)), .t (.lst (qs.map tD)), .t (.bl dd), .t (.lst [.lst (ps.map tD), .lst (qs.map tD)]), .t (.lst (ps.map tD)), .t (.lst (qs.map tD)), rfl, rfl, rfl, rfl, rfl, rfl, rfl, rfl, rfl, ?_⟩
  refine sq_ok e1 (sq_ok e2 (sq_ok e3 (sq_ok e4 (sq_ok e5 (sq_ok e6 (sq_ok e7 (sq_ok e8 ?_)))))))
  clear e1 e2 e3 e4 e5 e6 e7 e8 p0 p1 p2 p3 p4 p5 p6 p7 l1 l2 q1
  generalize ps.map tD = PS at *
  generalize qs.map tD = QS at *
  generalize accD es = G at *
  have st : ∀ (u v : D) (y10 y11 : Sl), np y10 = true → np y11 = true → m_akin [G, u, v] = .ok (.bl dd) → (kp u = .ok u ∧ kp v = .ok v ∧ ∀ xs, allKp (u :: xs) = allKp xs ∧ allKp (v :: xs) = allKp xs) →
      ((gmT 2 (gmCons (gmN 10) (gmCons (gmN 11) gmNil))) (.tup [u, v]) [.t d, x1, .t (.int c), .l s8, .t (.int size), .t G, .t (.lst PS), .t (.lst QS), .t (.bl dd), .t (.lst [.lst PS, .lst QS]), y10, y11] >>= lb_law_1) = .ok (.next, [.t d, x1, .t (.int c), .l s8, .t (.int size), .t G, .t (.lst PS), .t (.lst QS), .t (.bl dd), .t (.lst [.lst PS, .lst QS]), .t u, .t v]) := fun u v y10 y11 m10 m11 h ⟨k1, k2, k3⟩ => by
    have k4 := fun xs => (k3 xs).1
    have k5 := fun xs => (k3 xs).2
    simp [m10, m11, h, sb, aG, k4, k5]
  have fl : forL (gmT 2 (gmCons (gmN 10) (gmCons (gmN 11) gmNil))) lb_law_1 [.tup [.lst PS, .lst QS], .tup [.lst QS, .lst PS], .tup [.lst PS, .lst QS]] [.t d, x1, .t (.int c), .l s8, .t (.int size), .t G, .t (.lst PS), .t (.lst QS), .t (.bl dd), .t (.lst [.lst PS, .lst QS]), x10, x11] =
      .ok (.next, [.t d, x1, .t (.int c), .l s8, .t (.int size), .t G, .t (.lst PS), .t (.lst QS), .t (.bl dd), .t (.lst [.lst PS, .lst QS]), .t (.lst PS), .t (.lst QS)]) := by
    have step : ∀ {gv : Gv} {b : Sv} {d : D} {ds : List D} {env e2 : Sls}, (gv d env >>= b) = .ok (.next, e2) → forL gv b (d :: ds) env = forL gv b ds e2 := fun {gv b d ds env e2} h => by
      conv => lhs; unfold forL
      cases q : gv d env with
      | ok e1 =>
        rw [q] at h
        simp only [y1] at h
        simp only [noE_ok, y1, h]
      | err c => rw [q] at h; cases h
      | bad => rw [q] at h; cases h
    have k : ∀ u v : List D, kp (.lst u) = .ok (.lst u) ∧ kp (.lst v) = .ok (.lst v) ∧ ∀ xs, allKp (.lst u :: xs) = allKp xs ∧ allKp (.lst v :: xs) = allKp xs := fun u v => ⟨rfl, rfl, fun _ => ⟨rfl, rfl⟩⟩
    rw [step (st (.lst PS) (.lst QS) x10 x11 n10 n11 a1 (k PS QS)), step (st (.lst QS) (.lst PS) _ _ rfl rfl a2 (k QS PS)), step (st (.lst PS) (.lst QS) _ _ rfl rfl a1 (k PS QS))]
    rfl
  refine sq_ok (e2 := [.t d, x1, .t (.int c), .l s8, .t (.int size), .t G, .t (.lst PS), .t (.lst QS), .t (.bl dd), .t (.lst [.lst PS, .lst QS]), .t (.lst PS), .t (.lst QS)]) ?_ ?_
  · rw [z_mFor]
    have hm : mSeq (mLst (mCons (mTup (mCons (mVar 6) (mCons (mVar 7) mNil))) (mCons (mTup (mCons (mVar 7) (mCons (mVar 6) mNil))) (mCons (mTup (mCons (mVar 6) (mCons (mVar 7) mNil))) mNil)))) [.t d, x1, .t (.int c), .l s8, .t (.int size), .t G, .t (.lst PS), .t (.lst QS), .t (.bl dd), .t (.lst [.lst PS, .lst QS]), x10, x11] = .ok ([.tup [.lst PS, .lst QS], .tup [.lst QS, .lst PS], .tup [.lst PS, .lst QS]], [.t d, x1, .t (.int c), .l s8, .t (.int size), .t G, .t (.lst PS), .t (.lst QS), .t (.bl dd), .t (.lst [.lst PS, .lst QS]), x10, x11]) := by
      simp
    rw [hm, y1]
    exact fl
  · simp [a3, aG, kp1, pick]
theorem cells {d : D} {x1 : Sl} : ∀ (cs : List Int) (x2 x3 x4 x5 x6 x7 x8 x9 x10 x11 : Sl), np x2 = true → np x3 = true → np x4 = true → np x5 = true → np x6 = true → np x7 = true → np x8 = true → np x9 = true → np x10 = true → np x11 = true →
    ∃ e2, forL (gmN 2) lb_law_2 (cs.map D.int) [.t d, x1, x2, x3, x4, x5, x6, x7, x8, x9, x10, x11] = .ok (.next, e2)
  | [], _, _, _, _, _, _, _, _, _, _, _, _, _, _, _, _, _, _, _, _ => ⟨_, rfl⟩
  | c :: cs, x2, x3, x4, x5, x6, x7, x8, x9, x10, x11, n2, n3, n4, n5, n6, n7, n8, n9, n10, n11 => by
    obtain ⟨y3, y4, y5, y6, y7, y8, y9, y10, y11, m3, m4, m5, m6, m7, m8, m9, m10, m11, b⟩ := one_cell (c := c) (d := d) (x1 := x1) n3 n4 n5 n6 n7 n8 n9 n10 n11
    obtain ⟨e2, q⟩ := cells (d := d) (x1 := x1) cs (.t (.int c)) y3 y4 y5 y6 y7 y8 y9 y10 y11 rfl m3 m4 m5 m6 m7 m8 m9 m10 m11
    refine ⟨e2, ?_⟩
    rw [List.map_cons]
    unfold forL
    have g : gmN 2 (.int c) [.t d, x1, x2, x3, x4, x5, x6, x7, x8, x9, x10, x11] = .ok [.t d, x1, .t (.int c), x3, x4, x5, x6, x7, x8, x9, x10, x11] := by simp [n2]
    rw [g]
    simp only [noE_ok, y1, b]
    exact q
theorem law_true (ns : List Int) (h : ns.length ≤ 63) (d : D) (hd : d = .scr ns ∨ d = .lst (ns.map D.int)) : m_law [d] = .ok (.bl true) := by
  have hc : cutD (ns.map D.int) none (some 16) = (ns.take 16).map D.int := by
    rw [show (some 16 : Option Int) = some ((16 : Nat) : Int) from rfl, cut_head, List.map_take]
  let G : Int := 80086708338943961850699493502416407409877663626188170023127069525461180924
  obtain ⟨e2, q⟩ := cells (d := d) (x1 := .t (.int G)) (G :: ns.take 16) .u .u .u .u .u .u .u .u .u .u rfl rfl rfl rfl rfl rfl rfl rfl rfl rfl
  have hz : 1 + min 16 ns.length ≤ 1000000 := by omega
  rcases hd with rfl | rfl
  · refine run_ends (ends_sq (by simp; rfl) ?_)
    refine ends_sq (by simp [hc, hz]; simp [G] at q; rw [q]) ?_
    exact ends_is (by simp; rfl)
  · refine run_ends (ends_sq (by simp; rfl) ?_)
    refine ends_sq (by simp [hc, hz]; simp [G] at q; rw [q]) ?_
    exact ends_is (by simp; rfl)
end Law
end
section
set_option maxRecDepth 100000
set_option maxHeartbeats 4000000
namespace Law
open PySem PySem.Spec PyProof.Rows L2 Vm
def topS (i : Nat) : Stmt := PySem.Challenge.pw_oldestbills_k23_akin.main.body.getD i (.Pass ⟨0, 0, 0, 0⟩)
abbrev s__law_draws : Stmt := topS 28
abbrev N__law_draws : List Str := ["cell"]
theorem sc__law_draws : FnScope N__law_draws ["cell"] (defScope s__law_draws) := ⟨rfl, rfl, rfl, by decide +kernel, rfl, by decide +kernel, by decide +kernel⟩
abbrev s__law_pick : Stmt := topS 29
abbrev N__law_pick : List Str := ["stock", "upto", "turn", "stir", "digit"]
theorem sc__law_pick : FnScope N__law_pick ["stock", "upto"] (defScope s__law_pick) := ⟨rfl, rfl, rfl, by decide +kernel, rfl, by decide +kernel, by decide +kernel⟩
abbrev s__law_wide : Stmt := topS 30
abbrev N__law_wide : List Str := ["stock", "upto", "whole", "turn"]
theorem sc__law_wide : FnScope N__law_wide ["stock", "upto"] (defScope s__law_wide) := ⟨rfl, rfl, rfl, by decide +kernel, rfl, by decide +kernel, by decide +kernel⟩
abbrev s__law_jar_of : Stmt := topS 37
abbrev N__law_jar_of : List Str := ["stock", "count", "names", "span", "top", "jar", "turn", "way", "when", "much", "debts", "at"]
theorem sc__law_jar_of : FnScope N__law_jar_of ["stock", "count", "names", "span", "top"] (defScope s__law_jar_of) := ⟨rfl, rfl, rfl, by decide +kernel, rfl, by decide +kernel, by decide +kernel⟩
abbrev s__law_a_jar : Stmt := topS 38
abbrev N__law_a_jar : List Str := ["stock", "many", "names", "span", "top", "count"]
theorem sc__law_a_jar : FnScope N__law_a_jar ["stock", "many", "names"] (defScope s__law_a_jar) := ⟨rfl, rfl, rfl, by decide +kernel, rfl, by decide +kernel, by decide +kernel⟩
abbrev s__law_pairs : Stmt := topS 32
abbrev N__law_pairs : List Str := ["sums", "spot"]
theorem sc__law_pairs : FnScope N__law_pairs ["sums"] (defScope s__law_pairs) := ⟨rfl, rfl, rfl, by decide +kernel, rfl, by decide +kernel, by decide +kernel⟩
abbrev s__law_of_word : Stmt := topS 31
abbrev N__law_of_word : List Str := ["jar", "owing", "spots", "at", "when"]
theorem sc__law_of_word : FnScope N__law_of_word ["jar", "owing"] (defScope s__law_of_word) := ⟨rfl, rfl, rfl, by decide +kernel, rfl, by decide +kernel, by decide +kernel⟩
abbrev s__law_lay : Stmt := topS 33
abbrev N__law_lay : List Str := ["stock", "jar", "many", "rest", "sums", "turn", "debts", "coins", "room", "one", "debt", "coin", "much"]
theorem sc__law_lay : FnScope N__law_lay ["stock", "jar", "many"] (defScope s__law_lay) := ⟨rfl, rfl, rfl, by decide +kernel, rfl, by decide +kernel, by decide +kernel⟩
abbrev s__law_swapped : Stmt := topS 34
abbrev N__law_swapped : List Str := ["laying_here", "spot", "other", "much", "sums", "debt", "coin", "amount", "debt_b", "coin_b"]
theorem sc__law_swapped : FnScope N__law_swapped ["laying_here", "spot", "other", "much"] (defScope s__law_swapped) := ⟨rfl, rfl, rfl, by decide +kernel, rfl, by decide +kernel, by decide +kernel⟩
abbrev s__law_a_kin : Stmt := topS 35
abbrev N__law_a_kin : List Str := ["stock", "laying_here", "turns", "kin", "turn", "spots", "spot", "one", "room", "far"]
theorem sc__law_a_kin : FnScope N__law_a_kin ["stock", "laying_here", "turns"] (defScope s__law_a_kin) := ⟨rfl, rfl, rfl, by decide +kernel, rfl, by decide +kernel, by decide +kernel⟩
abbrev s__law_laid_on : Stmt := topS 39
abbrev N__law_laid_on : List Str := ["jar", "laying_here", "sums", "debt", "coin", "amount", "one"]
theorem sc__law_laid_on : FnScope N__law_laid_on ["jar", "laying_here"] (defScope s__law_laid_on) := ⟨rfl, rfl, rfl, by decide +kernel, rfl, by decide +kernel, by decide +kernel⟩
abbrev s__law_near_one : Stmt := topS 40
abbrev N__law_near_one : List Str := ["stock", "jar", "laying_here", "spot", "rest", "way", "left", "laid_on", "taken", "other", "debt", "coin", "amount", "one"]
theorem sc__law_near_one : FnScope N__law_near_one ["stock", "jar", "laying_here"] (defScope s__law_near_one) := ⟨rfl, rfl, rfl, by decide +kernel, rfl, by decide +kernel, by decide +kernel⟩
abbrev s__law_same : Stmt := topS 36
abbrev N__law_same : List Str := ["back", "due"]
theorem sc__law_same : FnScope N__law_same ["back", "due"] (defScope s__law_same) := ⟨rfl, rfl, rfl, by decide +kernel, rfl, by decide +kernel, by decide +kernel⟩
abbrev s_names_rightly : Stmt := topS 10
abbrev N_names_rightly : List Str := ["value", "entry", "other"]
theorem sc_names_rightly : FnScope N_names_rightly ["value", "entry"] (defScope s_names_rightly) := ⟨rfl, rfl, rfl, by decide +kernel, rfl, by decide +kernel, by decide +kernel⟩
abbrev s_has_word : Stmt := topS 7
abbrev N_has_word : List Str := ["value", "words"]
theorem sc_has_word : FnScope N_has_word ["value", "words"] (defScope s_has_word) := ⟨rfl, rfl, rfl, by decide +kernel, rfl, by decide +kernel, by decide +kernel⟩
abbrev s_is_integer : Stmt := topS 6
abbrev N_is_integer : List Str := ["value"]
theorem sc_is_integer : FnScope N_is_integer ["value"] (defScope s_is_integer) := ⟨rfl, rfl, rfl, by decide +kernel, rfl, by decide +kernel, by decide +kernel⟩
abbrev s_is_plain_entry : Stmt := topS 8
abbrev N_is_plain_entry : List Str := ["value"]
theorem sc_is_plain_entry : FnScope N_is_plain_entry ["value"] (defScope s_is_plain_entry) := ⟨rfl, rfl, rfl, by decide +kernel, rfl, by decide +kernel, by decide +kernel⟩
abbrev s_has_entry_form : Stmt := topS 9
abbrev N_has_entry_form : List Str := ["value"]
theorem sc_has_entry_form : FnScope N_has_entry_form ["value"] (defScope s_has_entry_form) := ⟨rfl, rfl, rfl, by decide +kernel, rfl, by decide +kernel, by decide +kernel⟩
abbrev s_is_account : Stmt := topS 11
abbrev N_is_account : List Str := ["value", "entry"]
theorem sc_is_account : FnScope N_is_account ["value"] (defScope s_is_account) := ⟨rfl, rfl, rfl, by decide +kernel, rfl, by decide +kernel, by decide +kernel⟩
abbrev s_need_account : Stmt := topS 12
abbrev N_need_account : List Str := ["value"]
theorem sc_need_account : FnScope N_need_account ["value"] (defScope s_need_account) := ⟨rfl, rfl, rfl, by decide +kernel, rfl, by decide +kernel, by decide +kernel⟩
abbrev s_rests_of : Stmt := topS 19
abbrev N_rests_of : List Str := ["account", "pairs", "rests", "debt", "money", "much", "entry"]
theorem sc_rests_of : FnScope N_rests_of ["account", "pairs"] (defScope s_rests_of) := ⟨rfl, rfl, rfl, by decide +kernel, rfl, by decide +kernel, by decide +kernel⟩
abbrev s_is_place : Stmt := topS 13
abbrev N_is_place : List Str := ["account", "value", "words"]
theorem sc_is_place : FnScope N_is_place ["account", "value", "words"] (defScope s_is_place) := ⟨rfl, rfl, rfl, by decide +kernel, rfl, by decide +kernel, by decide +kernel⟩
abbrev s_is_pair : Stmt := topS 18
abbrev N_is_pair : List Str := ["account", "value"]
theorem sc_is_pair : FnScope N_is_pair ["account", "value"] (defScope s_is_pair) := ⟨rfl, rfl, rfl, by decide +kernel, rfl, by decide +kernel, by decide +kernel⟩
abbrev s_fits_account : Stmt := topS 20
abbrev N_fits_account : List Str := ["account", "value", "at", "rest", "pair"]
theorem sc_fits_account : FnScope N_fits_account ["account", "value"] (defScope s_fits_account) := ⟨rfl, rfl, rfl, by decide +kernel, rfl, by decide +kernel, by decide +kernel⟩
abbrev s_need_laying : Stmt := topS 21
abbrev N_need_laying : List Str := ["account", "value"]
theorem sc_need_laying : FnScope N_need_laying ["account", "value"] (defScope s_need_laying) := ⟨rfl, rfl, rfl, by decide +kernel, rfl, by decide +kernel, by decide +kernel⟩
abbrev s_line_of : Stmt := topS 14
abbrev N_line_of : List Str := ["account", "indexes", "at"]
theorem sc_line_of : FnScope N_line_of ["account"] (defScope s_line_of) := ⟨rfl, rfl, rfl, by decide +kernel, rfl, by decide +kernel, by decide +kernel⟩
abbrev s_bill_line : Stmt := topS 15
abbrev N_bill_line : List Str := ["account", "at"]
theorem sc_bill_line : FnScope N_bill_line ["account"] (defScope s_bill_line) := ⟨rfl, rfl, rfl, by decide +kernel, rfl, by decide +kernel, by decide +kernel⟩
abbrev s_payment_line : Stmt := topS 16
abbrev N_payment_line : List Str := ["account", "at"]
theorem sc_payment_line : FnScope N_payment_line ["account"] (defScope s_payment_line) := ⟨rfl, rfl, rfl, by decide +kernel, rfl, by decide +kernel, by decide +kernel⟩
abbrev s_laid_sums : Stmt := topS 23
abbrev N_laid_sums : List Str := ["laying", "indexes", "place", "at", "pair"]
theorem sc_laid_sums : FnScope N_laid_sums ["laying", "indexes", "place"] (defScope s_laid_sums) := ⟨rfl, rfl, rfl, by decide +kernel, rfl, by decide +kernel, by decide +kernel⟩
abbrev s_are_akin : Stmt := topS 25
abbrev N_are_akin : List Str := ["account", "laying", "other_laying", "debts", "moneys"]
theorem sc_are_akin : FnScope N_are_akin ["account", "laying", "other_laying"] (defScope s_are_akin) := ⟨rfl, rfl, rfl, by decide +kernel, rfl, by decide +kernel, by decide +kernel⟩
abbrev s_akin : Stmt := topS 26
abbrev N_akin : List Str := ["account", "laying", "other_laying"]
theorem sc_akin : FnScope N_akin ["account", "laying", "other_laying"] (defScope s_akin) := ⟨rfl, rfl, rfl, by decide +kernel, rfl, by decide +kernel, by decide +kernel⟩
abbrev s_law : Stmt := topS 41
abbrev N_law : List Str := ["script", "great", "cell", "stock", "size", "jar", "lays", "kin", "due", "kept", "one", "two"]
theorem sc_law : FnScope N_law ["script"] (defScope s_law) := ⟨rfl, rfl, rfl, by decide +kernel, rfl, by decide +kernel, by decide +kernel⟩
theorem bt_all : bootBuiltins "all" = some (.builtin "all") := by decide +kernel
theorem bt_bool : bootBuiltins "bool" = some (.type "bool") := by decide +kernel
theorem bt_int : bootBuiltins "int" = some (.type "int") := by decide +kernel
theorem bt_len : bootBuiltins "len" = some (.builtin "len") := by decide +kernel
theorem bt_list : bootBuiltins "list" = some (.type "list") := by decide +kernel
theorem bt_max : bootBuiltins "max" = some (.builtin "max") := by decide +kernel
theorem bt_min : bootBuiltins "min" = some (.builtin "min") := by decide +kernel
theorem bt_repr : bootBuiltins "repr" = some (.builtin "repr") := by decide +kernel
theorem bt_sorted : bootBuiltins "sorted" = some (.builtin "sorted") := by decide +kernel
theorem bt_str : bootBuiltins "str" = some (.type "str") := by decide +kernel
theorem bt_sum : bootBuiltins "sum" = some (.builtin "sum") := by decide +kernel
theorem bt_tuple : bootBuiltins "tuple" = some (.type "tuple") := by decide +kernel
/-- what the top has left -/
structure Txt (K : PySem.W.Frag) (mg : Str → Option Value) (base : Heap) (Tb : List (Addr × Str)) : Prop where
  f__law_draws : ∃ f fd, Fun K "_law_draws" "_law_draws" s__law_draws f fd ∧ mg "_law_draws" = some (.ref f)
  f__law_pick : ∃ f fd, Fun K "_law_pick" "_law_pick" s__law_pick f fd ∧ mg "_law_pick" = some (.ref f)
  f__law_wide : ∃ f fd, Fun K "_law_wide" "_law_wide" s__law_wide f fd ∧ mg "_law_wide" = some (.ref f)
  f__law_jar_of : ∃ f fd, Fun K "_law_jar_of" "_law_jar_of" s__law_jar_of f fd ∧ mg "_law_jar_of" = some (.ref f)
  f__law_a_jar : ∃ f fd, Fun K "_law_a_jar" "_law_a_jar" s__law_a_jar f fd ∧ mg "_law_a_jar" = some (.ref f)
  f__law_pairs : ∃ f fd, Fun K "_law_pairs" "_law_pairs" s__law_pairs f fd ∧ mg "_law_pairs" = some (.ref f)
  f__law_of_word : ∃ f fd, Fun K "_law_of_word" "_law_of_word" s__law_of_word f fd ∧ mg "_law_of_word" = some (.ref f)
  f__law_lay : ∃ f fd, Fun K "_law_lay" "_law_lay" s__law_lay f fd ∧ mg "_law_lay" = some (.ref f)
  f__law_swapped : ∃ f fd, Fun K "_law_swapped" "_law_swapped" s__law_swapped f fd ∧ mg "_law_swapped" = some (.ref f)
  f__law_a_kin : ∃ f fd, Fun K "_law_a_kin" "_law_a_kin" s__law_a_kin f fd ∧ mg "_law_a_kin" = some (.ref f)
  f__law_laid_on : ∃ f fd, Fun K "_law_laid_on" "_law_laid_on" s__law_laid_on f fd ∧ mg "_law_laid_on" = some (.ref f)
  f__law_near_one : ∃ f fd, Fun K "_law_near_one" "_law_near_one" s__law_near_one f fd ∧ mg "_law_near_one" = some (.ref f)
  f__law_same : ∃ f fd, Fun K "_law_same" "_law_same" s__law_same f fd ∧ mg "_law_same" = some (.ref f)
  f_names_rightly : ∃ f fd, Fun K "names_rightly" "names_rightly" s_names_rightly f fd ∧ mg "names_rightly" = some (.ref f)
  f_has_word : ∃ f fd, Fun K "has_word" "has_word" s_has_word f fd ∧ mg "has_word" = some (.ref f)
  f_is_integer : ∃ f fd, Fun K "is_integer" "is_integer" s_is_integer f fd ∧ mg "is_integer" = some (.ref f)
  f_is_plain_entry : ∃ f fd, Fun K "is_plain_entry" "is_plain_entry" s_is_plain_entry f fd ∧ mg "is_plain_entry" = some (.ref f)
  f_has_entry_form : ∃ f fd, Fun K "has_entry_form" "has_entry_form" s_has_entry_form f fd ∧ mg "has_entry_form" = some (.ref f)
  f_is_account : ∃ f fd, Fun K "is_account" "is_account" s_is_account f fd ∧ mg "is_account" = some (.ref f)
  f_need_account : ∃ f fd, Fun K "need_account" "need_account" s_need_account f fd ∧ mg "need_account" = some (.ref f)
  f_rests_of : ∃ f fd, Fun K "rests_of" "rests_of" s_rests_of f fd ∧ mg "rests_of" = some (.ref f)
  f_is_place : ∃ f fd, Fun K "is_place" "is_place" s_is_place f fd ∧ mg "is_place" = some (.ref f)
  f_is_pair : ∃ f fd, Fun K "is_pair" "is_pair" s_is_pair f fd ∧ mg "is_pair" = some (.ref f)
  f_fits_account : ∃ f fd, Fun K "fits_account" "fits_account" s_fits_account f fd ∧ mg "fits_account" = some (.ref f)
  f_need_laying : ∃ f fd, Fun K "need_laying" "need_laying" s_need_laying f fd ∧ mg "need_laying" = some (.ref f)
  f_line_of : ∃ f fd c P, Fun K "line_of" "line_of" s_line_of f fd ∧ mg "line_of" = some (.ref f) ∧ fd.code = .ref c ∧ LamX.TabB base mg c P ∧ (P, lamN "line_of") ∈ Tb ∧ ∀ p ∈ Tb, p.1 = P → p.2 = lamN "line_of"
  f_bill_line : ∃ f fd, Fun K "bill_line" "bill_line" s_bill_line f fd ∧ mg "bill_line" = some (.ref f)
  f_payment_line : ∃ f fd, Fun K "payment_line" "payment_line" s_payment_line f fd ∧ mg "payment_line" = some (.ref f)
  f_laid_sums : ∃ f fd, Fun K "laid_sums" "laid_sums" s_laid_sums f fd ∧ mg "laid_sums" = some (.ref f)
  f_are_akin : ∃ f fd, Fun K "are_akin" "are_akin" s_are_akin f fd ∧ mg "are_akin" = some (.ref f)
  f_akin : ∃ f fd, Fun K "akin" "akin" s_akin f fd ∧ mg "akin" = some (.ref f)
  f_law : ∃ f fd, Fun K "law" "law" s_law f fd ∧ mg "law" = some (.ref f)
  b_all : mg "all" = none
  b_bool : mg "bool" = none
  b_int : mg "int" = none
  b_isinstance : mg "isinstance" = none
  b_len : mg "len" = none
  b_list : mg "list" = none
  b_max : mg "max" = none
  b_min : mg "min" = none
  b_range : mg "range" = none
  b_repr : mg "repr" = none
  b_sorted : mg "sorted" = none
  b_str : mg "str" = none
  b_sum : mg "sum" = none
  b_tuple : mg "tuple" = none
  e_InvalidAccount : ExF K mg "InvalidAccount"
  e_InvalidLaying : ExF K mg "InvalidLaying"
  c_PAYING : CoF K mg "PAYING" (.tup [.str "pay", .str "named"])
section
variable {P : Program} {w : World} {K : PySem.W.Frag} {mg : Str → Option Value} {base : Heap} {Tb : List (Addr × Str)}
theorem w__law_draws (T : Txt K mg base Tb) : Body P w K Tb mg base N__law_draws "_law_draws" s__law_draws 0 true b__law_draws := fun f cdv A outer s H E M0 fr pa g => ⟨_, (ssm_one (sm_retF (ef_lst (am_cons (em_callB (call_max2 g.calm) cs_max2 (by rfl) T.b_max bt_max (am_cons (em_int) (am_cons (em_bin op_sub os_sub (em_callTy call_int1 cs_int (by rfl) T.b_int bt_int (am_cons (em_var 0) am_nil)) (em_bin op_pow os_pow (em_int) (em_int))) am_nil))) (am_cons (em_bin op_mod os_mod (em_callTy call_int1 cs_int (by rfl) T.b_int bt_int (am_cons (em_var 0) am_nil)) (em_int)) (am_cons (em_int) am_nil))))))⟩
theorem h__law_draws (T : Txt K mg base Tb) : Fn P w K mg base 1 "_law_draws" (spF K Tb mg 1 m__law_draws) := by
  obtain ⟨f, fd, F, hm⟩ := T.f__law_draws
  exact fnF F sc__law_draws rfl hm (F.binds (ps := ["cell"]) fun _ _ _ _ _ _ us hl => match us, hl with | [_], _ => rfl) (w__law_draws T)
theorem w__law_pick (T : Txt K mg base Tb) : Body P w K Tb mg base N__law_pick "_law_pick" s__law_pick 0 false b__law_pick := fun f cdv A outer s H E M0 fr pa g => ⟨_, (ssm_cons (sm_if (tm_cmp op_gt os_cmp (em_ix (iIx g) os_ixA (em_var 0) (em_int)) (em_int)) (ssm_cons (sm_set (i := 4) g (em_bin op_mod os_mod (em_callTy call_int1 cs_int (by rfl) T.b_int bt_int (am_cons (em_ix (iIx g) os_ixA (em_var 0) (em_int)) am_nil)) (em_var 1)))
    (ssm_cons (sm_put 0 g (em_int) (em_bin op_fdivW os_div (em_ix (iIx g) os_ixA (em_var 0) (em_int)) (em_var 1)))
    (ssm_one (sm_ret (em_var 4))))) ssm_nil)
    (ssm_cons (sm_put 0 g (em_int) (em_bin (oAdd g) os_addA (em_ix (iIx g) os_ixA (em_var 0) (em_int)) (em_int)))
    (ssm_cons (sm_set (i := 2) g (em_ix (iIx g) os_ixA (em_var 0) (em_int)))
    (ssm_cons (sm_set (i := 3) g (em_bin (oAdd g) os_addA (em_bin (oAdd g) os_addA (em_ix (iIx g) os_ixA (em_var 0) (em_int)) (em_bin op_mulW os_mul (em_bin op_mulW os_mul (em_int) (em_var 2)) (em_var 2))) (em_int)))
    (ssm_cons (sm_set (i := 3) g (em_bin (oAdd g) os_addA (em_bin op_mulW os_mul (em_var 3) (em_bin (oAdd g) os_addA (em_ix (iIx g) os_ixA (em_var 0) (em_int)) (em_bin op_mulW os_mul (em_int) (em_var 2)))) (em_var 2)))
    (ssm_cons (sm_set (i := 3) g (em_bin op_fdivW os_div (em_bin op_mod os_mod (em_callTy call_int1 cs_int (by rfl) T.b_int bt_int (am_cons (em_bin (oAdd g) os_addA (em_bin op_mulW os_mul (em_var 3) (em_var 3)) (em_bin op_mulW os_mul (em_int) (em_var 3))) am_nil)) (em_int)) (em_int)))
    (ssm_one (sm_ret (em_bin op_mod os_mod (em_bin op_fdivW os_div (em_bin op_mod os_mod (em_callTy call_int1 cs_int (by rfl) T.b_int bt_int (am_cons (em_bin op_mulW os_mul (em_var 3) (em_bin (oAdd g) os_addA (em_bin (oAdd g) os_addA (em_var 3) (em_bin op_mulW os_mul (em_int) (em_var 2))) (em_int))) am_nil)) (em_int)) (em_int)) (em_var 1))))))))))⟩
theorem h__law_pick (T : Txt K mg base Tb) : Fn P w K mg base 1 "_law_pick" (spJ K Tb 2 m__law_pick) := by
  obtain ⟨f, fd, F, hm⟩ := T.f__law_pick
  exact fnJ F sc__law_pick rfl hm (F.binds (ps := ["stock", "upto"]) fun _ _ _ _ _ _ us hl => match us, hl with | [_, _], _ => rfl) (w__law_pick T)
theorem w__law_wide (T : Txt K mg base Tb) : Body P w K Tb mg base N__law_wide "_law_wide" s__law_wide 1 false b__law_wide := fun f cdv A outer s H E M0 fr pa g => ⟨_, (ssm_cons (sm_if (tm_cmp op_le os_cmp (em_var 1) (em_bin op_pow os_pow (em_int) (em_int))) (ssm_one (sm_ret (em_callJ g (h__law_pick T) (am_cons (em_var 0) (am_cons (em_var 1) am_nil))))) ssm_nil)
    (ssm_cons (sm_set (i := 2) g (em_int))
    (ssm_cons (sm_for g (im_range1 g (am_cons (em_int) am_nil) T.b_range) (gm_name 3 g.nd) (ssm_one (sm_set (i := 2) g (em_bin (oAdd g) os_addA (em_bin op_mulW os_mul (em_var 2) (em_bin op_pow os_pow (em_int) (em_int))) (em_callJ g (h__law_pick T) (am_cons (em_var 0) (am_cons (em_bin op_pow os_pow (em_int) (em_int)) am_nil)))))))
    (ssm_one (sm_ret (em_bin op_mod os_mod (em_callTy call_int1 cs_int (by rfl) T.b_int bt_int (am_cons (em_var 2) am_nil)) (em_var 1)))))))⟩
theorem h__law_wide (T : Txt K mg base Tb) : Fn P w K mg base 2 "_law_wide" (spJ K Tb 2 m__law_wide) := by
  obtain ⟨f, fd, F, hm⟩ := T.f__law_wide
  exact fnJ F sc__law_wide rfl hm (F.binds (ps := ["stock", "upto"]) fun _ _ _ _ _ _ us hl => match us, hl with | [_, _], _ => rfl) (w__law_wide T)
theorem w__law_jar_of (T : Txt K mg base Tb) : Body P w K Tb mg base N__law_jar_of "_law_jar_of" s__law_jar_of 2 false b__law_jar_of := fun f cdv A outer s H E M0 fr pa g => ⟨_, (ssm_cons (sm_setL (i := 5) g (ef_lst am_nil))
    (ssm_cons (sm_for g (im_range1 g (am_cons (em_var 1) am_nil) T.b_range) (gm_name 6 g.nd) (ssm_cons (sm_set (i := 7) g (em_if (tm_cmp op_lt os_cmp (em_var 6) (em_int)) (em_ix (iIx g) os_ixA (em_of_ef (ef_lst (am_cons (em_int) (am_cons (em_int) am_nil)))) (em_bin op_mod os_mod (em_callTy call_int1 cs_int (by rfl) T.b_int bt_int (am_cons (em_var 6) am_nil)) (em_int))) (em_callJ g (h__law_pick T) (am_cons (em_var 0) (am_cons (em_int) am_nil)))))
    (ssm_cons (sm_set (i := 8) g (em_bin op_sub os_sub (em_callJ g (h__law_pick T) (am_cons (em_var 0) (am_cons (em_var 3) am_nil))) (em_bin op_fdivW os_div (em_var 3) (em_int))))
    (ssm_cons (sm_set (i := 9) g (em_bin (oAdd g) os_addA (em_int) (em_callJ g (h__law_wide T) (am_cons (em_var 0) (am_cons (em_var 4) am_nil)))))
    (ssm_cons (sm_lcA (fresh := false) (i := 10) (own := [("at", 11)]) g (im_range1 g (am_cons (em_callB (cLen g) cs_len (by rfl) T.b_len bt_len (am_cons (em_var 5) am_nil)) am_nil) T.b_range) (blkOk_by (N := N__law_jar_of) (sc := defScope s__law_jar_of) (by decide +kernel)) (fun _ _ _ _ _ g => (gm_name 11 g.nd)) (fun _ _ _ _ _ g => (tms_one (tm_wm (wm_and (tm_cmp (oEq g) os_eqA (em_ix (iIx g) os_ixA (em_ix (iIx g) os_ixA (em_var 5) (em_var 11)) (em_int)) (em_str)) (wm_and1 (tm_cmp op_le os_cmp (em_ix (iIx g) os_ixA (em_ix (iIx g) os_ixA (em_var 5) (em_var 11)) (em_int)) (em_var 8))))))) (fun _ _ _ _ _ g => (em_var 11)))
    (ssm_one (sm_if (tm_cmp (oEq g) os_eqA (em_var 7) (em_int)) (ssm_one (sm_expr (em_append 5 g (em_tup (am_cons (em_str) am_nil))))) (ssm_one (sm_if (tm_cmp op_lt os_cmp (em_var 7) (em_int)) (ssm_one (sm_expr (em_append 5 g (em_tup (am_cons (em_str) (am_cons (em_var 8) (am_cons (em_var 9) am_nil))))))) (ssm_one (sm_if (tm_wm (wm_and (tm_cmp op_lt os_cmp (em_var 7) (em_int)) (wm_and (tm_val (em_var 2)) (wm_and1 (tm_cmp (oNe g) os_neA (em_var 10) (em_of_ef (ef_lst am_nil))))))) (ssm_one (sm_expr (em_append 5 g (em_tup (am_cons (em_str) (am_cons (em_var 8) (am_cons (em_var 9) (am_cons (em_ix (iIx g) os_ixA (em_var 10) (em_callJ g (h__law_pick T) (am_cons (em_var 0) (am_cons (em_callB (cLen g) cs_len (by rfl) T.b_len bt_len (am_cons (em_var 10) am_nil)) am_nil)))) am_nil)))))))) (ssm_one (sm_expr (em_append 5 g (em_tup (am_cons (em_str) (am_cons (em_var 8) (am_cons (em_var 9) am_nil))))))))))))))))))
    (ssm_one (sm_ret (em_callTy (cTuple g) cs_tuple (by rfl) T.b_tuple bt_tuple (am_cons (em_var 5) am_nil))))))⟩
theorem h__law_jar_of (T : Txt K mg base Tb) : Fn P w K mg base 3 "_law_jar_of" (spJ K Tb 5 m__law_jar_of) := by
  obtain ⟨f, fd, F, hm⟩ := T.f__law_jar_of
  exact fnJ F sc__law_jar_of rfl hm (F.binds (ps := ["stock", "count", "names", "span", "top"]) fun _ _ _ _ _ _ us hl => match us, hl with | [_, _, _, _, _], _ => rfl) (w__law_jar_of T)
theorem w__law_a_jar (T : Txt K mg base Tb) : Body P w K Tb mg base N__law_a_jar "_law_a_jar" s__law_a_jar 3 false b__law_a_jar := fun f cdv A outer s H E M0 fr pa g => ⟨_, (ssm_cons (sm_set (i := 3) g (em_ix (iIx g) os_ixA (em_of_ef (ef_lst (am_cons (em_int) (am_cons (em_int) (am_cons (em_int) (am_cons (em_int) am_nil)))))) (em_callJ g (h__law_pick T) (am_cons (em_var 0) (am_cons (em_int) am_nil)))))
    (ssm_cons (sm_set (i := 4) g (em_ix (iIx g) os_ixA (em_of_ef (ef_lst (am_cons (em_int) (am_cons (em_int) (am_cons (em_bin op_pow os_pow (em_int) (em_int)) (am_cons (em_bin op_pow os_pow (em_int) (em_int)) am_nil)))))) (em_callJ g (h__law_pick T) (am_cons (em_var 0) (am_cons (em_int) am_nil)))))
    (ssm_cons (sm_set (i := 5) g (em_bin op_sub os_sub (em_var 1) (em_bin op_fdivW os_div (em_callJ g (h__law_pick T) (am_cons (em_var 0) (am_cons (em_var 1) am_nil))) (em_ix (iIx g) os_ixA (em_of_ef (ef_lst (am_cons (em_int) (am_cons (em_int) (am_cons (em_int) am_nil))))) (em_callJ g (h__law_pick T) (am_cons (em_var 0) (am_cons (em_int) am_nil)))))))
    (ssm_one (sm_ret (em_callJ g (h__law_jar_of T) (am_cons (em_var 0) (am_cons (em_bin op_sub os_sub (em_var 5) (em_bin op_mulW os_mul (em_callTy call_int1 cs_int (by rfl) T.b_int bt_int (am_cons (em_cmp (oEq g) os_eqA (em_callJ g (h__law_pick T) (am_cons (em_var 0) (am_cons (em_int) am_nil))) (em_int)) am_nil)) (em_var 5))) (am_cons (em_var 2) (am_cons (em_var 3) (am_cons (em_var 4) am_nil)))))))))))⟩
theorem h__law_a_jar (T : Txt K mg base Tb) : Fn P w K mg base 4 "_law_a_jar" (spJ K Tb 3 m__law_a_jar) := by
  obtain ⟨f, fd, F, hm⟩ := T.f__law_a_jar
  exact fnJ F sc__law_a_jar rfl hm (F.binds (ps := ["stock", "many", "names"]) fun _ _ _ _ _ _ us hl => match us, hl with | [_, _, _], _ => rfl) (w__law_a_jar T)
theorem w__law_pairs (T : Txt K mg base Tb) : Body P w K Tb mg base N__law_pairs "_law_pairs" s__law_pairs 0 false b__law_pairs := fun f cdv A outer s H E M0 fr pa g => ⟨_, (ssm_one (sm_ret (em_of_ef (ef_callB (cSortA g) cf_sortA (by rfl) T.b_sorted bt_sorted (am_cons (em_of_ef (ef_lcV 0 (own := [("spot", 1)]) g (blkOk_by (N := N__law_pairs) (sc := defScope s__law_pairs) (by decide +kernel)) (fun _ _ _ _ _ g => (gm_name 1 g.nd)) (fun _ _ _ _ _ g => (tms_one (tm_cmp op_gt os_cmp (em_ix (iIxT g) os_ixT (em_var 0) (em_var 1)) (em_int)))) (fun _ _ _ _ _ g => (em_tup (am_cons (em_ix (iIx g) os_ixA (em_var 1) (em_int)) (am_cons (em_ix (iIx g) os_ixA (em_var 1) (em_int)) (am_cons (em_ix (iIxT g) os_ixT (em_var 0) (em_var 1)) am_nil))))))) am_nil)))))⟩
theorem h__law_pairs (T : Txt K mg base Tb) : Fn P w K mg base 1 "_law_pairs" (spP K Tb mg 1 m__law_pairs) := by
  obtain ⟨f, fd, F, hm⟩ := T.f__law_pairs
  exact fnP F sc__law_pairs rfl hm (F.binds (ps := ["sums"]) fun _ _ _ _ _ _ us hl => match us, hl with | [_], _ => rfl) (w__law_pairs T)
theorem w__law_of_word (T : Txt K mg base Tb) : Body P w K Tb mg base N__law_of_word "_law_of_word" s__law_of_word 0 false b__law_of_word := fun f cdv A outer s H E M0 fr pa g => ⟨_, (ssm_cons (sm_lcA (fresh := false) (i := 2) (own := [("at", 3)]) g (im_range1 g (am_cons (em_callB (cLen g) cs_len (by rfl) T.b_len bt_len (am_cons (em_var 0) am_nil)) am_nil) T.b_range) (blkOk_by (N := N__law_of_word) (sc := defScope s__law_of_word) (by decide +kernel)) (fun _ _ _ _ _ g => (gm_name 3 g.nd)) (fun _ _ _ _ _ g => (tms_one (tm_wm (wm_and (tm_cmp (oNe g) os_neA (em_ix (iIx g) os_ixA (em_ix (iIx g) os_ixA (em_var 0) (em_var 3)) (em_int)) (em_str)) (wm_and1 (tm_cmp (oEq g) os_eqA (em_cmp (oEq g) os_eqA (em_ix (iIx g) os_ixA (em_ix (iIx g) os_ixA (em_var 0) (em_var 3)) (em_int)) (em_str)) (em_var 1))))))) (fun _ _ _ _ _ g => (em_var 3)))
    (ssm_one (sm_ret (em_of_ef (ef_lc (own := [("when", 4), ("at", 3)]) g (im_seq g (em_of_ef (ef_callB (cSortA g) cf_sortA (by rfl) T.b_sorted bt_sorted (am_cons (em_of_ef (ef_lc (own := [("at", 3)]) g (im_seq g (em_var 2)) (blkOk_by (N := N__law_of_word) (sc := defScope s__law_of_word) (by decide +kernel)) (fun _ _ _ _ _ g => (gm_name 3 g.nd)) (fun _ _ _ _ _ g => tms_nil) (fun _ _ _ _ _ g => (em_tup (am_cons (em_ix (iIx g) os_ixA (em_ix (iIx g) os_ixA (em_var 0) (em_var 3)) (em_int)) (am_cons (em_var 3) am_nil)))))) am_nil)))) (blkOk_by (N := N__law_of_word) (sc := defScope s__law_of_word) (by decide +kernel)) (fun _ _ _ _ _ g => (gm_tup g (gms_cons (gm_name 4 g.nd) (gms_cons (gm_name 3 g.nd) gms_nil)))) (fun _ _ _ _ _ g => tms_nil) (fun _ _ _ _ _ g => (em_var 3)))))))⟩
theorem h__law_of_word (T : Txt K mg base Tb) : Fn P w K mg base 1 "_law_of_word" (spP K Tb mg 2 m__law_of_word) := by
  obtain ⟨f, fd, F, hm⟩ := T.f__law_of_word
  exact fnP F sc__law_of_word rfl hm (F.binds (ps := ["jar", "owing"]) fun _ _ _ _ _ _ us hl => match us, hl with | [_, _], _ => rfl) (w__law_of_word T)
theorem w__law_lay (T : Txt K mg base Tb) : Body P w K Tb mg base N__law_lay "_law_lay" s__law_lay 2 false b__law_lay := fun f cdv A outer s H E M0 fr pa g => ⟨_, (ssm_cons (sm_lcA (fresh := true) (i := 3) (own := [("one", 9)]) g (im_seq g (em_var 1)) (blkOk_by (N := N__law_lay) (sc := defScope s__law_lay) (by decide +kernel)) (fun _ _ _ _ _ g => (gm_name 9 g.nd)) (fun _ _ _ _ _ g => tms_nil) (fun _ _ _ _ _ g => (em_if (tm_cmp (oEq g) os_eqA (em_ix (iIx g) os_ixA (em_var 9) (em_int)) (em_str)) (em_int) (em_ix (iIx g) os_ixA (em_var 9) (em_int)))))
    (ssm_cons (sm_par 6 7 g (am_cons (em_call g (h__law_of_word T) (am_cons (em_var 1) (am_cons (em_bl) am_nil))) (am_cons (em_call g (h__law_of_word T) (am_cons (em_var 1) (am_cons (em_bl) am_nil))) am_nil)))
    (ssm_cons (sm_setL (i := 4) g (ef_dicT0))
    (ssm_cons (sm_if (tm_wm (wm_or (tm_cmp (oEq g) os_eqA (em_var 6) (em_of_ef (ef_lst am_nil))) (wm_or1 (tm_cmp (oEq g) os_eqA (em_var 7) (em_of_ef (ef_lst am_nil)))))) (ssm_one (sm_ret (em_of_ef (ef_lst am_nil)))) ssm_nil)
    (ssm_cons (sm_for g (im_range1 g (am_cons (em_callJ g (h__law_pick T) (am_cons (em_var 0) (am_cons (em_bin (oAdd g) os_addA (em_var 2) (em_int)) am_nil))) am_nil) T.b_range) (gm_name 5 g.nd) (ssm_cons (sm_par 10 11 g (am_cons (em_ix (iIx g) os_ixA (em_var 6) (em_callJ g (h__law_pick T) (am_cons (em_var 0) (am_cons (em_callB (cLen g) cs_len (by rfl) T.b_len bt_len (am_cons (em_var 6) am_nil)) am_nil)))) (am_cons (em_ix (iIx g) os_ixA (em_var 7) (em_callJ g (h__law_pick T) (am_cons (em_var 0) (am_cons (em_callB (cLen g) cs_len (by rfl) T.b_len bt_len (am_cons (em_var 7) am_nil)) am_nil)))) am_nil)))
    (ssm_cons (sm_set (i := 8) g (em_callB (call_min2 g.calm) cs_min2 (by rfl) T.b_min bt_min (am_cons (em_ix (iIx g) os_ixA (em_var 3) (em_var 10)) (am_cons (em_ix (iIx g) os_ixA (em_var 3) (em_var 11)) am_nil))))
    (ssm_one (sm_if (tm_cmp op_gt os_cmp (em_var 8) (em_int)) (ssm_cons (sm_set (i := 12) g (em_if (tm_cmp (oEq g) os_eqA (em_callJ g (h__law_pick T) (am_cons (em_var 0) (am_cons (em_int) am_nil))) (em_int)) (em_var 8) (em_bin (oAdd g) os_addA (em_int) (em_callJ g (h__law_wide T) (am_cons (em_var 0) (am_cons (em_var 8) am_nil))))))
    (ssm_cons (sm_putT 4 g (am_cons (em_var 10) (am_cons (em_var 11) am_nil)) (em_bin (oAdd g) os_addA (em_getA g (em_var 4) (em_tup (am_cons (em_var 10) (am_cons (em_var 11) am_nil))) (em_int) ⟨rfl, rfl, rfl, rfl⟩) (em_var 12)))
    (ssm_cons (sm_put 3 g (em_var 10) (em_bin op_sub os_sub (em_ix (iIx g) os_ixA (em_var 3) (em_var 10)) (em_var 12)))
    (ssm_one (sm_put 3 g (em_var 11) (em_bin op_sub os_sub (em_ix (iIx g) os_ixA (em_var 3) (em_var 11)) (em_var 12))))))) ssm_nil)))))
    (ssm_one (sm_ret (em_call g (h__law_pairs T) (am_cons (em_give 4) am_nil)))))))))⟩
theorem h__law_lay (T : Txt K mg base Tb) : Fn P w K mg base 3 "_law_lay" (spJ K Tb 3 m__law_lay) := by
  obtain ⟨f, fd, F, hm⟩ := T.f__law_lay
  exact fnJ F sc__law_lay rfl hm (F.binds (ps := ["stock", "jar", "many"]) fun _ _ _ _ _ _ us hl => match us, hl with | [_, _, _], _ => rfl) (w__law_lay T)
theorem w__law_swapped (T : Txt K mg base Tb) : Body P w K Tb mg base N__law_swapped "_law_swapped" s__law_swapped 1 false b__law_swapped := fun f cdv A outer s H E M0 fr pa g => ⟨_, (ssm_cons (sm_setL (i := 4) g (ef_dicT0))
    (ssm_cons (sm_for g (im_seq g (em_var 0)) (gm_tup g (gms_cons (gm_name 5 g.nd) (gms_cons (gm_name 6 g.nd) (gms_cons (gm_name 7 g.nd) gms_nil)))) (ssm_one (sm_putT 4 g (am_cons (em_var 5) (am_cons (em_var 6) am_nil)) (em_var 7))))
    (ssm_cons (sm_par 5 6 g (am_cons (em_ix (iIx g) os_ixA (em_ix (iIx g) os_ixA (em_var 0) (em_var 1)) (em_int)) (am_cons (em_ix (iIx g) os_ixA (em_ix (iIx g) os_ixA (em_var 0) (em_var 1)) (em_int)) am_nil)))
    (ssm_cons (sm_par 8 9 g (am_cons (em_ix (iIx g) os_ixA (em_ix (iIx g) os_ixA (em_var 0) (em_var 2)) (em_int)) (am_cons (em_ix (iIx g) os_ixA (em_ix (iIx g) os_ixA (em_var 0) (em_var 2)) (em_int)) am_nil)))
    (ssm_cons (sm_putT 4 g (am_cons (em_var 5) (am_cons (em_var 6) am_nil)) (em_bin op_sub os_sub (em_ix (iIxT g) os_ixT (em_var 4) (em_tup (am_cons (em_var 5) (am_cons (em_var 6) am_nil)))) (em_var 3)))
    (ssm_cons (sm_putT 4 g (am_cons (em_var 8) (am_cons (em_var 9) am_nil)) (em_bin op_sub os_sub (em_ix (iIxT g) os_ixT (em_var 4) (em_tup (am_cons (em_var 8) (am_cons (em_var 9) am_nil)))) (em_var 3)))
    (ssm_cons (sm_putT 4 g (am_cons (em_var 5) (am_cons (em_var 9) am_nil)) (em_bin (oAdd g) os_addA (em_getA g (em_var 4) (em_tup (am_cons (em_var 5) (am_cons (em_var 9) am_nil))) (em_int) ⟨rfl, rfl, rfl, rfl⟩) (em_var 3)))
    (ssm_cons (sm_putT 4 g (am_cons (em_var 8) (am_cons (em_var 6) am_nil)) (em_bin (oAdd g) os_addA (em_getA g (em_var 4) (em_tup (am_cons (em_var 8) (am_cons (em_var 6) am_nil))) (em_int) ⟨rfl, rfl, rfl, rfl⟩) (em_var 3)))
    (ssm_one (sm_ret (em_call g (h__law_pairs T) (am_cons (em_give 4) am_nil))))))))))))⟩
theorem h__law_swapped (T : Txt K mg base Tb) : Fn P w K mg base 2 "_law_swapped" (spP K Tb mg 4 m__law_swapped) := by
  obtain ⟨f, fd, F, hm⟩ := T.f__law_swapped
  exact fnP F sc__law_swapped rfl hm (F.binds (ps := ["laying_here", "spot", "other", "much"]) fun _ _ _ _ _ _ us hl => match us, hl with | [_, _, _, _], _ => rfl) (w__law_swapped T)
theorem w__law_a_kin (T : Txt K mg base Tb) : Body P w K Tb mg base N__law_a_kin "_law_a_kin" s__law_a_kin 2 false b__law_a_kin := fun f cdv A outer s H E M0 fr pa g => ⟨_, (ssm_cons (sm_set (i := 3) g (em_var 1))
    (ssm_cons (sm_for g (im_range1 g (am_cons (em_var 2) am_nil) T.b_range) (gm_name 4 g.nd) (ssm_cons (sm_set (i := 5) g (em_of_ef (ef_lst am_nil)))
    (ssm_cons (sm_for g (im_range1 g (am_cons (em_callB (cLen g) cs_len (by rfl) T.b_len bt_len (am_cons (em_var 3) am_nil)) am_nil) T.b_range) (gm_name 6 g.nd) (ssm_cons (sm_set (i := 7) g (em_ix (iIx g) os_ixA (em_var 3) (em_var 6)))
    (ssm_one (sm_set (i := 5) g (em_bin (oAdd g) os_addA (em_var 5) (em_of_ef (ef_lc (own := [("far", 9)]) g (im_range1 g (am_cons (em_var 6) am_nil) T.b_range) (blkOk_by (N := N__law_a_kin) (sc := defScope s__law_a_kin) (by decide +kernel)) (fun _ _ _ _ _ g => (gm_name 9 g.nd)) (fun _ _ _ _ _ g => (tms_one (tm_wm (wm_and (tm_cmp (oNe g) os_neA (em_ix (iIx g) os_ixA (em_var 7) (em_int)) (em_ix (iIx g) os_ixA (em_ix (iIx g) os_ixA (em_var 3) (em_var 9)) (em_int))) (wm_and1 (tm_cmp (oNe g) os_neA (em_ix (iIx g) os_ixA (em_var 7) (em_int)) (em_ix (iIx g) os_ixA (em_ix (iIx g) os_ixA (em_var 3) (em_var 9)) (em_int)))))))) (fun _ _ _ _ _ g => (em_tup (am_cons (em_var 6) (am_cons (em_var 9) am_nil)))))))))))
    (ssm_one (sm_if (tm_cmp (oNe g) os_neA (em_var 5) (em_of_ef (ef_lst am_nil))) (ssm_cons (sm_unp (em_ix (iIx g) os_ixA (em_var 5) (em_callJ g (h__law_pick T) (am_cons (em_var 0) (am_cons (em_callB (cLen g) cs_len (by rfl) T.b_len bt_len (am_cons (em_var 5) am_nil)) am_nil)))) (gm_tup g (gms_cons (gm_name 6 g.nd) (gms_cons (gm_name 9 g.nd) gms_nil))))
    (ssm_cons (sm_set (i := 8) g (em_callB (call_min2 g.calm) cs_min2 (by rfl) T.b_min bt_min (am_cons (em_ix (iIx g) os_ixA (em_ix (iIx g) os_ixA (em_var 3) (em_var 6)) (em_int)) (am_cons (em_ix (iIx g) os_ixA (em_ix (iIx g) os_ixA (em_var 3) (em_var 9)) (em_int)) am_nil))))
    (ssm_one (sm_set (i := 3) g (em_call g (h__law_swapped T) (am_cons (em_var 3) (am_cons (em_var 6) (am_cons (em_var 9) (am_cons (em_if (tm_cmp (oEq g) os_eqA (em_callJ g (h__law_pick T) (am_cons (em_var 0) (am_cons (em_int) am_nil))) (em_int)) (em_var 8) (em_bin (oAdd g) os_addA (em_int) (em_callJ g (h__law_wide T) (am_cons (em_var 0) (am_cons (em_var 8) am_nil))))) am_nil))))))))) ssm_nil)))))
    (ssm_one (sm_ret (em_var 3)))))⟩
theorem h__law_a_kin (T : Txt K mg base Tb) : Fn P w K mg base 3 "_law_a_kin" (spJ K Tb 3 m__law_a_kin) := by
  obtain ⟨f, fd, F, hm⟩ := T.f__law_a_kin
  exact fnJ F sc__law_a_kin rfl hm (F.binds (ps := ["stock", "laying_here", "turns"]) fun _ _ _ _ _ _ us hl => match us, hl with | [_, _, _], _ => rfl) (w__law_a_kin T)
theorem w__law_laid_on (T : Txt K mg base Tb) : Body P w K Tb mg base N__law_laid_on "_law_laid_on" s__law_laid_on 0 false b__law_laid_on := fun f cdv A outer s H E M0 fr pa g => ⟨_, (ssm_cons (sm_lcA (fresh := true) (i := 2) (own := [("one", 6)]) g (im_seq g (em_var 0)) (blkOk_by (N := N__law_laid_on) (sc := defScope s__law_laid_on) (by decide +kernel)) (fun _ _ _ _ _ g => (gm_name 6 g.nd)) (fun _ _ _ _ _ g => tms_nil) (fun _ _ _ _ _ g => (em_int)))
    (ssm_cons (sm_for g (im_seq g (em_var 1)) (gm_tup g (gms_cons (gm_name 3 g.nd) (gms_cons (gm_name 4 g.nd) (gms_cons (gm_name 5 g.nd) gms_nil)))) (ssm_cons (sm_put 2 g (em_var 3) (em_bin (oAdd g) os_addA (em_ix (iIx g) os_ixA (em_var 2) (em_var 3)) (em_var 5)))
    (ssm_one (sm_put 2 g (em_var 4) (em_bin (oAdd g) os_addA (em_ix (iIx g) os_ixA (em_var 2) (em_var 4)) (em_var 5))))))
    (ssm_one (sm_ret (em_give 2)))))⟩
theorem h__law_laid_on (T : Txt K mg base Tb) : Fn P w K mg base 1 "_law_laid_on" (spP K Tb mg 2 m__law_laid_on) := by
  obtain ⟨f, fd, F, hm⟩ := T.f__law_laid_on
  exact fnP F sc__law_laid_on rfl hm (F.binds (ps := ["jar", "laying_here"]) fun _ _ _ _ _ _ us hl => match us, hl with | [_, _], _ => rfl) (w__law_laid_on T)
theorem w__law_near_one (T : Txt K mg base Tb) : Body P w K Tb mg base N__law_near_one "_law_near_one" s__law_near_one 2 false b__law_near_one := fun f cdv A outer s H E M0 fr pa g => ⟨_, (ssm_cons (sm_if (tm_cmp (oEq g) os_eqA (em_var 2) (em_of_ef (ef_lst am_nil))) (ssm_one (sm_ret (em_of_ef (ef_lst am_nil)))) ssm_nil)
    (ssm_cons (sm_set (i := 3) g (em_callJ g (h__law_pick T) (am_cons (em_var 0) (am_cons (em_callB (cLen g) cs_len (by rfl) T.b_len bt_len (am_cons (em_var 2) am_nil)) am_nil))))
    (ssm_cons (sm_unp (em_ix (iIx g) os_ixA (em_var 2) (em_var 3)) (gm_tup g (gms_cons (gm_name 10 g.nd) (gms_cons (gm_name 11 g.nd) (gms_cons (gm_name 12 g.nd) gms_nil)))))
    (ssm_cons (sm_set (i := 4) g (em_bin (oAdd g) os_addA (em_slice g (em_var 2) om_none (om_some (em_var 3))) (em_slice g (em_var 2) (om_some (em_bin (oAdd g) os_addA (em_var 3) (em_int))) om_none)))
    (ssm_cons (sm_set (i := 5) g (em_callJ g (h__law_pick T) (am_cons (em_var 0) (am_cons (em_int) am_nil))))
    (ssm_cons (sm_if (tm_cmp (oEq g) os_eqA (em_var 5) (em_int)) (ssm_one (sm_ret (em_var 4))) ssm_nil)
    (ssm_cons (sm_if (tm_wm (wm_and (tm_cmp (oEq g) os_eqA (em_var 5) (em_int)) (wm_and1 (tm_cmp op_gt os_cmp (em_var 12) (em_int))))) (ssm_one (sm_ret (em_bin (oAdd g) os_addA (em_bin (oAdd g) os_addA (em_slice g (em_var 2) om_none (om_some (em_var 3))) (em_of_ef (ef_lst (am_cons (em_tup (am_cons (em_var 10) (am_cons (em_var 11) (am_cons (em_bin (oAdd g) os_addA (em_int) (em_callJ g (h__law_wide T) (am_cons (em_var 0) (am_cons (em_bin op_sub os_sub (em_var 12) (em_int)) am_nil)))) am_nil)))) am_nil)))) (em_slice g (em_var 2) (om_some (em_bin (oAdd g) os_addA (em_var 3) (em_int))) om_none)))) ssm_nil)
    (ssm_cons (sm_lcA (fresh := false) (i := 6) (own := [("one", 13)]) g (im_seq g (em_var 1)) (blkOk_by (N := N__law_near_one) (sc := defScope s__law_near_one) (by decide +kernel)) (fun _ _ _ _ _ g => (gm_name 13 g.nd)) (fun _ _ _ _ _ g => tms_nil) (fun _ _ _ _ _ g => (em_if (tm_cmp (oNe g) os_neA (em_ix (iIx g) os_ixA (em_var 13) (em_int)) (em_str)) (em_ix (iIx g) os_ixA (em_var 13) (em_int)) (em_int))))
    (ssm_cons (sm_set (i := 7) g (em_call g (h__law_laid_on T) (am_cons (em_var 1) (am_cons (em_var 4) am_nil))))
    (ssm_cons (sm_lcA (fresh := false) (i := 8) (own := [("one", 13)]) g (im_seq g (em_var 4)) (blkOk_by (N := N__law_near_one) (sc := defScope s__law_near_one) (by decide +kernel)) (fun _ _ _ _ _ g => (gm_name 13 g.nd)) (fun _ _ _ _ _ g => tms_nil) (fun _ _ _ _ _ g => (em_tup (am_cons (em_ix (iIx g) os_ixA (em_var 13) (em_int)) (am_cons (em_ix (iIx g) os_ixA (em_var 13) (em_int)) am_nil)))))
    (ssm_cons (sm_for g (im_seq g (em_call g (h__law_of_word T) (am_cons (em_var 1) (am_cons (em_bl) am_nil)))) (gm_name 9 g.nd) (ssm_one (sm_if (tm_wm (wm_and (tm_cmp (oNe g) os_neA (em_var 9) (em_var 10)) (wm_and (tm_cmp op_ge os_cmp (em_bin op_sub os_sub (em_ix (iIx g) os_ixA (em_var 6) (em_var 9)) (em_ix (iIx g) os_ixA (em_var 7) (em_var 9))) (em_var 12)) (wm_and1 (tm_cmp (oNinS g) os_ninSA (em_tup (am_cons (em_var 9) (am_cons (em_var 11) am_nil))) (em_var 8)))))) (ssm_one (sm_ret (em_of_ef (ef_callB (cSortA g) cf_sortA (by rfl) T.b_sorted bt_sorted (am_cons (em_bin (oAdd g) os_addA (em_var 4) (em_of_ef (ef_lst (am_cons (em_tup (am_cons (em_var 9) (am_cons (em_var 11) (am_cons (em_var 12) am_nil)))) am_nil)))) am_nil))))) ssm_nil)))
    (ssm_one (sm_ret (em_var 4))))))))))))))⟩
theorem h__law_near_one (T : Txt K mg base Tb) : Fn P w K mg base 3 "_law_near_one" (spJ K Tb 3 m__law_near_one) := by
  obtain ⟨f, fd, F, hm⟩ := T.f__law_near_one
  exact fnJ F sc__law_near_one rfl hm (F.binds (ps := ["stock", "jar", "laying_here"]) fun _ _ _ _ _ _ us hl => match us, hl with | [_, _, _], _ => rfl) (w__law_near_one T)
theorem w__law_same (T : Txt K mg base Tb) : Body P w K Tb mg base N__law_same "_law_same" s__law_same 0 false b__law_same := fun f cdv A outer s H E M0 fr pa g => ⟨_, (ssm_one (sm_ret (em_cmp (oEq g) os_eqA (em_callB call_reprA cs_repA (by rfl) T.b_repr bt_repr (am_cons (em_var 0) am_nil)) (em_callB call_reprA cs_repA (by rfl) T.b_repr bt_repr (am_cons (em_var 1) am_nil)))))⟩
theorem h__law_same (T : Txt K mg base Tb) : Fn P w K mg base 1 "_law_same" (spP K Tb mg 2 m__law_same) := by
  obtain ⟨f, fd, F, hm⟩ := T.f__law_same
  exact fnP F sc__law_same rfl hm (F.binds (ps := ["back", "due"]) fun _ _ _ _ _ _ us hl => match us, hl with | [_, _], _ => rfl) (w__law_same T)
theorem w_names_rightly (T : Txt K mg base Tb) : Body P w K Tb mg base N_names_rightly "names_rightly" s_names_rightly 0 false b_names_rightly := fun f cdv A outer s H E M0 fr pa g => ⟨_, (ssm_cons (sm_if (tm_cmp (oNe g) os_neA (em_ix (iIx g) os_ixA (em_var 1) (em_int)) (em_str)) (ssm_one (sm_ret (em_bl))) ssm_nil)
    (ssm_cons (sm_if (tm_not (tm_chain op_le op_lt os_cmp os_cmp (em_int) (em_ix (iIx g) os_ixA (em_var 1) (em_int)) (em_callB (cLen g) cs_len (by rfl) T.b_len bt_len (am_cons (em_var 0) am_nil)))) (ssm_one (sm_ret (em_bl))) ssm_nil)
    (ssm_cons (sm_set (i := 2) g (em_ix (iIx g) os_ixA (em_var 0) (em_ix (iIx g) os_ixA (em_var 1) (em_int))))
    (ssm_one (sm_ret (em_and (em_cmp (oEq g) os_eqA (em_ix (iIx g) os_ixA (em_var 2) (em_int)) (em_str)) (em_one (em_cmp op_le os_cmp (em_ix (iIx g) os_ixA (em_var 2) (em_int)) (em_ix (iIx g) os_ixA (em_var 1) (em_int))))))))))⟩
theorem h_names_rightly (T : Txt K mg base Tb) : Fn P w K mg base 1 "names_rightly" (spP K Tb mg 2 m_names_rightly) := by
  obtain ⟨f, fd, F, hm⟩ := T.f_names_rightly
  exact fnP F sc_names_rightly rfl hm (F.binds (ps := ["value", "entry"]) fun _ _ _ _ _ _ us hl => match us, hl with | [_, _], _ => rfl) (w_names_rightly T)
theorem w_has_word (T : Txt K mg base Tb) : Body P w K Tb mg base N_has_word "has_word" s_has_word 0 false b_has_word := fun f cdv A outer s H E M0 fr pa g => ⟨_, (ssm_one (sm_ret (em_and (em_isi g (by rfl) T.b_isinstance (by rfl) T.b_tuple bt_tuple (em_var 0)) (em_and (em_cmp op_gt os_cmp (em_callB (cLen g) cs_len (by rfl) T.b_len bt_len (am_cons (em_var 0) am_nil)) (em_int)) (em_and (em_isi g (by rfl) T.b_isinstance (by rfl) T.b_str bt_str (em_ix (iIx g) os_ixA (em_var 0) (em_int))) (em_one (em_cmp (oIn g) os_inA (em_ix (iIx g) os_ixA (em_var 0) (em_int)) (em_var 1))))))))⟩
theorem h_has_word (T : Txt K mg base Tb) : Fn P w K mg base 1 "has_word" (spP K Tb mg 2 m_has_word) := by
  obtain ⟨f, fd, F, hm⟩ := T.f_has_word
  exact fnP F sc_has_word rfl hm (F.binds (ps := ["value", "words"]) fun _ _ _ _ _ _ us hl => match us, hl with | [_, _], _ => rfl) (w_has_word T)
theorem w_is_integer (T : Txt K mg base Tb) : Body P w K Tb mg base N_is_integer "is_integer" s_is_integer 0 false b_is_integer := fun f cdv A outer s H E M0 fr pa g => ⟨_, (ssm_one (sm_ret (em_and (em_isi g (by rfl) T.b_isinstance (by rfl) T.b_int bt_int (em_var 0)) (em_one (em_not (em_isi g (by rfl) T.b_isinstance (by rfl) T.b_bool bt_bool (em_var 0)))))))⟩
theorem h_is_integer (T : Txt K mg base Tb) : Fn P w K mg base 1 "is_integer" (spP K Tb mg 1 m_is_integer) := by
  obtain ⟨f, fd, F, hm⟩ := T.f_is_integer
  exact fnP F sc_is_integer rfl hm (F.binds (ps := ["value"]) fun _ _ _ _ _ _ us hl => match us, hl with | [_], _ => rfl) (w_is_integer T)
theorem w_is_plain_entry (T : Txt K mg base Tb) : Body P w K Tb mg base N_is_plain_entry "is_plain_entry" s_is_plain_entry 1 false b_is_plain_entry := fun f cdv A outer s H E M0 fr pa g => ⟨_, (ssm_cons (sm_if (tm_wm (wm_or (tm_not (tm_val (em_call g (h_has_word T) (am_cons (em_var 0) (am_cons (em_tup (am_cons (em_str) (am_cons (em_str) am_nil))) am_nil))))) (wm_or1 (tm_cmp (oNe g) os_neA (em_callB (cLen g) cs_len (by rfl) T.b_len bt_len (am_cons (em_var 0) am_nil)) (em_int))))) (ssm_one (sm_ret (em_bl))) ssm_nil)
    (ssm_one (sm_ret (em_and (em_call g (h_is_integer T) (am_cons (em_ix (iIx g) os_ixA (em_var 0) (em_int)) am_nil)) (em_and (em_call g (h_is_integer T) (am_cons (em_ix (iIx g) os_ixA (em_var 0) (em_int)) am_nil)) (em_one (em_cmp op_ge os_cmp (em_ix (iIx g) os_ixA (em_var 0) (em_int)) (em_int))))))))⟩
theorem h_is_plain_entry (T : Txt K mg base Tb) : Fn P w K mg base 2 "is_plain_entry" (spP K Tb mg 1 m_is_plain_entry) := by
  obtain ⟨f, fd, F, hm⟩ := T.f_is_plain_entry
  exact fnP F sc_is_plain_entry rfl hm (F.binds (ps := ["value"]) fun _ _ _ _ _ _ us hl => match us, hl with | [_], _ => rfl) (w_is_plain_entry T)
theorem w_has_entry_form (T : Txt K mg base Tb) : Body P w K Tb mg base N_has_entry_form "has_entry_form" s_has_entry_form 2 false b_has_entry_form := fun f cdv A outer s H E M0 fr pa g => ⟨_, (ssm_cons (sm_if (tm_val (em_call g (h_has_word T) (am_cons (em_var 0) (am_cons (em_tup (am_cons (em_str) am_nil)) am_nil)))) (ssm_one (sm_ret (em_cmp (oEq g) os_eqA (em_callB (cLen g) cs_len (by rfl) T.b_len bt_len (am_cons (em_var 0) am_nil)) (em_int)))) ssm_nil)
    (ssm_cons (sm_if (tm_wm (wm_and (tm_val (em_call g (h_has_word T) (am_cons (em_var 0) (am_cons (em_tup (am_cons (em_str) am_nil)) am_nil)))) (wm_and1 (tm_cmp (oEq g) os_eqA (em_callB (cLen g) cs_len (by rfl) T.b_len bt_len (am_cons (em_var 0) am_nil)) (em_int))))) (ssm_one (sm_ret (em_and (em_call g (h_is_plain_entry T) (am_cons (em_tup (am_cons (em_str) (am_cons (em_ix (iIx g) os_ixA (em_var 0) (em_int)) (am_cons (em_ix (iIx g) os_ixA (em_var 0) (em_int)) am_nil)))) am_nil)) (em_one (em_call g (h_is_integer T) (am_cons (em_ix (iIx g) os_ixA (em_var 0) (em_int)) am_nil)))))) ssm_nil)
    (ssm_one (sm_ret (em_call g (h_is_plain_entry T) (am_cons (em_var 0) am_nil))))))⟩
theorem h_has_entry_form (T : Txt K mg base Tb) : Fn P w K mg base 3 "has_entry_form" (spP K Tb mg 1 m_has_entry_form) := by
  obtain ⟨f, fd, F, hm⟩ := T.f_has_entry_form
  exact fnP F sc_has_entry_form rfl hm (F.binds (ps := ["value"]) fun _ _ _ _ _ _ us hl => match us, hl with | [_], _ => rfl) (w_has_entry_form T)
theorem w_is_account (T : Txt K mg base Tb) : Body P w K Tb mg base N_is_account "is_account" s_is_account 3 false b_is_account := fun f cdv A outer s H E M0 fr pa g => ⟨_, (ssm_cons (sm_if (tm_not (tm_val (em_isi g (by rfl) T.b_isinstance (by rfl) T.b_tuple bt_tuple (em_var 0)))) (ssm_one (sm_ret (em_bl))) ssm_nil)
    (ssm_cons (sm_if (tm_not (tm_val (em_callB (cAll g) cs_all (by rfl) T.b_all bt_all (am_cons (em_of_ef (ef_lc (own := [("entry", 1)]) g (im_seq g (em_var 0)) (blkOk_by (N := N_is_account) (sc := defScope s_is_account) (by decide +kernel)) (fun _ _ _ _ _ g => (gm_name 1 g.nd)) (fun _ _ _ _ _ g => tms_nil) (fun _ _ _ _ _ g => (em_call g (h_has_entry_form T) (am_cons (em_var 1) am_nil))))) am_nil)))) (ssm_one (sm_ret (em_bl))) ssm_nil)
    (ssm_one (sm_ret (em_callB (cAll g) cs_all (by rfl) T.b_all bt_all (am_cons (em_of_ef (ef_lc (own := [("entry", 1)]) g (im_seq g (em_var 0)) (blkOk_by (N := N_is_account) (sc := defScope s_is_account) (by decide +kernel)) (fun _ _ _ _ _ g => (gm_name 1 g.nd)) (fun _ _ _ _ _ g => tms_nil) (fun _ _ _ _ _ g => (em_call g (h_names_rightly T) (am_cons (em_var 0) (am_cons (em_var 1) am_nil)))))) am_nil))))))⟩
theorem h_is_account (T : Txt K mg base Tb) : Fn P w K mg base 4 "is_account" (spP K Tb mg 1 m_is_account) := by
  obtain ⟨f, fd, F, hm⟩ := T.f_is_account
  exact fnP F sc_is_account rfl hm (F.binds (ps := ["value"]) fun _ _ _ _ _ _ us hl => match us, hl with | [_], _ => rfl) (w_is_account T)
theorem w_need_account (T : Txt K mg base Tb) : Body P w K Tb mg base N_need_account "need_account" s_need_account 4 false b_need_account := fun f cdv A outer s H E M0 fr pa g => ⟨_, (ssm_one (sm_if (tm_not (tm_val (em_call g (h_is_account T) (am_cons (em_var 0) am_nil)))) (ssm_one (Classical.choose_spec (sm_raise g T.e_InvalidAccount))) ssm_nil))⟩
theorem h_need_account (T : Txt K mg base Tb) : Fn P w K mg base 5 "need_account" (spP K Tb mg 1 m_need_account) := by
  obtain ⟨f, fd, F, hm⟩ := T.f_need_account
  exact fnP F sc_need_account rfl hm (F.binds (ps := ["value"]) fun _ _ _ _ _ _ us hl => match us, hl with | [_], _ => rfl) (w_need_account T)
theorem w_rests_of (T : Txt K mg base Tb) : Body P w K Tb mg base N_rests_of "rests_of" s_rests_of 0 false b_rests_of := fun f cdv A outer s H E M0 fr pa g => ⟨_, (ssm_cons (sm_lcA (fresh := true) (i := 2) (own := [("entry", 6)]) g (im_seq g (em_var 0)) (blkOk_by (N := N_rests_of) (sc := defScope s_rests_of) (by decide +kernel)) (fun _ _ _ _ _ g => (gm_name 6 g.nd)) (fun _ _ _ _ _ g => tms_nil) (fun _ _ _ _ _ g => (em_if (tm_cmp (oEq g) os_eqA (em_ix (iIx g) os_ixA (em_var 6) (em_int)) (em_str)) (em_int) (em_ix (iIx g) os_ixA (em_var 6) (em_int)))))
    (ssm_cons (sm_for g (im_seq g (em_var 1)) (gm_tup g (gms_cons (gm_name 3 g.nd) (gms_cons (gm_name 4 g.nd) (gms_cons (gm_name 5 g.nd) gms_nil)))) (ssm_cons (sm_put 2 g (em_var 3) (em_bin op_sub os_sub (em_ix (iIx g) os_ixA (em_var 2) (em_var 3)) (em_var 5)))
    (ssm_one (sm_put 2 g (em_var 4) (em_bin op_sub os_sub (em_ix (iIx g) os_ixA (em_var 2) (em_var 4)) (em_var 5))))))
    (ssm_one (sm_ret (em_give 2)))))⟩
theorem h_rests_of (T : Txt K mg base Tb) : Fn P w K mg base 1 "rests_of" (spP K Tb mg 2 m_rests_of) := by
  obtain ⟨f, fd, F, hm⟩ := T.f_rests_of
  exact fnP F sc_rests_of rfl hm (F.binds (ps := ["account", "pairs"]) fun _ _ _ _ _ _ us hl => match us, hl with | [_, _], _ => rfl) (w_rests_of T)
theorem w_is_place (T : Txt K mg base Tb) : Body P w K Tb mg base N_is_place "is_place" s_is_place 1 false b_is_place := fun f cdv A outer s H E M0 fr pa g => ⟨_, (ssm_one (sm_ret (em_and (em_call g (h_is_integer T) (am_cons (em_var 1) am_nil)) (em_and (em_chain op_le op_lt os_cmp os_cmp (em_int) (em_var 1) (em_callB (cLen g) cs_len (by rfl) T.b_len bt_len (am_cons (em_var 0) am_nil))) (em_one (em_cmp (oIn g) os_inA (em_ix (iIx g) os_ixA (em_ix (iIx g) os_ixA (em_var 0) (em_var 1)) (em_int)) (em_var 2)))))))⟩
theorem h_is_place (T : Txt K mg base Tb) : Fn P w K mg base 2 "is_place" (spP K Tb mg 3 m_is_place) := by
  obtain ⟨f, fd, F, hm⟩ := T.f_is_place
  exact fnP F sc_is_place rfl hm (F.binds (ps := ["account", "value", "words"]) fun _ _ _ _ _ _ us hl => match us, hl with | [_, _, _], _ => rfl) (w_is_place T)
theorem w_is_pair (T : Txt K mg base Tb) : Body P w K Tb mg base N_is_pair "is_pair" s_is_pair 2 false b_is_pair := fun f cdv A outer s H E M0 fr pa g => ⟨_, (ssm_cons (sm_if (tm_wm (wm_or (tm_not (tm_val (em_isi g (by rfl) T.b_isinstance (by rfl) T.b_tuple bt_tuple (em_var 1)))) (wm_or1 (tm_cmp (oNe g) os_neA (em_callB (cLen g) cs_len (by rfl) T.b_len bt_len (am_cons (em_var 1) am_nil)) (em_int))))) (ssm_one (sm_ret (em_bl))) ssm_nil)
    (ssm_cons (sm_if (tm_wm (wm_or (tm_not (tm_val (em_call g (h_is_place T) (am_cons (em_var 0) (am_cons (em_ix (iIx g) os_ixA (em_var 1) (em_int)) (am_cons (em_tup (am_cons (em_str) am_nil)) am_nil)))))) (wm_or1 (tm_not (tm_val (em_call g (h_is_place T) (am_cons (em_var 0) (am_cons (em_ix (iIx g) os_ixA (em_var 1) (em_int)) (am_cons (em_con g T.c_PAYING) am_nil))))))))) (ssm_one (sm_ret (em_bl))) ssm_nil)
    (ssm_one (sm_ret (em_and (em_call g (h_is_integer T) (am_cons (em_ix (iIx g) os_ixA (em_var 1) (em_int)) am_nil)) (em_one (em_cmp op_ge os_cmp (em_ix (iIx g) os_ixA (em_var 1) (em_int)) (em_int))))))))⟩
theorem h_is_pair (T : Txt K mg base Tb) : Fn P w K mg base 3 "is_pair" (spP K Tb mg 2 m_is_pair) := by
  obtain ⟨f, fd, F, hm⟩ := T.f_is_pair
  exact fnP F sc_is_pair rfl hm (F.binds (ps := ["account", "value"]) fun _ _ _ _ _ _ us hl => match us, hl with | [_, _], _ => rfl) (w_is_pair T)
theorem w_fits_account (T : Txt K mg base Tb) : Body P w K Tb mg base N_fits_account "fits_account" s_fits_account 3 false b_fits_account := fun f cdv A outer s H E M0 fr pa g => ⟨_, (ssm_cons (sm_if (tm_wm (wm_or (tm_not (tm_val (em_isi g (by rfl) T.b_isinstance (by rfl) T.b_list bt_list (em_var 1)))) (wm_or1 (tm_not (tm_val (em_callB (cAll g) cs_all (by rfl) T.b_all bt_all (am_cons (em_of_ef (ef_lc (own := [("pair", 4)]) g (im_seq g (em_var 1)) (blkOk_by (N := N_fits_account) (sc := defScope s_fits_account) (by decide +kernel)) (fun _ _ _ _ _ g => (gm_name 4 g.nd)) (fun _ _ _ _ _ g => tms_nil) (fun _ _ _ _ _ g => (em_call g (h_is_pair T) (am_cons (em_var 0) (am_cons (em_var 4) am_nil)))))) am_nil))))))) (ssm_one (sm_ret (em_bl))) ssm_nil)
    (ssm_cons (sm_for g (im_range2 g (am_cons (em_int) (am_cons (em_callB (cLen g) cs_len (by rfl) T.b_len bt_len (am_cons (em_var 1) am_nil)) am_nil)) T.b_range) (gm_name 2 g.nd) (ssm_one (sm_if (tm_cmp (oGeT g) os_geT (em_slice g (em_ix (iIx g) os_ixA (em_var 1) (em_bin op_sub os_sub (em_var 2) (em_int))) om_none (om_some (em_int))) (em_slice g (em_ix (iIx g) os_ixA (em_var 1) (em_var 2)) om_none (om_some (em_int)))) (ssm_one (sm_ret (em_bl))) ssm_nil)))
    (ssm_one (sm_ret (em_callB (cAll g) cs_all (by rfl) T.b_all bt_all (am_cons (em_of_ef (ef_lc (own := [("rest", 3)]) g (im_seq g (em_call g (h_rests_of T) (am_cons (em_var 0) (am_cons (em_var 1) am_nil)))) (blkOk_by (N := N_fits_account) (sc := defScope s_fits_account) (by decide +kernel)) (fun _ _ _ _ _ g => (gm_name 3 g.nd)) (fun _ _ _ _ _ g => tms_nil) (fun _ _ _ _ _ g => (em_cmp op_ge os_cmp (em_var 3) (em_int))))) am_nil))))))⟩
theorem h_fits_account (T : Txt K mg base Tb) : Fn P w K mg base 4 "fits_account" (spP K Tb mg 2 m_fits_account) := by
  obtain ⟨f, fd, F, hm⟩ := T.f_fits_account
  exact fnP F sc_fits_account rfl hm (F.binds (ps := ["account", "value"]) fun _ _ _ _ _ _ us hl => match us, hl with | [_, _], _ => rfl) (w_fits_account T)
theorem w_need_laying (T : Txt K mg base Tb) : Body P w K Tb mg base N_need_laying "need_laying" s_need_laying 4 false b_need_laying := fun f cdv A outer s H E M0 fr pa g => ⟨_, (ssm_one (sm_if (tm_not (tm_val (em_call g (h_fits_account T) (am_cons (em_var 0) (am_cons (em_var 1) am_nil))))) (ssm_one (Classical.choose_spec (sm_raise g T.e_InvalidLaying))) ssm_nil))⟩
theorem h_need_laying (T : Txt K mg base Tb) : Fn P w K mg base 5 "need_laying" (spP K Tb mg 2 m_need_laying) := by
  obtain ⟨f, fd, F, hm⟩ := T.f_need_laying
  exact fnP F sc_need_laying rfl hm (F.binds (ps := ["account", "value"]) fun _ _ _ _ _ _ us hl => match us, hl with | [_, _], _ => rfl) (w_need_laying T)
theorem w_line_of (T : Txt K mg base Tb) {c P0 : Addr} (TB : LamX.TabB base mg c P0) (mem : (P0, lamN "line_of") ∈ Tb) (one : ∀ p ∈ Tb, p.1 = P0 → p.2 = lamN "line_of") : BodyC P w K Tb mg base N_line_of "line_of" s_line_of 0 false c b_line_of := fun f A outer s H E M0 fr pa g => ⟨_, (ssm_cons (sm_lcA (fresh := false) (i := 1) (own := [("at", 2)]) g (im_range1 g (am_cons (em_callB (cLen g) cs_len (by rfl) T.b_len bt_len (am_cons (em_var 0) am_nil)) am_nil) T.b_range) (blkOk_by (N := N_line_of) (sc := defScope s_line_of) (by decide +kernel)) (fun _ _ _ _ _ g => (gm_name 2 g.nd)) (fun _ _ _ _ _ g => (tms_one (tm_cmp (oNe g) os_neA (em_ix (iIx g) os_ixA (em_ix (iIx g) os_ixA (em_var 0) (em_var 2)) (em_int)) (em_str)))) (fun _ _ _ _ _ g => (em_var 2)))
    (ssm_one (sm_ret (em_of_ef (ef_soLam (q := ⟨0, 0, 0, 0⟩) 0 g ⟨TB, rfl, mem, one⟩ (em_var 1) (by rfl) T.b_sorted bt_sorted)))))⟩
theorem h_line_of (T : Txt K mg base Tb) : Fn P w K mg base 1 "line_of" (spP K Tb mg 1 m_line_of) := by
  obtain ⟨f, fd, c, P0, F, hm, hc, TB, mem, one⟩ := T.f_line_of
  exact fnPc F hc sc_line_of rfl hm (F.binds (ps := ["account"]) fun _ _ _ _ _ _ us hl => match us, hl with | [_], _ => rfl) (w_line_of T TB mem one)
theorem w_bill_line (T : Txt K mg base Tb) : Body P w K Tb mg base N_bill_line "bill_line" s_bill_line 1 false b_bill_line := fun f cdv A outer s H E M0 fr pa g => ⟨_, (ssm_one (sm_ret (em_of_ef (ef_lc (own := [("at", 1)]) g (im_seq g (em_call g (h_line_of T) (am_cons (em_var 0) am_nil))) (blkOk_by (N := N_bill_line) (sc := defScope s_bill_line) (by decide +kernel)) (fun _ _ _ _ _ g => (gm_name 1 g.nd)) (fun _ _ _ _ _ g => (tms_one (tm_cmp (oEq g) os_eqA (em_ix (iIx g) os_ixA (em_ix (iIx g) os_ixA (em_var 0) (em_var 1)) (em_int)) (em_str)))) (fun _ _ _ _ _ g => (em_var 1))))))⟩
theorem h_bill_line (T : Txt K mg base Tb) : Fn P w K mg base 2 "bill_line" (spP K Tb mg 1 m_bill_line) := by
  obtain ⟨f, fd, F, hm⟩ := T.f_bill_line
  exact fnP F sc_bill_line rfl hm (F.binds (ps := ["account"]) fun _ _ _ _ _ _ us hl => match us, hl with | [_], _ => rfl) (w_bill_line T)
theorem w_payment_line (T : Txt K mg base Tb) : Body P w K Tb mg base N_payment_line "payment_line" s_payment_line 1 false b_payment_line := fun f cdv A outer s H E M0 fr pa g => ⟨_, (ssm_one (sm_ret (em_of_ef (ef_lc (own := [("at", 1)]) g (im_seq g (em_call g (h_line_of T) (am_cons (em_var 0) am_nil))) (blkOk_by (N := N_payment_line) (sc := defScope s_payment_line) (by decide +kernel)) (fun _ _ _ _ _ g => (gm_name 1 g.nd)) (fun _ _ _ _ _ g => (tms_one (tm_cmp (oNe g) os_neA (em_ix (iIx g) os_ixA (em_ix (iIx g) os_ixA (em_var 0) (em_var 1)) (em_int)) (em_str)))) (fun _ _ _ _ _ g => (em_var 1))))))⟩
theorem h_payment_line (T : Txt K mg base Tb) : Fn P w K mg base 2 "payment_line" (spP K Tb mg 1 m_payment_line) := by
  obtain ⟨f, fd, F, hm⟩ := T.f_payment_line
  exact fnP F sc_payment_line rfl hm (F.binds (ps := ["account"]) fun _ _ _ _ _ _ us hl => match us, hl with | [_], _ => rfl) (w_payment_line T)
theorem w_laid_sums (T : Txt K mg base Tb) : Body P w K Tb mg base N_laid_sums "laid_sums" s_laid_sums 0 false b_laid_sums := fun f cdv A outer s H E M0 fr pa g => ⟨_, (ssm_one (sm_ret (em_of_ef (ef_lc (own := [("at", 3)]) g (im_seq g (em_var 1)) (blkOk_by (N := N_laid_sums) (sc := defScope s_laid_sums) (by decide +kernel)) (fun _ _ _ _ _ g => (gm_name 3 g.nd)) (fun _ _ _ _ _ g => tms_nil) (fun _ _ _ _ _ g => (em_tup (am_cons (em_var 3) (am_cons (em_callB (cSumA g) cs_sumA (by rfl) T.b_sum bt_sum (am_cons (em_of_ef (ef_lc (own := [("pair", 4)]) g (im_seq g (em_var 0)) (blkOk_by (N := N_laid_sums) (by kernel_rfl)) (fun _ _ _ _ _ g => (gm_name 4 g.nd)) (fun _ _ _ _ _ g => (tms_one (tm_cmp (oEq g) os_eqA (em_ix (iIx g) os_ixA (em_var 4) (em_var 2)) (em_var 3)))) (fun _ _ _ _ _ g => (em_ix (iIx g) os_ixA (em_var 4) (em_int))))) am_nil)) am_nil))))))))⟩
theorem h_laid_sums (T : Txt K mg base Tb) : Fn P w K mg base 1 "laid_sums" (spP K Tb mg 3 m_laid_sums) := by
  obtain ⟨f, fd, F, hm⟩ := T.f_laid_sums
  exact fnP F sc_laid_sums rfl hm (F.binds (ps := ["laying", "indexes", "place"]) fun _ _ _ _ _ _ us hl => match us, hl with | [_, _, _], _ => rfl) (w_laid_sums T)
theorem w_are_akin (T : Txt K mg base Tb) : Body P w K Tb mg base N_are_akin "are_akin" s_are_akin 2 false b_are_akin := fun f cdv A outer s H E M0 fr pa g => ⟨_, (ssm_cons (sm_set (i := 3) g (em_call g (h_bill_line T) (am_cons (em_var 0) am_nil)))
    (ssm_cons (sm_if (tm_cmp (oNe g) os_neA (em_call g (h_laid_sums T) (am_cons (em_var 1) (am_cons (em_var 3) (am_cons (em_int) am_nil)))) (em_call g (h_laid_sums T) (am_cons (em_var 2) (am_cons (em_var 3) (am_cons (em_int) am_nil))))) (ssm_one (sm_ret (em_bl))) ssm_nil)
    (ssm_cons (sm_set (i := 4) g (em_call g (h_payment_line T) (am_cons (em_var 0) am_nil)))
    (ssm_one (sm_ret (em_cmp (oEq g) os_eqA (em_call g (h_laid_sums T) (am_cons (em_var 1) (am_cons (em_var 4) (am_cons (em_int) am_nil)))) (em_call g (h_laid_sums T) (am_cons (em_var 2) (am_cons (em_var 4) (am_cons (em_int) am_nil))))))))))⟩
theorem h_are_akin (T : Txt K mg base Tb) : Fn P w K mg base 3 "are_akin" (spP K Tb mg 3 m_are_akin) := by
  obtain ⟨f, fd, F, hm⟩ := T.f_are_akin
  exact fnP F sc_are_akin rfl hm (F.binds (ps := ["account", "laying", "other_laying"]) fun _ _ _ _ _ _ us hl => match us, hl with | [_, _, _], _ => rfl) (w_are_akin T)
theorem w_akin (T : Txt K mg base Tb) : Body P w K Tb mg base N_akin "akin" s_akin 5 false b_akin := fun f cdv A outer s H E M0 fr pa g => ⟨_, (ssm_cons (sm_expr (em_call g (h_need_account T) (am_cons (em_var 0) am_nil)))
    (ssm_cons (sm_expr (em_call g (h_need_laying T) (am_cons (em_var 0) (am_cons (em_var 1) am_nil))))
    (ssm_cons (sm_expr (em_call g (h_need_laying T) (am_cons (em_var 0) (am_cons (em_var 2) am_nil))))
    (ssm_one (sm_ret (em_call g (h_are_akin T) (am_cons (em_var 0) (am_cons (em_var 1) (am_cons (em_var 2) am_nil)))))))))⟩
theorem h_akin (T : Txt K mg base Tb) : Fn P w K mg base 6 "akin" (spP K Tb mg 3 m_akin) := by
  obtain ⟨f, fd, F, hm⟩ := T.f_akin
  exact fnP F sc_akin rfl hm (F.binds (ps := ["account", "laying", "other_laying"]) fun _ _ _ _ _ _ us hl => match us, hl with | [_, _, _], _ => rfl) (w_akin T)
theorem h_akin_account_other_laying_laying (T : Txt K mg base Tb) : FnK P w K mg base 6 "akin" ["account", "other_laying", "laying"] [0, 2, 1] (spP K Tb mg 3 m_akin) := by
  obtain ⟨f, fd, F, hm⟩ := T.f_akin
  exact fnK F sc_akin rfl hm (ks := ["account", "other_laying", "laying"]) (is := [0, 2, 1]) (fun _ _ _ _ _ _ us hl => match us, hl with | [_, _, _], _ => rfl) (w_akin T)
theorem w_law (T : Txt K mg base Tb) : Body P w K Tb mg base N_law "law" s_law 6 false b_law := fun f cdv A outer s H E M0 fr pa g => ⟨_, (ssm_cons (sm_set (i := 1) g (em_int))
    (ssm_cons (sm_for g (im_seq g (em_bin (oAdd g) os_addA (em_of_ef (ef_lst (am_cons (em_var 1) am_nil))) (em_slice g (em_var 0) om_none (om_some (em_int))))) (gm_name 2 g.nd) (ssm_cons (sm_setL (i := 3) g (ef_call g (h__law_draws T) (am_cons (em_var 2) am_nil)))
    (ssm_cons (sm_set (i := 4) g (em_ix (iIx g) os_ixA (em_of_ef (ef_lst (am_cons (em_int) (am_cons (em_int) (am_cons (em_int) am_nil))))) (em_callJ g (h__law_pick T) (am_cons (em_var 3) (am_cons (em_int) am_nil)))))
    (ssm_cons (sm_set (i := 5) g (em_callJ g (h__law_a_jar T) (am_cons (em_var 3) (am_cons (em_var 4) (am_cons (em_bl) am_nil)))))
    (ssm_cons (sm_set (i := 6) g (em_callJ g (h__law_lay T) (am_cons (em_var 3) (am_cons (em_var 5) (am_cons (em_var 4) am_nil)))))
    (ssm_cons (sm_set (i := 7) g (em_callJ g (h__law_a_kin T) (am_cons (em_var 3) (am_cons (em_var 6) (am_cons (em_callJ g (h__law_pick T) (am_cons (em_var 3) (am_cons (em_int) am_nil))) am_nil)))))
    (ssm_cons (sm_if (tm_cmp (oEq g) os_eqA (em_callJ g (h__law_pick T) (am_cons (em_var 3) (am_cons (em_int) am_nil))) (em_int)) (ssm_one (sm_set (i := 7) g (em_callJ g (h__law_near_one T) (am_cons (em_var 3) (am_cons (em_var 5) (am_cons (em_var 7) am_nil)))))) ssm_nil)
    (ssm_cons (sm_set (i := 8) g (em_cmp (oEq g) os_eqA (em_call g (h__law_laid_on T) (am_cons (em_var 5) (am_cons (em_var 6) am_nil))) (em_call g (h__law_laid_on T) (am_cons (em_var 5) (am_cons (em_var 7) am_nil)))))
    (ssm_cons (sm_set (i := 9) g (em_of_ef (ef_lst (am_cons (em_of_ef (ef_callTy (cListT g) cf_listT (by rfl) T.b_list bt_list (am_cons (em_var 6) am_nil))) (am_cons (em_of_ef (ef_callTy (cListT g) cf_listT (by rfl) T.b_list bt_list (am_cons (em_var 7) am_nil))) am_nil)))))
    (ssm_cons (sm_for g (im_seq g (em_of_ef (ef_lst (am_cons (em_tup (am_cons (em_var 6) (am_cons (em_var 7) am_nil))) (am_cons (em_tup (am_cons (em_var 7) (am_cons (em_var 6) am_nil))) (am_cons (em_tup (am_cons (em_var 6) (am_cons (em_var 7) am_nil))) am_nil)))))) (gm_tup g (gms_cons (gm_name 10 g.nd) (gms_cons (gm_name 11 g.nd) gms_nil))) (ssm_one (sm_if (tm_not (tm_val (em_call g (h__law_same T) (am_cons (em_call g (h_akin T) (am_cons (em_var 5) (am_cons (em_var 10) (am_cons (em_var 11) am_nil)))) (am_cons (em_var 8) am_nil))))) (ssm_one (sm_ret (em_bl))) ssm_nil)))
    (ssm_one (sm_if (tm_wm (wm_or (tm_cmp or_isntA os_isntA (em_callK g (h_akin_account_other_laying_laying T) (km_cons (em_var 5) (km_cons (em_var 7) (km_cons (em_var 7) km_nil)))) (em_bl)) (wm_or1 (tm_cmp (oNe g) os_neA (em_of_ef (ef_lst (am_cons (em_var 6) (am_cons (em_var 7) am_nil)))) (em_var 9))))) (ssm_one (sm_ret (em_bl))) ssm_nil))))))))))))
    (ssm_one (sm_ret (em_bl)))))⟩
theorem h_law (T : Txt K mg base Tb) : Fn P w K mg base 7 "law" (spP K Tb mg 1 m_law) := by
  obtain ⟨f, fd, F, hm⟩ := T.f_law
  exact fnP F sc_law rfl hm (F.binds (ps := ["script"]) fun _ _ _ _ _ _ us hl => match us, hl with | [_], _ => rfl) (w_law T)
end
theorem txt_mk {K : PySem.W.Frag} {h : Heap} {mg : Str → Option Value} (X : K.In h) (G : h.Ns mainGlobals mg)
    {f0 : Addr} {od0 an0 : Option Addr} {sl0 : Array (Option Value)} {oc0 kV0 dc0 pm0 cd0 ct0 : Value}
    (a0 : PySem.W.nsIn K mainGlobals "_law_draws" = some (some (.ref f0))) (l0 : K.lookup f0 = some ⟨oc0, od0, .func (PySem.W.fnOf "_law_draws" "_law_draws" (defArgs s__law_draws) (defBody s__law_draws) (defScope s__law_draws) .none kV0 dc0 pm0 an0 cd0 ct0), sl0⟩) (c0 : PySem.W.codeIn K cd0 "_law_draws" = true) (k0 : PySem.W.keepIn K (.ref f0) = true)
    {f1 : Addr} {od1 an1 : Option Addr} {sl1 : Array (Option Value)} {oc1 kV1 dc1 pm1 cd1 ct1 : Value}
    (a1 : PySem.W.nsIn K mainGlobals "_law_pick" = some (some (.ref f1))) (l1 : K.lookup f1 = some ⟨oc1, od1, .func (PySem.W.fnOf "_law_pick" "_law_pick" (defArgs s__law_pick) (defBody s__law_pick) (defScope s__law_pick) .none kV1 dc1 pm1 an1 cd1 ct1), sl1⟩) (c1 : PySem.W.codeIn K cd1 "_law_pick" = true) (k1 : PySem.W.keepIn K (.ref f1) = true)
    {f2 : Addr} {od2 an2 : Option Addr} {sl2 : Array (Option Value)} {oc2 kV2 dc2 pm2 cd2 ct2 : Value}
    (a2 : PySem.W.nsIn K mainGlobals "_law_wide" = some (some (.ref f2))) (l2 : K.lookup f2 = some ⟨oc2, od2, .func (PySem.W.fnOf "_law_wide" "_law_wide" (defArgs s__law_wide) (defBody s__law_wide) (defScope s__law_wide) .none kV2 dc2 pm2 an2 cd2 ct2), sl2⟩) (c2 : PySem.W.codeIn K cd2 "_law_wide" = true) (k2 : PySem.W.keepIn K (.ref f2) = true)
    {f3 : Addr} {od3 an3 : Option Addr} {sl3 : Array (Option Value)} {oc3 kV3 dc3 pm3 cd3 ct3 : Value}
    (a3 : PySem.W.nsIn K mainGlobals "_law_jar_of" = some (some (.ref f3))) (l3 : K.lookup f3 = some ⟨oc3, od3, .func (PySem.W.fnOf "_law_jar_of" "_law_jar_of" (defArgs s__law_jar_of) (defBody s__law_jar_of) (defScope s__law_jar_of) .none kV3 dc3 pm3 an3 cd3 ct3), sl3⟩) (c3 : PySem.W.codeIn K cd3 "_law_jar_of" = true) (k3 : PySem.W.keepIn K (.ref f3) = true)
    {f4 : Addr} {od4 an4 : Option Addr} {sl4 : Array (Option Value)} {oc4 kV4 dc4 pm4 cd4 ct4 : Value}
    (a4 : PySem.W.nsIn K mainGlobals "_law_a_jar" = some (some (.ref f4))) (l4 : K.lookup f4 = some ⟨oc4, od4, .func (PySem.W.fnOf "_law_a_jar" "_law_a_jar" (defArgs s__law_a_jar) (defBody s__law_a_jar) (defScope s__law_a_jar) .none kV4 dc4 pm4 an4 cd4 ct4), sl4⟩) (c4 : PySem.W.codeIn K cd4 "_law_a_jar" = true) (k4 : PySem.W.keepIn K (.ref f4) = true)
    {f5 : Addr} {od5 an5 : Option Addr} {sl5 : Array (Option Value)} {oc5 kV5 dc5 pm5 cd5 ct5 : Value}
    (a5 : PySem.W.nsIn K mainGlobals "_law_pairs" = some (some (.ref f5))) (l5 : K.lookup f5 = some ⟨oc5, od5, .func (PySem.W.fnOf "_law_pairs" "_law_pairs" (defArgs s__law_pairs) (defBody s__law_pairs) (defScope s__law_pairs) .none kV5 dc5 pm5 an5 cd5 ct5), sl5⟩) (c5 : PySem.W.codeIn K cd5 "_law_pairs" = true) (k5 : PySem.W.keepIn K (.ref f5) = true)
    {f6 : Addr} {od6 an6 : Option Addr} {sl6 : Array (Option Value)} {oc6 kV6 dc6 pm6 cd6 ct6 : Value}
    (a6 : PySem.W.nsIn K mainGlobals "_law_of_word" = some (some (.ref f6))) (l6 : K.lookup f6 = some ⟨oc6, od6, .func (PySem.W.fnOf "_law_of_word" "_law_of_word" (defArgs s__law_of_word) (defBody s__law_of_word) (defScope s__law_of_word) .none kV6 dc6 pm6 an6 cd6 ct6), sl6⟩) (c6 : PySem.W.codeIn K cd6 "_law_of_word" = true) (k6 : PySem.W.keepIn K (.ref f6) = true)
    {f7 : Addr} {od7 an7 : Option Addr} {sl7 : Array (Option Value)} {oc7 kV7 dc7 pm7 cd7 ct7 : Value}
    (a7 : PySem.W.nsIn K mainGlobals "_law_lay" = some (some (.ref f7))) (l7 : K.lookup f7 = some ⟨oc7, od7, .func (PySem.W.fnOf "_law_lay" "_law_lay" (defArgs s__law_lay) (defBody s__law_lay) (defScope s__law_lay) .none kV7 dc7 pm7 an7 cd7 ct7), sl7⟩) (c7 : PySem.W.codeIn K cd7 "_law_lay" = true) (k7 : PySem.W.keepIn K (.ref f7) = true)
    {f8 : Addr} {od8 an8 : Option Addr} {sl8 : Array (Option Value)} {oc8 kV8 dc8 pm8 cd8 ct8 : Value}
    (a8 : PySem.W.nsIn K mainGlobals "_law_swapped" = some (some (.ref f8))) (l8 : K.lookup f8 = some ⟨oc8, od8, .func (PySem.W.fnOf "_law_swapped" "_law_swapped" (defArgs s__law_swapped) (defBody s__law_swapped) (defScope s__law_swapped) .none kV8 dc8 pm8 an8 cd8 ct8), sl8⟩) (c8 : PySem.W.codeIn K cd8 "_law_swapped" = true) (k8 : PySem.W.keepIn K (.ref f8) = true)
    {f9 : Addr} {od9 an9 : Option Addr} {sl9 : Array (Option Value)} {oc9 kV9 dc9 pm9 cd9 ct9 : Value}
    (a9 : PySem.W.nsIn K mainGlobals "_law_a_kin" = some (some (.ref f9))) (l9 : K.lookup f9 = some ⟨oc9, od9, .func (PySem.W.fnOf "_law_a_kin" "_law_a_kin" (defArgs s__law_a_kin) (defBody s__law_a_kin) (defScope s__law_a_kin) .none kV9 dc9 pm9 an9 cd9 ct9), sl9⟩) (c9 : PySem.W.codeIn K cd9 "_law_a_kin" = true) (k9 : PySem.W.keepIn K (.ref f9) = true)
    {f10 : Addr} {od10 an10 : Option Addr} {sl10 : Array (Option Value)} {oc10 kV10 dc10 pm10 cd10 ct10 : Value}
    (a10 : PySem.W.nsIn K mainGlobals "_law_laid_on" = some (some (.ref f10))) (l10 : K.lookup f10 = some ⟨oc10, od10, .func (PySem.W.fnOf "_law_laid_on" "_law_laid_on" (defArgs s__law_laid_on) (defBody s__law_laid_on) (defScope s__law_laid_on) .none kV10 dc10 pm10 an10 cd10 ct10), sl10⟩) (c10 : PySem.W.codeIn K cd10 "_law_laid_on" = true) (k10 : PySem.W.keepIn K (.ref f10) = true)
    {f11 : Addr} {od11 an11 : Option Addr} {sl11 : Array (Option Value)} {oc11 kV11 dc11 pm11 cd11 ct11 : Value}
    (a11 : PySem.W.nsIn K mainGlobals "_law_near_one" = some (some (.ref f11))) (l11 : K.lookup f11 = some ⟨oc11, od11, .func (PySem.W.fnOf "_law_near_one" "_law_near_one" (defArgs s__law_near_one) (defBody s__law_near_one) (defScope s__law_near_one) .none kV11 dc11 pm11 an11 cd11 ct11), sl11⟩) (c11 : PySem.W.codeIn K cd11 "_law_near_one" = true) (k11 : PySem.W.keepIn K (.ref f11) = true)
    {f12 : Addr} {od12 an12 : Option Addr} {sl12 : Array (Option Value)} {oc12 kV12 dc12 pm12 cd12 ct12 : Value}
    (a12 : PySem.W.nsIn K mainGlobals "_law_same" = some (some (.ref f12))) (l12 : K.lookup f12 = some ⟨oc12, od12, .func (PySem.W.fnOf "_law_same" "_law_same" (defArgs s__law_same) (defBody s__law_same) (defScope s__law_same) .none kV12 dc12 pm12 an12 cd12 ct12), sl12⟩) (c12 : PySem.W.codeIn K cd12 "_law_same" = true) (k12 : PySem.W.keepIn K (.ref f12) = true)
    {f13 : Addr} {od13 an13 : Option Addr} {sl13 : Array (Option Value)} {oc13 kV13 dc13 pm13 cd13 ct13 : Value}
    (a13 : PySem.W.nsIn K mainGlobals "names_rightly" = some (some (.ref f13))) (l13 : K.lookup f13 = some ⟨oc13, od13, .func (PySem.W.fnOf "names_rightly" "names_rightly" (defArgs s_names_rightly) (defBody s_names_rightly) (defScope s_names_rightly) .none kV13 dc13 pm13 an13 cd13 ct13), sl13⟩) (c13 : PySem.W.codeIn K cd13 "names_rightly" = true) (k13 : PySem.W.keepIn K (.ref f13) = true)
    {f14 : Addr} {od14 an14 : Option Addr} {sl14 : Array (Option Value)} {oc14 kV14 dc14 pm14 cd14 ct14 : Value}
    (a14 : PySem.W.nsIn K mainGlobals "has_word" = some (some (.ref f14))) (l14 : K.lookup f14 = some ⟨oc14, od14, .func (PySem.W.fnOf "has_word" "has_word" (defArgs s_has_word) (defBody s_has_word) (defScope s_has_word) .none kV14 dc14 pm14 an14 cd14 ct14), sl14⟩) (c14 : PySem.W.codeIn K cd14 "has_word" = true) (k14 : PySem.W.keepIn K (.ref f14) = true)
    {f15 : Addr} {od15 an15 : Option Addr} {sl15 : Array (Option Value)} {oc15 kV15 dc15 pm15 cd15 ct15 : Value}
    (a15 : PySem.W.nsIn K mainGlobals "is_integer" = some (some (.ref f15))) (l15 : K.lookup f15 = some ⟨oc15, od15, .func (PySem.W.fnOf "is_integer" "is_integer" (defArgs s_is_integer) (defBody s_is_integer) (defScope s_is_integer) .none kV15 dc15 pm15 an15 cd15 ct15), sl15⟩) (c15 : PySem.W.codeIn K cd15 "is_integer" = true) (k15 : PySem.W.keepIn K (.ref f15) = true)
    {f16 : Addr} {od16 an16 : Option Addr} {sl16 : Array (Option Value)} {oc16 kV16 dc16 pm16 cd16 ct16 : Value}
    (a16 : PySem.W.nsIn K mainGlobals "is_plain_entry" = some (some (.ref f16))) (l16 : K.lookup f16 = some ⟨oc16, od16, .func (PySem.W.fnOf "is_plain_entry" "is_plain_entry" (defArgs s_is_plain_entry) (defBody s_is_plain_entry) (defScope s_is_plain_entry) .none kV16 dc16 pm16 an16 cd16 ct16), sl16⟩) (c16 : PySem.W.codeIn K cd16 "is_plain_entry" = true) (k16 : PySem.W.keepIn K (.ref f16) = true)
    {f17 : Addr} {od17 an17 : Option Addr} {sl17 : Array (Option Value)} {oc17 kV17 dc17 pm17 cd17 ct17 : Value}
    (a17 : PySem.W.nsIn K mainGlobals "has_entry_form" = some (some (.ref f17))) (l17 : K.lookup f17 = some ⟨oc17, od17, .func (PySem.W.fnOf "has_entry_form" "has_entry_form" (defArgs s_has_entry_form) (defBody s_has_entry_form) (defScope s_has_entry_form) .none kV17 dc17 pm17 an17 cd17 ct17), sl17⟩) (c17 : PySem.W.codeIn K cd17 "has_entry_form" = true) (k17 : PySem.W.keepIn K (.ref f17) = true)
    {f18 : Addr} {od18 an18 : Option Addr} {sl18 : Array (Option Value)} {oc18 kV18 dc18 pm18 cd18 ct18 : Value}
    (a18 : PySem.W.nsIn K mainGlobals "is_account" = some (some (.ref f18))) (l18 : K.lookup f18 = some ⟨oc18, od18, .func (PySem.W.fnOf "is_account" "is_account" (defArgs s_is_account) (defBody s_is_account) (defScope s_is_account) .none kV18 dc18 pm18 an18 cd18 ct18), sl18⟩) (c18 : PySem.W.codeIn K cd18 "is_account" = true) (k18 : PySem.W.keepIn K (.ref f18) = true)
    {f19 : Addr} {od19 an19 : Option Addr} {sl19 : Array (Option Value)} {oc19 kV19 dc19 pm19 cd19 ct19 : Value}
    (a19 : PySem.W.nsIn K mainGlobals "need_account" = some (some (.ref f19))) (l19 : K.lookup f19 = some ⟨oc19, od19, .func (PySem.W.fnOf "need_account" "need_account" (defArgs s_need_account) (defBody s_need_account) (defScope s_need_account) .none kV19 dc19 pm19 an19 cd19 ct19), sl19⟩) (c19 : PySem.W.codeIn K cd19 "need_account" = true) (k19 : PySem.W.keepIn K (.ref f19) = true)
    {f20 : Addr} {od20 an20 : Option Addr} {sl20 : Array (Option Value)} {oc20 kV20 dc20 pm20 cd20 ct20 : Value}
    (a20 : PySem.W.nsIn K mainGlobals "rests_of" = some (some (.ref f20))) (l20 : K.lookup f20 = some ⟨oc20, od20, .func (PySem.W.fnOf "rests_of" "rests_of" (defArgs s_rests_of) (defBody s_rests_of) (defScope s_rests_of) .none kV20 dc20 pm20 an20 cd20 ct20), sl20⟩) (c20 : PySem.W.codeIn K cd20 "rests_of" = true) (k20 : PySem.W.keepIn K (.ref f20) = true)
    {f21 : Addr} {od21 an21 : Option Addr} {sl21 : Array (Option Value)} {oc21 kV21 dc21 pm21 cd21 ct21 : Value}
    (a21 : PySem.W.nsIn K mainGlobals "is_place" = some (some (.ref f21))) (l21 : K.lookup f21 = some ⟨oc21, od21, .func (PySem.W.fnOf "is_place" "is_place" (defArgs s_is_place) (defBody s_is_place) (defScope s_is_place) .none kV21 dc21 pm21 an21 cd21 ct21), sl21⟩) (c21 : PySem.W.codeIn K cd21 "is_place" = true) (k21 : PySem.W.keepIn K (.ref f21) = true)
    {f22 : Addr} {od22 an22 : Option Addr} {sl22 : Array (Option Value)} {oc22 kV22 dc22 pm22 cd22 ct22 : Value}
    (a22 : PySem.W.nsIn K mainGlobals "is_pair" = some (some (.ref f22))) (l22 : K.lookup f22 = some ⟨oc22, od22, .func (PySem.W.fnOf "is_pair" "is_pair" (defArgs s_is_pair) (defBody s_is_pair) (defScope s_is_pair) .none kV22 dc22 pm22 an22 cd22 ct22), sl22⟩) (c22 : PySem.W.codeIn K cd22 "is_pair" = true) (k22 : PySem.W.keepIn K (.ref f22) = true)
    {f23 : Addr} {od23 an23 : Option Addr} {sl23 : Array (Option Value)} {oc23 kV23 dc23 pm23 cd23 ct23 : Value}
    (a23 : PySem.W.nsIn K mainGlobals "fits_account" = some (some (.ref f23))) (l23 : K.lookup f23 = some ⟨oc23, od23, .func (PySem.W.fnOf "fits_account" "fits_account" (defArgs s_fits_account) (defBody s_fits_account) (defScope s_fits_account) .none kV23 dc23 pm23 an23 cd23 ct23), sl23⟩) (c23 : PySem.W.codeIn K cd23 "fits_account" = true) (k23 : PySem.W.keepIn K (.ref f23) = true)
    {f24 : Addr} {od24 an24 : Option Addr} {sl24 : Array (Option Value)} {oc24 kV24 dc24 pm24 cd24 ct24 : Value}
    (a24 : PySem.W.nsIn K mainGlobals "need_laying" = some (some (.ref f24))) (l24 : K.lookup f24 = some ⟨oc24, od24, .func (PySem.W.fnOf "need_laying" "need_laying" (defArgs s_need_laying) (defBody s_need_laying) (defScope s_need_laying) .none kV24 dc24 pm24 an24 cd24 ct24), sl24⟩) (c24 : PySem.W.codeIn K cd24 "need_laying" = true) (k24 : PySem.W.keepIn K (.ref f24) = true)
    {f25 : Addr} {od25 an25 : Option Addr} {sl25 : Array (Option Value)} {oc25 kV25 dc25 pm25 cd25 ct25 : Value}
    (a25 : PySem.W.nsIn K mainGlobals "line_of" = some (some (.ref f25))) (l25 : K.lookup f25 = some ⟨oc25, od25, .func (PySem.W.fnOf "line_of" "line_of" (defArgs s_line_of) (defBody s_line_of) (defScope s_line_of) .none kV25 dc25 pm25 an25 cd25 ct25), sl25⟩) (c25 : PySem.W.codeIn K cd25 "line_of" = true) (k25 : PySem.W.keepIn K (.ref f25) = true)
    {f26 : Addr} {od26 an26 : Option Addr} {sl26 : Array (Option Value)} {oc26 kV26 dc26 pm26 cd26 ct26 : Value}
    (a26 : PySem.W.nsIn K mainGlobals "bill_line" = some (some (.ref f26))) (l26 : K.lookup f26 = some ⟨oc26, od26, .func (PySem.W.fnOf "bill_line" "bill_line" (defArgs s_bill_line) (defBody s_bill_line) (defScope s_bill_line) .none kV26 dc26 pm26 an26 cd26 ct26), sl26⟩) (c26 : PySem.W.codeIn K cd26 "bill_line" = true) (k26 : PySem.W.keepIn K (.ref f26) = true)
    {f27 : Addr} {od27 an27 : Option Addr} {sl27 : Array (Option Value)} {oc27 kV27 dc27 pm27 cd27 ct27 : Value}
    (a27 : PySem.W.nsIn K mainGlobals "payment_line" = some (some (.ref f27))) (l27 : K.lookup f27 = some ⟨oc27, od27, .func (PySem.W.fnOf "payment_line" "payment_line" (defArgs s_payment_line) (defBody s_payment_line) (defScope s_payment_line) .none kV27 dc27 pm27 an27 cd27 ct27), sl27⟩) (c27 : PySem.W.codeIn K cd27 "payment_line" = true) (k27 : PySem.W.keepIn K (.ref f27) = true)
    {f28 : Addr} {od28 an28 : Option Addr} {sl28 : Array (Option Value)} {oc28 kV28 dc28 pm28 cd28 ct28 : Value}
    (a28 : PySem.W.nsIn K mainGlobals "laid_sums" = some (some (.ref f28))) (l28 : K.lookup f28 = some ⟨oc28, od28, .func (PySem.W.fnOf "laid_sums" "laid_sums" (defArgs s_laid_sums) (defBody s_laid_sums) (defScope s_laid_sums) .none kV28 dc28 pm28 an28 cd28 ct28), sl28⟩) (c28 : PySem.W.codeIn K cd28 "laid_sums" = true) (k28 : PySem.W.keepIn K (.ref f28) = true)
    {f29 : Addr} {od29 an29 : Option Addr} {sl29 : Array (Option Value)} {oc29 kV29 dc29 pm29 cd29 ct29 : Value}
    (a29 : PySem.W.nsIn K mainGlobals "are_akin" = some (some (.ref f29))) (l29 : K.lookup f29 = some ⟨oc29, od29, .func (PySem.W.fnOf "are_akin" "are_akin" (defArgs s_are_akin) (defBody s_are_akin) (defScope s_are_akin) .none kV29 dc29 pm29 an29 cd29 ct29), sl29⟩) (c29 : PySem.W.codeIn K cd29 "are_akin" = true) (k29 : PySem.W.keepIn K (.ref f29) = true)
    {f30 : Addr} {od30 an30 : Option Addr} {sl30 : Array (Option Value)} {oc30 kV30 dc30 pm30 cd30 ct30 : Value}
    (a30 : PySem.W.nsIn K mainGlobals "akin" = some (some (.ref f30))) (l30 : K.lookup f30 = some ⟨oc30, od30, .func (PySem.W.fnOf "akin" "akin" (defArgs s_akin) (defBody s_akin) (defScope s_akin) .none kV30 dc30 pm30 an30 cd30 ct30), sl30⟩) (c30 : PySem.W.codeIn K cd30 "akin" = true) (k30 : PySem.W.keepIn K (.ref f30) = true)
    {f31 : Addr} {od31 an31 : Option Addr} {sl31 : Array (Option Value)} {oc31 kV31 dc31 pm31 cd31 ct31 : Value}
    (a31 : PySem.W.nsIn K mainGlobals "law" = some (some (.ref f31))) (l31 : K.lookup f31 = some ⟨oc31, od31, .func (PySem.W.fnOf "law" "law" (defArgs s_law) (defBody s_law) (defScope s_law) .none kV31 dc31 pm31 an31 cd31 ct31), sl31⟩) (c31 : PySem.W.codeIn K cd31 "law" = true) (k31 : PySem.W.keepIn K (.ref f31) = true)
    {C25 : Addr} (q25 : cd25 = .ref C25) (r25 : PySem.W.codeHdIn K C25 (tabO K C25) = true)
    (z0 : PySem.W.nsIn K mainGlobals "all" = some none)
    (z1 : PySem.W.nsIn K mainGlobals "bool" = some none)
    (z2 : PySem.W.nsIn K mainGlobals "int" = some none)
    (z3 : PySem.W.nsIn K mainGlobals "isinstance" = some none)
    (z4 : PySem.W.nsIn K mainGlobals "len" = some none)
    (z5 : PySem.W.nsIn K mainGlobals "list" = some none)
    (z6 : PySem.W.nsIn K mainGlobals "max" = some none)
    (z7 : PySem.W.nsIn K mainGlobals "min" = some none)
    (z8 : PySem.W.nsIn K mainGlobals "range" = some none)
    (z9 : PySem.W.nsIn K mainGlobals "repr" = some none)
    (z10 : PySem.W.nsIn K mainGlobals "sorted" = some none)
    (z11 : PySem.W.nsIn K mainGlobals "str" = some none)
    (z12 : PySem.W.nsIn K mainGlobals "sum" = some none)
    (z13 : PySem.W.nsIn K mainGlobals "tuple" = some none)
    {O0 : Addr} {o0 : Obj} (ga0 : PySem.W.nsIn K mainGlobals "PAYING" = some (some (.ref O0))) (gb0 : K.lookup O0 = some o0) (gc0 : conO o0 [.str "pay", .str "named"] = true)
    {E0 : Addr} (ea0 : PySem.W.nsIn K mainGlobals "InvalidAccount" = some (some (.ref E0))) (eb0 : PySem.W.excIn K E0 [.type "ValueError", .type "Exception", .type "BaseException", .type "object"] "ValueError.__new__" = true) (ec0 : PySem.W.keepIn K (.ref E0) = true) (ed0 : PySem.W.subIn K (.ref E0) (.type "BaseException") = some true) (ee0 : PySem.W.typeIn K (.ref E0) = some (.type "type"))
    {E1 : Addr} (ea1 : PySem.W.nsIn K mainGlobals "InvalidLaying" = some (some (.ref E1))) (eb1 : PySem.W.excIn K E1 [.type "ValueError", .type "Exception", .type "BaseException", .type "object"] "ValueError.__new__" = true) (ec1 : PySem.W.keepIn K (.ref E1) = true) (ed1 : PySem.W.subIn K (.ref E1) (.type "BaseException") = some true) (ee1 : PySem.W.typeIn K (.ref E1) = some (.type "type"))
     {base : Heap} (TBs : ∀ p ∈ ([(C25, tabO K C25)] : List (Addr × Addr)), LamX.TabB base mg p.1 p.2) : Txt K mg base [(tabO K C25, lamN "line_of")] where
  f__law_draws := ⟨_, _, fun_mk (st := s__law_draws) l0 c0 k0, PySem.W.mg_of X G a0⟩
  f__law_pick := ⟨_, _, fun_mk (st := s__law_pick) l1 c1 k1, PySem.W.mg_of X G a1⟩
  f__law_wide := ⟨_, _, fun_mk (st := s__law_wide) l2 c2 k2, PySem.W.mg_of X G a2⟩
  f__law_jar_of := ⟨_, _, fun_mk (st := s__law_jar_of) l3 c3 k3, PySem.W.mg_of X G a3⟩
  f__law_a_jar := ⟨_, _, fun_mk (st := s__law_a_jar) l4 c4 k4, PySem.W.mg_of X G a4⟩
  f__law_pairs := ⟨_, _, fun_mk (st := s__law_pairs) l5 c5 k5, PySem.W.mg_of X G a5⟩
  f__law_of_word := ⟨_, _, fun_mk (st := s__law_of_word) l6 c6 k6, PySem.W.mg_of X G a6⟩
  f__law_lay := ⟨_, _, fun_mk (st := s__law_lay) l7 c7 k7, PySem.W.mg_of X G a7⟩
  f__law_swapped := ⟨_, _, fun_mk (st := s__law_swapped) l8 c8 k8, PySem.W.mg_of X G a8⟩
  f__law_a_kin := ⟨_, _, fun_mk (st := s__law_a_kin) l9 c9 k9, PySem.W.mg_of X G a9⟩
  f__law_laid_on := ⟨_, _, fun_mk (st := s__law_laid_on) l10 c10 k10, PySem.W.mg_of X G a10⟩
  f__law_near_one := ⟨_, _, fun_mk (st := s__law_near_one) l11 c11 k11, PySem.W.mg_of X G a11⟩
  f__law_same := ⟨_, _, fun_mk (st := s__law_same) l12 c12 k12, PySem.W.mg_of X G a12⟩
  f_names_rightly := ⟨_, _, fun_mk (st := s_names_rightly) l13 c13 k13, PySem.W.mg_of X G a13⟩
  f_has_word := ⟨_, _, fun_mk (st := s_has_word) l14 c14 k14, PySem.W.mg_of X G a14⟩
  f_is_integer := ⟨_, _, fun_mk (st := s_is_integer) l15 c15 k15, PySem.W.mg_of X G a15⟩
  f_is_plain_entry := ⟨_, _, fun_mk (st := s_is_plain_entry) l16 c16 k16, PySem.W.mg_of X G a16⟩
  f_has_entry_form := ⟨_, _, fun_mk (st := s_has_entry_form) l17 c17 k17, PySem.W.mg_of X G a17⟩
  f_is_account := ⟨_, _, fun_mk (st := s_is_account) l18 c18 k18, PySem.W.mg_of X G a18⟩
  f_need_account := ⟨_, _, fun_mk (st := s_need_account) l19 c19 k19, PySem.W.mg_of X G a19⟩
  f_rests_of := ⟨_, _, fun_mk (st := s_rests_of) l20 c20 k20, PySem.W.mg_of X G a20⟩
  f_is_place := ⟨_, _, fun_mk (st := s_is_place) l21 c21 k21, PySem.W.mg_of X G a21⟩
  f_is_pair := ⟨_, _, fun_mk (st := s_is_pair) l22 c22 k22, PySem.W.mg_of X G a22⟩
  f_fits_account := ⟨_, _, fun_mk (st := s_fits_account) l23 c23 k23, PySem.W.mg_of X G a23⟩
  f_need_laying := ⟨_, _, fun_mk (st := s_need_laying) l24 c24 k24, PySem.W.mg_of X G a24⟩
  f_line_of := ⟨_, _, C25, tabO K C25, fun_mk (st := s_line_of) l25 c25 k25, PySem.W.mg_of X G a25, q25, TBs (C25, tabO K C25) (by simp), by simp, fun p hp e => by
    simp only [List.mem_cons, List.not_mem_nil, or_false] at hp
    rcases hp with rfl
    · exact rfl⟩
  f_bill_line := ⟨_, _, fun_mk (st := s_bill_line) l26 c26 k26, PySem.W.mg_of X G a26⟩
  f_payment_line := ⟨_, _, fun_mk (st := s_payment_line) l27 c27 k27, PySem.W.mg_of X G a27⟩
  f_laid_sums := ⟨_, _, fun_mk (st := s_laid_sums) l28 c28 k28, PySem.W.mg_of X G a28⟩
  f_are_akin := ⟨_, _, fun_mk (st := s_are_akin) l29 c29 k29, PySem.W.mg_of X G a29⟩
  f_akin := ⟨_, _, fun_mk (st := s_akin) l30 c30 k30, PySem.W.mg_of X G a30⟩
  f_law := ⟨_, _, fun_mk (st := s_law) l31 c31 k31, PySem.W.mg_of X G a31⟩
  b_all := PySem.W.mg_none_of X G z0
  b_bool := PySem.W.mg_none_of X G z1
  b_int := PySem.W.mg_none_of X G z2
  b_isinstance := PySem.W.mg_none_of X G z3
  b_len := PySem.W.mg_none_of X G z4
  b_list := PySem.W.mg_none_of X G z5
  b_max := PySem.W.mg_none_of X G z6
  b_min := PySem.W.mg_none_of X G z7
  b_range := PySem.W.mg_none_of X G z8
  b_repr := PySem.W.mg_none_of X G z9
  b_sorted := PySem.W.mg_none_of X G z10
  b_str := PySem.W.mg_none_of X G z11
  b_sum := PySem.W.mg_none_of X G z12
  b_tuple := PySem.W.mg_none_of X G z13
  c_PAYING := con_tup (PySem.W.mg_of X G ga0) gb0 gc0
  e_InvalidAccount := ⟨E0, PySem.W.mg_of X G ea0, eb0, ec0, ed0, ee0⟩
  e_InvalidLaying := ⟨E1, PySem.W.mg_of X G ea1, eb1, ec1, ed1, ee1⟩
theorem at_mk {l : PySem.W.OpenLaw} {w : World} {K : PySem.W.Frag} {h : Heap} {mg : Str → Option Value} (X : K.In h) (G : h.Ns mainGlobals mg)
    {f0 : Addr} {od0 an0 : Option Addr} {sl0 : Array (Option Value)} {oc0 kV0 dc0 pm0 cd0 ct0 : Value}
    (a0 : PySem.W.nsIn K mainGlobals "_law_draws" = some (some (.ref f0))) (l0 : K.lookup f0 = some ⟨oc0, od0, .func (PySem.W.fnOf "_law_draws" "_law_draws" (defArgs s__law_draws) (defBody s__law_draws) (defScope s__law_draws) .none kV0 dc0 pm0 an0 cd0 ct0), sl0⟩) (c0 : PySem.W.codeIn K cd0 "_law_draws" = true) (k0 : PySem.W.keepIn K (.ref f0) = true)
    {f1 : Addr} {od1 an1 : Option Addr} {sl1 : Array (Option Value)} {oc1 kV1 dc1 pm1 cd1 ct1 : Value}
    (a1 : PySem.W.nsIn K mainGlobals "_law_pick" = some (some (.ref f1))) (l1 : K.lookup f1 = some ⟨oc1, od1, .func (PySem.W.fnOf "_law_pick" "_law_pick" (defArgs s__law_pick) (defBody s__law_pick) (defScope s__law_pick) .none kV1 dc1 pm1 an1 cd1 ct1), sl1⟩) (c1 : PySem.W.codeIn K cd1 "_law_pick" = true) (k1 : PySem.W.keepIn K (.ref f1) = true)
    {f2 : Addr} {od2 an2 : Option Addr} {sl2 : Array (Option Value)} {oc2 kV2 dc2 pm2 cd2 ct2 : Value}
    (a2 : PySem.W.nsIn K mainGlobals "_law_wide" = some (some (.ref f2))) (l2 : K.lookup f2 = some ⟨oc2, od2, .func (PySem.W.fnOf "_law_wide" "_law_wide" (defArgs s__law_wide) (defBody s__law_wide) (defScope s__law_wide) .none kV2 dc2 pm2 an2 cd2 ct2), sl2⟩) (c2 : PySem.W.codeIn K cd2 "_law_wide" = true) (k2 : PySem.W.keepIn K (.ref f2) = true)
    {f3 : Addr} {od3 an3 : Option Addr} {sl3 : Array (Option Value)} {oc3 kV3 dc3 pm3 cd3 ct3 : Value}
    (a3 : PySem.W.nsIn K mainGlobals "_law_jar_of" = some (some (.ref f3))) (l3 : K.lookup f3 = some ⟨oc3, od3, .func (PySem.W.fnOf "_law_jar_of" "_law_jar_of" (defArgs s__law_jar_of) (defBody s__law_jar_of) (defScope s__law_jar_of) .none kV3 dc3 pm3 an3 cd3 ct3), sl3⟩) (c3 : PySem.W.codeIn K cd3 "_law_jar_of" = true) (k3 : PySem.W.keepIn K (.ref f3) = true)
    {f4 : Addr} {od4 an4 : Option Addr} {sl4 : Array (Option Value)} {oc4 kV4 dc4 pm4 cd4 ct4 : Value}
    (a4 : PySem.W.nsIn K mainGlobals "_law_a_jar" = some (some (.ref f4))) (l4 : K.lookup f4 = some ⟨oc4, od4, .func (PySem.W.fnOf "_law_a_jar" "_law_a_jar" (defArgs s__law_a_jar) (defBody s__law_a_jar) (defScope s__law_a_jar) .none kV4 dc4 pm4 an4 cd4 ct4), sl4⟩) (c4 : PySem.W.codeIn K cd4 "_law_a_jar" = true) (k4 : PySem.W.keepIn K (.ref f4) = true)
    {f5 : Addr} {od5 an5 : Option Addr} {sl5 : Array (Option Value)} {oc5 kV5 dc5 pm5 cd5 ct5 : Value}
    (a5 : PySem.W.nsIn K mainGlobals "_law_pairs" = some (some (.ref f5))) (l5 : K.lookup f5 = some ⟨oc5, od5, .func (PySem.W.fnOf "_law_pairs" "_law_pairs" (defArgs s__law_pairs) (defBody s__law_pairs) (defScope s__law_pairs) .none kV5 dc5 pm5 an5 cd5 ct5), sl5⟩) (c5 : PySem.W.codeIn K cd5 "_law_pairs" = true) (k5 : PySem.W.keepIn K (.ref f5) = true)
    {f6 : Addr} {od6 an6 : Option Addr} {sl6 : Array (Option Value)} {oc6 kV6 dc6 pm6 cd6 ct6 : Value}
    (a6 : PySem.W.nsIn K mainGlobals "_law_of_word" = some (some (.ref f6))) (l6 : K.lookup f6 = some ⟨oc6, od6, .func (PySem.W.fnOf "_law_of_word" "_law_of_word" (defArgs s__law_of_word) (defBody s__law_of_word) (defScope s__law_of_word) .none kV6 dc6 pm6 an6 cd6 ct6), sl6⟩) (c6 : PySem.W.codeIn K cd6 "_law_of_word" = true) (k6 : PySem.W.keepIn K (.ref f6) = true)
    {f7 : Addr} {od7 an7 : Option Addr} {sl7 : Array (Option Value)} {oc7 kV7 dc7 pm7 cd7 ct7 : Value}
    (a7 : PySem.W.nsIn K mainGlobals "_law_lay" = some (some (.ref f7))) (l7 : K.lookup f7 = some ⟨oc7, od7, .func (PySem.W.fnOf "_law_lay" "_law_lay" (defArgs s__law_lay) (defBody s__law_lay) (defScope s__law_lay) .none kV7 dc7 pm7 an7 cd7 ct7), sl7⟩) (c7 : PySem.W.codeIn K cd7 "_law_lay" = true) (k7 : PySem.W.keepIn K (.ref f7) = true)
    {f8 : Addr} {od8 an8 : Option Addr} {sl8 : Array (Option Value)} {oc8 kV8 dc8 pm8 cd8 ct8 : Value}
    (a8 : PySem.W.nsIn K mainGlobals "_law_swapped" = some (some (.ref f8))) (l8 : K.lookup f8 = some ⟨oc8, od8, .func (PySem.W.fnOf "_law_swapped" "_law_swapped" (defArgs s__law_swapped) (defBody s__law_swapped) (defScope s__law_swapped) .none kV8 dc8 pm8 an8 cd8 ct8), sl8⟩) (c8 : PySem.W.codeIn K cd8 "_law_swapped" = true) (k8 : PySem.W.keepIn K (.ref f8) = true)
    {f9 : Addr} {od9 an9 : Option Addr} {sl9 : Array (Option Value)} {oc9 kV9 dc9 pm9 cd9 ct9 : Value}
    (a9 : PySem.W.nsIn K mainGlobals "_law_a_kin" = some (some (.ref f9))) (l9 : K.lookup f9 = some ⟨oc9, od9, .func (PySem.W.fnOf "_law_a_kin" "_law_a_kin" (defArgs s__law_a_kin) (defBody s__law_a_kin) (defScope s__law_a_kin) .none kV9 dc9 pm9 an9 cd9 ct9), sl9⟩) (c9 : PySem.W.codeIn K cd9 "_law_a_kin" = true) (k9 : PySem.W.keepIn K (.ref f9) = true)
    {f10 : Addr} {od10 an10 : Option Addr} {sl10 : Array (Option Value)} {oc10 kV10 dc10 pm10 cd10 ct10 : Value}
    (a10 : PySem.W.nsIn K mainGlobals "_law_laid_on" = some (some (.ref f10))) (l10 : K.lookup f10 = some ⟨oc10, od10, .func (PySem.W.fnOf "_law_laid_on" "_law_laid_on" (defArgs s__law_laid_on) (defBody s__law_laid_on) (defScope s__law_laid_on) .none kV10 dc10 pm10 an10 cd10 ct10), sl10⟩) (c10 : PySem.W.codeIn K cd10 "_law_laid_on" = true) (k10 : PySem.W.keepIn K (.ref f10) = true)
    {f11 : Addr} {od11 an11 : Option Addr} {sl11 : Array (Option Value)} {oc11 kV11 dc11 pm11 cd11 ct11 : Value}
    (a11 : PySem.W.nsIn K mainGlobals "_law_near_one" = some (some (.ref f11))) (l11 : K.lookup f11 = some ⟨oc11, od11, .func (PySem.W.fnOf "_law_near_one" "_law_near_one" (defArgs s__law_near_one) (defBody s__law_near_one) (defScope s__law_near_one) .none kV11 dc11 pm11 an11 cd11 ct11), sl11⟩) (c11 : PySem.W.codeIn K cd11 "_law_near_one" = true) (k11 : PySem.W.keepIn K (.ref f11) = true)
    {f12 : Addr} {od12 an12 : Option Addr} {sl12 : Array (Option Value)} {oc12 kV12 dc12 pm12 cd12 ct12 : Value}
    (a12 : PySem.W.nsIn K mainGlobals "_law_same" = some (some (.ref f12))) (l12 : K.lookup f12 = some ⟨oc12, od12, .func (PySem.W.fnOf "_law_same" "_law_same" (defArgs s__law_same) (defBody s__law_same) (defScope s__law_same) .none kV12 dc12 pm12 an12 cd12 ct12), sl12⟩) (c12 : PySem.W.codeIn K cd12 "_law_same" = true) (k12 : PySem.W.keepIn K (.ref f12) = true)
    {f13 : Addr} {od13 an13 : Option Addr} {sl13 : Array (Option Value)} {oc13 kV13 dc13 pm13 cd13 ct13 : Value}
    (a13 : PySem.W.nsIn K mainGlobals "names_rightly" = some (some (.ref f13))) (l13 : K.lookup f13 = some ⟨oc13, od13, .func (PySem.W.fnOf "names_rightly" "names_rightly" (defArgs s_names_rightly) (defBody s_names_rightly) (defScope s_names_rightly) .none kV13 dc13 pm13 an13 cd13 ct13), sl13⟩) (c13 : PySem.W.codeIn K cd13 "names_rightly" = true) (k13 : PySem.W.keepIn K (.ref f13) = true)
    {f14 : Addr} {od14 an14 : Option Addr} {sl14 : Array (Option Value)} {oc14 kV14 dc14 pm14 cd14 ct14 : Value}
    (a14 : PySem.W.nsIn K mainGlobals "has_word" = some (some (.ref f14))) (l14 : K.lookup f14 = some ⟨oc14, od14, .func (PySem.W.fnOf "has_word" "has_word" (defArgs s_has_word) (defBody s_has_word) (defScope s_has_word) .none kV14 dc14 pm14 an14 cd14 ct14), sl14⟩) (c14 : PySem.W.codeIn K cd14 "has_word" = true) (k14 : PySem.W.keepIn K (.ref f14) = true)
    {f15 : Addr} {od15 an15 : Option Addr} {sl15 : Array (Option Value)} {oc15 kV15 dc15 pm15 cd15 ct15 : Value}
    (a15 : PySem.W.nsIn K mainGlobals "is_integer" = some (some (.ref f15))) (l15 : K.lookup f15 = some ⟨oc15, od15, .func (PySem.W.fnOf "is_integer" "is_integer" (defArgs s_is_integer) (defBody s_is_integer) (defScope s_is_integer) .none kV15 dc15 pm15 an15 cd15 ct15), sl15⟩) (c15 : PySem.W.codeIn K cd15 "is_integer" = true) (k15 : PySem.W.keepIn K (.ref f15) = true)
    {f16 : Addr} {od16 an16 : Option Addr} {sl16 : Array (Option Value)} {oc16 kV16 dc16 pm16 cd16 ct16 : Value}
    (a16 : PySem.W.nsIn K mainGlobals "is_plain_entry" = some (some (.ref f16))) (l16 : K.lookup f16 = some ⟨oc16, od16, .func (PySem.W.fnOf "is_plain_entry" "is_plain_entry" (defArgs s_is_plain_entry) (defBody s_is_plain_entry) (defScope s_is_plain_entry) .none kV16 dc16 pm16 an16 cd16 ct16), sl16⟩) (c16 : PySem.W.codeIn K cd16 "is_plain_entry" = true) (k16 : PySem.W.keepIn K (.ref f16) = true)
    {f17 : Addr} {od17 an17 : Option Addr} {sl17 : Array (Option Value)} {oc17 kV17 dc17 pm17 cd17 ct17 : Value}
    (a17 : PySem.W.nsIn K mainGlobals "has_entry_form" = some (some (.ref f17))) (l17 : K.lookup f17 = some ⟨oc17, od17, .func (PySem.W.fnOf "has_entry_form" "has_entry_form" (defArgs s_has_entry_form) (defBody s_has_entry_form) (defScope s_has_entry_form) .none kV17 dc17 pm17 an17 cd17 ct17), sl17⟩) (c17 : PySem.W.codeIn K cd17 "has_entry_form" = true) (k17 : PySem.W.keepIn K (.ref f17) = true)
    {f18 : Addr} {od18 an18 : Option Addr} {sl18 : Array (Option Value)} {oc18 kV18 dc18 pm18 cd18 ct18 : Value}
    (a18 : PySem.W.nsIn K mainGlobals "is_account" = some (some (.ref f18))) (l18 : K.lookup f18 = some ⟨oc18, od18, .func (PySem.W.fnOf "is_account" "is_account" (defArgs s_is_account) (defBody s_is_account) (defScope s_is_account) .none kV18 dc18 pm18 an18 cd18 ct18), sl18⟩) (c18 : PySem.W.codeIn K cd18 "is_account" = true) (k18 : PySem.W.keepIn K (.ref f18) = true)
    {f19 : Addr} {od19 an19 : Option Addr} {sl19 : Array (Option Value)} {oc19 kV19 dc19 pm19 cd19 ct19 : Value}
    (a19 : PySem.W.nsIn K mainGlobals "need_account" = some (some (.ref f19))) (l19 : K.lookup f19 = some ⟨oc19, od19, .func (PySem.W.fnOf "need_account" "need_account" (defArgs s_need_account) (defBody s_need_account) (defScope s_need_account) .none kV19 dc19 pm19 an19 cd19 ct19), sl19⟩) (c19 : PySem.W.codeIn K cd19 "need_account" = true) (k19 : PySem.W.keepIn K (.ref f19) = true)
    {f20 : Addr} {od20 an20 : Option Addr} {sl20 : Array (Option Value)} {oc20 kV20 dc20 pm20 cd20 ct20 : Value}
    (a20 : PySem.W.nsIn K mainGlobals "rests_of" = some (some (.ref f20))) (l20 : K.lookup f20 = some ⟨oc20, od20, .func (PySem.W.fnOf "rests_of" "rests_of" (defArgs s_rests_of) (defBody s_rests_of) (defScope s_rests_of) .none kV20 dc20 pm20 an20 cd20 ct20), sl20⟩) (c20 : PySem.W.codeIn K cd20 "rests_of" = true) (k20 : PySem.W.keepIn K (.ref f20) = true)
    {f21 : Addr} {od21 an21 : Option Addr} {sl21 : Array (Option Value)} {oc21 kV21 dc21 pm21 cd21 ct21 : Value}
    (a21 : PySem.W.nsIn K mainGlobals "is_place" = some (some (.ref f21))) (l21 : K.lookup f21 = some ⟨oc21, od21, .func (PySem.W.fnOf "is_place" "is_place" (defArgs s_is_place) (defBody s_is_place) (defScope s_is_place) .none kV21 dc21 pm21 an21 cd21 ct21), sl21⟩) (c21 : PySem.W.codeIn K cd21 "is_place" = true) (k21 : PySem.W.keepIn K (.ref f21) = true)
    {f22 : Addr} {od22 an22 : Option Addr} {sl22 : Array (Option Value)} {oc22 kV22 dc22 pm22 cd22 ct22 : Value}
    (a22 : PySem.W.nsIn K mainGlobals "is_pair" = some (some (.ref f22))) (l22 : K.lookup f22 = some ⟨oc22, od22, .func (PySem.W.fnOf "is_pair" "is_pair" (defArgs s_is_pair) (defBody s_is_pair) (defScope s_is_pair) .none kV22 dc22 pm22 an22 cd22 ct22), sl22⟩) (c22 : PySem.W.codeIn K cd22 "is_pair" = true) (k22 : PySem.W.keepIn K (.ref f22) = true)
    {f23 : Addr} {od23 an23 : Option Addr} {sl23 : Array (Option Value)} {oc23 kV23 dc23 pm23 cd23 ct23 : Value}
    (a23 : PySem.W.nsIn K mainGlobals "fits_account" = some (some (.ref f23))) (l23 : K.lookup f23 = some ⟨oc23, od23, .func (PySem.W.fnOf "fits_account" "fits_account" (defArgs s_fits_account) (defBody s_fits_account) (defScope s_fits_account) .none kV23 dc23 pm23 an23 cd23 ct23), sl23⟩) (c23 : PySem.W.codeIn K cd23 "fits_account" = true) (k23 : PySem.W.keepIn K (.ref f23) = true)
    {f24 : Addr} {od24 an24 : Option Addr} {sl24 : Array (Option Value)} {oc24 kV24 dc24 pm24 cd24 ct24 : Value}
    (a24 : PySem.W.nsIn K mainGlobals "need_laying" = some (some (.ref f24))) (l24 : K.lookup f24 = some ⟨oc24, od24, .func (PySem.W.fnOf "need_laying" "need_laying" (defArgs s_need_laying) (defBody s_need_laying) (defScope s_need_laying) .none kV24 dc24 pm24 an24 cd24 ct24), sl24⟩) (c24 : PySem.W.codeIn K cd24 "need_laying" = true) (k24 : PySem.W.keepIn K (.ref f24) = true)
    {f25 : Addr} {od25 an25 : Option Addr} {sl25 : Array (Option Value)} {oc25 kV25 dc25 pm25 cd25 ct25 : Value}
    (a25 : PySem.W.nsIn K mainGlobals "line_of" = some (some (.ref f25))) (l25 : K.lookup f25 = some ⟨oc25, od25, .func (PySem.W.fnOf "line_of" "line_of" (defArgs s_line_of) (defBody s_line_of) (defScope s_line_of) .none kV25 dc25 pm25 an25 cd25 ct25), sl25⟩) (c25 : PySem.W.codeIn K cd25 "line_of" = true) (k25 : PySem.W.keepIn K (.ref f25) = true)
    {f26 : Addr} {od26 an26 : Option Addr} {sl26 : Array (Option Value)} {oc26 kV26 dc26 pm26 cd26 ct26 : Value}
    (a26 : PySem.W.nsIn K mainGlobals "bill_line" = some (some (.ref f26))) (l26 : K.lookup f26 = some ⟨oc26, od26, .func (PySem.W.fnOf "bill_line" "bill_line" (defArgs s_bill_line) (defBody s_bill_line) (defScope s_bill_line) .none kV26 dc26 pm26 an26 cd26 ct26), sl26⟩) (c26 : PySem.W.codeIn K cd26 "bill_line" = true) (k26 : PySem.W.keepIn K (.ref f26) = true)
    {f27 : Addr} {od27 an27 : Option Addr} {sl27 : Array (Option Value)} {oc27 kV27 dc27 pm27 cd27 ct27 : Value}
    (a27 : PySem.W.nsIn K mainGlobals "payment_line" = some (some (.ref f27))) (l27 : K.lookup f27 = some ⟨oc27, od27, .func (PySem.W.fnOf "payment_line" "payment_line" (defArgs s_payment_line) (defBody s_payment_line) (defScope s_payment_line) .none kV27 dc27 pm27 an27 cd27 ct27), sl27⟩) (c27 : PySem.W.codeIn K cd27 "payment_line" = true) (k27 : PySem.W.keepIn K (.ref f27) = true)
    {f28 : Addr} {od28 an28 : Option Addr} {sl28 : Array (Option Value)} {oc28 kV28 dc28 pm28 cd28 ct28 : Value}
    (a28 : PySem.W.nsIn K mainGlobals "laid_sums" = some (some (.ref f28))) (l28 : K.lookup f28 = some ⟨oc28, od28, .func (PySem.W.fnOf "laid_sums" "laid_sums" (defArgs s_laid_sums) (defBody s_laid_sums) (defScope s_laid_sums) .none kV28 dc28 pm28 an28 cd28 ct28), sl28⟩) (c28 : PySem.W.codeIn K cd28 "laid_sums" = true) (k28 : PySem.W.keepIn K (.ref f28) = true)
    {f29 : Addr} {od29 an29 : Option Addr} {sl29 : Array (Option Value)} {oc29 kV29 dc29 pm29 cd29 ct29 : Value}
    (a29 : PySem.W.nsIn K mainGlobals "are_akin" = some (some (.ref f29))) (l29 : K.lookup f29 = some ⟨oc29, od29, .func (PySem.W.fnOf "are_akin" "are_akin" (defArgs s_are_akin) (defBody s_are_akin) (defScope s_are_akin) .none kV29 dc29 pm29 an29 cd29 ct29), sl29⟩) (c29 : PySem.W.codeIn K cd29 "are_akin" = true) (k29 : PySem.W.keepIn K (.ref f29) = true)
    {f30 : Addr} {od30 an30 : Option Addr} {sl30 : Array (Option Value)} {oc30 kV30 dc30 pm30 cd30 ct30 : Value}
    (a30 : PySem.W.nsIn K mainGlobals "akin" = some (some (.ref f30))) (l30 : K.lookup f30 = some ⟨oc30, od30, .func (PySem.W.fnOf "akin" "akin" (defArgs s_akin) (defBody s_akin) (defScope s_akin) .none kV30 dc30 pm30 an30 cd30 ct30), sl30⟩) (c30 : PySem.W.codeIn K cd30 "akin" = true) (k30 : PySem.W.keepIn K (.ref f30) = true)
    {f31 : Addr} {od31 an31 : Option Addr} {sl31 : Array (Option Value)} {oc31 kV31 dc31 pm31 cd31 ct31 : Value}
    (a31 : PySem.W.nsIn K mainGlobals "law" = some (some (.ref f31))) (l31 : K.lookup f31 = some ⟨oc31, od31, .func (PySem.W.fnOf "law" "law" (defArgs s_law) (defBody s_law) (defScope s_law) .none kV31 dc31 pm31 an31 cd31 ct31), sl31⟩) (c31 : PySem.W.codeIn K cd31 "law" = true) (k31 : PySem.W.keepIn K (.ref f31) = true)
    {C25 : Addr} (q25 : cd25 = .ref C25) (r25 : PySem.W.codeHdIn K C25 (tabO K C25) = true)
    (z0 : PySem.W.nsIn K mainGlobals "all" = some none)
    (z1 : PySem.W.nsIn K mainGlobals "bool" = some none)
    (z2 : PySem.W.nsIn K mainGlobals "int" = some none)
    (z3 : PySem.W.nsIn K mainGlobals "isinstance" = some none)
    (z4 : PySem.W.nsIn K mainGlobals "len" = some none)
    (z5 : PySem.W.nsIn K mainGlobals "list" = some none)
    (z6 : PySem.W.nsIn K mainGlobals "max" = some none)
    (z7 : PySem.W.nsIn K mainGlobals "min" = some none)
    (z8 : PySem.W.nsIn K mainGlobals "range" = some none)
    (z9 : PySem.W.nsIn K mainGlobals "repr" = some none)
    (z10 : PySem.W.nsIn K mainGlobals "sorted" = some none)
    (z11 : PySem.W.nsIn K mainGlobals "str" = some none)
    (z12 : PySem.W.nsIn K mainGlobals "sum" = some none)
    (z13 : PySem.W.nsIn K mainGlobals "tuple" = some none)
    {O0 : Addr} {o0 : Obj} (ga0 : PySem.W.nsIn K mainGlobals "PAYING" = some (some (.ref O0))) (gb0 : K.lookup O0 = some o0) (gc0 : conO o0 [.str "pay", .str "named"] = true)
    {E0 : Addr} (ea0 : PySem.W.nsIn K mainGlobals "InvalidAccount" = some (some (.ref E0))) (eb0 : PySem.W.excIn K E0 [.type "ValueError", .type "Exception", .type "BaseException", .type "object"] "ValueError.__new__" = true) (ec0 : PySem.W.keepIn K (.ref E0) = true) (ed0 : PySem.W.subIn K (.ref E0) (.type "BaseException") = some true) (ee0 : PySem.W.typeIn K (.ref E0) = some (.type "type"))
    {E1 : Addr} (ea1 : PySem.W.nsIn K mainGlobals "InvalidLaying" = some (some (.ref E1))) (eb1 : PySem.W.excIn K E1 [.type "ValueError", .type "Exception", .type "BaseException", .type "object"] "ValueError.__new__" = true) (ec1 : PySem.W.keepIn K (.ref E1) = true) (ed1 : PySem.W.subIn K (.ref E1) (.type "BaseException") = some true) (ee1 : PySem.W.typeIn K (.ref E1) = some (.type "type"))
    
    (t25 : K.lookup (tabO K C25) = none) {ts : List Addr} (TS : ∀ P ∈ ts, h.get? P = some (PySem.W.tabObj #[])) (u25 : tabO K C25 ∈ ts) {fa : Addr} (hfa : mg "law" = some (.ref fa)) (LT : ∀ ns : List Int, ns.length ≤ 63 → ∀ d : D, d = .scr ns ∨ d = .lst (ns.map D.int) → m_law [d] = .ok (.bl true)) : LamX.LawAtS l w K (L2.CX l.prog w) 7 63 "script" mg fa h := by
  have hm := PySem.W.mg_of X G a31
  have e := hfa.symm.trans hm
  cases e
  obtain ⟨fd, F⟩ : ∃ fd, Fun K "law" "law" s_law f31 fd := ⟨_, fun_mk (st := s_law) l31 c31 k31⟩
  have b : ∀ (s : Shared) (u : Value), BindsTo s fd ⟨[u], []⟩ [("script", u)] := by
    obtain ⟨oc, od, kV, doc, pm, an, cdv, ct, osl, rfl, lk, hcd⟩ := F.ex
    exact fun s v => .of_eq rfl
  refine ⟨fd, [(C25, tabO K C25)], spL K [(tabO K C25, lamN "line_of")] m_law, fun p hp => ?_, fun p hp => ?_, fun p hp => ?_, b, fun H a ns hl hb hH hS => law_spT (Nat.le_trans hl (by decide)) (tabs_nil hH ?_) hS (LT ns hl _ (.inl rfl)) (LT ns hl _ (.inr rfl)), fun base X G TBs => ?_⟩
  · simp only [List.mem_cons, List.not_mem_nil, or_false] at hp
    rcases hp with rfl
    · exact TS _ u25
  · simp only [List.mem_cons, List.not_mem_nil, or_false] at hp
    rcases hp with rfl
    · exact t25
  · simp only [List.mem_cons, List.not_mem_nil, or_false] at hp
    rcases hp with rfl
    · exact PySem.W.codeHd_of_K X r25
  · simp
  · exact (fnP_ok F sc_law rfl (w_law (txt_mk X G a0 l0 c0 k0 a1 l1 c1 k1 a2 l2 c2 k2 a3 l3 c3 k3 a4 l4 c4 k4 a5 l5 c5 k5 a6 l6 c6 k6 a7 l7 c7 k7 a8 l8 c8 k8 a9 l9 c9 k9 a10 l10 c10 k10 a11 l11 c11 k11 a12 l12 c12 k12 a13 l13 c13 k13 a14 l14 c14 k14 a15 l15 c15 k15 a16 l16 c16 k16 a17 l17 c17 k17 a18 l18 c18 k18 a19 l19 c19 k19 a20 l20 c20 k20 a21 l21 c21 k21 a22 l22 c22 k22 a23 l23 c23 k23 a24 l24 c24 k24 a25 l25 c25 k25 a26 l26 c26 k26 a27 l27 c27 k27 a28 l28 c28 k28 a29 l29 c29 k29 a30 l30 c30 k30 a31 l31 c31 k31 q25 r25 z0 z1 z2 z3 z4 z5 z6 z7 z8 z9 z10 z11 z12 z13 ga0 gb0 gc0 ea0 eb0 ec0 ed0 ee0 ea1 eb1 ec1 ed1 ee1 TBs))).imp fun vs H Q E ⟨hl, ht, M, ds, tk, r, q⟩ => ⟨hl, ht, M, ds, tk, r, q.imp (fun d z => z) fun c z => z.elim⟩
end Law
end
set_option maxRecDepth 100000
open PySem PySem.W PyProof.Rows
set_option maxHeartbeats 0 in
theorem PySem.Challenge.cw_oldestbills_k23_akin_holds : PySem.Challenge.rw_oldestbills_k23_akin.Holds := by
  w_on; o_law; k_head; (case hw => w_witness2)
  k_fill
  refine LamX.walk_ofTs (l := PySem.Challenge.rw_oldestbills_k23_akin) (n := 63) (k := 7) (x := "script") (CX := fun w => L2.CX PySem.Challenge.rw_oldestbills_k23_akin.prog w) rfl (by decide) rfl ⟨rfl, by decide, by decide⟩ (fun w h Y => PySem.W.km_in_of Y) ?F (fun _ _ _ _ _ h => Vm.cx_law h)
  case F =>
    intro w mg fa h Y KX G hmg
    have TS := PySem.W.km_tabs_of Y
    refine' Law.at_mk KX G ?a0 ?l0 ?c0 ?k0 ?a1 ?l1 ?c1 ?k1 ?a2 ?l2 ?c2 ?k2 ?a3 ?l3 ?c3 ?k3 ?a4 ?l4 ?c4 ?k4 ?a5 ?l5 ?c5 ?k5 ?a6 ?l6 ?c6 ?k6 ?a7 ?l7 ?c7 ?k7 ?a8 ?l8 ?c8 ?k8 ?a9 ?l9 ?c9 ?k9 ?a10 ?l10 ?c10 ?k10 ?a11 ?l11 ?c11 ?k11 ?a12 ?l12 ?c12 ?k12 ?a13 ?l13 ?c13 ?k13 ?a14 ?l14 ?c14 ?k14 ?a15 ?l15 ?c15 ?k15 ?a16 ?l16 ?c16 ?k16 ?a17 ?l17 ?c17 ?k17 ?a18 ?l18 ?c18 ?k18 ?a19 ?l19 ?c19 ?k19 ?a20 ?l20 ?c20 ?k20 ?a21 ?l21 ?c21 ?k21 ?a22 ?l22 ?c22 ?k22 ?a23 ?l23 ?c23 ?k23 ?a24 ?l24 ?c24 ?k24 ?a25 ?l25 ?c25 ?k25 ?a26 ?l26 ?c26 ?k26 ?a27 ?l27 ?c27 ?k27 ?a28 ?l28 ?c28 ?k28 ?a29 ?l29 ?c29 ?k29 ?a30 ?l30 ?c30 ?k30 ?a31 ?l31 ?c31 ?k31 ?q25 ?r25 ?z0 ?z1 ?z2 ?z3 ?z4 ?z5 ?z6 ?z7 ?z8 ?z9 ?z10 ?z11 ?z12 ?z13 ?ga0 ?gb0 ?gc0 ?ea0 ?eb0 ?ec0 ?ed0 ?ee0 ?ea1 ?eb1 ?ec1 ?ed1 ?ee1 ?t25 TS ?u25 hmg Law.law_true
    (case a0 => k_is); (case l0 => k_is); (case c0 => k_is); (case k0 => k_is); (case a1 => k_is); (case l1 => k_is); (case c1 => k_is); (case k1 => k_is); (case a2 => k_is); (case l2 => k_is); (case c2 => k_is); (case k2 => k_is); (case a3 => k_is); (case l3 => k_is); (case c3 => k_is); (case k3 => k_is); (case a4 => k_is); (case l4 => k_is); (case c4 => k_is); (case k4 => k_is); (case a5 => k_is); (case l5 => k_is); (case c5 => k_is); (case k5 => k_is); (case a6 => k_is); (case l6 => k_is); (case c6 => k_is); (case k6 => k_is); (case a7 => k_is); (case l7 => k_is); (case c7 => k_is); (case k7 => k_is); (case a8 => k_is); (case l8 => k_is); (case c8 => k_is); (case k8 => k_is); (case a9 => k_is); (case l9 => k_is); (case c9 => k_is); (case k9 => k_is); (case a10 => k_is); (case l10 => k_is); (case c10 => k_is); (case k10 => k_is); (case a11 => k_is); (case l11 => k_is); (case c11 => k_is); (case k11 => k_is); (case a12 => k_is); (case l12 => k_is); (case c12 => k_is); (case k12 => k_is); (case a13 => k_is); (case l13 => k_is); (case c13 => k_is); (case k13 => k_is); (case a14 => k_is); (case l14 => k_is); (case c14 => k_is); (case k14 => k_is); (case a15 => k_is); (case l15 => k_is); (case c15 => k_is); (case k15 => k_is); (case a16 => k_is); (case l16 => k_is); (case c16 => k_is); (case k16 => k_is); (case a17 => k_is); (case l17 => k_is); (case c17 => k_is); (case k17 => k_is); (case a18 => k_is); (case l18 => k_is); (case c18 => k_is); (case k18 => k_is); (case a19 => k_is); (case l19 => k_is); (case c19 => k_is); (case k19 => k_is); (case a20 => k_is); (case l20 => k_is); (case c20 => k_is); (case k20 => k_is); (case a21 => k_is); (case l21 => k_is); (case c21 => k_is); (case k21 => k_is); (case a22 => k_is); (case l22 => k_is); (case c22 => k_is); (case k22 => k_is); (case a23 => k_is); (case l23 => k_is); (case c23 => k_is); (case k23 => k_is); (case a24 => k_is); (case l24 => k_is); (case c24 => k_is); (case k24 => k_is); (case a25 => k_is); (case l25 => k_is); (case c25 => k_is); (case k25 => k_is); (case a26 => k_is); (case l26 => k_is); (case c26 => k_is); (case k26 => k_is); (case a27 => k_is); (case l27 => k_is); (case c27 => k_is); (case k27 => k_is); (case a28 => k_is); (case l28 => k_is); (case c28 => k_is); (case k28 => k_is); (case a29 => k_is); (case l29 => k_is); (case c29 => k_is); (case k29 => k_is); (case a30 => k_is); (case l30 => k_is); (case c30 => k_is); (case k30 => k_is); (case a31 => k_is); (case l31 => k_is); (case c31 => k_is); (case k31 => k_is); (case q25 => exact rfl); (case r25 => kernel_rfl); (case z0 => k_is); (case z1 => k_is); (case z2 => k_is); (case z3 => k_is); (case z4 => k_is); (case z5 => k_is); (case z6 => k_is); (case z7 => k_is); (case z8 => k_is); (case z9 => k_is); (case z10 => k_is); (case z11 => k_is); (case z12 => k_is); (case z13 => k_is); (case ga0 => k_is); (case gb0 => k_is); (case gc0 => kernel_rfl); (case ea0 => k_is); (case eb0 => k_exc); (case ec0 => k_is); (case ed0 => k_is); (case ee0 => k_is); (case ea1 => k_is); (case eb1 => k_exc); (case ec1 => k_is); (case ed1 => k_is); (case ee1 => k_is); (case t25 => kernel_rfl); (case u25 => (simp only [List.mem_cons, List.not_mem_nil, or_false]; kernel_rfl))
