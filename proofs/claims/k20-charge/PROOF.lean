import PyProof.Rows.All
import Wide.All
import OpenK.AllK
import Wide.FinOn
import HandS.ForMost
import HandS.Exc
import HandS.TryOnly
import HandS.ExcOwn
import HandS.WordsExc
import HandS.Wide
import HandS.SortInts
import HandS.IsInst
import HandS.RaiseMore
import HandS.TupAny
import HandS.TupLe
import HandS.Deep
import HandS.Small
import HandS.Style
import HandS.Conv
import HandS.EndBits
import HandS.More
import PySem.Challenge.RW_oldestbills_k20_charge
set_option Elab.async false
set_option linter.all false
section
set_option maxHeartbeats 4000000
/-! Vm, part A: data, results, how data lie in the abstract heap, slots, the relation. -/
namespace Vm
open PySem PySem.Spec PyProof.Rows L2

inductive D where
  | non
  | bl (b : Bool)
  | int (i : Int)
  | str (x : Str)
  | tup (xs : List D)
  | lst (xs : List D)
  | dic (kvs : List (Key × D))
  | own (i : Nat)
  | scr (ns : List Int)

inductive Res (α : Type) where
  | ok (a : α)
  | err (c : Str)
  | bad

def Res.bind {α β : Type} (r : Res α) (f : α → Res β) : Res β :=
  match r with
  | .ok a => f a
  | .err c => .err c
  | .bad => .bad
instance : Monad Res where
  pure := Res.ok
  bind := Res.bind
theorem ok_bind {α β : Type} (a : α) (f : α → Res β) : (Res.ok a >>= f) = f a := rfl
theorem err_bind {α β : Type} (c : Str) (f : α → Res β) : ((Res.err c : Res α) >>= f) = Res.err c := rfl
theorem bad_bind {α β : Type} (f : α → Res β) : ((Res.bad : Res α) >>= f) = Res.bad := rfl
theorem pure_ok {α : Type} (a : α) : (pure a : Res α) = Res.ok a := rfl

def Res.Wp {α : Type} (r : Res α) (P : α → Prop) (E : Str → Prop) : Prop :=
  match r with
  | .ok a => P a
  | .err c => E c
  | .bad => False
theorem wp_ok {α : Type} {a : α} {P : α → Prop} {E : Str → Prop} : (Res.ok a).Wp P E = P a := rfl
theorem wp_err {α : Type} {c : Str} {P : α → Prop} {E : Str → Prop} : (Res.err c : Res α).Wp P E = E c := rfl
theorem wp_bad {α : Type} {P : α → Prop} {E : Str → Prop} : (Res.bad : Res α).Wp P E = False := rfl
theorem wp_bind {α β : Type} {r : Res α} {f : α → Res β} {P : β → Prop} {E : Str → Prop} : (r >>= f).Wp P E = r.Wp (fun a => (f a).Wp P E) E := by
  cases r <;> rfl
theorem Res.Wp.imp {α : Type} {r : Res α} {P P' : α → Prop} {E E' : Str → Prop} (h : r.Wp P E) (hp : ∀ a, P a → P' a) (he : ∀ c, E c → E' c) : r.Wp P' E' := by
  cases r with
  | ok a => exact hp a h
  | err c => exact he c h
  | bad => exact h

/-! ### how data lie -/
/-- the script: locked, or of the written part -/
def ScrAt (K : PySem.W.Frag) (H : Hp) (a : Addr) (xs : List V) : Prop := (∃ o, H a = some (.frz o (.lst xs))) ∨
  ∃ (o : Obj) (its : Array Value) (n : Nat), K.lookup a = some o ∧ o.cls = .type "list" ∧ o.dict = none ∧ o.data = .seq its n ∧ its.size ≤ sizeLine ∧ Vals xs its.toList
theorem ScrAt.sq {K : PySem.W.Frag} {H : Hp} {a : Addr} {xs : List V} (h : ScrAt K H a xs) : SqL K H a xs := h.imp (fun h => .inr h) id
inductive Rp (K : PySem.W.Frag) (H : Hp) (M : Addr → Prop) : D → V → Prop
  | non : Rp K H M .non .non
  | bl (b : Bool) : Rp K H M (.bl b) (.bl b)
  | int (i : Int) : Rp K H M (.int i) (.int i)
  | str (x : Str) : Rp K H M (.str x) (.str x)
  | tup {a : Addr} {vs : List V} {ds : List D} (h : SqT K H a vs) (hl : vs.length = ds.length) (hz : ds.length ≤ sizeLine)
      (hi : ∀ (i : Nat) (d : D) (v : V), ds[i]? = some d → vs[i]? = some v → Rp K H M d v) : Rp K H M (.tup ds) (.ref a)
  | lst {a : Addr} {vs : List V} {ds : List D} (h : H a = some (.lst vs)) (hm : ¬ M a) (hl : vs.length = ds.length) (hz : ds.length ≤ sizeLine)
      (hi : ∀ (i : Nat) (d : D) (v : V), ds[i]? = some d → vs[i]? = some v → Rp K H M d v) : Rp K H M (.lst ds) (.ref a)
  | scr {a : Addr} {ns : List Int} (h : ScrAt K H a (ns.map V.int)) (hz : ns.length ≤ sizeLine) : Rp K H M (.scr ns) (.ref a)
  | dic {a : Addr} {vs : List (Key × V)} {ds : List (Key × D)} (h : H a = some (.dK vs)) (hm : ¬ M a) (hl : vs.length = ds.length) (hz : ds.length ≤ sizeLine)
      (hk : ∀ (i : Nat) (p : Key × D) (q : Key × V), ds[i]? = some p → vs[i]? = some q → q.1 = p.1)
      (hi : ∀ (i : Nat) (p : Key × D) (q : Key × V), ds[i]? = some p → vs[i]? = some q → Rp K H M p.2 q.2) : Rp K H M (.dic ds) (.ref a)

/-- a list of data -/
structure RpL (K : PySem.W.Frag) (H : Hp) (M : Addr → Prop) (ds : List D) (vs : List V) : Prop where
  len : vs.length = ds.length
  item : ∀ (i : Nat) (d : D) (v : V), ds[i]? = some d → vs[i]? = some v → Rp K H M d v
structure RpK (K : PySem.W.Frag) (H : Hp) (M : Addr → Prop) (ds : List (Key × D)) (vs : List (Key × V)) : Prop where
  len : vs.length = ds.length
  key : ∀ (i : Nat) (p : Key × D) (q : Key × V), ds[i]? = some p → vs[i]? = some q → q.1 = p.1
  item : ∀ (i : Nat) (p : Key × D) (q : Key × V), ds[i]? = some p → vs[i]? = some q → Rp K H M p.2 q.2

section
variable {K : PySem.W.Frag} {H H' H2 : Hp} {M M' : Addr → Prop} {d : D} {v : V} {ds es : List D} {vs ws : List V} {a p : Addr}

/-- the heap goes on: what M does not hold stays, tuples and locked things stay, nothing gets lost -/
structure Ext (M : Addr → Prop) (H H' : Hp) : Prop where
  stay : ∀ b o, H b = some o → ¬ M b → H' b = some o
  tups : ∀ b xs, H b = some (.tup xs) → H' b = some (.tup xs)
  frzs : ∀ b o u, H b = some (.frz o u) → H' b = some (.frz o u)
  trk : ∀ b, H b ≠ none → H' b ≠ none
theorem Ext.refl : Ext M H H := ⟨fun _ _ h _ => h, fun _ _ h => h, fun _ _ _ h => h, fun _ h => h⟩
theorem Ext.trans (x : Ext M H H') (y : Ext M H' H2) : Ext M H H2 :=
  ⟨fun b o h n => y.stay b o (x.stay b o h n) n, fun b xs h => y.tups b xs (x.tups b xs h), fun b o u h => y.frzs b o u (x.frzs b o u h), fun b h => y.trk b (x.trk b h)⟩
theorem Ext.mono (x : Ext M H H') (h : ∀ a, M a → M' a) : Ext M' H H' := ⟨fun b o e n => x.stay b o e fun z => n (h b z), x.tups, x.frzs, x.trk⟩
theorem Ext.of_same (e : Same H H') : Ext M H H' := ⟨fun b o h _ => e b o h, fun b xs h => e b _ h, fun b o u h => e b _ h, fun b h => by
  cases q : H b with
  | none => exact absurd q h
  | some o => rw [e b o q]; exact fun z => nomatch z⟩
theorem same_new {o : HO} (h : H p = none) : Same H (upd H p o) := fun b x e => by
  rw [upd_ne (ne_of_none e h)]
  exact e
theorem Ext.sq {xs : List V} (x : Ext M H H') (h : SqT K H a xs) : SqT K H' a xs := by
  rcases h with (h | ⟨o, h⟩) | h
  · exact .inl (.inl (x.tups _ _ h))
  · exact .inl (.inr ⟨o, x.frzs _ _ _ h⟩)
  · exact .inr h
theorem Ext.scr {xs : List V} (x : Ext M H H') (h : ScrAt K H a xs) : ScrAt K H' a xs := by
  rcases h with ⟨o, h⟩ | h
  · exact .inl ⟨o, x.frzs _ _ _ h⟩
  · exact .inr h
/-- data stay, where the set of what may change grows by new addresses alone -/
theorem Rp.ext (x : Ext M H H') (hM : ∀ b, M' b → M b ∨ H b = none) (h : Rp K H M d v) : Rp K H' M' d v := by
  induction h with
  | non => exact .non
  | bl b => exact .bl b
  | int i => exact .int i
  | str y => exact .str y
  | tup h hl hz _ ih => exact .tup (x.sq h) hl hz ih
  | lst h hm hl hz _ ih => exact .lst (x.stay _ _ h hm) (fun z => (hM _ z).elim hm fun e => by rw [h] at e; cases e) hl hz ih
  | scr h hz => exact .scr (x.scr h) hz
  | dic h hm hl hz hk _ ih => exact .dic (x.stay _ _ h hm) (fun z => (hM _ z).elim hm fun e => by rw [h] at e; cases e) hl hz hk ih
theorem Rp.same (e : Same H H') (h : Rp K H M d v) : Rp K H' M d v := h.ext (.of_same e) fun _ z => .inl z
theorem Rp.less (hM : ∀ b, M' b → M b) (h : Rp K H M d v) : Rp K H M' d v := h.ext .refl fun b z => .inl (hM b z)
theorem RpL.ext (x : Ext M H H') (hM : ∀ b, M' b → M b ∨ H b = none) (h : RpL K H M ds vs) : RpL K H' M' ds vs := ⟨h.len, fun i d v e f => (h.item i d v e f).ext x hM⟩
theorem RpL.same (e : Same H H') (h : RpL K H M ds vs) : RpL K H' M ds vs := h.ext (.of_same e) fun _ z => .inl z
theorem RpL.less (hM : ∀ b, M' b → M b) (h : RpL K H M ds vs) : RpL K H M' ds vs := h.ext .refl fun b z => .inl (hM b z)
theorem RpK.ext {ds : List (Key × D)} {vs : List (Key × V)} (x : Ext M H H') (hM : ∀ b, M' b → M b ∨ H b = none) (h : RpK K H M ds vs) : RpK K H' M' ds vs := ⟨h.len, h.key, fun i d v e f => (h.item i d v e f).ext x hM⟩
theorem RpL.nil : RpL K H M [] [] := ⟨rfl, fun i d v e _ => by simp at e⟩
theorem RpL.cons (h : Rp K H M d v) (r : RpL K H M ds vs) : RpL K H M (d :: ds) (v :: vs) := by
  refine ⟨by simp [r.len], fun i e f h1 h2 => ?_⟩
  cases i with
  | zero => simp at h1 h2; subst h1 h2; exact h
  | succ i => exact r.item i e f (by simpa using h1) (by simpa using h2)
theorem RpL.nil_inv (r : RpL K H M [] vs) : vs = [] := List.length_eq_zero_iff.mp r.len
theorem RpL.cons_inv (r : RpL K H M (d :: ds) vs) : ∃ v ws, vs = v :: ws ∧ Rp K H M d v ∧ RpL K H M ds ws := by
  cases vs with
  | nil => have := r.len; simp at this
  | cons v ws => exact ⟨v, ws, rfl, r.item 0 d v rfl rfl, by have := r.len; simpa using this, fun i e f h1 h2 => r.item (i + 1) e f (by simpa using h1) (by simpa using h2)⟩
theorem RpL.append (r : RpL K H M ds vs) (q : RpL K H M es ws) : RpL K H M (ds ++ es) (vs ++ ws) := by
  refine ⟨by simp [r.len, q.len], fun i e f h1 h2 => ?_⟩
  by_cases h : i < ds.length
  · rw [List.getElem?_append_left h] at h1
    rw [List.getElem?_append_left (by rw [r.len]; exact h)] at h2
    exact r.item i e f h1 h2
  · rw [List.getElem?_append_right (by omega)] at h1
    rw [List.getElem?_append_right (by rw [r.len]; omega), r.len] at h2
    exact q.item _ e f h1 h2
theorem RpL.one (h : Rp K H M d v) : RpL K H M [d] [v] := .cons h .nil
theorem RpL.take (r : RpL K H M ds vs) (n : Nat) : RpL K H M (ds.take n) (vs.take n) := by
  refine ⟨by simp [r.len], fun i e f h1 h2 => ?_⟩
  rw [List.getElem?_take] at h1 h2
  split at h1
  · rename_i h; rw [if_pos h] at h2; exact r.item i e f h1 h2
  · cases h1
theorem RpL.drop (r : RpL K H M ds vs) (n : Nat) : RpL K H M (ds.drop n) (vs.drop n) := by
  refine ⟨by simp [r.len], fun i e f h1 h2 => ?_⟩
  rw [List.getElem?_drop] at h1 h2
  exact r.item _ e f h1 h2
theorem RpL.set (r : RpL K H M ds vs) (n : Nat) (h : Rp K H M d v) : RpL K H M (ds.set n d) (vs.set n v) := by
  refine ⟨by simp [r.len], fun i e f h1 h2 => ?_⟩
  rw [List.getElem?_set] at h1 h2
  rw [r.len] at h2
  split at h1
  · rename_i hi
    subst hi
    rw [if_pos rfl] at h2
    split at h1
    · rename_i hn
      rw [if_pos hn] at h2
      cases h1
      cases h2
      exact h
    · cases h1
  · rename_i hi
    rw [if_neg hi] at h2
    exact r.item i e f h1 h2
theorem RpL.at1 (r : RpL K H M ds vs) {i : Nat} (h : ds[i]? = some d) : ∃ v, vs[i]? = some v ∧ Rp K H M d v := by
  have hi : i < vs.length := by
    rw [r.len]
    exact (List.getElem?_eq_some_iff.mp h).1
  exact ⟨vs[i], List.getElem?_eq_getElem hi, r.item i d _ h (List.getElem?_eq_getElem hi)⟩
theorem RpL.at2 (r : RpL K H M ds vs) {i : Nat} (h : vs[i]? = some v) : ∃ d, ds[i]? = some d ∧ Rp K H M d v := by
  have hi : i < ds.length := by
    rw [← r.len]
    exact (List.getElem?_eq_some_iff.mp h).1
  exact ⟨ds[i], List.getElem?_eq_getElem hi, r.item i _ v (List.getElem?_eq_getElem hi) h⟩
theorem RpL.ints {ns : List Int} : ∀ {vs : List V}, RpL K H M (ns.map D.int) vs → vs = ns.map V.int := by
  induction ns with
  | nil => intro vs r; exact r.nil_inv
  | cons n ns ih =>
    intro vs r
    obtain ⟨v, ws, rfl, h, q⟩ := RpL.cons_inv r
    cases h
    rw [ih q]
    rfl
theorem RpL.of_ints {ns : List Int} : RpL K H M (ns.map D.int) (ns.map V.int) := by
  refine ⟨by simp, fun i d v h1 h2 => ?_⟩
  rw [List.getElem?_map] at h1 h2
  cases q : ns[i]? with
  | none => rw [q] at h1; cases h1
  | some n => rw [q] at h1 h2; cases h1; cases h2; exact .int n
theorem RpL.bls {bs : List Bool} : ∀ {vs : List V}, RpL K H M (bs.map D.bl) vs → vs = bs.map V.bl := by
  induction bs with
  | nil => intro vs r; exact r.nil_inv
  | cons n ns ih =>
    intro vs r
    obtain ⟨v, ws, rfl, h, q⟩ := RpL.cons_inv r
    cases h
    rw [ih q]
    rfl

/-- what may be read: the root may be in M, its items are not -/
inductive Ro (K : PySem.W.Frag) (H : Hp) (M : Addr → Prop) : D → V → Prop
  | non : Ro K H M .non .non
  | bl (b : Bool) : Ro K H M (.bl b) (.bl b)
  | int (i : Int) : Ro K H M (.int i) (.int i)
  | str (x : Str) : Ro K H M (.str x) (.str x)
  | tup {a : Addr} {vs : List V} {ds : List D} (h : SqT K H a vs) (hz : ds.length ≤ sizeLine) (r : RpL K H M ds vs) : Ro K H M (.tup ds) (.ref a)
  | lst {a : Addr} {vs : List V} {ds : List D} (h : H a = Option.some (.lst vs)) (hz : ds.length ≤ sizeLine) (r : RpL K H M ds vs) : Ro K H M (.lst ds) (.ref a)
  | scr {a : Addr} {ns : List Int} (h : ScrAt K H a (ns.map V.int)) (hz : ns.length ≤ sizeLine) : Ro K H M (.scr ns) (.ref a)
  | dic {a : Addr} {vs : List (Key × V)} {ds : List (Key × D)} (h : H a = Option.some (.dK vs)) (hz : ds.length ≤ sizeLine) (r : RpK K H M ds vs) : Ro K H M (.dic ds) (.ref a)
theorem Rp.ro (h : Rp K H M d v) : Ro K H M d v := by
  cases h with
  | non => exact .non
  | bl b => exact .bl b
  | int i => exact .int i
  | str y => exact .str y
  | tup h hl hz hi => exact .tup h hz ⟨hl, hi⟩
  | lst h hm hl hz hi => exact .lst h hz ⟨hl, hi⟩
  | scr h hz => exact .scr h hz
  | dic h hm hl hz hk hi => exact .dic h hz ⟨hl, hk, hi⟩
theorem Rp.tup' {vs : List V} {ds : List D} (h : SqT K H a vs) (hz : ds.length ≤ sizeLine) (r : RpL K H M ds vs) : Rp K H M (.tup ds) (.ref a) := .tup h r.len hz r.item
theorem Rp.lst' {vs : List V} {ds : List D} (h : H a = Option.some (.lst vs)) (hm : ¬ M a) (hz : ds.length ≤ sizeLine) (r : RpL K H M ds vs) : Rp K H M (.lst ds) (.ref a) := .lst h hm r.len hz r.item
theorem Ro.same (e : Same H H') (h : Ro K H M d v) : Ro K H' M d v := by
  cases h with
  | non => exact .non
  | bl b => exact .bl b
  | int i => exact .int i
  | str y => exact .str y
  | tup h hz r => exact .tup ((Ext.of_same (M := M) e).sq h) hz (r.same e)
  | lst h hz r => exact .lst (e _ _ h) hz (r.same e)
  | scr h hz => exact .scr ((Ext.of_same (M := M) e).scr h) hz
  | dic h hz r => exact .dic (e _ _ h) hz (r.ext (.of_same e) fun _ z => .inl z)
theorem Ro.ext (x : Ext M H H') (h : Ro K H M d v) (hr : ∀ a o, v = .ref a → H a = Option.some o → H' a = Option.some o) : Ro K H' M d v := by
  cases h with
  | non => exact .non
  | bl b => exact .bl b
  | int i => exact .int i
  | str y => exact .str y
  | tup h hz r => exact .tup (x.sq h) hz (r.ext x fun _ z => .inl z)
  | lst h hz r => exact .lst (hr _ _ rfl h) hz (r.ext x fun _ z => .inl z)
  | scr h hz => exact .scr (x.scr h) hz
  | dic h hz r => exact .dic (hr _ _ rfl h) hz (r.ext x fun _ z => .inl z)
end

/-! ### slots -/
inductive Sl where
  | u
  | t (d : D)
  | l (d : D)
  | p (d : D)
  | r (d : D)
abbrev Sls := List Sl
def Sl.isOwn : Sl → Bool
  | .l _ => true
  | .p _ => true
  | .r _ => true
  | _ => false
def Sl.isMut : Sl → Bool
  | .l _ => true
  | .p _ => true
  | _ => false
theorem Sl.isMut.own {s : Sl} (h : s.isMut = true) : s.isOwn = true := by cases s <;> first | rfl | cases h
abbrev Ev := Sls → Res (D × Sls)
abbrev Ev1 := Sls → Res (Bool × Sls)
abbrev Evs := Sls → Res (List D × Sls)

structure Cfg where
  K : PySem.W.Frag
  mg : Str → Option Value
  H0 : Hp
  /-- what callers hold and may change later -/
  M0 : Addr → Prop
  /-- what this def may change of what stood -/
  fr : Addr → Prop
  pa : Nat → Addr
  fresh : Bool

/-- with other addresses that others hold -/
abbrev Cfg.w (C : Cfg) (M0 : Addr → Prop) : Cfg := { C with M0 := M0 }
def Ow (env : Sls) (ad : Nat → Addr) (a : Addr) : Prop := ∃ (i : Nat) (s : Sl), env[i]? = some s ∧ s.isOwn = true ∧ ad i = a
def Mo (C : Cfg) (env : Sls) (ad : Nat → Addr) (a : Addr) : Prop := C.M0 a ∨ Ow env ad a

def CellOk (K : PySem.W.Frag) (H : Hp) (M : Addr → Prop) (d : D) (a : Addr) : Prop :=
  match d with
  | .lst ds => ds.length ≤ sizeLine ∧ ∃ vs, H a = some (.lst vs) ∧ RpL K H M ds vs
  | .dic ds => ds.length ≤ sizeLine ∧ ∃ vs, H a = some (.dK vs) ∧ RpK K H M ds vs
  | _ => False
theorem CellOk.ro {K : PySem.W.Frag} {H : Hp} {M : Addr → Prop} {d : D} {a : Addr} (h : CellOk K H M d a) : Ro K H M d (.ref a) := by
  cases d with
  | lst ds => obtain ⟨z, vs, h, r⟩ := h; exact .lst h z r
  | dic ds => obtain ⟨z, vs, h, r⟩ := h; exact .dic h z r
  | _ => exact h.elim
theorem CellOk.ext {K : PySem.W.Frag} {H H' : Hp} {M M' : Addr → Prop} {d : D} {a : Addr} (h : CellOk K H M d a) (e : H' a = H a) (x : Ext M H H') (hM : ∀ b, M' b → M b ∨ H b = none) : CellOk K H' M' d a := by
  cases d with
  | lst ds => obtain ⟨z, vs, h, r⟩ := h; exact ⟨z, vs, e.trans h, r.ext x hM⟩
  | dic ds => obtain ⟨z, vs, h, r⟩ := h; exact ⟨z, vs, e.trans h, r.ext x hM⟩
  | _ => exact h.elim
theorem CellOk.trk {K : PySem.W.Frag} {H : Hp} {M : Addr → Prop} {d : D} {a : Addr} (h : CellOk K H M d a) : H a ≠ none := by
  cases d with
  | lst ds => obtain ⟨z, vs, h, r⟩ := h; rw [h]; exact fun z => nomatch z
  | dic ds => obtain ⟨z, vs, h, r⟩ := h; rw [h]; exact fun z => nomatch z
  | _ => exact h.elim
/-- an owned cell is no tuple and nothing locked -/
theorem CellOk.kind {K : PySem.W.Frag} {H : Hp} {M : Addr → Prop} {d : D} {a : Addr} (h : CellOk K H M d a) : (∀ xs, H a ≠ some (.tup xs)) ∧ ∀ o u, H a ≠ some (.frz o u) := by
  cases d with
  | lst ds => obtain ⟨z, vs, h, r⟩ := h; rw [h]; exact ⟨(fun _ z => by cases z), (fun _ _ z => by cases z)⟩
  | dic ds => obtain ⟨z, vs, h, r⟩ := h; rw [h]; exact ⟨(fun _ z => by cases z), (fun _ _ z => by cases z)⟩
  | _ => exact h.elim
theorem CellOk.mut {K : PySem.W.Frag} {H : Hp} {M : Addr → Prop} {d : D} {a : Addr} (h : CellOk K H M d a) : True := True.intro

def SlOk (C : Cfg) (H : Hp) (M : Addr → Prop) (v : Option V) (s : Sl) (a : Addr) : Prop :=
  match s with
  | .u => True
  | .t d => ∃ x, v = some x ∧ Rp C.K H M d x
  | .l d => v = some (.ref a) ∧ CellOk C.K H M d a
  | .p d => v = some (.ref a) ∧ CellOk C.K H M d a
  | .r d => v = some (.ref a) ∧ CellOk C.K H M d a

structure RE (C : Cfg) (ad : Nat → Addr) (H : Hp) (σ : L2.St) (env : Sls) : Prop where
  len : σ.length = env.length
  sl : ∀ (i : Nat) (s : Sl), env[i]? = some s → SlOk C H (Mo C env ad) (σ[i]?.join) s (ad i)
  inj : ∀ (i j : Nat) (s t : Sl), env[i]? = some s → env[j]? = some t → s.isOwn = true → t.isOwn = true → ad i = ad j → i = j
  loc : ∀ (i : Nat) (d : D), (env[i]? = some (.l d) ∨ env[i]? = some (.r d)) → C.H0 (ad i) = none ∧ ¬ C.M0 (ad i)
  par : ∀ (i : Nat) (d : D), env[i]? = some (.p d) → ad i = C.pa i ∧ C.fr (C.pa i)
  same : ∀ b o, C.H0 b = some o → ¬ C.fr b → H b = some o
  frk : ∀ b, C.fr b → ∃ o, C.H0 b = some o ∧ (∀ xs, o ≠ .tup xs) ∧ ∀ q u, o ≠ .frz q u
  trk : ∀ b, C.H0 b ≠ none → H b ≠ none
  m0 : ∀ a, C.M0 a → H a ≠ none

section
variable {C : Cfg} {ad : Nat → Addr} {H H' : Hp} {σ : L2.St} {env env' : Sls}
theorem RE.cell (R : RE C ad H σ env) {i : Nat} {s : Sl} (h : env[i]? = some s) (o : s.isOwn = true) : ∃ d, (s = .l d ∨ s = .p d ∨ s = .r d) ∧ σ[i]? = some (some (V.ref (ad i))) ∧ CellOk C.K H (Mo C env ad) d (ad i) := by
  have q := R.sl i s h
  have hi : i < σ.length := by
    rw [R.len]
    exact (List.getElem?_eq_some_iff.mp h).1
  have e : σ[i]? = some σ[i] := List.getElem?_eq_getElem hi
  cases s with
  | u => cases o
  | t d => cases o
  | l d =>
    obtain ⟨q1, q2⟩ := q
    rw [e] at q1 ⊢
    exact ⟨d, .inl rfl, congrArg some q1, q2⟩
  | p d =>
    obtain ⟨q1, q2⟩ := q
    rw [e] at q1 ⊢
    exact ⟨d, .inr (.inl rfl), congrArg some q1, q2⟩
  | r d =>
    obtain ⟨q1, q2⟩ := q
    rw [e] at q1 ⊢
    exact ⟨d, .inr (.inr rfl), congrArg some q1, q2⟩
theorem RE.mtrk (R : RE C ad H σ env) {a : Addr} (h : Mo C env ad a) : H a ≠ none := by
  rcases h with h | ⟨i, s, e, o, rfl⟩
  · exact R.m0 a h
  · obtain ⟨d, _, _, c⟩ := R.cell e o
    exact c.trk
theorem RE.mfree (R : RE C ad H σ env) {a : Addr} (h : H a = none) : ¬ Mo C env ad a := fun z => R.mtrk z h
/-- the heap has grown -/
theorem RE.grow (R : RE C ad H σ env) (e : Same H H') : RE C ad H' σ env := by
  refine ⟨R.len, fun i s h => ?_, R.inj, R.loc, R.par, fun b o h n => e b o (R.same b o h n), R.frk, fun b h => (Ext.of_same (M := fun _ => True) e).trk b (R.trk b h), fun b h => (Ext.of_same (M := fun _ => True) e).trk b (R.m0 b h)⟩
  have q := R.sl i s h
  cases s with
  | u => trivial
  | t d =>
    obtain ⟨x, h1, h2⟩ := q
    exact ⟨x, h1, h2.same e⟩
  | l d =>
    obtain ⟨h1, h2⟩ := q
    refine ⟨h1, h2.ext ?_ (.of_same e) fun _ z => .inl z⟩
    cases q : H (ad i) with
    | none => exact absurd q h2.trk
    | some o => exact e _ _ q
  | p d =>
    obtain ⟨h1, h2⟩ := q
    refine ⟨h1, h2.ext ?_ (.of_same e) fun _ z => .inl z⟩
    cases q : H (ad i) with
    | none => exact absurd q h2.trk
    | some o => exact e _ _ q
  | r d =>
    obtain ⟨h1, h2⟩ := q
    refine ⟨h1, h2.ext ?_ (.of_same e) fun _ z => .inl z⟩
    cases q : H (ad i) with
    | none => exact absurd q h2.trk
    | some o => exact e _ _ q
/-- with one more address that others hold -/
def Cfg.add (C : Cfg) (a : Addr) : Cfg := { C with M0 := fun b => C.M0 b ∨ b = a }
theorem mo_add {a b : Addr} : Mo (C.add a) env ad b ↔ Mo C env ad b ∨ b = a := by
  constructor
  · rintro ((z | z) | z)
    · exact .inl (.inl z)
    · exact .inr z
    · exact .inl (.inr z)
  · rintro ((z | z) | z)
    · exact .inl (.inl z)
    · exact .inr z
    · exact .inl (.inr z)
theorem SlOk.ext {M M' : Addr → Prop} {v : Option V} {s : Sl} {a : Addr} (h : SlOk C H M v s a) (e : s.isOwn = true → H' a = H a) (x : Ext M H H') (hM : ∀ b, M' b → M b ∨ H b = none) : SlOk C H' M' v s a := by
  cases s with
  | u => trivial
  | t d =>
    obtain ⟨y, h1, h2⟩ := h
    exact ⟨y, h1, h2.ext x hM⟩
  | l d => exact ⟨h.1, h.2.ext (e rfl) x hM⟩
  | p d => exact ⟨h.1, h.2.ext (e rfl) x hM⟩
  | r d => exact ⟨h.1, h.2.ext (e rfl) x hM⟩
theorem same_at (e : Same H H') {a : Addr} (h : H a ≠ none) : H' a = H a := by
  cases q : H a with
  | none => exact absurd q h
  | some o => exact e _ _ q
theorem RE.growAdd (R : RE C ad H σ env) (e : Same H H') {a : Addr} (hn : H a = none) (hs : H' a ≠ none) : RE (C.add a) ad H' σ env := by
  have G := R.grow e
  refine ⟨R.len, fun i s h => ?_, R.inj, fun i d h => ⟨(R.loc i d h).1, fun z => z.elim (R.loc i d h).2 fun z => ?_⟩, R.par, G.same, R.frk, G.trk, fun b z => z.elim (G.m0 b) fun z => z ▸ hs⟩
  rotate_left
  · rcases h with h | h
    · exact R.mtrk (.inr ⟨i, _, h, rfl, rfl⟩) (z ▸ hn)
    · exact R.mtrk (.inr ⟨i, _, h, rfl, rfl⟩) (z ▸ hn)
  refine SlOk.ext (R.sl i s h) (fun o => same_at e (R.mtrk (.inr ⟨i, s, h, o, rfl⟩))) (.of_same e) fun b z => ?_
  rcases mo_add.mp z with z | z
  · exact .inl z
  · exact .inr (z ▸ hn)
theorem RE.unadd {a : Addr} (R : RE (C.add a) ad H σ env) : RE C ad H σ env :=
  ⟨R.len, fun i s h => SlOk.ext (C := C) (R.sl i s h) (fun _ => rfl) .refl fun b z => .inl (mo_add.mpr (.inl z)), R.inj, fun i d h => ⟨(R.loc i d h).1, fun z => (R.loc i d h).2 (.inl z)⟩, R.par, R.same, R.frk, R.trk, fun b z => R.m0 b (.inl z)⟩
end
end Vm
end
section
set_option maxHeartbeats 4000000
/-! Vm, part B: steps of the relation; expressions. -/
namespace Vm
open PySem PySem.Spec PyProof.Rows L2

/-! ### steps -/
section
variable {C : Cfg} {ad : Nat → Addr} {H H' H2 : Hp} {σ : L2.St} {env env' env2 : Sls}
structure Stp (C : Cfg) (ad : Nat → Addr) (H : Hp) (env : Sls) (H' : Hp) (env' : Sls) : Prop where
  ext : Ext (Ow env ad) H H'
  ow : ∀ a, Ow env' ad a → Ow env ad a
theorem Stp.mo (x : Stp C ad H env H' env') : ∀ a, Mo C env' ad a → Mo C env ad a := fun a h => h.imp id (x.ow a)
theorem Stp.extM (x : Stp C ad H env H' env') : Ext (Mo C env ad) H H' := x.ext.mono fun _ h => .inr h
theorem Stp.refl : Stp C ad H env H env := ⟨.refl, fun _ h => h⟩
theorem Stp.trans (x : Stp C ad H env H' env') (y : Stp C ad H' env' H2 env2) : Stp C ad H env H2 env2 := ⟨x.ext.trans (y.ext.mono x.ow), fun a h => x.ow a (y.ow a h)⟩
theorem Stp.grow (e : Same H H') : Stp C ad H env H' env := ⟨.of_same e, fun _ h => h⟩
theorem Stp.rp (x : Stp C ad H env H' env') {d : D} {v : V} (h : Rp C.K H (Mo C env ad) d v) : Rp C.K H' (Mo C env' ad) d v := h.ext x.extM fun b z => .inl (x.mo b z)

/-- a value at hand -/
def VR (C : Cfg) (ad : Nat → Addr) (H : Hp) (σ : L2.St) (env : Sls) (d : D) (v : V) : Prop :=
  match d with
  | .own i => σ[i]? = some (some v)
  | d => Rp C.K H (Mo C env ad) d v
theorem VR.of {d : D} {v : V} (h : Rp C.K H (Mo C env ad) d v) : VR C ad H σ env d v := by
  cases h with
  | non => exact .non
  | bl b => exact .bl b
  | int i => exact .int i
  | str y => exact .str y
  | tup h hl hz hi => exact .tup h hl hz hi
  | lst h hm hl hz hi => exact .lst h hm hl hz hi
  | scr h hz => exact .scr h hz
  | dic h hm hl hz hk hi => exact .dic h hm hl hz hk hi
theorem VR.stp (x : Stp C ad H env H' env') {d : D} {v : V} (h : VR C ad H σ env d v) : VR C ad H' σ env' d v := by
  cases d with
  | own i => exact h
  | _ => exact x.rp h

/-- what a value at hand is, for reading -/
def rs (env : Sls) (d : D) : Res D :=
  match d with
  | .own i => (match env[i]? with
    | some (.t d) => .ok d
    | some (.l d) => .ok d
    | some (.p d) => .ok d
    | some (.r d) => .ok d
    | _ => .bad)
  | d => .ok d
/-- for keeping: not an owned cell's name -/
def kp (d : D) : Res D :=
  match d with
  | .own _ => .bad
  | d => .ok d
theorem RE.rs (R : RE C ad H σ env) {d : D} {v : V} (h : VR C ad H σ env d v) {P : D → Prop} {E : Str → Prop} (w : (rs env d).Wp P E) : ∃ d', rs env d = .ok d' ∧ P d' ∧ Ro C.K H (Mo C env ad) d' v := by
  cases d with
  | own i =>
    have h1 : σ[i]? = some (some v) := h
    cases q : env[i]? with
    | none => simp only [Vm.rs, q] at w; exact w.elim
    | some s =>
      have z := R.sl i s q
      rw [h1] at z
      cases s with
      | u => simp only [Vm.rs, q] at w; exact w.elim
      | t d =>
        simp only [Vm.rs, q] at w ⊢
        obtain ⟨x, e, r⟩ := z
        cases e
        exact ⟨d, rfl, w, r.ro⟩
      | l d =>
        simp only [Vm.rs, q] at w ⊢
        obtain ⟨e, r⟩ := z
        cases e
        exact ⟨d, rfl, w, r.ro⟩
      | p d =>
        simp only [Vm.rs, q] at w ⊢
        obtain ⟨e, r⟩ := z
        cases e
        exact ⟨d, rfl, w, r.ro⟩
      | r d =>
        simp only [Vm.rs, q] at w ⊢
        obtain ⟨e, r⟩ := z
        cases e
        exact ⟨d, rfl, w, r.ro⟩
  | _ => exact ⟨_, rfl, w, Rp.ro h⟩
theorem kp_rp {d : D} {v : V} (h : VR C ad H σ env d v) {P : D → Prop} {E : Str → Prop} (w : (kp d).Wp P E) : kp d = .ok d ∧ P d ∧ Rp C.K H (Mo C env ad) d v := by
  cases d with
  | own i => exact w.elim
  | _ => exact ⟨rfl, w, h⟩

/-- a cell's content anew, perhaps with a grown heap -/
def Sl.put (s : Sl) (d : D) : Sl :=
  match s with
  | .l _ => .l d
  | .p _ => .p d
  | s => s
theorem put_own {s : Sl} {d : D} : (s.put d).isOwn = s.isOwn := by cases s <;> rfl
theorem ow_put {i : Nat} {s : Sl} {d : D} (h : env[i]? = some s) : ∀ a, Ow (env.set i (s.put d)) ad a ↔ Ow env ad a := by
  intro a
  have hi : i < env.length := (List.getElem?_eq_some_iff.mp h).1
  constructor
  · rintro ⟨j, t, e, o, rfl⟩
    by_cases hj : i = j
    · subst hj
      rw [List.getElem?_set_self hi] at e
      cases e
      rw [put_own] at o
      exact ⟨i, s, h, o, rfl⟩
    · rw [List.getElem?_set_ne hj] at e
      exact ⟨j, t, e, o, rfl⟩
  · rintro ⟨j, t, e, o, rfl⟩
    by_cases hj : i = j
    · subst hj
      rw [h] at e
      cases e
      exact ⟨i, s.put d, List.getElem?_set_self hi, by rw [put_own]; exact o, rfl⟩
    · exact ⟨j, t, by rw [List.getElem?_set_ne hj]; exact e, o, rfl⟩
theorem mo_put {i : Nat} {s : Sl} {d : D} (h : env[i]? = some s) : ∀ a, Mo C (env.set i (s.put d)) ad a ↔ Mo C env ad a := fun a =>
  ⟨fun z => z.imp id (ow_put h a).mp, fun z => z.imp id (ow_put h a).mpr⟩
theorem RE.put (R : RE C ad H σ env) {i : Nat} {s : Sl} {d : D} (h : env[i]? = some s) (hmu : s.isMut = true) (k : ∀ b o, H b = some o → b ≠ ad i → H' b = some o)
    (c : CellOk C.K H' (Mo C env ad) d (ad i)) : RE C ad H' σ (env.set i (s.put d)) ∧ Stp C ad H env H' (env.set i (s.put d)) := by
  have hi : i < env.length := (List.getElem?_eq_some_iff.mp h).1
  have ho : s.isOwn = true := Sl.isMut.own hmu
  obtain ⟨d0, hd0, hσ, c0⟩ := R.cell h ho
  have hM : Ow env ad (ad i) := ⟨i, s, h, ho, rfl⟩
  have tk : ∀ b, H b ≠ none → H' b ≠ none := fun b hb => by
    by_cases e : b = ad i
    · rw [e]; exact c.trk
    · cases q : H b with
      | none => exact absurd q hb
      | some o => rw [k b o q e]; exact fun z => nomatch z
  have xo : Ext (Ow env ad) H H' := by
    refine ⟨fun b o hb hn => k b o hb fun e => hn (e ▸ hM), fun b xs hb => k b _ hb fun e => ?_, fun b o u hb => k b _ hb fun e => ?_, tk⟩
    · rw [e] at hb; exact c0.kind.1 _ hb
    · rw [e] at hb; exact c0.kind.2 _ _ hb
  have x : Ext (Mo C env ad) H H' := xo.mono fun _ z => .inr z
  have mo := mo_put (C := C) (ad := ad) (d := d) h
  refine ⟨⟨by rw [List.length_set]; exact R.len, fun j t e => ?_, fun j j' t t' e e' o o' q => ?_, fun j t e => ?_, fun j t e => ?_, fun b o e n => ?_, R.frk, fun b e => tk b (R.trk b e), fun b e => tk b (R.m0 b e)⟩, ⟨xo, fun a z => (ow_put h a).mp z⟩⟩
  · by_cases hj : i = j
    · subst hj
      rw [List.getElem?_set_self hi] at e
      have c' : CellOk C.K H' (Mo C (env.set i (s.put d)) ad) d (ad i) := c.ext rfl .refl fun b z => .inl ((mo b).mp z)
      cases s with
      | u => cases ho
      | t _ => cases ho
      | l _ => cases e; exact ⟨by rw [hσ]; rfl, c'⟩
      | p _ => cases e; exact ⟨by rw [hσ]; rfl, c'⟩
      | r _ => cases hmu
    · rw [List.getElem?_set_ne hj] at e
      have q := R.sl j t e
      have mo' : ∀ b, Mo C (env.set i (s.put d)) ad b → Mo C env ad b ∨ H b = none := fun b z => .inl ((mo b).mp z)
      cases t with
      | u => trivial
      | t f =>
        obtain ⟨y, q1, q2⟩ := q
        exact ⟨y, q1, q2.ext x mo'⟩
      | l f =>
        obtain ⟨q1, q2⟩ := q
        refine ⟨q1, q2.ext ?_ x mo'⟩
        cases z : H (ad j) with
        | none => exact absurd z q2.trk
        | some o => exact k _ o z fun w => hj (R.inj _ _ _ _ h e ho rfl w.symm)
      | p f =>
        obtain ⟨q1, q2⟩ := q
        refine ⟨q1, q2.ext ?_ x mo'⟩
        cases z : H (ad j) with
        | none => exact absurd z q2.trk
        | some o => exact k _ o z fun w => hj (R.inj _ _ _ _ h e ho rfl w.symm)
      | r f =>
        obtain ⟨q1, q2⟩ := q
        refine ⟨q1, q2.ext ?_ x mo'⟩
        cases z : H (ad j) with
        | none => exact absurd z q2.trk
        | some o => exact k _ o z fun w => hj (R.inj _ _ _ _ h e ho rfl w.symm)
  · have st : ∀ (m : Nat) (r : Sl), (env.set i (s.put d))[m]? = some r → r.isOwn = true → ∃ r' : Sl, env[m]? = some r' ∧ r'.isOwn = true := fun m r a b => by
      by_cases hm : i = m
      · subst hm
        rw [List.getElem?_set_self hi] at a
        cases a
        exact ⟨s, h, ho⟩
      · rw [List.getElem?_set_ne hm] at a
        exact ⟨r, a, b⟩
    obtain ⟨r, a1, a2⟩ := st _ _ e o
    obtain ⟨r', b1, b2⟩ := st _ _ e' o'
    exact R.inj _ _ _ _ a1 b1 a2 b2 q
  · by_cases hj : i = j
    · subst hj
      rw [List.getElem?_set_self hi] at e
      cases s with
      | u => cases ho
      | t _ => cases ho
      | l f => exact R.loc i f (.inl h)
      | p f => rcases e with e | e <;> cases e
      | r f => cases hmu
    · rw [List.getElem?_set_ne hj] at e
      exact R.loc j t e
  · by_cases hj : i = j
    · subst hj
      rw [List.getElem?_set_self hi] at e
      cases s with
      | u => cases ho
      | t _ => cases ho
      | l f => cases e
      | p f => exact R.par i f h
      | r f => cases hmu
    · rw [List.getElem?_set_ne hj] at e
      exact R.par j t e
  · refine k b o (R.same b o e n) fun z => ?_
    cases s with
    | u => cases ho
    | t _ => cases ho
    | l f => rw [z, (R.loc i f (.inl h)).1] at e; cases e
    | p f =>
      obtain ⟨p1, p2⟩ := R.par i f h
      exact n (by rw [z, p1]; exact p2)
    | r f => cases hmu

/-- a slot is set to data -/
def notPar (env : Sls) (i : Nat) : Bool :=
  match env[i]? with
  | some (.p _) => false
  | some _ => true
  | none => false
theorem ow_set {i : Nat} {s : Sl} (hs : s.isOwn = false) : ∀ a, Ow (env.set i s) ad a → Ow env ad a := by
  rintro a ⟨j, t, e, o, rfl⟩
  by_cases hj : i = j
  · subst hj
    rw [List.getElem?_set] at e
    rw [if_pos rfl] at e
    split at e
    · cases e; rw [hs] at o; cases o
    · cases e
  · rw [List.getElem?_set_ne hj] at e
    exact ⟨j, t, e, o, rfl⟩
theorem mo_set {i : Nat} {s : Sl} (hs : s.isOwn = false) : ∀ a, Mo C (env.set i s) ad a → Mo C env ad a := fun a z => z.imp id (ow_set hs a)
/-- .. a slot is set, the heap stays -/
theorem RE.setS (R : RE C ad H σ env) {i : Nat} {s : Sl} {v : Option V} (hs : s.isOwn = false) (hv : SlOk C H (Mo C env ad) v s (ad i)) : RE C ad H (σ.set i v) (env.set i s) := by
  have mo := mo_set (C := C) (ad := ad) (env := env) (i := i) hs
  have mo' : ∀ b, Mo C (env.set i s) ad b → Mo C env ad b ∨ H b = none := fun b z => .inl (mo b z)
  have low : ∀ v s a, SlOk C H (Mo C env ad) v s a → SlOk C H (Mo C (env.set i s) ad) v s a → True := fun _ _ _ _ _ => True.intro
  have down : ∀ v t a, SlOk C H (Mo C env ad) v t a → SlOk C H (Mo C (env.set i s) ad) v t a := fun v t a z => by
    cases t with
    | u => trivial
    | t f => obtain ⟨y, q1, q2⟩ := z; exact ⟨y, q1, q2.ext .refl mo'⟩
    | l f => obtain ⟨q1, q2⟩ := z; exact ⟨q1, q2.ext rfl .refl mo'⟩
    | p f => obtain ⟨q1, q2⟩ := z; exact ⟨q1, q2.ext rfl .refl mo'⟩
    | r f => obtain ⟨q1, q2⟩ := z; exact ⟨q1, q2.ext rfl .refl mo'⟩
  have old : ∀ (m : Nat) (r : Sl), (env.set i s)[m]? = some r → r.isOwn = true → m ≠ i ∧ env[m]? = some r := fun m r a b => by
    by_cases hm : i = m
    · subst hm
      rw [List.getElem?_set, if_pos rfl] at a
      split at a
      · cases a; rw [hs] at b; cases b
      · cases a
    · rw [List.getElem?_set_ne hm] at a
      exact ⟨fun z => hm z.symm, a⟩
  refine ⟨by rw [List.length_set, List.length_set]; exact R.len, fun j t e => ?_, fun j j' t t' e e' o o' q => ?_, fun j t e => R.loc j t (e.imp (fun e => (old j _ e rfl).2) fun e => (old j _ e rfl).2), fun j t e => R.par j t (old j _ e rfl).2, R.same, R.frk, R.trk, R.m0⟩
  · by_cases hj : i = j
    · subst hj
      rw [List.getElem?_set, if_pos rfl] at e
      split at e
      · rename_i hi
        cases e
        rw [List.getElem?_set_self (by rw [R.len]; exact hi)]
        exact down _ _ _ hv
      · cases e
    · rw [List.getElem?_set_ne hj] at e ⊢
      exact down _ _ _ (R.sl j t e)
  · exact R.inj _ _ _ _ (old _ _ e o).2 (old _ _ e' o').2 o o' q
/-- a slot gets a new cell -/
def adSet (ad : Nat → Addr) (i : Nat) (a : Addr) : Nat → Addr := fun j => if j = i then a else ad j
theorem RE.setL {a : Addr} (R : RE (C.add a) ad H σ env) {i : Nat} {d : D} (h0 : C.H0 a = none) (hn : ¬ Mo C env ad a) (hi : i < env.length)
    (c : CellOk C.K H (Mo (C.add a) env ad) d a) : RE C (adSet ad i a) H (σ.set i (some (.ref a))) (env.set i (.l d)) := by
  have mo : ∀ b, Mo C (env.set i (.l d)) (adSet ad i a) b → Mo (C.add a) env ad b := by
    rintro b (z | ⟨j, t, e, o, rfl⟩)
    · exact .inl (.inl z)
    · by_cases hj : j = i
      · exact .inl (.inr (by unfold adSet; rw [if_pos hj]))
      · rw [List.getElem?_set_ne (Ne.symm hj)] at e
        exact .inr ⟨j, t, e, o, by unfold adSet; rw [if_neg hj]⟩
  refine ⟨by rw [List.length_set, List.length_set]; exact R.len, fun j t e => ?_, fun j j' t t' e e' o o' q => ?_, fun j t e => ?_, fun j t e => ?_, R.same, R.frk, R.trk, fun b z => R.m0 b (.inl z)⟩
  · by_cases hj : j = i
    · subst hj
      rw [List.getElem?_set_self hi] at e
      cases e
      rw [List.getElem?_set_self (by rw [R.len]; exact hi)]
      have ea : adSet ad j a j = a := by unfold adSet; rw [if_pos rfl]
      rw [ea]
      exact ⟨rfl, c.ext rfl .refl fun b z => .inl (mo b z)⟩
    · rw [List.getElem?_set_ne (Ne.symm hj)] at e ⊢
      have ea : adSet ad i a j = ad j := by unfold adSet; rw [if_neg hj]
      rw [ea]
      exact SlOk.ext (C := C) (R.sl j t e) (fun _ => rfl) .refl fun b z => .inl (mo b z)
  · by_cases hj : j = i
    · by_cases hj' : j' = i
      · rw [hj, hj']
      · rw [List.getElem?_set_ne (Ne.symm hj')] at e'
        unfold adSet at q
        rw [if_pos hj, if_neg hj'] at q
        exact absurd (.inr ⟨j', t', e', o', q.symm⟩) hn
    · rw [List.getElem?_set_ne (Ne.symm hj)] at e
      by_cases hj' : j' = i
      · unfold adSet at q
        rw [if_neg hj, if_pos hj'] at q
        exact absurd (.inr ⟨j, t, e, o, q⟩) hn
      · rw [List.getElem?_set_ne (Ne.symm hj')] at e'
        unfold adSet at q
        rw [if_neg hj, if_neg hj'] at q
        exact R.inj _ _ _ _ e e' o o' q
  · by_cases hj : j = i
    · unfold adSet; rw [if_pos hj]; exact ⟨h0, fun z => hn (.inl z)⟩
    · rw [List.getElem?_set_ne (Ne.symm hj)] at e
      unfold adSet; rw [if_neg hj]
      exact ⟨(R.loc j t e).1, fun z => (R.loc j t e).2 (.inl z)⟩
  · by_cases hj : j = i
    · subst hj
      rw [List.getElem?_set_self hi] at e
      cases e
    · rw [List.getElem?_set_ne (Ne.symm hj)] at e
      have ea : adSet ad i a j = ad j := by unfold adSet; rw [if_neg hj]
      rw [ea]
      exact R.par j t e
end
end Vm
end
section
set_option maxHeartbeats 4000000
/-! Vm, part C: the judgements, names, constants, operators, tests, calls of built-ins, displays. -/
namespace Vm
open PySem PySem.Spec PyProof.Rows L2

/-- the def's surroundings -/
structure Gd (X : Cx) (C : Cfg) (W : WX) (k : Nat) : Prop where
  kE : X.K = C.K
  mE : X.mg = C.mg
  calm : X.calm = true
  tk : Takes X W
  room : Room k X.A
  nd : X.N.Nodup

def Er (C : Cfg) (ad : Nat → Addr) (σ : L2.St) (W : WX) (c : Str) : Prop := ∀ cls dd H' env', C.mg c = some cls → RE C ad H' σ env' → W cls dd σ H'

structure EM (X : Cx) (C : Cfg) (W : WX) (e : Expr) (t : TE) (m : Ev) : Prop where
  pe : PE X e t
  sn : ∀ (M0 : Addr → Prop) (ad : Nat → Addr) (σ : L2.St) (H : Hp) (env : Sls) (Q : VK), RE (C.w M0) ad H σ env →
    (m env).Wp (fun r => ∀ v H', RE (C.w M0) ad H' σ r.2 → Stp (C.w M0) ad H env H' r.2 → VR (C.w M0) ad H' σ r.2 r.1 v → Q v H') (Er (C.w M0) ad σ W) → t σ H Q
/-- a new list or dict -/
structure EF (X : Cx) (C : Cfg) (W : WX) (e : Expr) (t : TE) (m : Ev) : Prop where
  pe : PE X e t
  sn : ∀ (M0 : Addr → Prop) (ad : Nat → Addr) (σ : L2.St) (H : Hp) (env : Sls) (Q : VK), RE (C.w M0) ad H σ env →
    (m env).Wp (fun r => ∀ a H', H a = none → RE ((C.w M0).add a) ad H' σ r.2 → Stp (C.w M0) ad H env H' r.2 → CellOk C.K H' (Mo ((C.w M0).add a) r.2 ad) r.1 a → Q (.ref a) H') (Er (C.w M0) ad σ W) → t σ H Q
structure TM (X : Cx) (C : Cfg) (W : WX) (e : Expr) (t : TT) (m : Ev1) : Prop where
  pe : PT X e t
  sn : ∀ (M0 : Addr → Prop) (ad : Nat → Addr) (σ : L2.St) (H : Hp) (env : Sls) (Q : Bool → Hp → Prop), RE (C.w M0) ad H σ env →
    (m env).Wp (fun r => ∀ H', RE (C.w M0) ad H' σ r.2 → Stp (C.w M0) ad H env H' r.2 → Q r.1 H') (Er (C.w M0) ad σ W) → t σ H Q
/-- a test of and, or -/
structure WM (X : Cx) (C : Cfg) (W : WX) (e : Expr) (t : TT) (m : Ev1) : Prop where
  pe : PW X e t
  sn : ∀ (M0 : Addr → Prop) (ad : Nat → Addr) (σ : L2.St) (H : Hp) (env : Sls) (Q : Bool → Hp → Prop), RE (C.w M0) ad H σ env →
    (m env).Wp (fun r => ∀ H', RE (C.w M0) ad H' σ r.2 → Stp (C.w M0) ad H env H' r.2 → Q r.1 H') (Er (C.w M0) ad σ W) → t σ H Q
/-- the arguments' values at hand -/
structure VRL (C : Cfg) (ad : Nat → Addr) (H : Hp) (σ : L2.St) (env : Sls) (ds : List D) (vs : List V) : Prop where
  len : vs.length = ds.length
  item : ∀ (i : Nat) (d : D) (v : V), ds[i]? = some d → vs[i]? = some v → VR C ad H σ env d v
structure AM (X : Cx) (C : Cfg) (W : WX) (es : List Expr) (t : TA) (m : Evs) : Prop where
  pe : PA X es t
  sn : ∀ (M0 : Addr → Prop) (ad : Nat → Addr) (σ : L2.St) (H : Hp) (env : Sls) (Q : List V → Hp → Prop), RE (C.w M0) ad H σ env →
    (m env).Wp (fun r => ∀ vs H', RE (C.w M0) ad H' σ r.2 → Stp (C.w M0) ad H env H' r.2 → VRL (C.w M0) ad H' σ r.2 r.1 vs → Q vs H') (Er (C.w M0) ad σ W) → t σ H Q

section
variable {C : Cfg} {ad : Nat → Addr} {H H' H2 : Hp} {σ : L2.St} {env env' env2 : Sls} {ds : List D} {vs : List V}
theorem VRL.nil : VRL C ad H σ env [] [] := ⟨rfl, fun i d v e _ => by simp at e⟩
theorem VRL.cons {d : D} {v : V} (h : VR C ad H σ env d v) (r : VRL C ad H σ env ds vs) : VRL C ad H σ env (d :: ds) (v :: vs) := by
  refine ⟨by simp [r.len], fun i e f h1 h2 => ?_⟩
  cases i with
  | zero => simp at h1 h2; subst h1 h2; exact h
  | succ i => exact r.item i e f (by simpa using h1) (by simpa using h2)
theorem VRL.nil_inv (r : VRL C ad H σ env [] vs) : vs = [] := List.length_eq_zero_iff.mp r.len
theorem VRL.cons_inv {d : D} (r : VRL C ad H σ env (d :: ds) vs) : ∃ v ws, vs = v :: ws ∧ VR C ad H σ env d v ∧ VRL C ad H σ env ds ws := by
  cases vs with
  | nil => have := r.len; simp at this
  | cons v ws => exact ⟨v, ws, rfl, r.item 0 d v rfl rfl, by have := r.len; simpa using this, fun i e f h1 h2 => r.item (i + 1) e f (by simpa using h1) (by simpa using h2)⟩
/-- values for reading -/
structure RoL (K : PySem.W.Frag) (H : Hp) (M : Addr → Prop) (ds : List D) (vs : List V) : Prop where
  len : vs.length = ds.length
  item : ∀ (i : Nat) (d : D) (v : V), ds[i]? = some d → vs[i]? = some v → Ro K H M d v
theorem RoL.nil {K : PySem.W.Frag} {M : Addr → Prop} : RoL K H M [] [] := ⟨rfl, fun i d v e _ => by simp at e⟩
theorem RoL.cons {K : PySem.W.Frag} {M : Addr → Prop} {d : D} {v : V} (h : Ro K H M d v) (r : RoL K H M ds vs) : RoL K H M (d :: ds) (v :: vs) := by
  refine ⟨by simp [r.len], fun i e f h1 h2 => ?_⟩
  cases i with
  | zero => simp at h1 h2; subst h1 h2; exact h
  | succ i => exact r.item i e f (by simpa using h1) (by simpa using h2)
theorem RoL.nil_inv {K : PySem.W.Frag} {M : Addr → Prop} (r : RoL K H M [] vs) : vs = [] := List.length_eq_zero_iff.mp r.len
theorem RoL.cons_inv {K : PySem.W.Frag} {M : Addr → Prop} {d : D} (r : RoL K H M (d :: ds) vs) : ∃ v ws, vs = v :: ws ∧ Ro K H M d v ∧ RoL K H M ds ws := by
  cases vs with
  | nil => have := r.len; simp at this
  | cons v ws => exact ⟨v, ws, rfl, r.item 0 d v rfl rfl, by have := r.len; simpa using this, fun i e f h1 h2 => r.item (i + 1) e f (by simpa using h1) (by simpa using h2)⟩
theorem RoL.one {K : PySem.W.Frag} {M : Addr → Prop} {d : D} (r : RoL K H M [d] vs) : ∃ v, vs = [v] ∧ Ro K H M d v := by
  obtain ⟨v, ws, rfl, h, q⟩ := r.cons_inv
  rw [q.nil_inv]
  exact ⟨v, rfl, h⟩
theorem RoL.two {K : PySem.W.Frag} {M : Addr → Prop} {d e : D} (r : RoL K H M [d, e] vs) : ∃ v u, vs = [v, u] ∧ Ro K H M d v ∧ Ro K H M e u := by
  obtain ⟨v, ws, rfl, h, q⟩ := r.cons_inv
  obtain ⟨u, rfl, h2⟩ := q.one
  exact ⟨v, u, rfl, h, h2⟩
def rsL (env : Sls) : List D → Res (List D)
  | [] => .ok []
  | d :: ds => do
    let x ← rs env d
    let xs ← rsL env ds
    pure (x :: xs)
def kpL : List D → Res (List D)
  | [] => .ok []
  | d :: ds => do
    let x ← kp d
    let xs ← kpL ds
    pure (x :: xs)
theorem RE.rsL (R : RE C ad H σ env) : ∀ {ds : List D} {vs : List V}, VRL C ad H σ env ds vs → ∀ {P : List D → Prop} {E : Str → Prop}, (rsL env ds).Wp P E → ∃ d', P d' ∧ RoL C.K H (Mo C env ad) d' vs
  | [], vs, r, P, E, w => by rw [r.nil_inv]; exact ⟨[], w, .nil⟩
  | d :: ds, vs, r, P, E, w => by
    obtain ⟨v, ws, rfl, h, q⟩ := r.cons_inv
    unfold Vm.rsL at w
    rw [wp_bind] at w
    obtain ⟨d', _, w1, h1⟩ := R.rs h w
    rw [wp_bind] at w1
    obtain ⟨ds', w2, h2⟩ := RE.rsL R q w1
    exact ⟨d' :: ds', w2, .cons h1 h2⟩
theorem kpL_rp : ∀ {ds : List D} {vs : List V}, VRL C ad H σ env ds vs → ∀ {P : List D → Prop} {E : Str → Prop}, (kpL ds).Wp P E → P ds ∧ RpL C.K H (Mo C env ad) ds vs
  | [], vs, r, P, E, w => by rw [r.nil_inv]; exact ⟨w, .nil⟩
  | d :: ds, vs, r, P, E, w => by
    obtain ⟨v, ws, rfl, h, q⟩ := r.cons_inv
    unfold kpL at w
    rw [wp_bind] at w
    obtain ⟨_, w1, h1⟩ := kp_rp h w
    rw [wp_bind] at w1
    obtain ⟨w2, h2⟩ := kpL_rp q w1
    exact ⟨w2, .cons h1 h2⟩
end

section
variable {X : Cx} {C : Cfg} {W : WX} {k : Nat} {a b e : Expr} {es rest : List Expr} {ta tb tc : TE} {ma mb mc m : Ev} {pos : Pos}
/-- what follows goes on with the error's wish -/
theorem EM.sn' (h : EM X C W e ta m) {M0 : Addr → Prop} {ad : Nat → Addr} {σ : L2.St} {H : Hp} {env : Sls} {Q : VK} {α : Type} {f : D × Sls → Res α} {P : α → Prop} (R : RE (C.w M0) ad H σ env)
    (w : (m env >>= f).Wp P (Er (C.w M0) ad σ W)) (hq : ∀ (r : D × Sls) v H', RE (C.w M0) ad H' σ r.2 → Stp (C.w M0) ad H env H' r.2 → VR (C.w M0) ad H' σ r.2 r.1 v → (f r).Wp P (Er (C.w M0) ad σ W) → Q v H') : ta σ H Q := by
  rw [wp_bind] at w
  exact h.sn M0 ad σ H env Q R (w.imp (fun r z v H' R' S' V' => hq r v H' R' S' V' z) fun _ z => z)
theorem TM.sn' {t : TT} {m : Ev1} (h : TM X C W e t m) {M0 : Addr → Prop} {ad : Nat → Addr} {σ : L2.St} {H : Hp} {env : Sls} {Q : Bool → Hp → Prop} {α : Type} {f : Bool × Sls → Res α} {P : α → Prop} (R : RE (C.w M0) ad H σ env)
    (w : (m env >>= f).Wp P (Er (C.w M0) ad σ W)) (hq : ∀ (r : Bool × Sls) H', RE (C.w M0) ad H' σ r.2 → Stp (C.w M0) ad H env H' r.2 → (f r).Wp P (Er (C.w M0) ad σ W) → Q r.1 H') : t σ H Q := by
  rw [wp_bind] at w
  exact h.sn M0 ad σ H env Q R (w.imp (fun r z H' R' S' => hq r H' R' S' z) fun _ z => z)
theorem WM.sn' {t : TT} {m : Ev1} (h : WM X C W e t m) {M0 : Addr → Prop} {ad : Nat → Addr} {σ : L2.St} {H : Hp} {env : Sls} {Q : Bool → Hp → Prop} {α : Type} {f : Bool × Sls → Res α} {P : α → Prop} (R : RE (C.w M0) ad H σ env)
    (w : (m env >>= f).Wp P (Er (C.w M0) ad σ W)) (hq : ∀ (r : Bool × Sls) H', RE (C.w M0) ad H' σ r.2 → Stp (C.w M0) ad H env H' r.2 → (f r).Wp P (Er (C.w M0) ad σ W) → Q r.1 H') : t σ H Q := by
  rw [wp_bind] at w
  exact h.sn M0 ad σ H env Q R (w.imp (fun r z H' R' S' => hq r H' R' S' z) fun _ z => z)
theorem AM.sn' {t : TA} {m : Evs} (h : AM X C W es t m) {M0 : Addr → Prop} {ad : Nat → Addr} {σ : L2.St} {H : Hp} {env : Sls} {Q : List V → Hp → Prop} {α : Type} {f : List D × Sls → Res α} {P : α → Prop} (R : RE (C.w M0) ad H σ env)
    (w : (m env >>= f).Wp P (Er (C.w M0) ad σ W)) (hq : ∀ (r : List D × Sls) vs H', RE (C.w M0) ad H' σ r.2 → Stp (C.w M0) ad H env H' r.2 → VRL (C.w M0) ad H' σ r.2 r.1 vs → (f r).Wp P (Er (C.w M0) ad σ W) → Q vs H') : t σ H Q := by
  rw [wp_bind] at w
  exact h.sn M0 ad σ H env Q R (w.imp (fun r z v H' R' S' V' => hq r v H' R' S' V' z) fun _ z => z)
theorem em_of_ef (h : EF X C W e ta m) : EM X C W e ta m := by
  refine ⟨h.pe, fun M0 ad σ H env Q R w => h.sn M0 ad σ H env Q R (w.imp (fun r z a H' hn R' S' c => ?_) fun _ z => z)⟩
  refine z (.ref a) H' R'.unadd S' (VR.of ?_)
  have hm : ¬ Mo (C.w M0) r.2 ad a := fun q => R.mfree hn (S'.mo a q)
  have lo : ∀ b, Mo (C.w M0) r.2 ad b → Mo ((C.w M0).add a) r.2 ad b := fun b q => mo_add.mpr (.inl q)
  cases hd : r.1 with
  | lst ds =>
    rw [hd] at c
    obtain ⟨q1, vs, q2, q3⟩ := c
    exact .lst' q2 hm q1 (q3.less lo)
  | dic ds =>
    rw [hd] at c
    obtain ⟨q1, vs, q2, q3⟩ := c
    exact .dic q2 hm q3.len q1 q3.key fun i p q e f => (q3.item i p q e f).less lo
  | _ => rw [hd] at c; exact c.elim

/-! ### names, constants -/
def mVar (i : Nat) : Ev := fun env =>
  match env[i]? with
  | some (.t d) => .ok (d, env)
  | some (.l _) => .ok (.own i, env)
  | some (.p _) => .ok (.own i, env)
  | some (.r _) => .ok (.own i, env)
  | _ => .bad
theorem em_var (i : Nat) {x : Str} (hN : X.N[i]? = some x := by rfl) (hv : Vis X.env.scope x := by first | exact Or.inl rfl | exact Or.inr (Or.inl rfl) | exact Or.inr (Or.inr rfl)) (hd : (x == ("__debug__" : Str)) = false := by decide)
    (hcd : (x == ("__classdict__" : Str)) = false := by decide) : EM X C W (.Name x pos) (tVar i) (mVar i) := by
  refine ⟨pe_var hN hv hd hcd, fun M0 ad σ H env Q R w => ?_⟩
  unfold mVar at w
  cases q : env[i]? with
  | none => rw [q] at w; exact w.elim
  | some s =>
    rw [q] at w
    have z := R.sl i s q
    have hi : i < σ.length := by rw [R.len]; exact (List.getElem?_eq_some_iff.mp q).1
    have e : σ[i]? = some σ[i] := List.getElem?_eq_getElem hi
    cases s with
    | u => exact w.elim
    | t d =>
      obtain ⟨x, e1, r⟩ := z
      rw [e] at e1
      have e2 : σ[i] = some x := e1
      exact ⟨x, by rw [e, e2], w x H R .refl (.of r)⟩
    | l d =>
      obtain ⟨e1, r⟩ := z
      rw [e] at e1
      have e2 : σ[i] = some (.ref (ad i)) := e1
      exact ⟨.ref (ad i), by rw [e, e2], w _ H R .refl (by show σ[i]? = _; rw [e, e2])⟩
    | p d =>
      obtain ⟨e1, r⟩ := z
      rw [e] at e1
      have e2 : σ[i] = some (.ref (ad i)) := e1
      exact ⟨.ref (ad i), by rw [e, e2], w _ H R .refl (by show σ[i]? = _; rw [e, e2])⟩
    | r d =>
      obtain ⟨e1, r⟩ := z
      rw [e] at e1
      have e2 : σ[i] = some (.ref (ad i)) := e1
      exact ⟨.ref (ad i), by rw [e, e2], w _ H R .refl (by show σ[i]? = _; rw [e, e2])⟩
/-- an own cell of the def, given away for good: from then on it is data -/
def mGive (i : Nat) : Ev := fun env =>
  match env[i]? with
  | some (.l d) => .ok (d, env.set i (.t d))
  | _ => .bad
theorem RE.give {ad : Nat → Addr} {σ : L2.St} {H : Hp} {env : Sls} (R : RE C ad H σ env) {i : Nat} {d : D} (h : env[i]? = some (.l d)) :
    RE C ad H σ (env.set i (.t d)) ∧ Stp C ad H env H (env.set i (.t d)) ∧ Rp C.K H (Mo C (env.set i (.t d)) ad) d (.ref (ad i)) ∧ σ[i]? = some (some (.ref (ad i))) := by
  have hi : i < env.length := (List.getElem?_eq_some_iff.mp h).1
  obtain ⟨d0, hd0, hσ, c0⟩ := R.cell h rfl
  have e0 : d0 = d := by
    rcases hd0 with z | z | z
    · cases z; rfl
    · cases z
    · cases z
  subst e0
  have mo := mo_set (C := C) (ad := ad) (env := env) (i := i) (s := .t d0) rfl
  have hnot : ¬ Mo C (env.set i (.t d0)) ad (ad i) := by
    rintro (q | ⟨j, t, e, o, q⟩)
    · exact (R.loc i d0 (.inl h)).2 q
    · by_cases hj : i = j
      · subst hj
        rw [List.getElem?_set_self hi] at e
        cases e
        cases o
      · rw [List.getElem?_set_ne hj] at e
        exact hj (R.inj _ _ _ _ h e rfl o q.symm)
  have low : ∀ b, Mo C (env.set i (.t d0)) ad b → Mo C env ad b := mo
  have rp : Rp C.K H (Mo C (env.set i (.t d0)) ad) d0 (.ref (ad i)) := by
    cases d0 with
    | lst ds => obtain ⟨q1, vs, q2, q3⟩ := c0; exact .lst' q2 hnot q1 (q3.less low)
    | dic ds => obtain ⟨q1, vs, q2, q3⟩ := c0; exact .dic q2 hnot q3.len q1 q3.key fun j p q e f => (q3.item j p q e f).less low
    | _ => exact c0.elim
  have down : ∀ v t a, SlOk C H (Mo C env ad) v t a → SlOk C H (Mo C (env.set i (.t d0)) ad) v t a := fun v t a z => SlOk.ext (C := C) z (fun _ => rfl) .refl fun b q => .inl (low b q)
  have old : ∀ (m : Nat) (r : Sl), (env.set i (.t d0))[m]? = some r → r.isOwn = true → m ≠ i ∧ env[m]? = some r := fun m r x y => by
    by_cases hm : i = m
    · subst hm
      rw [List.getElem?_set_self hi] at x
      cases x
      cases y
    · rw [List.getElem?_set_ne hm] at x
      exact ⟨fun z => hm z.symm, x⟩
  refine ⟨⟨by rw [List.length_set]; exact R.len, fun j t e => ?_, fun j j' t t' e e' o o' q => ?_, fun j t e => R.loc j t (e.imp (fun e => (old j _ e rfl).2) fun e => (old j _ e rfl).2), fun j t e => R.par j t (old j _ e rfl).2, R.same, R.frk, R.trk, R.m0⟩, ⟨.refl, ow_set rfl⟩, rp, hσ⟩
  · by_cases hj : i = j
    · subst hj
      rw [List.getElem?_set_self hi] at e
      cases e
      exact ⟨_, by rw [hσ]; rfl, rp⟩
    · rw [List.getElem?_set_ne hj] at e
      exact down _ _ _ (R.sl j t e)
  · exact R.inj _ _ _ _ (old _ _ e o).2 (old _ _ e' o').2 o o' q
theorem em_give (i : Nat) {x : Str} (hN : X.N[i]? = some x := by rfl) (hv : Vis X.env.scope x := by first | exact Or.inl rfl | exact Or.inr (Or.inl rfl) | exact Or.inr (Or.inr rfl)) (hd : (x == ("__debug__" : Str)) = false := by decide)
    (hcd : (x == ("__classdict__" : Str)) = false := by decide) : EM X C W (.Name x pos) (tVar i) (mGive i) := by
  refine ⟨pe_var hN hv hd hcd, fun M0 ad σ H env Q R w => ?_⟩
  unfold mGive at w
  cases q : env[i]? with
  | none => rw [q] at w; exact w.elim
  | some s =>
    rw [q] at w
    cases s with
    | l d =>
      obtain ⟨R', S', r, e⟩ := R.give q
      exact ⟨_, e, w _ H R' S' (.of r)⟩
    | _ => exact w.elim
def mK (d : D) : Ev := fun env => .ok (d, env)
theorem em_int {i : Int} {j : Nat} : EM X C W (.Constant (.int i) j pos) (tC (.int i)) (mK (.int i)) := ⟨pe_int, fun M0 ad σ H env Q R w => w _ H R .refl (.of (.int i))⟩
theorem em_bl {i : Bool} {j : Nat} : EM X C W (.Constant (.bool i) j pos) (tC (.bl i)) (mK (.bl i)) := ⟨pe_bl, fun M0 ad σ H env Q R w => w _ H R .refl (.of (.bl i))⟩
theorem em_non {j : Nat} : EM X C W (.Constant .none j pos) (tC .non) (mK .non) := ⟨pe_non, fun M0 ad σ H env Q R w => w _ H R .refl (.of .non)⟩
theorem em_str {i : Str} {j : Nat} : EM X C W (.Constant (.str i) j pos) (tC (.str i)) (mK (.str i)) := ⟨pe_str, fun M0 ad σ H env Q R w => w _ H R .refl (.of (.str i))⟩
/-- a constant of the module -/
theorem em_glob {x : Str} {v : V} {u : Value} {d : D} (hg : Gl X x) (hm : X.mg x = some u) (r : RelV v u) (hr : ∀ H M, Rp C.K H M d v) (hd : (x == ("__debug__" : Str)) = false := by decide) : EM X C W (.Name x pos) (tC v) (mK d) :=
  ⟨pe_glob hg hm r hd, fun M0 ad σ H env Q R w => w _ H R .refl (.of (hr _ _))⟩

/-! ### operators -/
/-- an operation by values: what it asks of data -/
def OpS (K : PySem.W.Frag) (r : R2) (g : D → D → Res D) : Prop := ∀ (H : Hp) (M : Addr → Prop) (x y : V) (dx dy : D) (Q : VK), (∀ a, M a → H a ≠ none) → Ro K H M dx x → Ro K H M dy y →
  (g dx dy).Wp (fun d => ∀ v H', Same H H' → Rp K H' M d v → Q v H') (fun _ => False) → r x y H Q
def mBin (g : D → D → Res D) (ma mb : Ev) : Ev := fun env => do
  let r1 ← ma env
  let r2 ← mb r1.2
  let x ← rs r2.2 r1.1
  let y ← rs r2.2 r2.1
  let d ← match g x y with
    | .err _ => .bad
    | z => z
  pure (d, r2.2)
theorem bin_sn {r : R2} {g : D → D → Res D} (ho : OpS C.K r g) (ha : EM X C W a ta ma) (hb : EM X C W b tb mb) {M0 : Addr → Prop} {ad : Nat → Addr} {σ : L2.St} {H : Hp} {env : Sls} {Q : VK} (R : RE (C.w M0) ad H σ env)
    (w : (mBin g ma mb env).Wp (fun r => ∀ v H', RE (C.w M0) ad H' σ r.2 → Stp (C.w M0) ad H env H' r.2 → VR (C.w M0) ad H' σ r.2 r.1 v → Q v H') (Er (C.w M0) ad σ W)) : tOp r ta tb σ H Q := by
  unfold mBin at w
  refine ha.sn' R w fun r1 v1 H1 R1 S1 V1 w1 => ?_
  refine hb.sn' R1 w1 fun r2 v2 H2 R2 S2 V2 w2 => ?_
  rw [wp_bind] at w2
  obtain ⟨x, _, w3, rx⟩ := R2.rs (V1.stp S2) w2
  rw [wp_bind] at w3
  obtain ⟨y, _, w4, ry⟩ := R2.rs V2 w3
  refine ho H2 (Mo (C.w M0) r2.2 ad) v1 v2 x y Q (fun a z => R2.mtrk z) rx ry ?_
  cases q : g x y with
  | ok d =>
    rw [q] at w4
    exact fun v H' e r => w4 v H' (R2.grow e) ((S1.trans S2).trans (.grow e)) (.of r)
  | err c => rw [q] at w4; exact w4.elim
  | bad => rw [q] at w4; exact w4.elim
theorem em_bin {op : Operator} {r : R2} {g : D → D → Res D} (hr : OpR X (binaryOp op) r) (ho : OpS C.K r g) (ha : EM X C W a ta ma) (hb : EM X C W b tb mb) : EM X C W (.BinOp a op b pos) (tOp r ta tb) (mBin g ma mb) :=
  ⟨pe_op hr ha.pe hb.pe, fun M0 ad σ H env Q R w => bin_sn ho ha hb R w⟩
theorem em_cmp {op : CmpOp} {r : R2} {g : D → D → Res D} (hr : OpR X (compareOp op) r) (ho : OpS C.K r g) (ha : EM X C W a ta ma) (hb : EM X C W b tb mb) (hm : behindInMarks op b = false := by rfl) : EM X C W (.Compare a [op] [b] pos) (tOp r ta tb) (mBin g ma mb) :=
  ⟨pe_cmpR hr ha.pe hb.pe hm, fun M0 ad σ H env Q R w => bin_sn ho ha hb R w⟩
/-- its truth, where it is a bool -/
def mTru (m : Ev) : Ev1 := fun env => do
  let r ← m env
  match r.1 with
  | .bl b => pure (b, r.2)
  | _ => .bad
theorem tm_cmp {op : CmpOp} {r : R2} {g : D → D → Res D} (hr : OpR X (compareOp op) r) (ho : OpS C.K r g) (ha : EM X C W a ta ma) (hb : EM X C W b tb mb) (hm : behindInMarks op b = false := by rfl) : TM X C W (.Compare a [op] [b] pos) (tTest (tOp r ta tb)) (mTru (mBin g ma mb)) := by
  refine ⟨pt_cmpR hr ha.pe hb.pe hm, fun M0 ad σ H env Q R w => ?_⟩
  refine bin_sn ho ha hb R ?_
  unfold mTru at w
  rw [wp_bind] at w
  refine w.imp (fun r z v H' R' S' V' => ?_) fun _ z => z
  cases hd : r.1 with
  | bl k =>
    rw [hd] at z V'
    cases V'
    exact ⟨k, rfl, z H' R' S'⟩
  | _ => rw [hd] at z; exact z.elim
theorem tm_val {t : TE} {m : Ev} (h : EM X C W e t m) (he : ∀ whole, isTrue e X.env whole = (do let v ← whole; standAt e.pos; holding [v] (truthy v)) := by intro _; rfl) : TM X C W e (tB t) (mTru m) := by
  refine ⟨pt_val h.pe he, fun M0 ad σ H env Q R w => ?_⟩
  refine h.sn' (f := fun r => match r.1 with | .bl b => pure (b, r.2) | _ => .bad) R w fun r v H' R' S' V' z => ?_
  cases hd : r.1 with
  | bl k =>
    rw [hd] at z V'
    cases V'
    exact ⟨k, rfl, z H' R' S'⟩
  | _ => rw [hd] at z; exact z.elim
def mNotT (m : Ev1) : Ev1 := fun env => do
  let r ← m env
  pure (!r.1, r.2)
theorem tm_not {t : TT} {m : Ev1} (h : TM X C W a t m) : TM X C W (.UnaryOp .Not a pos) (tNot t) (mNotT m) :=
  ⟨pt_not h.pe, fun M0 ad σ H env Q R w => h.sn' (f := fun r => pure (!r.1, r.2)) R w fun r H' R' S' z => z H' R' S'⟩
theorem wm_and1 {t : TT} {m : Ev1} (h : TM X C W a t m) : WM X C W (.BoolOp .And [a] pos) t m := ⟨pw_and1 h.pe, h.sn⟩
theorem wm_or1 {t : TT} {m : Ev1} (h : TM X C W a t m) : WM X C W (.BoolOp .Or [a] pos) t m := ⟨pw_or1 h.pe, h.sn⟩
def mAndT (m n : Ev1) : Ev1 := fun env => do
  let r ← m env
  if r.1 = true then n r.2 else pure (false, r.2)
def mOrT (m n : Ev1) : Ev1 := fun env => do
  let r ← m env
  if r.1 = true then pure (true, r.2) else n r.2
theorem wm_and {t u : TT} {m n : Ev1} (h : TM X C W a t m) (h2 : WM X C W (.BoolOp .And (b :: rest) pos) u n) : WM X C W (.BoolOp .And (a :: b :: rest) pos) (tAnd t u) (mAndT m n) := by
  refine ⟨pw_and h.pe h2.pe, fun M0 ad σ H env Q R w => ?_⟩
  refine h.sn' (f := fun r => if r.1 = true then n r.2 else pure (false, r.2)) R w fun r H' R' S' z => ?_
  split
  · rename_i e
    rw [if_pos e] at z
    exact h2.sn M0 ad σ H' r.2 Q R' (z.imp (fun q y H2 R2 S2 => y H2 R2 (S'.trans S2)) fun _ y => y)
  · rename_i e
    rw [if_neg e] at z
    exact z H' R' S'
theorem wm_or {t u : TT} {m n : Ev1} (h : TM X C W a t m) (h2 : WM X C W (.BoolOp .Or (b :: rest) pos) u n) : WM X C W (.BoolOp .Or (a :: b :: rest) pos) (tOr t u) (mOrT m n) := by
  refine ⟨pw_or h.pe h2.pe, fun M0 ad σ H env Q R w => ?_⟩
  refine h.sn' (f := fun r => if r.1 = true then pure (true, r.2) else n r.2) R w fun r H' R' S' z => ?_
  split
  · rename_i e
    rw [if_pos e] at z
    exact z H' R' S'
  · rename_i e
    rw [if_neg e] at z
    exact h2.sn M0 ad σ H' r.2 Q R' (z.imp (fun q y H2 R2 S2 => y H2 R2 (S'.trans S2)) fun _ y => y)
theorem tm_wm {t : TT} {m : Ev1} (h : WM X C W e t m) : TM X C W e t m := ⟨h.pe.pt, h.sn⟩
/-- and, or, not as values (bools) -/
theorem em_one {op : BoolOp} {t : TE} {m : Ev} (h : EM X C W a t m) : EM X C W (.BoolOp op [a] pos) t m := ⟨pe_one h.pe, h.sn⟩
def mAndV (m n : Ev) : Ev := fun env => do
  let r ← m env
  match r.1 with
  | .bl true => n r.2
  | .bl false => pure (.bl false, r.2)
  | _ => .bad
def mOrV (m n : Ev) : Ev := fun env => do
  let r ← m env
  match r.1 with
  | .bl true => pure (.bl true, r.2)
  | .bl false => n r.2
  | _ => .bad
def mNotV (m : Ev) : Ev := fun env => do
  let r ← m env
  match r.1 with
  | .bl b => pure (.bl (!b), r.2)
  | _ => .bad
theorem em_and {t u : TE} {m n : Ev} (h : EM X C W a t m) (h2 : EM X C W (.BoolOp .And (b :: rest) pos) u n) : EM X C W (.BoolOp .And (a :: b :: rest) pos) (tAndV t u) (mAndV m n) := by
  refine ⟨pe_and h.pe h2.pe, fun M0 ad σ H env Q R w => ?_⟩
  refine h.sn' (f := fun r => match r.1 with | .bl true => n r.2 | .bl false => pure (.bl false, r.2) | _ => .bad) R w fun r v H' R' S' V' z => ?_
  cases hd : r.1 with
  | bl k =>
    rw [hd] at z V'
    cases V'
    cases k with
    | true => exact ⟨true, rfl, h2.sn M0 ad σ H' r.2 Q R' (z.imp (fun q y v2 H2 R2 S2 => y v2 H2 R2 (S'.trans S2)) fun _ y => y)⟩
    | false => exact ⟨false, rfl, z _ H' R' S' (.of (.bl false))⟩
  | _ => rw [hd] at z; exact z.elim
theorem em_or {t u : TE} {m n : Ev} (h : EM X C W a t m) (h2 : EM X C W (.BoolOp .Or (b :: rest) pos) u n) : EM X C W (.BoolOp .Or (a :: b :: rest) pos) (tOrV t u) (mOrV m n) := by
  refine ⟨pe_or h.pe h2.pe, fun M0 ad σ H env Q R w => ?_⟩
  refine h.sn' (f := fun r => match r.1 with | .bl true => pure (.bl true, r.2) | .bl false => n r.2 | _ => .bad) R w fun r v H' R' S' V' z => ?_
  cases hd : r.1 with
  | bl k =>
    rw [hd] at z V'
    cases V'
    cases k with
    | false => exact ⟨false, rfl, h2.sn M0 ad σ H' r.2 Q R' (z.imp (fun q y v2 H2 R2 S2 => y v2 H2 R2 (S'.trans S2)) fun _ y => y)⟩
    | true => exact ⟨true, rfl, z _ H' R' S' (.of (.bl true))⟩
  | _ => rw [hd] at z; exact z.elim
theorem em_not {t : TE} {m : Ev} (h : EM X C W a t m) : EM X C W (.UnaryOp .Not a pos) (tNotV t) (mNotV m) := by
  refine ⟨pe_not h.pe, fun M0 ad σ H env Q R w => ?_⟩
  unfold mNotV at w
  refine h.sn' R w fun r v H' R' S' V' z => ?_
  cases hd : r.1 with
  | bl k =>
    rw [hd] at z V'
    cases V'
    exact ⟨k, rfl, z _ H' R' S' (.of (.bl _))⟩
  | _ => rw [hd] at z; exact z.elim
def mIf (mt : Ev1) (ma mb : Ev) : Ev := fun env => do
  let r ← mt env
  if r.1 = true then ma r.2 else mb r.2
theorem em_if {c : Expr} {t : TT} {mt : Ev1} (h : TM X C W c t mt) (ha : EM X C W a ta ma) (hb : EM X C W b tb mb) : EM X C W (.IfExp c a b pos) (tIf t ta tb) (mIf mt ma mb) := by
  refine ⟨pe_ifExp h.pe ha.pe hb.pe, fun M0 ad σ H env Q R w => ?_⟩
  refine h.sn' (f := fun r => if r.1 = true then ma r.2 else mb r.2) R w fun r H' R' S' z => ?_
  split
  · rename_i e
    rw [if_pos e] at z
    exact ha.sn M0 ad σ H' r.2 Q R' (z.imp (fun q y v2 H2 R2 S2 => y v2 H2 R2 (S'.trans S2)) fun _ y => y)
  · rename_i e
    rw [if_neg e] at z
    exact hb.sn M0 ad σ H' r.2 Q R' (z.imp (fun q y v2 H2 R2 S2 => y v2 H2 R2 (S'.trans S2)) fun _ y => y)
/-- a op b op c -/
def mChain (g g' : D → D → Res D) (ma mb mc : Ev) : Ev := fun env => do
  let r1 ← ma env
  let r2 ← mb r1.2
  let x ← rs r2.2 r1.1
  let y ← rs r2.2 r2.1
  match g x y with
  | .ok (.bl true) =>
    let r3 ← mc r2.2
    let y ← rs r3.2 r2.1
    let z ← rs r3.2 r3.1
    match g' y z with
    | .ok d => pure (d, r3.2)
    | _ => .bad
  | .ok (.bl false) => pure (.bl false, r2.2)
  | _ => .bad

/-! ### arguments, calls of built-ins -/
def mNil : Evs := fun env => .ok ([], env)
def mCons (m : Ev) (ms : Evs) : Evs := fun env => do
  let r1 ← m env
  let r2 ← ms r1.2
  pure (r1.1 :: r2.1, r2.2)
theorem am_nil : AM X C W [] tNil mNil := ⟨pa_nil, fun M0 ad σ H env Q R w => w [] H R .refl .nil⟩
theorem am_cons {te : TE} {t : TA} {m : Ev} {ms : Evs} (h : EM X C W e te m) (hr : AM X C W es t ms) (hs : starEach (e :: es) X.env = (false, eval e X.env) :: starEach es X.env := by rfl) : AM X C W (e :: es) (tCons te t) (mCons m ms) := by
  refine ⟨pa_cons h.pe hr.pe hs, fun M0 ad σ H env Q R w => ?_⟩
  unfold mCons at w
  refine h.sn' R w fun r1 v1 H1 R1 S1 V1 w1 => ?_
  refine hr.sn' R1 w1 fun r2 vs H2 R2 S2 V2 w2 => ?_
  exact w2 (v1 :: vs) H2 R2 (S1.trans S2) (.cons (V1.stp S2) V2)
def CallS (K : PySem.W.Frag) (r : List V → Hp → VK → Prop) (g : List D → Res D) : Prop := ∀ (H : Hp) (M : Addr → Prop) (vs : List V) (ds : List D) (Q : VK), (∀ a, M a → H a ≠ none) → RoL K H M ds vs →
  (g ds).Wp (fun d => ∀ v H', Same H H' → Rp K H' M d v → Q v H') (fun _ => False) → r vs H Q
def mCallB (g : List D → Res D) (ms : Evs) : Ev := fun env => do
  let r ← ms env
  let xs ← rsL r.2 r.1
  match g xs with
  | .ok d => pure (d, r.2)
  | _ => .bad
theorem callB_sn {r : List V → Hp → VK → Prop} {g : List D → Res D} {t : TA} {ms : Evs} (ho : CallS C.K r g) (ha : AM X C W es t ms) {M0 : Addr → Prop} {ad : Nat → Addr} {σ : L2.St} {H : Hp} {env : Sls} {Q : VK} (R : RE (C.w M0) ad H σ env)
    (w : (mCallB g ms env).Wp (fun r => ∀ v H', RE (C.w M0) ad H' σ r.2 → Stp (C.w M0) ad H env H' r.2 → VR (C.w M0) ad H' σ r.2 r.1 v → Q v H') (Er (C.w M0) ad σ W)) : tCB r t σ H Q := by
  unfold mCallB at w
  refine ha.sn' R w fun r1 vs H1 R1 S1 V1 w1 => ?_
  rw [wp_bind] at w1
  obtain ⟨xs, w2, rx⟩ := R1.rsL V1 w1
  refine ho H1 (Mo (C.w M0) r1.2 ad) vs xs Q (fun a z => R1.mtrk z) rx ?_
  cases q : g xs with
  | ok d =>
    rw [q] at w2
    exact fun v H' e r => w2 v H' (R1.grow e) (S1.trans (.grow e)) (.of r)
  | err c => rw [q] at w2; exact w2.elim
  | bad => rw [q] at w2; exact w2.elim
theorem em_callB {id : String} {x : Str} {p : Pos} {r : List V → Hp → VK → Prop} {g : List D → Res D} {t : TA} {ms : Evs} (hc : CallR X (.builtin id) r) (ho : CallS C.K r g) (hg : Gl X x) (hm : X.mg x = none) (hv : bootBuiltins x = some (.builtin id)) (ha : AM X C W (e :: es) t ms)
    (hn : x ≠ "__name__" := by decide) (hdb : (x == ("__debug__" : Str)) = false := by decide) (he : starEach (e :: es) X.env = (false, eval e X.env) :: starEach es X.env := by rfl) (hpl : (backTo pos (starEach es X.env)).any (·.1) = false := by rfl) :
    EM X C W (.Call (.Name x p) (e :: es) [] pos) (tCB r t) (mCallB g ms) :=
  ⟨pe_callB hc hg hm hv ha.pe hn hdb he hpl, fun M0 ad σ H env Q R w => callB_sn ho ha R w⟩
theorem em_callTy {T : String} {x : Str} {p : Pos} {r : List V → Hp → VK → Prop} {g : List D → Res D} {t : TA} {ms : Evs} (hc : CallR X (.type T) r) (ho : CallS C.K r g) (hg : Gl X x) (hm : X.mg x = none) (hv : bootBuiltins x = some (.type T)) (ha : AM X C W (e :: es) t ms)
    (hn : x ≠ "__name__" := by decide) (hdb : (x == ("__debug__" : Str)) = false := by decide) (he : starEach (e :: es) X.env = (false, eval e X.env) :: starEach es X.env := by rfl) (hpl : (backTo pos (starEach es X.env)).any (·.1) = false := by rfl) :
    EM X C W (.Call (.Name x p) (e :: es) [] pos) (tCB r t) (mCallB g ms) :=
  ⟨pe_callTy hc hg hm hv ha.pe hn hdb he hpl, fun M0 ad σ H env Q R w => callB_sn ho ha R w⟩
end
end Vm
end
section
set_option maxHeartbeats 4000000
/-! Vm, part D: operators and built-ins over data; displays, subscripts, slices. -/
namespace Vm
open PySem PySem.Spec PyProof.Rows L2

/-! ### a new list from an operation -/
def OpF (K : PySem.W.Frag) (r : R2) (g : D → D → Res D) : Prop := ∀ (H : Hp) (M : Addr → Prop) (x y : V) (dx dy : D) (Q : VK), (∀ a, M a → H a ≠ none) → Ro K H M dx x → Ro K H M dy y →
  (g dx dy).Wp (fun d => ∀ a H', H a = none → Same H H' → CellOk K H' (fun b => M b ∨ b = a) d a → Q (.ref a) H') (fun _ => False) → r x y H Q
def CallF (K : PySem.W.Frag) (r : List V → Hp → VK → Prop) (g : List D → Res D) : Prop := ∀ (H : Hp) (M : Addr → Prop) (vs : List V) (ds : List D) (Q : VK), (∀ a, M a → H a ≠ none) → RoL K H M ds vs →
  (g ds).Wp (fun d => ∀ a H', H a = none → Same H H' → CellOk K H' (fun b => M b ∨ b = a) d a → Q (.ref a) H') (fun _ => False) → r vs H Q
theorem cell_rp {K : PySem.W.Frag} {H : Hp} {M M' : Addr → Prop} {d : D} {a : Addr} (c : CellOk K H M d a) (hn : ¬ M' a) (lo : ∀ b, M' b → M b) : Rp K H M' d (.ref a) := by
  cases d with
  | lst ds =>
    obtain ⟨q1, vs, q2, q3⟩ := c
    exact .lst' q2 hn q1 (q3.less lo)
  | dic ds =>
    obtain ⟨q1, vs, q2, q3⟩ := c
    exact .dic q2 hn q3.len q1 q3.key fun i p q e f => (q3.item i p q e f).less lo
  | _ => exact c.elim
theorem OpF.toS {K : PySem.W.Frag} {r : R2} {g : D → D → Res D} (h : OpF K r g) : OpS K r g := fun H M x y dx dy Q tk rx ry w =>
  h H M x y dx dy Q tk rx ry (w.imp (fun d z a H' hn e c => z _ H' e (cell_rp c (fun q => tk a q hn) fun b q => .inl q)) fun _ z => z)
theorem CallF.toS {K : PySem.W.Frag} {r : List V → Hp → VK → Prop} {g : List D → Res D} (h : CallF K r g) : CallS K r g := fun H M vs ds Q tk rx w =>
  h H M vs ds Q tk rx (w.imp (fun d z a H' hn e c => z _ H' e (cell_rp c (fun q => tk a q hn) fun b q => .inl q)) fun _ z => z)
/-- a list just laid -/
theorem cell_new {K : PySem.W.Frag} {H : Hp} {M : Addr → Prop} {ds : List D} {vs : List V} {a : Addr} (r : RpL K H M ds vs) (hn : H a = none) (hz : ds.length ≤ sizeLine) : CellOk K (upd H a (.lst vs)) (fun b => M b ∨ b = a) (.lst ds) a := by
  refine ⟨hz, vs, upd_same, r.ext (.of_same (same_new hn)) fun b z => ?_⟩
  rcases z with z | z
  · exact .inl z
  · exact .inr (z ▸ hn)
section
variable {X : Cx} {C : Cfg} {W : WX} {k : Nat} {a b e : Expr} {es rest : List Expr} {ta tb tc : TE} {ma mb mc m : Ev} {pos : Pos}
theorem binF_sn {r : R2} {g : D → D → Res D} (ho : OpF C.K r g) (ha : EM X C W a ta ma) (hb : EM X C W b tb mb) {M0 : Addr → Prop} {ad : Nat → Addr} {σ : L2.St} {H : Hp} {env : Sls} {Q : VK} (R : RE (C.w M0) ad H σ env)
    (w : (mBin g ma mb env).Wp (fun r => ∀ a H', H a = none → RE ((C.w M0).add a) ad H' σ r.2 → Stp (C.w M0) ad H env H' r.2 → CellOk C.K H' (Mo ((C.w M0).add a) r.2 ad) r.1 a → Q (.ref a) H') (Er (C.w M0) ad σ W)) : tOp r ta tb σ H Q := by
  unfold mBin at w
  refine ha.sn' R w fun r1 v1 H1 R1 S1 V1 w1 => ?_
  refine hb.sn' R1 w1 fun r2 v2 H2 R2 S2 V2 w2 => ?_
  rw [wp_bind] at w2
  obtain ⟨x, _, w3, rx⟩ := R2.rs (V1.stp S2) w2
  rw [wp_bind] at w3
  obtain ⟨y, _, w4, ry⟩ := R2.rs V2 w3
  refine ho H2 (Mo (C.w M0) r2.2 ad) v1 v2 x y Q (fun a z => R2.mtrk z) rx ry ?_
  cases q : g x y with
  | ok d =>
    rw [q] at w4
    refine fun p H' hn e c => w4 p H' ?_ (R2.growAdd e hn c.trk) ((S1.trans S2).trans (.grow e)) (c.ext rfl .refl fun b z => .inl (mo_add.mp z))
    cases z : H p with
    | none => rfl
    | some o => exact absurd hn ((S1.trans S2).ext.trk p (by rw [z]; exact fun z => nomatch z))
  | err c => rw [q] at w4; exact w4.elim
  | bad => rw [q] at w4; exact w4.elim
theorem ef_bin {op : Operator} {r : R2} {g : D → D → Res D} (hr : OpR X (binaryOp op) r) (ho : OpF C.K r g) (ha : EM X C W a ta ma) (hb : EM X C W b tb mb) : EF X C W (.BinOp a op b pos) (tOp r ta tb) (mBin g ma mb) :=
  ⟨pe_op hr ha.pe hb.pe, fun M0 ad σ H env Q R w => binF_sn ho ha hb R w⟩
theorem callF_sn {r : List V → Hp → VK → Prop} {g : List D → Res D} {t : TA} {ms : Evs} (ho : CallF C.K r g) (ha : AM X C W es t ms) {M0 : Addr → Prop} {ad : Nat → Addr} {σ : L2.St} {H : Hp} {env : Sls} {Q : VK} (R : RE (C.w M0) ad H σ env)
    (w : (mCallB g ms env).Wp (fun r => ∀ a H', H a = none → RE ((C.w M0).add a) ad H' σ r.2 → Stp (C.w M0) ad H env H' r.2 → CellOk C.K H' (Mo ((C.w M0).add a) r.2 ad) r.1 a → Q (.ref a) H') (Er (C.w M0) ad σ W)) : tCB r t σ H Q := by
  unfold mCallB at w
  refine ha.sn' R w fun r1 vs H1 R1 S1 V1 w1 => ?_
  rw [wp_bind] at w1
  obtain ⟨xs, w2, rx⟩ := R1.rsL V1 w1
  refine ho H1 (Mo (C.w M0) r1.2 ad) vs xs Q (fun a z => R1.mtrk z) rx ?_
  cases q : g xs with
  | ok d =>
    rw [q] at w2
    refine fun p H' hn e c => w2 p H' ?_ (R1.growAdd e hn c.trk) (S1.trans (.grow e)) (c.ext rfl .refl fun b z => .inl (mo_add.mp z))
    cases z : H p with
    | none => rfl
    | some o => exact absurd hn (S1.ext.trk p (by rw [z]; exact fun z => nomatch z))
  | err c => rw [q] at w2; exact w2.elim
  | bad => rw [q] at w2; exact w2.elim
theorem ef_callB {id : String} {x : Str} {p : Pos} {r : List V → Hp → VK → Prop} {g : List D → Res D} {t : TA} {ms : Evs} (hc : CallR X (.builtin id) r) (ho : CallF C.K r g) (hg : Gl X x) (hm : X.mg x = none) (hv : bootBuiltins x = some (.builtin id)) (ha : AM X C W (e :: es) t ms)
    (hn : x ≠ "__name__" := by decide) (hdb : (x == ("__debug__" : Str)) = false := by decide) (he : starEach (e :: es) X.env = (false, eval e X.env) :: starEach es X.env := by rfl) (hpl : (backTo pos (starEach es X.env)).any (·.1) = false := by rfl) :
    EF X C W (.Call (.Name x p) (e :: es) [] pos) (tCB r t) (mCallB g ms) :=
  ⟨pe_callB hc hg hm hv ha.pe hn hdb he hpl, fun M0 ad σ H env Q R w => callF_sn ho ha R w⟩
theorem ef_callTy {T : String} {x : Str} {p : Pos} {r : List V → Hp → VK → Prop} {g : List D → Res D} {t : TA} {ms : Evs} (hc : CallR X (.type T) r) (ho : CallF C.K r g) (hg : Gl X x) (hm : X.mg x = none) (hv : bootBuiltins x = some (.type T)) (ha : AM X C W (e :: es) t ms)
    (hn : x ≠ "__name__" := by decide) (hdb : (x == ("__debug__" : Str)) = false := by decide) (he : starEach (e :: es) X.env = (false, eval e X.env) :: starEach es X.env := by rfl) (hpl : (backTo pos (starEach es X.env)).any (·.1) = false := by rfl) :
    EF X C W (.Call (.Name x p) (e :: es) [] pos) (tCB r t) (mCallB g ms) :=
  ⟨pe_callTy hc hg hm hv ha.pe hn hdb he hpl, fun M0 ad σ H env Q R w => callF_sn ho ha R w⟩

/-! ### displays -/
def mTup (ms : Evs) : Ev := fun env => do
  let r ← ms env
  let xs ← kpL r.1
  if xs.length ≤ sizeLine then pure (.tup xs, r.2) else .bad
def mLst (ms : Evs) : Ev := fun env => do
  let r ← ms env
  let xs ← kpL r.1
  if xs.length ≤ sizeLine then pure (.lst xs, r.2) else .bad
theorem em_tup {t : TA} {ms : Evs} {x1} (h : AM X C W es t ms) : EM X C W (.Tuple es x1 pos) (tTup t) (mTup ms) := by
  refine ⟨pe_tup h.pe, fun M0 ad σ H env Q R w => ?_⟩
  unfold mTup at w
  refine h.sn' R w fun r1 vs H1 R1 S1 V1 w1 => ?_
  rw [wp_bind] at w1
  obtain ⟨w2, rx⟩ := kpL_rp V1 w1
  split at w2
  · rename_i hz
    refine ⟨by rw [rx.len]; exact hz, fun p hn => w2 _ _ (R1.grow (same_new hn)) (S1.trans (.grow (same_new hn))) (.of (.tup' (.of upd_same) hz (rx.same (same_new hn))))⟩
  · exact w2.elim
theorem ef_lst {t : TA} {ms : Evs} (h : AM X C W es t ms) : EF X C W (.List es pos) (tLst t) (mLst ms) := by
  refine ⟨pe_lst h.pe, fun M0 ad σ H env Q R w => ?_⟩
  unfold mLst at w
  refine h.sn' R w fun r1 vs H1 R1 S1 V1 w1 => ?_
  rw [wp_bind] at w1
  obtain ⟨w2, rx⟩ := kpL_rp V1 w1
  split at w2
  · rename_i hz
    refine ⟨by rw [rx.len]; exact hz, fun p hn => w2 p _ ?_ (R1.growAdd (same_new hn) hn (by rw [upd_same]; exact fun z => nomatch z)) (S1.trans (.grow (same_new hn))) ((cell_new rx hn hz).ext rfl .refl fun b z => .inl (mo_add.mp z))⟩
    cases z : H p with
    | none => rfl
    | some o => exact absurd hn (S1.ext.trk p (by rw [z]; exact fun z => nomatch z))
  · exact w2.elim
/-- {} -/
def mDic0 : Ev := fun env => .ok (.dic [], env)
theorem ef_dic0 : EF X C W (.Dict [] [] pos) tDNewK mDic0 := by
  refine ⟨pe_dnewK, fun M0 ad σ H env Q R w => ?_⟩
  refine fun p hn => w p _ hn (R.growAdd (same_new hn) hn (by rw [upd_same]; exact fun z => nomatch z)) (.grow (same_new hn)) ⟨Nat.zero_le _, [], upd_same, rfl, fun i p q e _ => by simp at e, fun i p q e _ => by simp at e⟩

/-! ### subscripts -/
theorem em_ix {r : R2} {g : D → D → Res D} (hr : IxR X r) (ho : OpS C.K r g) (ha : EM X C W a ta ma) (hb : EM X C W b tb mb) (hs : PlainIx b := by intro _ _; rfl) : EM X C W (.Subscript a b pos) (tOp r ta tb) (mBin g ma mb) :=
  ⟨pe_ix hr ha.pe hb.pe hs, fun M0 ad σ H env Q R w => bin_sn ho ha hb R w⟩
end

/-! ### arithmetic -/
section
variable {K : PySem.W.Frag}
theorem Ro.int_inv {H : Hp} {M : Addr → Prop} {i : Int} {v : V} (h : Ro K H M (.int i) v) : v = .int i := by cases h; rfl
theorem Ro.bl_inv {H : Hp} {M : Addr → Prop} {i : Bool} {v : V} (h : Ro K H M (.bl i) v) : v = .bl i := by cases h; rfl
theorem Ro.str_inv {H : Hp} {M : Addr → Prop} {i : Str} {v : V} (h : Ro K H M (.str i) v) : v = .str i := by cases h; rfl
theorem Ro.non_inv {H : Hp} {M : Addr → Prop} {v : V} (h : Ro K H M .non v) : v = .non := by cases h; rfl
theorem Ro.lst_inv {H : Hp} {M : Addr → Prop} {ds : List D} {v : V} (h : Ro K H M (.lst ds) v) : ∃ a vs, v = .ref a ∧ H a = some (.lst vs) ∧ ds.length ≤ sizeLine ∧ RpL K H M ds vs := by cases h; exact ⟨_, _, rfl, by assumption, by assumption, by assumption⟩
theorem Ro.tup_inv {H : Hp} {M : Addr → Prop} {ds : List D} {v : V} (h : Ro K H M (.tup ds) v) : ∃ a vs, v = .ref a ∧ SqT K H a vs ∧ ds.length ≤ sizeLine ∧ RpL K H M ds vs := by cases h; exact ⟨_, _, rfl, by assumption, by assumption, by assumption⟩
theorem Ro.dic_inv {H : Hp} {M : Addr → Prop} {ds : List (Key × D)} {v : V} (h : Ro K H M (.dic ds) v) : ∃ a vs, v = .ref a ∧ H a = some (.dK vs) ∧ ds.length ≤ sizeLine ∧ RpK K H M ds vs := by cases h; exact ⟨_, _, rfl, by assumption, by assumption, by assumption⟩

def addI (x y : D) : Res D := match x, y with
  | .int i, .int j => .ok (.int (i + j))
  | _, _ => .bad
def catL (x y : D) : Res D := match x, y with
  | .lst a, .lst b => if a.length + b.length ≤ sizeLine then .ok (.lst (a ++ b)) else .bad
  | _, _ => .bad
def addD (x y : D) : Res D := match x, y with
  | .int i, .int j => .ok (.int (i + j))
  | .str a, .str b => if a.length + b.length ≤ sizeLine then .ok (.str (a ++ b)) else .bad
  | .lst a, .lst b => if a.length + b.length ≤ sizeLine then .ok (.lst (a ++ b)) else .bad
  | .tup a, .tup b => if a.length + b.length ≤ sizeLine then .ok (.tup (a ++ b)) else .bad
  | _, _ => .bad
theorem os_catL : OpF K rCat catL := by
  intro H M x y dx dy Q tk rx ry w
  cases dx with
  | lst a =>
    cases dy with
    | lst b =>
      obtain ⟨p, vs, rfl, h1, z1, q1⟩ := rx.lst_inv
      obtain ⟨q, ws, rfl, h2, z2, q2⟩ := ry.lst_inv
      simp only [catL] at w
      split at w
      · rename_i hz
        refine ⟨p, q, vs, ws, rfl, rfl, h1, h2, by rw [q1.len, q2.len]; exact hz, fun o hn => w o _ hn (same_new hn) (cell_new (q1.append q2) hn (by rw [List.length_append]; exact hz))⟩
      · exact w.elim
    | _ => exact w.elim
  | _ => exact w.elim
def rAddA (K : PySem.W.Frag) : R2 := fun x y H Q => (rI0 fun i j => .int (i + j)) x y H Q ∨ (fun x y H Q => ∃ i j, x = .str i ∧ y = .str j ∧ i.length + j.length ≤ sizeLine ∧ Q (.str (i ++ j)) H : R2) x y H Q ∨ rCat x y H Q ∨ rCatA K x y H Q
theorem or_addA {X : Cx} : OpR X (binaryOp .Add) (rAddA X.K) := op_add.or (op_add_str.or (op_cat.or op_catA))
theorem os_addA : OpS K (rAddA K) addD := by
  intro H M x y dx dy Q tk rx ry w
  cases dx with
  | int i =>
    cases dy with
    | int j => rw [rx.int_inv, ry.int_inv]; exact .inl ⟨i, j, rfl, rfl, w _ _ (.refl _) (.int _)⟩
    | _ => exact w.elim
  | str i =>
    cases dy with
    | str j =>
      rw [rx.str_inv, ry.str_inv]
      simp only [addD] at w
      split at w
      · rename_i hz
        exact .inr (.inl ⟨i, j, rfl, rfl, hz, w _ _ (.refl _) (.str _)⟩)
      · exact w.elim
    | _ => exact w.elim
  | lst i =>
    cases dy with
    | lst j =>
      refine .inr (.inr (.inl (os_catL.toS H M x y _ _ Q tk rx ry ?_)))
      exact w
    | _ => exact w.elim
  | tup i =>
    cases dy with
    | tup j =>
      obtain ⟨p, vs, rfl, h1, z1, q1⟩ := rx.tup_inv
      obtain ⟨q, ws, rfl, h2, z2, q2⟩ := ry.tup_inv
      simp only [addD] at w
      split at w
      · rename_i hz
        refine .inr (.inr (.inr ⟨p, q, vs, ws, rfl, rfl, h1, h2, by rw [q1.len, q2.len]; exact hz, fun e => ?_, fun _ e => ?_, fun _ _ o hn => w _ _ (same_new hn) (.tup' (.of upd_same) (by rw [List.length_append]; exact hz) ((q1.append q2).same (same_new hn)))⟩))
        · subst e
          have e2 : i = [] := List.length_eq_zero_iff.mp q1.len.symm
          subst e2
          exact w _ _ (.refl _) (.tup' h2 z2 q2)
        · subst e
          have e2 : j = [] := List.length_eq_zero_iff.mp q2.len.symm
          subst e2
          rw [List.append_nil] at w
          exact w _ _ (.refl _) (.tup' h1 z1 q1)
      · exact w.elim
    | _ => exact w.elim
  | _ => exact w.elim
def subD (x y : D) : Res D := match x, y with
  | .int i, .int j => .ok (.int (i - j))
  | _, _ => .bad
def mulD (x y : D) : Res D := match x, y with
  | .int i, .int j => if i.natAbs.log2 + j.natAbs.log2 < 1000000 then .ok (.int (i * j)) else .bad
  | _, _ => .bad
def divD (x y : D) : Res D := match x, y with
  | .int i, .int j => if 0 < j ∧ j.natAbs.log2 < 9000 then .ok (.int (i / j)) else .bad
  | _, _ => .bad
def modD (x y : D) : Res D := match x, y with
  | .int i, .int j => if 0 < j then .ok (.int (i % j)) else .bad
  | _, _ => .bad
def powD (x y : D) : Res D := match x, y with
  | .int i, .int j => if 0 ≤ j ∧ j ≤ 1000000 ∧ i.natAbs < 2 ^ 64 then .ok (.int (i ^ j.toNat)) else .bad
  | _, _ => .bad
theorem os_I {C : Int → Int → Prop} [∀ i j, Decidable (C i j)] {g : Int → Int → Int} : OpS K (rI C fun i j => .int (g i j)) (fun x y => match x, y with | .int i, .int j => if C i j then .ok (.int (g i j)) else .bad | _, _ => .bad) := by
  intro H M x y dx dy Q tk rx ry w
  cases dx with
  | int i =>
    cases dy with
    | int j =>
      rw [rx.int_inv, ry.int_inv]
      by_cases c : C i j
      · simp only [if_pos c] at w
        exact ⟨i, j, rfl, rfl, c, w _ _ (.refl _) (.int _)⟩
      · simp only [if_neg c] at w
        exact w.elim
    | _ => exact w.elim
  | _ => exact w.elim
theorem os_sub : OpS K (rI0 fun i j => .int (i - j)) subD := by
  intro H M x y dx dy Q tk rx ry w
  cases dx with
  | int i =>
    cases dy with
    | int j => rw [rx.int_inv, ry.int_inv]; exact ⟨i, j, rfl, rfl, w _ _ (.refl _) (.int _)⟩
    | _ => exact w.elim
  | _ => exact w.elim
theorem os_mul : OpS K (rI CMulW fun i j => .int (i * j)) mulD := by
  have := os_I (K := K) (C := fun i j => i.natAbs.log2 + j.natAbs.log2 < 1000000) (g := fun i j => i * j)
  intro H M x y dx dy Q tk rx ry w
  obtain ⟨i, j, e1, e2, c, q⟩ := this H M x y dx dy Q tk rx ry (by cases dx <;> cases dy <;> exact w)
  exact ⟨i, j, e1, e2, c, q⟩
theorem os_div : OpS K (rI CDivW fun i j => .int (i / j)) divD := by
  have := os_I (K := K) (C := fun i j => 0 < j ∧ j.natAbs.log2 < 9000) (g := fun i j => i / j)
  intro H M x y dx dy Q tk rx ry w
  obtain ⟨i, j, e1, e2, c, q⟩ := this H M x y dx dy Q tk rx ry (by cases dx <;> cases dy <;> exact w)
  exact ⟨i, j, e1, e2, c, q⟩
theorem os_mod : OpS K (rI (fun _ j => 0 < j) fun i j => .int (i % j)) modD := by
  have := os_I (K := K) (C := fun i j => 0 < j) (g := fun i j => i % j)
  intro H M x y dx dy Q tk rx ry w
  obtain ⟨i, j, e1, e2, c, q⟩ := this H M x y dx dy Q tk rx ry (by cases dx <;> cases dy <;> exact w)
  exact ⟨i, j, e1, e2, c, q⟩
theorem os_pow : OpS K (rI CPow fun i j => .int (i ^ j.toNat)) powD := by
  have := os_I (K := K) (C := fun i j => 0 ≤ j ∧ j ≤ 1000000 ∧ i.natAbs < 2 ^ 64) (g := fun i j => i ^ j.toNat)
  intro H M x y dx dy Q tk rx ry w
  obtain ⟨i, j, e1, e2, c, q⟩ := this H M x y dx dy Q tk rx ry (by cases dx <;> cases dy <;> exact w)
  exact ⟨i, j, e1, e2, c, q⟩

/-! ### comparisons -/
def cmpD (p : Int → Int → Bool) (x y : D) : Res D := match x, y with
  | .int i, .int j => .ok (.bl (p i j))
  | _, _ => .bad
abbrev ltD := cmpD fun i j => decide (i < j)
abbrev leD := cmpD fun i j => decide (i ≤ j)
abbrev gtD := cmpD fun i j => decide (j < i)
abbrev geD := cmpD fun i j => decide (j ≤ i)
theorem os_cmp {p : Int → Int → Bool} : OpS K (rI0 fun i j => .bl (p i j)) (cmpD p) := by
  intro H M x y dx dy Q tk rx ry w
  cases dx with
  | int i =>
    cases dy with
    | int j => rw [rx.int_inv, ry.int_inv]; exact ⟨i, j, rfl, rfl, w _ _ (.refl _) (.bl _)⟩
    | _ => exact w.elim
  | _ => exact w.elim
/-- is None, is not None, is True .. (the right side a written one) -/
def isD (x y : D) : Res D := match x, y with
  | x, .non => (match x with
    | .non => .ok (.bl true)
    | .own _ => .bad
    | _ => .ok (.bl false))
  | .bl a, .bl b => .ok (.bl (decide (a = b)))
  | _, _ => .bad
def isntD (x y : D) : Res D := match x, y with
  | x, .non => (match x with
    | .non => .ok (.bl false)
    | .own _ => .bad
    | _ => .ok (.bl true))
  | .bl a, .bl b => .ok (.bl (!decide (a = b)))
  | _, _ => .bad
def rIsA : R2 := fun x y H Q => (fun x y H Q => y = .non ∧ Q (.bl (decide (x = .non))) H : R2) x y H Q ∨ rIsB x y H Q
def rIsntA : R2 := fun x y H Q => (fun x y H Q => y = .non ∧ Q (.bl (!decide (x = .non))) H : R2) x y H Q ∨ rNotB x y H Q
theorem or_isA {X : Cx} : OpR X (compareOp .Is) rIsA := op_isN.or op_isBl
theorem or_isntA {X : Cx} : OpR X (compareOp .IsNot) rIsntA := op_notN.or op_notBl
theorem os_isA : OpS K rIsA isD := by
  intro H M x y dx dy Q tk rx ry w
  cases dy with
  | non =>
    rw [ry.non_inv]
    refine .inl ⟨rfl, ?_⟩
    cases rx <;> exact w _ _ (.refl _) (.bl _)
  | bl b =>
    cases dx with
    | bl a => rw [rx.bl_inv, ry.bl_inv]; exact .inr ⟨a, b, rfl, rfl, w _ _ (.refl _) (.bl _)⟩
    | _ => exact w.elim
  | _ => cases dx <;> exact w.elim
theorem os_isntA : OpS K rIsntA isntD := by
  intro H M x y dx dy Q tk rx ry w
  cases dy with
  | non =>
    rw [ry.non_inv]
    refine .inl ⟨rfl, ?_⟩
    cases rx <;> exact w _ _ (.refl _) (.bl _)
  | bl b =>
    cases dx with
    | bl a => rw [rx.bl_inv, ry.bl_inv]; exact .inr ⟨a, b, rfl, rfl, w _ _ (.refl _) (.bl _)⟩
    | _ => exact w.elim
  | _ => cases dx <;> exact w.elim

/-! ### == -/
mutual
def D.py : D → PyData
  | .non => .none
  | .bl b => .bool b
  | .int i => .int i
  | .str x => .str x
  | .tup xs => .tuple (D.pyL xs)
  | .lst xs => .list (D.pyL xs)
  | .dic _ => .dict []
  | .own _ => .dict []
  | .scr ns => .list (ns.map PyData.int)
def D.pyL : List D → List PyData
  | [] => []
  | x :: xs => x.py :: D.pyL xs
end
theorem canLay_cons {x : PyData} {xs : List PyData} : PyData.canLayAll0 (x :: xs) = (x.canLay0 && PyData.canLayAll0 xs) := by simp only [PyData.canLayAll0]
theorem dpAll_of {H : Hp} : ∀ {ds : List D} {vs : List V}, vs.length = ds.length → (∀ (i : Nat) (d : D) (v : V), ds[i]? = some d → vs[i]? = some v → d.py.canLay0 = true → Dp K H v d.py) → PyData.canLayAll0 (D.pyL ds) = true → DpAll K H vs (D.pyL ds)
  | [], vs, hl, h, c => by rw [List.length_eq_zero_iff.mp hl]; exact .nil
  | d :: ds, [], hl, h, c => by simp at hl
  | d :: ds, v :: vs, hl, h, c => by
    have c' : (d.py.canLay0 && PyData.canLayAll0 (D.pyL ds)) = true := by rw [← canLay_cons]; exact c
    rw [Bool.and_eq_true] at c'
    exact .cons (h 0 d v rfl rfl c'.1) (dpAll_of (by simpa using hl) (fun i e u h1 h2 => h (i + 1) e u (by simpa using h1) (by simpa using h2)) c'.2)
theorem scr_dp {H : Hp} {a : Addr} {ns : List Int} (h : ScrAt K H a (ns.map V.int)) : Dp K H (.ref a) (.list (ns.map PyData.int)) := by
  refine .lst h.sq ?_
  clear h
  induction ns with
  | nil => exact .nil
  | cons n ns ih => exact .cons (.int n) ih
theorem Rp.dp {H : Hp} {M : Addr → Prop} {d : D} {v : V} (h : Rp K H M d v) : d.py.canLay0 = true → Dp K H v d.py := by
  induction h with
  | non => exact fun _ => .non
  | bl b => exact fun _ => .bl b
  | int i => exact fun _ => .int i
  | str y => exact fun _ => .str y
  | tup h hl hz _ ih => exact fun c => .tup h (dpAll_of hl ih (by simpa only [D.py, PyData.canLay0] using c))
  | lst h hm hl hz _ ih => exact fun c => .lst (.of h) (dpAll_of hl ih (by simpa only [D.py, PyData.canLay0] using c))
  | scr h hz => exact fun _ => scr_dp h
  | dic h hm hl hz hk _ ih => exact fun c => by simp only [D.py, PyData.canLay0] at c; cases c
theorem Ro.dp {H : Hp} {M : Addr → Prop} {d : D} {v : V} (h : Ro K H M d v) (c : d.py.canLay0 = true) : Dp K H v d.py := by
  cases h with
  | non => exact .non
  | bl b => exact .bl b
  | int i => exact .int i
  | str y => exact .str y
  | tup h hz r => exact .tup h (dpAll_of r.len (fun i d v e f => (r.item i d v e f).dp) (by simpa only [D.py, PyData.canLay0] using c))
  | lst h hz r => exact .lst (.of h) (dpAll_of r.len (fun i d v e f => (r.item i d v e f).dp) (by simpa only [D.py, PyData.canLay0] using c))
  | scr h hz => exact scr_dp h
  | dic h hz r => simp only [D.py, PyData.canLay0] at c; cases c
def eqD (x y : D) : Res D := match x, y with
  | .int i, .int j => .ok (.bl (decide (i = j)))
  | .str i, .str j => .ok (.bl (decide (i = j)))
  | x, y => if SeqAt.shaped x.py = true ∧ SeqAt.shaped y.py = true then .ok (.bl (PyData.eqv x.py y.py)) else .bad
def neD (x y : D) : Res D := match x, y with
  | .int i, .int j => .ok (.bl (!decide (i = j)))
  | .str i, .str j => .ok (.bl (!decide (i = j)))
  | x, y => if SeqAt.shaped x.py = true ∧ SeqAt.shaped y.py = true then .ok (.bl (!PyData.eqv x.py y.py)) else .bad
def rEqA (K : PySem.W.Frag) : R2 := fun x y H Q => rEq x y H Q ∨ rEqD K x y H Q
def rNeA (K : PySem.W.Frag) : R2 := fun x y H Q => rNe x y H Q ∨ rNeD K x y H Q
theorem or_eqA {X : Cx} {k : Nat} (hr : Room k X.A) : OpR X (compareOp .Eq) (rEqA X.K) := op_eq.or (op_eqD hr.units)
theorem or_neA {X : Cx} {k : Nat} (hr : Room k X.A) : OpR X (compareOp .NotEq) (rNeA X.K) := op_ne.or (op_neD hr.units)
theorem os_eqA : OpS K (rEqA K) eqD := by
  intro H M x y dx dy Q tk rx ry w
  have gen : (if SeqAt.shaped dx.py = true ∧ SeqAt.shaped dy.py = true then Res.ok (D.bl (PyData.eqv dx.py dy.py)) else .bad).Wp (fun d => ∀ v H', Same H H' → Rp K H' M d v → Q v H') (fun _ => False) → rEqA K x y H Q := by
    intro w
    split at w
    · rename_i hc
      exact .inr ⟨_, _, rx.dp (SeqAt.canLay_of_shaped hc.1), ry.dp (SeqAt.canLay_of_shaped hc.2), hc.1, hc.2, w _ _ (.refl _) (.bl _)⟩
    · exact w.elim
  cases dx with
  | int i =>
    cases dy with
    | int j =>
      rw [rx.int_inv, ry.int_inv]
      refine .inl ⟨rfl, ?_⟩
      rw [dec_int, Bool.beq_eq_decide_eq]
      exact w _ _ (.refl _) (.bl _)
    | _ => exact gen w
  | str i =>
    cases dy with
    | str j =>
      rw [rx.str_inv, ry.str_inv]
      refine .inl ⟨rfl, ?_⟩
      rw [dec_str, Bool.beq_eq_decide_eq]
      exact w _ _ (.refl _) (.bl _)
    | _ => exact gen w
  | _ => exact gen (by cases dy <;> exact w)
theorem os_neA : OpS K (rNeA K) neD := by
  intro H M x y dx dy Q tk rx ry w
  have gen : (if SeqAt.shaped dx.py = true ∧ SeqAt.shaped dy.py = true then Res.ok (D.bl (!PyData.eqv dx.py dy.py)) else .bad).Wp (fun d => ∀ v H', Same H H' → Rp K H' M d v → Q v H') (fun _ => False) → rNeA K x y H Q := by
    intro w
    split at w
    · rename_i hc
      exact .inr ⟨_, _, rx.dp (SeqAt.canLay_of_shaped hc.1), ry.dp (SeqAt.canLay_of_shaped hc.2), hc.1, hc.2, w _ _ (.refl _) (.bl _)⟩
    · exact w.elim
  cases dx with
  | int i =>
    cases dy with
    | int j =>
      rw [rx.int_inv, ry.int_inv]
      refine .inl ⟨rfl, ?_⟩
      rw [dec_int, Bool.beq_eq_decide_eq]
      exact w _ _ (.refl _) (.bl _)
    | _ => exact gen w
  | str i =>
    cases dy with
    | str j =>
      rw [rx.str_inv, ry.str_inv]
      refine .inl ⟨rfl, ?_⟩
      rw [dec_str, Bool.beq_eq_decide_eq]
      exact w _ _ (.refl _) (.bl _)
    | _ => exact gen w
  | _ => exact gen (by cases dy <;> exact w)

/-! ### a[i] -/
theorem RpL.atI {H : Hp} {M : Addr → Prop} {ds : List D} {vs : List V} (r : RpL K H M ds vs) {i : Int} {d : D} (h : L2.atI ds i = some d) : ∃ v, L2.atI vs i = some v ∧ Rp K H M d v := by
  unfold L2.atI at h ⊢
  rw [r.len]
  cases e : ixN ds.length i with
  | none => rw [e] at h; cases h
  | some j =>
    rw [e] at h
    exact r.at1 h
def ixD (x y : D) : Res D := match x, y with
  | .lst xs, .int i => (match L2.atI xs i with | some d => .ok d | none => .bad)
  | .tup xs, .int i => (match L2.atI xs i with | some d => .ok d | none => .bad)
  | .str x, .int i => if x.length ≤ sizeLine then (match L2.atI x.cps.toList i with | some c => .ok (.str ⟨#[c]⟩) | none => .bad) else .bad
  | _, _ => .bad
theorem os_ix : OpS K (rIx K) ixD := by
  intro H M x y dx dy Q tk rx ry w
  cases dy with
  | int i =>
    rw [ry.int_inv]
    cases dx with
    | lst xs =>
      obtain ⟨p, vs, rfl, h1, z1, q1⟩ := rx.lst_inv
      simp only [ixD] at w
      cases e : L2.atI xs i with
      | none => rw [e] at w; exact w.elim
      | some d =>
        rw [e] at w
        obtain ⟨v, e2, r⟩ := q1.atI e
        exact .inl ⟨p, vs, i, v, rfl, rfl, .of h1, e2, w _ _ (.refl _) r⟩
    | tup xs =>
      obtain ⟨p, vs, rfl, h1, z1, q1⟩ := rx.tup_inv
      simp only [ixD] at w
      cases e : L2.atI xs i with
      | none => rw [e] at w; exact w.elim
      | some d =>
        rw [e] at w
        obtain ⟨v, e2, r⟩ := q1.atI e
        exact .inr (.inl ⟨p, vs, i, v, rfl, rfl, h1, e2, w _ _ (.refl _) r⟩)
    | str x =>
      rw [rx.str_inv]
      simp only [ixD] at w
      split at w
      · rename_i hz
        cases e : L2.atI x.cps.toList i with
        | none => rw [e] at w; exact w.elim
        | some c =>
          rw [e] at w
          exact .inr (.inr ⟨x, i, c, rfl, rfl, hz, e, w _ _ (.refl _) (.str _)⟩)
      · exact w.elim
    | _ => exact w.elim
  | _ => cases dx <;> exact w.elim
end
end Vm
end
section
set_option maxHeartbeats 4000000
/-! Vm, part E: built-ins by name, slices. -/
namespace Vm
open PySem PySem.Spec PyProof.Rows L2

section
variable {K : PySem.W.Frag}
def one (g : D → Res D) (ds : List D) : Res D := match ds with
  | [x] => g x
  | _ => .bad
def two (g : D → D → Res D) (ds : List D) : Res D := match ds with
  | [x, y] => g x y
  | _ => .bad
/-! ### len -/
def lenD (x : D) : Res D := match x with
  | .lst xs => .ok (.int xs.length)
  | .tup xs => .ok (.int xs.length)
  | .str x => if x.length ≤ sizeLine then .ok (.int x.length) else .bad
  | .dic xs => .ok (.int xs.length)
  | .scr ns => .ok (.int ns.length)
  | _ => .bad
def rLenA (K : PySem.W.Frag) : List V → Hp → VK → Prop := fun xs H Q => (fun xs H Q => ∃ x n, xs = [x] ∧ LenV K x H n ∧ Q (.int n) H : List V → Hp → VK → Prop) xs H Q ∨ (fun xs H Q => ∃ a kvs, xs = [V.ref a] ∧ H a = some (.dK kvs) ∧ Q (.int kvs.length) H : List V → Hp → VK → Prop) xs H Q
theorem cr_lenA {X : Cx} : CallR X (.builtin "len") (rLenA X.K) := call_len.or call_lenD
theorem cs_len : CallS K (rLenA K) (one lenD) := by
  intro H M vs ds Q tk r w
  match ds, r, w with
  | [d], r, w =>
    obtain ⟨v, rfl, rv⟩ := r.one
    cases d with
    | lst xs =>
      obtain ⟨a, us, rfl, h, z, q⟩ := rv.lst_inv
      exact .inl ⟨_, us.length, rfl, .inl ⟨us, .of h, rfl⟩, by rw [q.len]; exact w _ _ (.refl _) (.int _)⟩
    | tup xs =>
      obtain ⟨a, us, rfl, h, z, q⟩ := rv.tup_inv
      exact .inl ⟨_, us.length, rfl, .inr ⟨us, h, rfl⟩, by rw [q.len]; exact w _ _ (.refl _) (.int _)⟩
    | str x =>
      rw [rv.str_inv]
      simp only [one, lenD] at w
      split at w
      · rename_i hz
        exact .inl ⟨_, x.length, rfl, ⟨hz, rfl⟩, w _ _ (.refl _) (.int _)⟩
      · exact w.elim
    | dic xs =>
      obtain ⟨a, us, rfl, h, z, q⟩ := rv.dic_inv
      exact .inr ⟨a, us, rfl, h, by rw [q.len]; exact w _ _ (.refl _) (.int _)⟩
    | scr ns =>
      cases rv with
      | scr h hz => exact .inl ⟨_, (ns.map V.int).length, rfl, .inl ⟨_, h.sq, rfl⟩, by rw [List.length_map]; exact w _ _ (.refl _) (.int _)⟩
    | _ => exact w.elim
  | [], _, w => exact w.elim
  | _ :: _ :: _, _, w => exact w.elim

/-! ### max, min, abs, int, repr, str -/
def maxD (x y : D) : Res D := match x, y with
  | .int i, .int j => .ok (.int (if j > i then j else i))
  | _, _ => .bad
def minD (x y : D) : Res D := match x, y with
  | .int i, .int j => .ok (.int (if j < i then j else i))
  | _, _ => .bad
theorem cs_max2 : CallS K (fun xs H Q => ∃ i j, xs = [.int i, .int j] ∧ Q (.int (if j > i then j else i)) H) (two maxD) := by
  intro H M vs ds Q tk r w
  match ds, r, w with
  | [d, e], r, w =>
    obtain ⟨v, u, rfl, rv, ru⟩ := r.two
    cases d with
    | int i =>
      cases e with
      | int j => rw [rv.int_inv, ru.int_inv]; exact ⟨i, j, rfl, w _ _ (.refl _) (.int _)⟩
      | _ => exact w.elim
    | _ => exact w.elim
  | [], _, w => exact w.elim
  | [_], _, w => exact w.elim
  | _ :: _ :: _ :: _, _, w => exact w.elim
theorem cs_min2 : CallS K (fun xs H Q => ∃ i j, xs = [.int i, .int j] ∧ Q (.int (if j < i then j else i)) H) (two minD) := by
  intro H M vs ds Q tk r w
  match ds, r, w with
  | [d, e], r, w =>
    obtain ⟨v, u, rfl, rv, ru⟩ := r.two
    cases d with
    | int i =>
      cases e with
      | int j => rw [rv.int_inv, ru.int_inv]; exact ⟨i, j, rfl, w _ _ (.refl _) (.int _)⟩
      | _ => exact w.elim
    | _ => exact w.elim
  | [], _, w => exact w.elim
  | [_], _, w => exact w.elim
  | _ :: _ :: _ :: _, _, w => exact w.elim
def intD (x : D) : Res D := match x with
  | .int i => .ok (.int i)
  | .bl k => .ok (.int (if k then 1 else 0))
  | _ => .bad
theorem cs_int : CallS K (fun xs H Q => (∃ i, xs = [.int i] ∧ Q (.int i) H) ∨ ∃ k, xs = [.bl k] ∧ Q (.int (if k then 1 else 0)) H) (one intD) := by
  intro H M vs ds Q tk r w
  match ds, r, w with
  | [d], r, w =>
    obtain ⟨v, rfl, rv⟩ := r.one
    cases d with
    | int i => rw [rv.int_inv]; exact .inl ⟨i, rfl, w _ _ (.refl _) (.int _)⟩
    | bl k => rw [rv.bl_inv]; exact .inr ⟨k, rfl, w _ _ (.refl _) (.int _)⟩
    | _ => exact w.elim
  | [], _, w => exact w.elim
  | _ :: _ :: _, _, w => exact w.elim
def absD (x : D) : Res D := match x with
  | .int i => .ok (.int (if i < 0 then -i else i))
  | _ => .bad
theorem cs_abs : CallS K (fun xs H Q => ∃ i, xs = [.int i] ∧ Q (.int (if i < 0 then -i else i)) H) (one absD) := by
  intro H M vs ds Q tk r w
  match ds, r, w with
  | [d], r, w =>
    obtain ⟨v, rfl, rv⟩ := r.one
    cases d with
    | int i => rw [rv.int_inv]; exact ⟨i, rfl, w _ _ (.refl _) (.int _)⟩
    | _ => exact w.elim
  | [], _, w => exact w.elim
  | _ :: _ :: _, _, w => exact w.elim
/-- str, repr of intsD -/
def strI (x : D) : Res D := match x with
  | .int i => if i.natAbs.log2 < 1920 then .ok (.str (toString i)) else .bad
  | _ => .bad
theorem cs_strI : CallS K (fun xs H Q => ∃ i, xs = [.int i] ∧ i.natAbs.log2 < 1920 ∧ Q (.str (toString i)) H) (one strI) := by
  intro H M vs ds Q tk r w
  match ds, r, w with
  | [d], r, w =>
    obtain ⟨v, rfl, rv⟩ := r.one
    cases d with
    | int i =>
      rw [rv.int_inv]
      simp only [one, strI] at w
      split at w
      · rename_i hz
        exact ⟨i, rfl, hz, w _ _ (.refl _) (.str _)⟩
      · exact w.elim
    | _ => exact w.elim
  | [], _, w => exact w.elim
  | _ :: _ :: _, _, w => exact w.elim

/-! ### sum, all, any, max, min, sorted of lists -/
def intsD : List D → Option (List Int)
  | [] => some []
  | .int i :: ds => (intsD ds).map (i :: ·)
  | _ => none
def blsD : List D → Option (List Bool)
  | [] => some []
  | .bl i :: ds => (blsD ds).map (i :: ·)
  | _ => none
theorem ints_eq : ∀ {ds : List D} {ns : List Int}, intsD ds = some ns → ds = ns.map D.int
  | [], ns, h => by cases h; rfl
  | .int i :: ds, ns, h => by
    simp only [intsD] at h
    cases q : intsD ds with
    | none => rw [q] at h; cases h
    | some ms => rw [q] at h; cases h; rw [ints_eq q]; rfl
theorem bls_eq : ∀ {ds : List D} {ns : List Bool}, blsD ds = some ns → ds = ns.map D.bl
  | [], ns, h => by cases h; rfl
  | .bl i :: ds, ns, h => by
    simp only [blsD] at h
    cases q : blsD ds with
    | none => rw [q] at h; cases h
    | some ms => rw [q] at h; cases h; rw [bls_eq q]; rfl
theorem ints_map : ∀ ns : List Int, intsD (ns.map D.int) = some ns
  | [] => rfl
  | n :: ns => by simp only [List.map_cons, intsD, ints_map ns]; rfl
theorem bls_map : ∀ ns : List Bool, blsD (ns.map D.bl) = some ns
  | [] => rfl
  | n :: ns => by simp only [List.map_cons, blsD, bls_map ns]; rfl
def onI (g : List Int → Res D) (x : D) : Res D := match x with
  | .lst ds => (match intsD ds with | some ns => g ns | none => .bad)
  | _ => .bad
def onB (g : List Bool → Res D) (x : D) : Res D := match x with
  | .lst ds => (match blsD ds with | some ns => g ns | none => .bad)
  | _ => .bad
theorem onI_inv {g : List Int → Res D} {x : D} {P : D → Prop} {E : Str → Prop} (w : (onI g x).Wp P E) : ∃ ns : List Int, x = .lst (ns.map D.int) ∧ (g ns).Wp P E := by
  cases x with
  | lst ds =>
    simp only [onI] at w
    cases q : intsD ds with
    | none => rw [q] at w; exact w.elim
    | some ns => rw [q] at w; exact ⟨ns, by rw [ints_eq q], w⟩
  | _ => exact w.elim
theorem onB_inv {g : List Bool → Res D} {x : D} {P : D → Prop} {E : Str → Prop} (w : (onB g x).Wp P E) : ∃ ns : List Bool, x = .lst (ns.map D.bl) ∧ (g ns).Wp P E := by
  cases x with
  | lst ds =>
    simp only [onB] at w
    cases q : blsD ds with
    | none => rw [q] at w; exact w.elim
    | some ns => rw [q] at w; exact ⟨ns, by rw [bls_eq q], w⟩
  | _ => exact w.elim
theorem one_inv {g : D → Res D} {ds : List D} {P : D → Prop} {E : Str → Prop} (w : (one g ds).Wp P E) : ∃ d, ds = [d] ∧ (g d).Wp P E := by
  match ds, w with
  | [d], w => exact ⟨d, rfl, w⟩
  | [], w => exact w.elim
  | _ :: _ :: _, w => exact w.elim
theorem cs_sum : CallS K (rSum K) (one (onI fun ns => .ok (.int ns.sum))) := by
  intro H M vs ds Q tk r w
  obtain ⟨d, rfl, w1⟩ := one_inv w
  obtain ⟨v, rfl, rv⟩ := r.one
  obtain ⟨ns, rfl, w2⟩ := onI_inv w1
  obtain ⟨a, us, rfl, h, z, q⟩ := rv.lst_inv
  rw [q.ints] at h
  exact ⟨a, ns, rfl, .of h, w2 _ _ (.refl _) (.int _)⟩
theorem cs_all : CallS K (rAll K) (one (onB fun ns => .ok (.bl (ns.all id)))) := by
  intro H M vs ds Q tk r w
  obtain ⟨d, rfl, w1⟩ := one_inv w
  obtain ⟨v, rfl, rv⟩ := r.one
  obtain ⟨ns, rfl, w2⟩ := onB_inv w1
  obtain ⟨a, us, rfl, h, z, q⟩ := rv.lst_inv
  rw [q.bls] at h
  exact ⟨a, ns, rfl, .of h, w2 _ _ (.refl _) (.bl _)⟩
theorem cs_any : CallS K (rAny K) (one (onB fun ns => .ok (.bl (ns.any id)))) := by
  intro H M vs ds Q tk r w
  obtain ⟨d, rfl, w1⟩ := one_inv w
  obtain ⟨v, rfl, rv⟩ := r.one
  obtain ⟨ns, rfl, w2⟩ := onB_inv w1
  obtain ⟨a, us, rfl, h, z, q⟩ := rv.lst_inv
  rw [q.bls] at h
  exact ⟨a, ns, rfl, .of h, w2 _ _ (.refl _) (.bl _)⟩
def maxL : List Int → Res D
  | [] => .bad
  | n :: ns => .ok (.int (ns.foldl max n))
def minL : List Int → Res D
  | [] => .bad
  | n :: ns => .ok (.int (ns.foldl min n))
theorem foldl_max : ∀ (ns : List Int) (n : Int), (ns.foldl max n = n ∨ ns.foldl max n ∈ ns) ∧ n ≤ ns.foldl max n ∧ ∀ y ∈ ns, y ≤ ns.foldl max n
  | [], n => ⟨.inl rfl, Int.le_refl _, fun _ h => by cases h⟩
  | m :: ns, n => by
    obtain ⟨h1, h2, h3⟩ := foldl_max ns (max n m)
    refine ⟨?_, Int.le_trans (Int.le_max_left _ _) h2, fun y hy => ?_⟩
    · show ns.foldl max (max n m) = n ∨ _
      rcases h1 with h1 | h1
      · by_cases c : n ≤ m
        · exact .inr (by rw [List.foldl_cons, h1, Int.max_eq_right c]; exact List.mem_cons_self)
        · exact .inl (by rw [h1]; exact Int.max_eq_left (by omega))
      · exact .inr (List.mem_cons_of_mem _ h1)
    · rcases List.mem_cons.mp hy with e | e
      · rw [e]; exact Int.le_trans (Int.le_max_right _ _) h2
      · exact h3 y e
theorem foldl_min : ∀ (ns : List Int) (n : Int), (ns.foldl min n = n ∨ ns.foldl min n ∈ ns) ∧ ns.foldl min n ≤ n ∧ ∀ y ∈ ns, ns.foldl min n ≤ y
  | [], n => ⟨.inl rfl, Int.le_refl _, fun _ h => by cases h⟩
  | m :: ns, n => by
    obtain ⟨h1, h2, h3⟩ := foldl_min ns (min n m)
    refine ⟨?_, Int.le_trans h2 (Int.min_le_left _ _), fun y hy => ?_⟩
    · show ns.foldl min (min n m) = n ∨ _
      rcases h1 with h1 | h1
      · by_cases c : m ≤ n
        · exact .inr (by rw [List.foldl_cons, h1, Int.min_eq_right c]; exact List.mem_cons_self)
        · exact .inl (by rw [h1]; exact Int.min_eq_left (by omega))
      · exact .inr (List.mem_cons_of_mem _ h1)
    · rcases List.mem_cons.mp hy with e | e
      · rw [e]; exact Int.le_trans h2 (Int.min_le_right _ _)
      · exact h3 y e
theorem cs_maxL : CallS K (rMax K) (one (onI maxL)) := by
  intro H M vs ds Q tk r w
  obtain ⟨d, rfl, w1⟩ := one_inv w
  obtain ⟨v, rfl, rv⟩ := r.one
  obtain ⟨ns, rfl, w2⟩ := onI_inv w1
  obtain ⟨a, us, rfl, h, z, q⟩ := rv.lst_inv
  rw [q.ints] at h
  cases ns with
  | nil => exact w2.elim
  | cons n ns =>
    refine ⟨a, n :: ns, rfl, .of h, by simp, fun m hm hy => ?_⟩
    obtain ⟨h1, h2, h3⟩ := foldl_max ns n
    have e : m = ns.foldl max n := by
      refine Int.le_antisymm ?_ ?_
      · rcases List.mem_cons.mp hm with e | e
        · rw [e]; exact h2
        · exact h3 m e
      · rcases h1 with h1 | h1
        · rw [h1]; exact hy n List.mem_cons_self
        · exact hy _ (List.mem_cons_of_mem _ h1)
    rw [e]
    exact w2 _ _ (.refl _) (.int _)
theorem cs_minL : CallS K (rMin K) (one (onI minL)) := by
  intro H M vs ds Q tk r w
  obtain ⟨d, rfl, w1⟩ := one_inv w
  obtain ⟨v, rfl, rv⟩ := r.one
  obtain ⟨ns, rfl, w2⟩ := onI_inv w1
  obtain ⟨a, us, rfl, h, z, q⟩ := rv.lst_inv
  rw [q.ints] at h
  cases ns with
  | nil => exact w2.elim
  | cons n ns =>
    refine ⟨a, n :: ns, rfl, .of h, by simp, fun m hm hy => ?_⟩
    obtain ⟨h1, h2, h3⟩ := foldl_min ns n
    have e : m = ns.foldl min n := by
      refine Int.le_antisymm ?_ ?_
      · rcases h1 with h1 | h1
        · rw [h1]; exact hy n List.mem_cons_self
        · exact hy _ (List.mem_cons_of_mem _ h1)
      · rcases List.mem_cons.mp hm with e | e
        · rw [e]; exact h2
        · exact h3 m e
    rw [e]
    exact w2 _ _ (.refl _) (.int _)
theorem ksame {a b : List Int} (hp : a.Perm b) (ha : a.Pairwise (· ≤ ·)) (hb : b.Pairwise (· ≤ ·)) : a = b := hp.eq_of_pairwise (fun x y _ _ h1 h2 => Int.le_antisymm h1 h2) ha hb
def sortI (ns : List Int) : List Int := ns.mergeSort fun a b => decide (a ≤ b)
theorem sortI_perm (ns : List Int) : (sortI ns).Perm ns := List.mergeSort_perm _ _
theorem sortI_sorted (ns : List Int) : (sortI ns).Pairwise (· ≤ ·) := by
  have h := List.pairwise_mergeSort (le := fun a b : Int => decide (a ≤ b)) (fun a b c h1 h2 => by simp at *; omega) (fun a b => by simp; omega) ns
  exact h.imp fun h => by simpa using h
theorem cf_sortI : CallF K (rSortedI K) (one (onI fun ns => .ok (.lst ((sortI ns).map D.int)))) := by
  intro H M vs ds Q tk r w
  obtain ⟨d, rfl, w1⟩ := one_inv w
  obtain ⟨v, rfl, rv⟩ := r.one
  obtain ⟨ns, rfl, w2⟩ := onI_inv w1
  obtain ⟨a, us, rfl, h, z, q⟩ := rv.lst_inv
  rw [q.ints] at h
  refine ⟨a, ns, rfl, .of h, fun ns' p hp hs hn => ?_⟩
  have e : ns' = sortI ns := ksame (hp.trans (sortI_perm ns).symm) hs (sortI_sorted ns)
  rw [e]
  refine w2 p _ hn (same_new hn) (cell_new .of_ints hn ?_)
  rw [List.length_map, (sortI_perm ns).length_eq]
  simpa using z
/-- tuple(x), list(x) -/
def tupD (x : D) : Res D := match x with
  | .lst xs => .ok (.tup xs)
  | .tup xs => .ok (.tup xs)
  | _ => .bad
def lstD (x : D) : Res D := match x with
  | .lst xs => .ok (.lst xs)
  | .tup xs => .ok (.lst xs)
  | _ => .bad
theorem cs_tuple : CallS K (fun xs H Q => ∃ p ys, xs = [.ref p] ∧ ((SqL K H p ys ∧ ∀ l, H l = none → Q (.ref l) (upd H l (.tup ys))) ∨ (SqT K H p ys ∧ Q (.ref p) H))) (one tupD) := by
  intro H M vs ds Q tk r w
  obtain ⟨d, rfl, w1⟩ := one_inv w
  obtain ⟨v, rfl, rv⟩ := r.one
  cases d with
  | lst xs =>
    obtain ⟨a, us, rfl, h, z, q⟩ := rv.lst_inv
    exact ⟨a, us, rfl, .inl ⟨.of h, fun l hn => w1 _ _ (same_new hn) (.tup' (.of upd_same) z (q.same (same_new hn)))⟩⟩
  | tup xs =>
    obtain ⟨a, us, rfl, h, z, q⟩ := rv.tup_inv
    exact ⟨a, us, rfl, .inr ⟨h, w1 _ _ (.refl _) (.tup' h z q)⟩⟩
  | _ => exact w1.elim
theorem cf_list : CallF K (fun xs H Q => ∃ p ys, xs = [.ref p] ∧ (SqL K H p ys ∨ SqT K H p ys) ∧ ∀ l, H l = none → Q (.ref l) (upd H l (.lst ys))) (one lstD) := by
  intro H M vs ds Q tk r w
  obtain ⟨d, rfl, w1⟩ := one_inv w
  obtain ⟨v, rfl, rv⟩ := r.one
  cases d with
  | lst xs =>
    obtain ⟨a, us, rfl, h, z, q⟩ := rv.lst_inv
    exact ⟨a, us, rfl, .inl (.of h), fun l hn => w1 _ _ hn (same_new hn) (cell_new q hn z)⟩
  | tup xs =>
    obtain ⟨a, us, rfl, h, z, q⟩ := rv.tup_inv
    exact ⟨a, us, rfl, .inr h, fun l hn => w1 _ _ hn (same_new hn) (cell_new q hn z)⟩
  | _ => exact w1.elim
/-- sorted(d), a dict with int keys -/
def keysI : List (Key × D) → Option (List Int)
  | [] => some []
  | (.inl i, _) :: ds => (keysI ds).map (i :: ·)
  | _ => none
theorem keysI_eq : ∀ {ds : List (Key × D)} {ns : List Int}, keysI ds = some ns → ds.map (·.1) = ns.map Sum.inl
  | [], ns, h => by cases h; rfl
  | (.inl i, _) :: ds, ns, h => by
    simp only [keysI] at h
    cases q : keysI ds with
    | none => rw [q] at h; cases h
    | some ms => rw [q] at h; cases h; rw [List.map_cons, keysI_eq q]; rfl
def sortDI (x : D) : Res D := match x with
  | .dic ds => (match keysI ds with | some ns => if ns.length < 64 then .ok (.lst ((sortI ns).map D.int)) else .bad | none => .bad)
  | _ => .bad
theorem RpK.keys {H : Hp} {M : Addr → Prop} {ds : List (Key × D)} {vs : List (Key × V)} (r : RpK K H M ds vs) : vs.map (·.1) = ds.map (·.1) := by
  refine List.ext_getElem? fun i => ?_
  rw [List.getElem?_map, List.getElem?_map]
  cases e : ds[i]? with
  | none =>
    have : vs[i]? = none := List.getElem?_eq_none_iff.mpr (by rw [r.len]; exact List.getElem?_eq_none_iff.mp e)
    rw [this]; rfl
  | some p =>
    have hi : i < vs.length := by rw [r.len]; exact (List.getElem?_eq_some_iff.mp e).1
    have e2 : vs[i]? = some vs[i] := List.getElem?_eq_getElem hi
    rw [e2]
    exact congrArg some (r.key i p _ e e2)
theorem cf_sortDI : CallF K (fun xs H Q => ∃ (a : Addr) (kvs : List (Key × V)) (ks : List Int), xs = [.ref a] ∧ Rd H a (.dK kvs) ∧ kvs.map (·.1) = ks.map Sum.inl ∧ ks.length < 64 ∧ ∀ (ys : List Int) (p : Addr), ys.Perm ks → ys.Pairwise (· ≤ ·) → H p = none → Q (.ref p) (upd H p (.lst (ys.map V.int)))) (one sortDI) := by
  intro H M vs ds Q tk r w
  obtain ⟨d, rfl, w1⟩ := one_inv w
  obtain ⟨v, rfl, rv⟩ := r.one
  cases d with
  | dic xs =>
    obtain ⟨a, us, rfl, h, z, q⟩ := rv.dic_inv
    simp only [sortDI] at w1
    cases e : keysI xs with
    | none => rw [e] at w1; exact w1.elim
    | some ns =>
      rw [e] at w1
      simp only at w1
      split at w1
      · rename_i hz
        refine ⟨a, us, ns, rfl, .inl h, by rw [q.keys, keysI_eq e], hz, fun ys p hp hs hn => ?_⟩
        have e : ys = sortI ns := ksame (hp.trans (sortI_perm ns).symm) hs (sortI_sorted ns)
        rw [e]
        refine w1 p _ hn (same_new hn) (cell_new .of_ints hn ?_)
        rw [List.length_map, (sortI_perm ns).length_eq]
        exact small64 hz
      · exact w1.elim
  | _ => exact w1.elim
/-- d[k], k in d -/
def dkey (y : D) : Option Key := match y with
  | .int i => some (.inl i)
  | .str x => some (.inr x)
  | _ => none
def valD (ds : List (Key × D)) (k : Key) : Option D := (ds.find? fun kv => decide (kv.1 = k)).map (·.2)
def putD (ds : List (Key × D)) (k : Key) (v : D) : List (Key × D) :=
  if (ds.any fun kv => decide (kv.1 = k)) = true then ds.map (fun kv => if kv.1 = k then (kv.1, v) else kv) else ds ++ [(k, v)]
theorem RpK.nil {H : Hp} {M : Addr → Prop} : RpK K H M [] [] := ⟨rfl, fun i p q e _ => by simp at e, fun i p q e _ => by simp at e⟩
theorem RpK.cons_inv {H : Hp} {M : Addr → Prop} {p : Key × D} {ds : List (Key × D)} {vs : List (Key × V)} (r : RpK K H M (p :: ds) vs) : ∃ v ws, vs = (p.1, v) :: ws ∧ Rp K H M p.2 v ∧ RpK K H M ds ws := by
  cases vs with
  | nil => have := r.len; simp at this
  | cons v ws =>
    have e := r.key 0 p v rfl rfl
    exact ⟨v.2, ws, by rw [← e], r.item 0 p v rfl rfl, by have := r.len; simpa using this, fun i e f h1 h2 => r.key (i + 1) e f (by simpa using h1) (by simpa using h2), fun i e f h1 h2 => r.item (i + 1) e f (by simpa using h1) (by simpa using h2)⟩
theorem RpK.cons {H : Hp} {M : Addr → Prop} {k : Key} {d : D} {v : V} {ds : List (Key × D)} {vs : List (Key × V)} (h : Rp K H M d v) (r : RpK K H M ds vs) : RpK K H M ((k, d) :: ds) ((k, v) :: vs) := by
  refine ⟨by simp [r.len], fun i e f h1 h2 => ?_, fun i e f h1 h2 => ?_⟩
  · cases i with
    | zero => simp at h1 h2; subst h1 h2; rfl
    | succ i => exact r.key i e f (by simpa using h1) (by simpa using h2)
  · cases i with
    | zero => simp at h1 h2; subst h1 h2; exact h
    | succ i => exact r.item i e f (by simpa using h1) (by simpa using h2)
theorem RpK.val {H : Hp} {M : Addr → Prop} {k : Key} : ∀ {ds : List (Key × D)} {vs : List (Key × V)}, RpK K H M ds vs → (∀ d, valD ds k = some d → ∃ v, valV vs k = some v ∧ Rp K H M d v) ∧ (valD ds k = none → valV vs k = none)
  | [], vs, r => by
    have e : vs = [] := List.length_eq_zero_iff.mp r.len
    subst e
    exact ⟨fun d h => (by cases h), fun _ => rfl⟩
  | p :: ds, vs, r => by
    obtain ⟨v, ws, rfl, h, q⟩ := r.cons_inv
    obtain ⟨i1, i2⟩ := RpK.val q (k := k)
    by_cases c : p.1 = k
    · have e1 : valD (p :: ds) k = some p.2 := by simp [valD, List.find?_cons, c]
      have e2 : valV ((p.1, v) :: ws) k = some v := valV_pos c
      rw [e1, e2]
      exact ⟨fun d z => by cases z; exact ⟨v, rfl, h⟩, fun z => by cases z⟩
    · have e1 : valD (p :: ds) k = valD ds k := by simp [valD, List.find?_cons, c]
      have e2 : valV ((p.1, v) :: ws) k = valV ws k := valV_neg c
      rw [e1, e2]
      exact ⟨i1, i2⟩
theorem RpK.any {H : Hp} {M : Addr → Prop} {k : Key} : ∀ {ds : List (Key × D)} {vs : List (Key × V)}, RpK K H M ds vs → (vs.any fun kv => decide (kv.1 = k)) = (ds.any fun kv => decide (kv.1 = k))
  | [], vs, r => by
    have e : vs = [] := List.length_eq_zero_iff.mp r.len
    subst e
    rfl
  | p :: ds, vs, r => by
    obtain ⟨v, ws, rfl, h, q⟩ := r.cons_inv
    rw [List.any_cons, List.any_cons, RpK.any q]
theorem RpK.repl {H : Hp} {M : Addr → Prop} {k : Key} {d : D} {u : V} (hd : Rp K H M d u) : ∀ {ds : List (Key × D)} {vs : List (Key × V)}, RpK K H M ds vs → RpK K H M (ds.map fun kv => if kv.1 = k then (kv.1, d) else kv) (vs.map fun kv => if kv.1 = k then (kv.1, u) else kv)
  | [], vs, r => by
    have e : vs = [] := List.length_eq_zero_iff.mp r.len
    subst e
    exact .nil
  | p :: ds, vs, r => by
    obtain ⟨v, ws, rfl, h, q⟩ := r.cons_inv
    rw [List.map_cons, List.map_cons]
    by_cases c : p.1 = k
    · rw [if_pos c, if_pos c]
      exact .cons hd (RpK.repl hd q)
    · rw [if_neg c, if_neg c]
      exact .cons h (RpK.repl hd q)
theorem RpK.snoc {H : Hp} {M : Addr → Prop} {k : Key} {d : D} {u : V} (hd : Rp K H M d u) : ∀ {ds : List (Key × D)} {vs : List (Key × V)}, RpK K H M ds vs → RpK K H M (ds ++ [(k, d)]) (vs ++ [(k, u)])
  | [], vs, r => by
    have e : vs = [] := List.length_eq_zero_iff.mp r.len
    subst e
    exact .cons hd .nil
  | p :: ds, vs, r => by
    obtain ⟨v, ws, rfl, h, q⟩ := r.cons_inv
    exact .cons h (RpK.snoc hd q)
theorem RpK.put {H : Hp} {M : Addr → Prop} {k : Key} {d : D} {u : V} {ds : List (Key × D)} {vs : List (Key × V)} (hd : Rp K H M d u) (r : RpK K H M ds vs) : RpK K H M (putD ds k d) (putK vs k u) := by
  unfold putD putK
  rw [r.any]
  split
  · exact r.repl hd
  · exact r.snoc hd
theorem dkey_v {H : Hp} {M : Addr → Prop} {y : D} {k : Key} {v : V} (h : dkey y = some k) (r : Ro K H M y v) : v = kV k := by
  cases y with
  | int i => cases h; rw [r.int_inv]; rfl
  | str i => cases h; rw [r.str_inv]; rfl
  | _ => cases h
def rIxK : R2 := fun x y H Q => ∃ a v, x = .ref a ∧ DGet H a y (some v) ∧ Q v H
theorem ix_dic {X : Cx} (hu : X.A.units + 1 < cLine) : IxR X rIxK := by
  intro value slice pins s σ H x y v u Q I rx ry h hs
  obtain ⟨a, r, rfl, g, q⟩ := h
  obtain rfl : v = Value.ref a := rx
  refine tail_any (dict_typeIs I g) slot_dict_getitem.lookup ?_ hs
  exact d_getItem hu I g ry fun w' s' I' rw' => ⟨r, H, I', rw', q⟩
def ixA (x y : D) : Res D := match x with
  | .dic ds => (match dkey y with
    | some k => (match valD ds k with | some d => .ok d | none => .bad)
    | none => .bad)
  | x => ixD x y
def rIxA (K : PySem.W.Frag) : R2 := fun x y H Q => rIxK x y H Q ∨ rIx K x y H Q
theorem ir_ixA {X : Cx} {k : Nat} (hr : Room k X.A) : IxR X (rIxA X.K) := (ix_dic (hu_of hr)).or ix_seq
theorem os_ixA : OpS K (rIxA K) ixA := by
  intro H M x y dx dy Q tk rx ry w
  cases dx with
  | dic ds =>
    obtain ⟨a, us, rfl, h, z, q⟩ := rx.dic_inv
    simp only [ixA] at w
    cases e : dkey dy with
    | none => rw [e] at w; exact w.elim
    | some k =>
      rw [e] at w
      simp only at w
      cases e2 : valD ds k with
      | none => rw [e2] at w; exact w.elim
      | some d =>
        rw [e2] at w
        obtain ⟨v, e3, r⟩ := (q.val (k := k)).1 d e2
        refine .inl ⟨a, v, rfl, ?_, w _ _ (.refl _) r⟩
        rw [dkey_v e ry, ← e3]
        exact DGet.k h
  | _ => exact .inr (os_ix H M x y _ dy Q tk rx ry w)
end
/-! ### isinstance with built-in types -/
def isiD (n : String) (x : D) : Res D := match x with
  | .own _ => .bad
  | x => if n = "int" then .ok (.bl (match x with | .int _ => true | .bl _ => true | _ => false))
    else if n = "bool" then .ok (.bl (match x with | .bl _ => true | _ => false))
    else if n = "str" then .ok (.bl (match x with | .str _ => true | _ => false))
    else if n = "tuple" then .ok (.bl (match x with | .tup _ => true | _ => false))
    else if n = "list" then .ok (.bl (match x with | .lst _ => true | .scr _ => true | _ => false))
    else if n = "dict" then .ok (.bl (match x with | .dic _ => true | _ => false))
    else .bad
def tyN (x : D) : String := match x with
  | .non => "NoneType"
  | .bl _ => "bool"
  | .int _ => "int"
  | .str _ => "str"
  | .tup _ => "tuple"
  | .lst _ => "list"
  | .dic _ => "dict"
  | .own _ => ""
  | .scr _ => "list"
theorem SqT.tyx {K : PySem.W.Frag} {H : Hp} {a : Addr} {xs : List V} (h : SqT K H a xs) : TyX K H (.ref a) (.type "tuple") := by
  rcases h with (h | ⟨o, h⟩) | ⟨o, its, n, h, c, _⟩
  · exact .base (.tup h)
  · exact .fTuple h
  · exact .kTuple h c
theorem Ro.tyx {K : PySem.W.Frag} {H : Hp} {M : Addr → Prop} {d : D} {v : V} (h : Ro K H M d v) : TyX K H v (.type (tyN d)) := by
  cases h with
  | non => exact .base .non
  | bl b => exact .base (.bl b)
  | int i => exact .base (.int i)
  | str y => exact .base (.str y)
  | tup h hz r => exact SqT.tyx h
  | lst h hz r => exact .base (.lst h)
  | scr h hz =>
    rcases h with ⟨o, h⟩ | ⟨o, its, n, h, c, _⟩
    · exact .base (.frz h)
    · exact .kList h c
  | dic h hz r => exact .base (.dK h)
theorem kit_b {n m : String} (hn : n ∈ ["NoneType", "bool", "int", "str", "tuple", "list", "dict"]) (h : ["NoneType", "bool", "int", "str", "tuple", "list", "dict"].all (fun n => decide (kitB n m = some (decide (n = m) || (decide (m = "int") && decide (n = "bool"))))) = true) : kitB n m = some (decide (n = m) || (decide (m = "int") && decide (n = "bool"))) :=
  of_decide_eq_true (List.all_eq_true.mp h n hn)
theorem isi_kit {m : String} {d : D} {r : D} (h : isiD m d = .ok r) : ∃ b, r = .bl b ∧ kitB (tyN d) m = some b := by
  have hm : m = "int" ∨ m = "bool" ∨ m = "str" ∨ m = "tuple" ∨ m = "list" ∨ m = "dict" := by
    cases d with
    | own _ => cases h
    | _ =>
      simp only [isiD] at h
      by_cases h1 : m = "int"
      · exact .inl h1
      by_cases h2 : m = "bool"
      · exact .inr (.inl h2)
      by_cases h3 : m = "str"
      · exact .inr (.inr (.inl h3))
      by_cases h4 : m = "tuple"
      · exact .inr (.inr (.inr (.inl h4)))
      by_cases h5 : m = "list"
      · exact .inr (.inr (.inr (.inr (.inl h5))))
      by_cases h6 : m = "dict"
      · exact .inr (.inr (.inr (.inr (.inr h6))))
      rw [if_neg h1, if_neg h2, if_neg h3, if_neg h4, if_neg h5, if_neg h6] at h
      cases h
  have tn : (∀ i, d ≠ .own i) → tyN d ∈ ["NoneType", "bool", "int", "str", "tuple", "list", "dict"] := fun hd => by cases d <;> first | exact absurd rfl (hd _) | simp [tyN]
  have hd : ∀ i, d ≠ .own i := fun i e => by rw [e] at h; cases h
  rcases hm with rfl | rfl | rfl | rfl | rfl | rfl
  · refine ⟨_, ?_, kit_b (tn hd) (by decide +kernel)⟩
    cases d <;> first | (cases h; rfl) | exact absurd rfl (hd _)
  · refine ⟨_, ?_, kit_b (tn hd) (by decide +kernel)⟩
    cases d <;> first | (cases h; rfl) | exact absurd rfl (hd _)
  · refine ⟨_, ?_, kit_b (tn hd) (by decide +kernel)⟩
    cases d <;> first | (cases h; rfl) | exact absurd rfl (hd _)
  · refine ⟨_, ?_, kit_b (tn hd) (by decide +kernel)⟩
    cases d <;> first | (cases h; rfl) | exact absurd rfl (hd _)
  · refine ⟨_, ?_, kit_b (tn hd) (by decide +kernel)⟩
    cases d <;> first | (cases h; rfl) | exact absurd rfl (hd _)
  · refine ⟨_, ?_, kit_b (tn hd) (by decide +kernel)⟩
    cases d <;> first | (cases h; rfl) | exact absurd rfl (hd _)
section
variable {X : Cx} {C : Cfg} {W : WX} {k : Nat} {a b e : Expr} {es rest : List Expr} {ta tb tc : TE} {ma mb mc m : Ev} {pos : Pos}
def mIsi (n : String) (m : Ev) : Ev := fun env => do
  let r ← m env
  let x ← rs r.2 r.1
  match isiD n x with
  | .ok d => pure (d, r.2)
  | _ => .bad
theorem em_isi {n : String} {T : Str} {p pT : Pos} (g : Gd X C W k) (hg : Gl X "isinstance") (hm : X.mg "isinstance" = none) (hgT : Gl X T) (hmT : X.mg T = none) (hvT : bootBuiltins T = some (.type n)) (he : EM X C W e ta m) (hnT : T ≠ "__name__" := by decide) (hdT : (T == ("__debug__" : Str)) = false := by decide)
    (hs : starEach [e, .Name T pT] X.env = (false, eval e X.env) :: starEach [.Name T pT] X.env := by rfl) (hs2 : starEach [.Name T pT] X.env = (false, eval (.Name T pT) X.env) :: starEach [] X.env := by rfl) (hpl : (backTo pos (starEach [.Name T pT] X.env)).any (·.1) = false := by rfl) :
    EM X C W (.Call (.Name "isinstance" p) [e, .Name T pT] [] pos) (tCB (rIsi C.K) (tCons ta (tCons (tC (.ty n)) tNil))) (mIsi n m) := by
  refine ⟨g.kE ▸ pe_callB call_isi hg hm (by decide +kernel) (pa_cons he.pe (pa_cons (pe_bltn hgT hmT hvT rfl hnT hdT) pa_nil hs2) hs) (by decide) (by decide) hs hpl, fun M0 ad σ H env Q R w => ?_⟩
  unfold mIsi at w
  refine he.sn' R w fun r v H1 R1 S1 V1 w1 => ?_
  rw [wp_bind] at w1
  obtain ⟨x, _, w2, rx⟩ := R1.rs V1 w1
  cases q : isiD n x with
  | ok d =>
    rw [q] at w2
    obtain ⟨b, rfl, hk⟩ := isi_kit q
    exact ⟨v, .ty n, _, _, b, rfl, .ty n, rx.tyx, kit_ty hk, w2 _ H1 R1 S1 (.of (.bl b))⟩
  | err c => rw [q] at w2; exact w2.elim
  | bad => rw [q] at w2; exact w2.elim

/-! ### slices -/
abbrev Eo := Sls → Res (Option Int × Sls)
structure OM (X : Cx) (C : Cfg) (W : WX) (e : Option Expr) (t : TO) (m : Eo) : Prop where
  pe : PO X e t
  sn : ∀ (M0 : Addr → Prop) (ad : Nat → Addr) (σ : L2.St) (H : Hp) (env : Sls) (Q : Option Int → Hp → Prop), RE (C.w M0) ad H σ env →
    (m env).Wp (fun r => ∀ H', RE (C.w M0) ad H' σ r.2 → Stp (C.w M0) ad H env H' r.2 → Q r.1 H') (Er (C.w M0) ad σ W) → t σ H Q
def mNo : Eo := fun env => .ok (none, env)
def mPart (m : Ev) : Eo := fun env => do
  let r ← m env
  match r.1 with
  | .int i => pure (some i, r.2)
  | _ => .bad
theorem om_none : OM X C W none tNoPart mNo := ⟨po_none, fun M0 ad σ H env Q R w => w H R .refl⟩
theorem om_some (h : EM X C W e ta m) : OM X C W (some e) (tPart ta) (mPart m) := by
  refine ⟨po_some h.pe, fun M0 ad σ H env Q R w => ?_⟩
  unfold mPart at w
  refine h.sn' R w fun r v H1 R1 S1 V1 w1 => ?_
  cases hd : r.1 with
  | int i =>
    rw [hd] at w1 V1
    cases V1
    exact ⟨i, rfl, w1 H1 R1 S1⟩
  | _ => rw [hd] at w1; exact w1.elim
def cutD (xs : List D) (lo hi : Option Int) : List D := (xs.drop (HT.sIx xs.length 0 lo)).take (HT.sIx xs.length xs.length hi - HT.sIx xs.length 0 lo)
def sliceL (x : D) (lo hi : Option Int) : Res D := match x with
  | .lst xs => .ok (.lst (cutD xs lo hi))
  | .scr ns => .ok (.lst (cutD (ns.map D.int) lo hi))
  | _ => .bad
def sliceT (x : D) (lo hi : Option Int) : Res D := match x with
  | .tup xs => .ok (.tup (cutD xs lo hi))
  | _ => .bad
def mSl (g : D → Option Int → Option Int → Res D) (m : Ev) (ml mh : Eo) : Ev := fun env => do
  let r ← m env
  let l ← ml r.2
  let h ← mh l.2
  let x ← rs h.2 r.1
  match g x l.1 h.1 with
  | .ok d => pure (d, h.2)
  | _ => .bad
theorem RpL.cut {K : PySem.W.Frag} {H : Hp} {M : Addr → Prop} {ds : List D} {vs : List V} (r : RpL K H M ds vs) (lo hi : Option Int) : RpL K H M (cutD ds lo hi) (cutV vs lo hi) := by
  unfold cutD cutV
  rw [r.len]
  exact (r.drop _).take _
theorem cutD_length (xs : List D) (lo hi : Option Int) : (cutD xs lo hi).length ≤ xs.length := by
  unfold cutD
  rw [List.length_take, List.length_drop]
  omega
theorem ef_sliceL {lo hi : Option Expr} {tl th : TO} {ml mh : Eo} {p2 : Pos} (g : Gd X C W k) (h : EM X C W e ta m) (hl : OM X C W lo tl ml) (hh : OM X C W hi th mh) :
    EF X C W (.Subscript e (.Slice lo hi none p2) pos) (tSl (rSlL C.K) ta tl th) (mSl sliceL m ml mh) := by
  refine ⟨g.kE ▸ pe_slice sl_list h.pe hl.pe hh.pe, fun M0 ad σ H env Q R w => ?_⟩
  unfold mSl at w
  refine h.sn' R w fun r v H1 R1 S1 V1 w1 => ?_
  rw [wp_bind] at w1
  refine hl.sn M0 ad σ H1 r.2 _ R1 (w1.imp (fun l w2 H2 R2 S2 => ?_) fun _ z => z)
  rw [wp_bind] at w2
  refine hh.sn M0 ad σ H2 l.2 _ R2 (w2.imp (fun q w3 H3 R3 S3 => ?_) fun _ z => z)
  rw [wp_bind] at w3
  obtain ⟨x, _, w4, rx⟩ := R3.rs ((V1.stp S2).stp S3) w3
  cases x with
  | lst xs =>
    obtain ⟨a, us, rfl, hs, z, qr⟩ := rx.lst_inv
    refine ⟨a, us, rfl, .of hs, fun p hn => w4 p _ ?_ (R3.growAdd (same_new hn) hn (by rw [upd_same]; exact fun z => nomatch z)) (((S1.trans S2).trans S3).trans (.grow (same_new hn))) ((cell_new (qr.cut _ _) hn (Nat.le_trans (cutD_length _ _ _) z)).ext rfl .refl fun b z => .inl (mo_add.mp z))⟩
    cases z : H p with
    | none => rfl
    | some o => exact absurd hn (((S1.trans S2).trans S3).ext.trk p (by rw [z]; exact fun z => nomatch z))
  | scr ns =>
    cases rx with
    | scr hs z =>
      have qr : RpL C.K H3 (Mo (C.w M0) q.2 ad) (ns.map D.int) (ns.map V.int) := .of_ints
      refine ⟨_, _, rfl, hs.sq, fun p hn => w4 p _ ?_ (R3.growAdd (same_new hn) hn (by rw [upd_same]; exact fun z => nomatch z)) (((S1.trans S2).trans S3).trans (.grow (same_new hn))) ((cell_new (qr.cut _ _) hn (Nat.le_trans (cutD_length _ _ _) (by rw [List.length_map]; exact z))).ext rfl .refl fun b z => .inl (mo_add.mp z))⟩
      cases z : H p with
      | none => rfl
      | some o => exact absurd hn (((S1.trans S2).trans S3).ext.trk p (by rw [z]; exact fun z => nomatch z))
  | _ => exact w4.elim
theorem em_sliceT {lo hi : Option Expr} {tl th : TO} {ml mh : Eo} {p2 : Pos} (g : Gd X C W k) (h : EM X C W e ta m) (hl : OM X C W lo tl ml) (hh : OM X C W hi th mh) :
    EM X C W (.Subscript e (.Slice lo hi none p2) pos) (tSl (rSlA C.K) ta tl th) (mSl sliceT m ml mh) := by
  refine ⟨g.kE ▸ pe_slice sl_tupA h.pe hl.pe hh.pe, fun M0 ad σ H env Q R w => ?_⟩
  unfold mSl at w
  refine h.sn' R w fun r v H1 R1 S1 V1 w1 => ?_
  rw [wp_bind] at w1
  refine hl.sn M0 ad σ H1 r.2 _ R1 (w1.imp (fun l w2 H2 R2 S2 => ?_) fun _ z => z)
  rw [wp_bind] at w2
  refine hh.sn M0 ad σ H2 l.2 _ R2 (w2.imp (fun q w3 H3 R3 S3 => ?_) fun _ z => z)
  rw [wp_bind] at w3
  obtain ⟨x, _, w4, rx⟩ := R3.rs ((V1.stp S2).stp S3) w3
  cases x with
  | tup xs =>
    obtain ⟨a, us, rfl, hs, z, qr⟩ := rx.tup_inv
    refine ⟨a, us, rfl, hs, fun c => ?_, fun c p hn => w4 _ _ (R3.grow (same_new hn)) (((S1.trans S2).trans S3).trans (.grow (same_new hn))) (.of (.tup' (.of upd_same) (Nat.le_trans (cutD_length _ _ _) z) ((qr.cut _ _).same (same_new hn))))⟩
    have e : cutD xs l.1 q.1 = xs := by
      unfold cutD
      rw [← qr.len, c.1, c.2, qr.len]
      simp
    refine w4 _ H3 R3 ((S1.trans S2).trans S3) (.of ?_)
    show Rp C.K H3 _ (.tup (cutD xs l.1 q.1)) _
    rw [e]
    exact .tup' hs z qr
  | _ => exact w4.elim
end
end Vm
end
section
set_option maxHeartbeats 4000000
/-! Vm, part F: promises, calls of the text's own defs, cells changed, what is walked, targets, comprehensions. -/
namespace Vm
open PySem PySem.Spec PyProof.Rows L2

/-! ### promises -/
def spP (K : PySem.W.Frag) (mg : Str → Option Value) (n : Nat) (fm : List D → Res D) : Sp := fun vs H Q E => vs.length = n ∧ ∃ (M : Addr → Prop) (ds : List D), (∀ a, M a → H a ≠ none) ∧ RpL K H M ds vs ∧
  (fm ds).Wp (fun d => ∀ v H', Same H H' → Rp K H' M d v → Q v H') (fun c => ∀ cls dd H', mg c = some cls → Same H H' → E cls dd H')
/-- a new list or dict is handed back -/
def spF (K : PySem.W.Frag) (mg : Str → Option Value) (n : Nat) (fm : List D → Res D) : Sp := fun vs H Q E => vs.length = n ∧ ∃ (M : Addr → Prop) (ds : List D), (∀ a, M a → H a ≠ none) ∧ RpL K H M ds vs ∧
  (fm ds).Wp (fun d => ∀ a H', H a = none → Same H H' → CellOk K H' (fun b => M b ∨ b = a) d a → Q (.ref a) H') (fun c => ∀ cls dd H', mg c = some cls → Same H H' → E cls dd H')
/-- the first argument is a cell that is changed -/
def spJ (K : PySem.W.Frag) (n : Nat) (fm : D → List D → Res (D × D)) : Sp := fun vs H Q E => vs.length = n ∧ ∃ (M : Addr → Prop) (a : Addr) (ws : List V) (j : D) (ds : List D), vs = .ref a :: ws ∧ M a ∧ (∀ a, M a → H a ≠ none) ∧ CellOk K H M j a ∧ RpL K H M ds ws ∧
  (fm j ds).Wp (fun r => ∀ v H', (∀ b o, H b = some o → b ≠ a → H' b = some o) → CellOk K H' M r.2 a → Rp K H' M r.1 v → Q v H') (fun _ => False)
structure Fn (P : Program) (w : World) (K : PySem.W.Frag) (mg : Str → Option Value) (base : Heap) (j : Nat) (x : Str) (sp : Sp) : Prop where
  ex : ∃ f fd ps, FnOk P w K mg base (L2.CX P w) j f fd ps sp ∧ mg x = some (.ref f) ∧ PySem.W.keepIn K (.ref f) = true ∧ Binds K fd ps []
theorem Fn.toP {P : Program} {w : World} {K : PySem.W.Frag} {mg : Str → Option Value} {base : Heap} {j n : Nat} {x : Str} {fm : List D → Res D} (F : Fn P w K mg base j x (spF K mg n fm)) : Fn P w K mg base j x (spP K mg n fm) := by
  obtain ⟨f, fd, ps, F, h⟩ := F.ex
  refine ⟨f, fd, ps, F.imp fun vs H Q E ⟨hl, M, ds, tk, r, q⟩ => ⟨hl, M, ds, tk, r, q.imp (fun d z a H' hn e c => z _ H' e (cell_rp c (fun q => tk a q hn) fun b q => .inl q)) fun c z => z⟩, h⟩
theorem Fn.mono {P : Program} {w : World} {K : PySem.W.Frag} {mg : Str → Option Value} {base : Heap} {i j : Nat} {x : Str} {sp : Sp} (F : Fn P w K mg base i x sp) (h : i ≤ j) : Fn P w K mg base j x sp := by
  obtain ⟨f, fd, ps, F, h2⟩ := F.ex
  exact ⟨f, fd, ps, F.mono h, h2⟩

/-! ### a def is called -/
def D.sc : D → Bool
  | .non => true
  | .bl _ => true
  | .int _ => true
  | .str _ => true
  | _ => false
def D.flat : D → Bool
  | .tup xs => xs.all D.sc
  | d => d.sc
theorem Rp.sc {K : PySem.W.Frag} {H : Hp} {M M' : Addr → Prop} {d : D} {v : V} (h : Rp K H M d v) (f : d.sc = true) : Rp K H M' d v := by
  cases h with
  | non => exact .non
  | bl b => exact .bl b
  | int i => exact .int i
  | str y => exact .str y
  | _ => cases f
theorem Rp.flat {K : PySem.W.Frag} {H : Hp} {M M' : Addr → Prop} {d : D} {v : V} (h : Rp K H M d v) (f : d.flat = true) : Rp K H M' d v := by
  cases h with
  | tup h hl hz hi => exact .tup h hl hz fun i d v e1 e2 => (hi i d v e1 e2).sc (List.all_eq_true.mp f d (List.mem_of_getElem? e1))
  | non => exact .non
  | bl b => exact .bl b
  | int i => exact .int i
  | str y => exact .str y
  | _ => cases f
def allKp : List D → Bool
  | [] => true
  | .own _ :: _ => false
  | _ :: ds => allKp ds
theorem allKp_rp {C : Cfg} {ad : Nat → Addr} {H : Hp} {σ : L2.St} {env : Sls} : ∀ {ds : List D} {vs : List V}, VRL C ad H σ env ds vs → allKp ds = true → RpL C.K H (Mo C env ad) ds vs
  | [], vs, r, _ => by rw [r.nil_inv]; exact .nil
  | d :: ds, vs, r, w => by
    obtain ⟨v, ws, rfl, h, q⟩ := r.cons_inv
    cases d with
    | own i => cases w
    | _ => exact .cons h (allKp_rp q w)
/-- read-only arguments: the roots are not in the smaller set -/
theorem RoL.rp {K : PySem.W.Frag} {H : Hp} {M : Addr → Prop} {ds : List D} {vs : List V} (r : RoL K H M ds vs) : RpL K H (fun b => M b ∧ ∀ v ∈ vs, v ≠ .ref b) ds vs := by
  refine ⟨r.len, fun i d v h1 h2 => ?_⟩
  have lo : ∀ b, (M b ∧ ∀ v ∈ vs, v ≠ .ref b) → M b := fun b z => z.1
  cases r.item i d v h1 h2 with
  | non => exact .non
  | bl b => exact .bl b
  | int i => exact .int i
  | str y => exact .str y
  | tup h hz q => exact .tup' h hz (q.less lo)
  | lst h hz q => exact .lst' h (fun z => z.2 _ (List.mem_of_getElem? h2) rfl) hz (q.less lo)
  | scr h hz => exact .scr h hz
  | dic h hz q => exact .dic h (fun z => z.2 _ (List.mem_of_getElem? h2) rfl) q.len hz q.key fun i p q' e f => (q.item i p q' e f).less lo
def mCall (n : Nat) (fm : List D → Res D) (ms : Evs) : Ev := fun env => do
  let r ← ms env
  if r.1.length = n then
    if allKp r.1 = true then do
      let d ← fm r.1
      pure (d, r.2)
    else do
      let xs ← rsL r.2 r.1
      let d ← fm xs
      if d.flat = true then pure (d, r.2) else .bad
  else .bad
section
variable {X : Cx} {C : Cfg} {W : WX} {k j n : Nat} {a b e : Expr} {es rest : List Expr} {ta tb tc : TE} {t : TA} {ma mb mc m : Ev} {ms : Evs} {pos p : Pos} {x : Str}
theorem mCall_sn {fm : List D → Res D} (h : AM X C W es t ms) {M0 : Addr → Prop} {ad : Nat → Addr} {σ : L2.St} {H : Hp} {env : Sls} {Q : VK} (R : RE (C.w M0) ad H σ env)
    (w : (mCall n fm ms env).Wp (fun r => ∀ v H', RE (C.w M0) ad H' σ r.2 → Stp (C.w M0) ad H env H' r.2 → VR (C.w M0) ad H' σ r.2 r.1 v → Q v H') (Er (C.w M0) ad σ W)) : tCallS (spP C.K C.mg n fm) (WE W) t σ H Q := by
  unfold mCall at w
  refine h.sn' R w fun r vs H1 R1 S1 V1 w1 => ?_
  split at w1
  · rename_i hl
    refine ⟨by rw [V1.len]; exact hl, ?_⟩
    split at w1
    · rename_i hk
      refine ⟨Mo (C.w M0) r.2 ad, r.1, fun a z => R1.mtrk z, allKp_rp V1 hk, ?_⟩
      rw [wp_bind] at w1
      exact w1.imp (fun d z v H' e rp => z v H' (R1.grow e) (S1.trans (.grow e)) (.of rp)) fun c z cls dd H' hm e => z cls dd H' r.2 hm (R1.grow e)
    · rw [wp_bind] at w1
      obtain ⟨xs, w2, rx⟩ := R1.rsL V1 w1
      refine ⟨_, xs, fun a z => R1.mtrk z.1, rx.rp, ?_⟩
      rw [wp_bind] at w2
      refine w2.imp (fun d z v H' e rp => ?_) fun c z cls dd H' hm e => z cls dd H' r.2 hm (R1.grow e)
      split at z
      · rename_i hf
        exact z v H' (R1.grow e) (S1.trans (.grow e)) (.of (rp.flat hf))
      · exact z.elim
  · exact w1.elim
theorem em_call {fm : List D → Res D} (g : Gd X C W k) (F : Fn X.prog X.w X.K X.mg X.base j x (spP C.K C.mg n fm)) (h : AM X C W (e :: es) t ms) (hj : j ≤ k := by decide) (hg : Gl X x := by rfl)
    (hdb : (x == ("__debug__" : Str)) = false := by decide) (he : starEach (e :: es) X.env = (false, eval e X.env) :: starEach es X.env := by rfl) (hpl : (backTo pos (starEach es X.env)).any (·.1) = false := by rfl) :
    EM X C W (.Call (.Name x p) (e :: es) [] pos) (tCallS (spP C.K C.mg n fm) (WE W) t) (mCall n fm ms) := by
  obtain ⟨f, fd, ps, F, hm, hk, hb⟩ := (F.mono hj).ex
  exact ⟨pe_callS F g.room hg hm hk hb (fun σ => passAt g.tk σ) h.pe hdb he hpl, fun M0 ad σ H env Q R w => mCall_sn h R w⟩
/-- f() -/
def mCall0 (fm : List D → Res D) : Ev := fun env =>
  match fm [] with
  | .ok d => .ok (d, env)
  | _ => .bad
theorem em_call0 {fm : List D → Res D} (g : Gd X C W k) (F : Fn X.prog X.w X.K X.mg X.base j x (spP C.K C.mg 0 fm)) (hj : j ≤ k := by decide) (hg : Gl X x := by rfl) (hdb : (x == ("__debug__" : Str)) = false := by decide) :
    EM X C W (.Call (.Name x p) [] [] pos) (tCall (spP C.K C.mg 0 fm) [] E0 tNil) (mCall0 fm) := by
  obtain ⟨f, fd, ps, F, hm, hk, hb⟩ := (F.mono hj).ex
  refine ⟨pe_call0 F g.room hg hm hk hb .nil passL hdb, fun M0 ad σ H env Q R w => ?_⟩
  unfold mCall0 at w
  refine ⟨rfl, Mo (C.w M0) env ad, [], fun a z => R.mtrk z, .nil, ?_⟩
  cases q : fm [] with
  | ok d =>
    rw [q] at w
    exact fun v H' e rp => w v H' (R.grow e) (.grow e) (.of rp)
  | err c => rw [q] at w; exact w.elim
  | bad => rw [q] at w; exact w.elim
/-- .. a def that hands back a new list -/
def mCallF (n : Nat) (fm : List D → Res D) (ms : Evs) : Ev := fun env => do
  let r ← ms env
  if r.1.length = n then
    if allKp r.1 = true then do
      let d ← fm r.1
      pure (d, r.2)
    else .bad
  else .bad
theorem ef_call {fm : List D → Res D} (g : Gd X C W k) (F : Fn X.prog X.w X.K X.mg X.base j x (spF C.K C.mg n fm)) (h : AM X C W (e :: es) t ms) (hj : j ≤ k := by decide) (hg : Gl X x := by rfl)
    (hdb : (x == ("__debug__" : Str)) = false := by decide) (he : starEach (e :: es) X.env = (false, eval e X.env) :: starEach es X.env := by rfl) (hpl : (backTo pos (starEach es X.env)).any (·.1) = false := by rfl) :
    EF X C W (.Call (.Name x p) (e :: es) [] pos) (tCallS (spF C.K C.mg n fm) (WE W) t) (mCallF n fm ms) := by
  obtain ⟨f, fd, ps, F, hm, hk, hb⟩ := (F.mono hj).ex
  refine ⟨pe_callS F g.room hg hm hk hb (fun σ => passAt g.tk σ) h.pe hdb he hpl, fun M0 ad σ H env Q R w => ?_⟩
  unfold mCallF at w
  refine h.sn' R w fun r vs H1 R1 S1 V1 w1 => ?_
  split at w1
  · rename_i hl
    refine ⟨by rw [V1.len]; exact hl, ?_⟩
    split at w1
    · rename_i hk
      refine ⟨Mo (C.w M0) r.2 ad, r.1, fun a z => R1.mtrk z, allKp_rp V1 hk, ?_⟩
      rw [wp_bind] at w1
      refine w1.imp (fun d z a H' hn e c => z a H' ?_ (R1.growAdd e hn c.trk) (S1.trans (.grow e)) (c.ext rfl .refl fun b z => .inl (mo_add.mp z))) fun c z cls dd H' hm e => z cls dd H' r.2 hm (R1.grow e)
      cases z : H a with
      | none => rfl
      | some o => exact absurd hn (S1.ext.trk a (by rw [z]; exact fun z => nomatch z))
    · exact w1.elim
  · exact w1.elim
/-- .. a def that changes the cell that is its first argument -/
def mCallJ (n : Nat) (fm : D → List D → Res (D × D)) (ms : Evs) : Ev := fun env => do
  let r ← ms env
  if r.1.length = n then
    match r.1 with
    | .own i :: ds =>
      if allKp ds = true then
        match r.2[i]? with
        | some (.l c) => (match fm c ds with
          | .ok q => pure (q.1, r.2.set i (.l q.2))
          | _ => .bad)
        | some (.p c) => (match fm c ds with
          | .ok q => pure (q.1, r.2.set i (.p q.2))
          | _ => .bad)
        | _ => .bad
      else .bad
    | _ => .bad
  else .bad
theorem em_callJ {fm : D → List D → Res (D × D)} (g : Gd X C W k) (F : Fn X.prog X.w X.K X.mg X.base j x (spJ C.K n fm)) (h : AM X C W (e :: es) t ms) (hj : j ≤ k := by decide) (hg : Gl X x := by rfl)
    (hdb : (x == ("__debug__" : Str)) = false := by decide) (he : starEach (e :: es) X.env = (false, eval e X.env) :: starEach es X.env := by rfl) (hpl : (backTo pos (starEach es X.env)).any (·.1) = false := by rfl) :
    EM X C W (.Call (.Name x p) (e :: es) [] pos) (tCallS (spJ C.K n fm) (WE W) t) (mCallJ n fm ms) := by
  obtain ⟨f, fd, ps, F, hm, hk, hb⟩ := (F.mono hj).ex
  refine ⟨pe_callS F g.room hg hm hk hb (fun σ => passAt g.tk σ) h.pe hdb he hpl, fun M0 ad σ H env Q R w => ?_⟩
  unfold mCallJ at w
  refine h.sn' R w fun r vs H1 R1 S1 V1 w1 => ?_
  split at w1
  · rename_i hl
    refine ⟨by rw [V1.len]; exact hl, ?_⟩
    obtain ⟨ds0, env2⟩ := r
    simp only at w1 V1 R1 S1 hl
    cases ds0 with
    | nil => exact w1.elim
    | cons d0 ds =>
      cases d0 with
      | own i =>
        obtain ⟨v, ws, rfl, h1, q⟩ := V1.cons_inv
        have h1' : σ[i]? = some (some v) := h1
        simp only at w1
        split at w1
        · rename_i hk
          have fin : ∀ s : Sl, env2[i]? = some s → s.isMut = true → ∀ c, CellOk C.K H1 (Mo (C.w M0) env2 ad) c (ad i) → σ[i]? = some (some (V.ref (ad i))) →
              (match fm c ds with | .ok q => (pure (q.1, env2.set i (s.put q.2)) : Res (D × Sls)) | _ => .bad).Wp (fun r => ∀ v H', RE (C.w M0) ad H' σ r.2 → Stp (C.w M0) ad H env H' r.2 → VR (C.w M0) ad H' σ r.2 r.1 v → Q v H') (Er (C.w M0) ad σ W) →
              ∃ (M : Addr → Prop) (a : Addr) (ws' : List V) (j : D) (ds : List D), v :: ws = .ref a :: ws' ∧ M a ∧ (∀ a, M a → H1 a ≠ none) ∧ CellOk C.K H1 M j a ∧ RpL C.K H1 M ds ws' ∧
                (fm j ds).Wp (fun r => ∀ v H', (∀ b o, H1 b = some o → b ≠ a → H' b = some o) → CellOk C.K H' M r.2 a → Rp C.K H' M r.1 v → Q v H') (fun _ => False) := by
            intro s hs hmu c hc hσ w2
            rw [hσ] at h1'
            cases h1'
            refine ⟨Mo (C.w M0) env2 ad, ad i, ws, c, ds, rfl, .inr ⟨i, s, hs, Sl.isMut.own hmu, rfl⟩, fun a z => R1.mtrk z, hc, allKp_rp q hk, ?_⟩
            cases z : fm c ds with
            | ok q2 =>
              rw [z] at w2
              intro v2 H' kk c' rp
              obtain ⟨R2, S2⟩ := R1.put (d := q2.2) hs hmu kk c'
              exact w2 v2 H' R2 (S1.trans S2) (.of (rp.less fun b z => (mo_put hs b).mp z))
            | err c => rw [z] at w2; exact w2.elim
            | bad => rw [z] at w2; exact w2.elim
          cases z : env2[i]? with
          | none => rw [z] at w1; exact w1.elim
          | some s =>
            rw [z] at w1
            cases s with
            | l c =>
              obtain ⟨d0, hd0, hσ, hc⟩ := R1.cell z rfl
              rcases hd0 with e | e | e <;> cases e
              exact fin _ z rfl c hc hσ w1
            | p c =>
              obtain ⟨d0, hd0, hσ, hc⟩ := R1.cell z rfl
              rcases hd0 with e | e | e <;> cases e
              exact fin _ z rfl c hc hσ w1
            | _ => exact w1.elim
        · exact w1.elim
      | _ => exact w1.elim
  · exact w1.elim

/-! ### a cell is changed -/
def Sl.con : Sl → Option D
  | .l d => some d
  | .p d => some d
  | _ => none
theorem Sl.con_mut {s : Sl} {d : D} (h : s.con = some d) : s.isMut = true := by cases s <;> first | rfl | cases h
theorem RE.con {ad : Nat → Addr} {σ : L2.St} {H : Hp} {env : Sls} (R : RE C ad H σ env) {i : Nat} {s : Sl} {d : D} (h : env[i]? = some s) (hc : s.con = some d) : σ[i]? = some (some (V.ref (ad i))) ∧ CellOk C.K H (Mo C env ad) d (ad i) := by
  obtain ⟨d0, hd0, hσ, c⟩ := R.cell h (Sl.isMut.own (Sl.con_mut hc))
  refine ⟨hσ, ?_⟩
  rcases hd0 with e | e | e <;> subst e <;> cases hc <;> exact c
/-- xs.append(e), xs an own list -/
def mApp (i : Nat) (m : Ev) : Ev := fun env =>
  match env[i]?.bind Sl.con with
  | some (.lst _) => do
    let r ← m env
    let d ← kp r.1
    match r.2[i]? with
    | some s => (match s.con with
      | some (.lst ds) => if ds.length < sizeLine then pure (.non, r.2.set i (s.put (.lst (ds ++ [d])))) else .bad
      | _ => .bad)
    | _ => .bad
  | _ => .bad
theorem em_append (i : Nat) {y : Str} {py apos : Pos} (g : Gd X C W k) (he : EM X C W e ta m) (hN : X.N[i]? = some y := by rfl) (hv : Vis X.env.scope y := by first | exact Or.inl rfl | exact Or.inr (Or.inl rfl) | exact Or.inr (Or.inr rfl)) (hd : (y == ("__debug__" : Str)) = false := by decide)
    (hcd : (y == ("__classdict__" : Str)) = false := by decide) (hbase : attributeBase (.Name y py) "append" X.env (eval (.Name y py) X.env) = eval (.Name y py) X.env := by rfl)
    (hfew : ((backTo pos (starEach [e] X.env)).all (fun x => !x.1) && (backToKw pos (keywordEach [] X.env)).all (fun x => x.1.isSome)
      && decide ([e].length + ([] : List Keyword).length + (if ([] : List Keyword).isEmpty then 0 else 1) < 30)) = true := by rfl)
    (hline : (apos.endLine == pos.line) = true := by rfl) (hs : starEach [e] X.env = (false, eval e X.env) :: starEach [] X.env := by rfl) (hplain : (backTo pos (starEach [] X.env)).any (·.1) = false := by rfl) :
    EM X C W (.Call (.Attribute (.Name y py) "append" apos) [e] [] pos) (tBM C.K "list" rAppend (tVar i) (tCons ta tNil)) (mApp i m) := by
  refine ⟨g.kE ▸ pe_bm PySem.F.plainAttrs_list PySem.F.slot_list_append PySem.F.type_list_append mt_append (pe_var hN hv hd hcd) (pa_cons he.pe pa_nil hs) hbase hfew hline hs hplain, fun M0 ad σ H env Q R w => ?_⟩
  unfold mApp at w
  cases z : env[i]? with
  | none => rw [z] at w; exact w.elim
  | some s0 =>
    rw [z] at w
    simp only [Option.bind_some] at w
    cases zc : s0.con with
    | none => rw [zc] at w; exact w.elim
    | some c0 =>
      rw [zc] at w
      cases c0 with
      | lst ds0 =>
        obtain ⟨hσ, hc0⟩ := R.con z zc
        obtain ⟨_, us0, hu0, _⟩ := hc0
        refine ⟨.ref (ad i), hσ, .inl ⟨rfl, us0, .of hu0⟩, ?_⟩
        refine he.sn' R w fun r v H1 R1 S1 V1 w1 => ?_
        rw [wp_bind] at w1
        obtain ⟨_, w2, rp⟩ := kp_rp V1 w1
        cases z2 : r.2[i]? with
        | none => rw [z2] at w2; exact w2.elim
        | some s =>
          rw [z2] at w2
          simp only at w2
          cases zc2 : s.con with
          | none => rw [zc2] at w2; exact w2.elim
          | some c =>
            rw [zc2] at w2
            cases c with
            | lst ds =>
              simp only at w2
              split at w2
              · rename_i hz
                obtain ⟨_, hc⟩ := R1.con z2 zc2
                obtain ⟨z3, us, hu, ru⟩ := hc
                refine ⟨ad i, us, v, rfl, rfl, hu, by rw [ru.len]; exact hz, ?_⟩
                have kk : ∀ b o, H1 b = some o → b ≠ ad i → upd H1 (ad i) (.lst (us ++ [v])) b = some o := fun b o e hb => by rw [upd_ne hb]; exact e
                have hM : Mo (C.w M0) r.2 ad (ad i) := .inr ⟨i, s, z2, Sl.isMut.own (Sl.con_mut zc2), rfl⟩
                have x1 : Ext (Mo (C.w M0) r.2 ad) H1 (upd H1 (ad i) (.lst (us ++ [v]))) := by
                  refine ⟨fun b o e hn => kk b o e fun q => hn (q ▸ hM), fun b xs e => kk b _ e fun q => ?_, fun b o u e => kk b _ e fun q => ?_, fun b hb => ?_⟩
                  · rw [q, hu] at e; cases e
                  · rw [q, hu] at e; cases e
                  · by_cases q : b = ad i
                    · rw [q, upd_same]; exact fun z => nomatch z
                    · rw [upd_ne q]; exact hb
                obtain ⟨R2, S2⟩ := R1.put (d := .lst (ds ++ [r.1])) (H' := upd H1 (ad i) (.lst (us ++ [v]))) z2 (Sl.con_mut zc2) kk ⟨by rw [List.length_append]; exact hz, us ++ [v], upd_same, (ru.append (.one rp)).ext x1 fun b q => .inl q⟩
                exact w2 .non _ R2 (S1.trans S2) (.of .non)
              · exact w2.elim
            | _ => exact w2.elim
      | _ => exact w.elim
end
end Vm
end
section
set_option maxHeartbeats 4000000
/-! Vm, part G: what is walked, targets, comprehensions. -/
namespace Vm
open PySem PySem.Spec PyProof.Rows L2

/-- the walk J gives the data ds, while hd lies at hv -/
structure Wk (K : PySem.W.Frag) (J : It) (hd : D) (hv : V) (ds : List D) : Prop where
  go : ∀ (H : Hp) (M : Addr → Prop) (i : Nat) (d : D), (∀ a, M a → H a ≠ none) → Rp K H M hd hv → ds[i]? = some d → J.go i H ∧ ∀ x H', J.yld i H x H' → Same H H' ∧ Rp K H' M d x
  stop : ∀ (H : Hp) (M : Addr → Prop), Rp K H M hd hv → J.stop ds.length H
abbrev Em := Sls → Res (List D × Sls)
structure IM (X : Cx) (C : Cfg) (W : WX) (tg iter : Expr) (wi : TI) (m : Em) : Prop where
  pe : PI X tg iter wi
  sn : ∀ (M0 : Addr → Prop) (ad : Nat → Addr) (σ : L2.St) (H : Hp) (env : Sls) (R : It → Hp → Prop), RE (C.w M0) ad H σ env →
    (m env).Wp (fun r => ∀ J hd hv H', RE (C.w M0) ad H' σ r.2 → Stp (C.w M0) ad H env H' r.2 → Rp C.K H' (Mo (C.w M0) r.2 ad) hd hv → Wk C.K J hd hv r.1 → r.1.length ≤ sizeLine → R J H') (Er (C.w M0) ad σ W) → wi σ H R
/-- a target takes data -/
abbrev Gv := D → Sls → Res Sls
structure GM (X : Cx) (C : Cfg) (tg : Expr) (g : TG) (vs : List Nat) (m : Gv) : Prop where
  pe : PG X tg g
  sn : ∀ (M0 : Addr → Prop) (ad : Nat → Addr) (σ : L2.St) (H : Hp) (env : Sls) (d : D) (v : V) (Q : L2.St → Hp → Prop), RE (C.w M0) ad H σ env → Rp C.K H (Mo (C.w M0) env ad) d v →
    (m d env).Wp (fun env' => ∀ σ', RE (C.w M0) ad H σ' env' → (∀ a, Ow env' ad a → Ow env ad a) → σ'.length = σ.length → (∀ j, j ∉ vs → σ'[j]? = σ[j]?) → Q σ' H) (fun _ => False) → g v σ H Q
structure GMs (X : Cx) (C : Cfg) (ts : List Expr) (g : TGs) (vs : List Nat) (m : List D → Sls → Res Sls) : Prop where
  pe : PGs X ts g
  sn : ∀ (M0 : Addr → Prop) (ad : Nat → Addr) (σ : L2.St) (H : Hp) (env : Sls) (ds : List D) (us : List V) (Q : L2.St → Hp → Prop), RE (C.w M0) ad H σ env → RpL C.K H (Mo (C.w M0) env ad) ds us →
    (m ds env).Wp (fun env' => ∀ σ', RE (C.w M0) ad H σ' env' → (∀ a, Ow env' ad a → Ow env ad a) → σ'.length = σ.length → (∀ j, j ∉ vs → σ'[j]? = σ[j]?) → Q σ' H) (fun _ => False) → g us σ H Q
section
variable {X : Cx} {C : Cfg} {W : WX} {k j n : Nat} {a b e : Expr} {es rest : List Expr} {ta tb tc te : TE} {t : TA} {ma mb mc m me : Ev} {ms : Evs} {pos p : Pos} {x : Str} {tg iter elt : Expr}
/-! ### walks -/
theorem wk_list {K : PySem.W.Frag} {a : Addr} {ds : List D} : Wk K (Itl K a) (.lst ds) (.ref a) ds := by
  refine ⟨fun H M i d _ r h => ?_, fun H M r => ?_⟩
  · cases r with
    | lst h1 hm hl hz hi =>
      rename_i vs
      have hi2 : i < vs.length := by rw [hl]; exact (List.getElem?_eq_some_iff.mp h).1
      have e : vs[i]? = some vs[i] := List.getElem?_eq_getElem hi2
      refine ⟨⟨vs, vs[i], .of h1, e⟩, fun x H' y => ?_⟩
      obtain ⟨e1, y⟩ := y
      subst e1
      have e2 := y vs (.of h1)
      rw [e] at e2
      cases e2
      exact ⟨.refl _, hi i d _ h e⟩
  · cases r with
    | lst h1 hm hl hz hi => exact ⟨_, .of h1, by rw [hl]; exact Nat.le_refl _⟩
theorem wk_tup {K : PySem.W.Frag} {a : Addr} {ds : List D} : Wk K (Itt K a) (.tup ds) (.ref a) ds := by
  refine ⟨fun H M i d _ r h => ?_, fun H M r => ?_⟩
  · cases r with
    | tup h1 hl hz hi =>
      rename_i vs
      have hi2 : i < vs.length := by rw [hl]; exact (List.getElem?_eq_some_iff.mp h).1
      have e : vs[i]? = some vs[i] := List.getElem?_eq_getElem hi2
      refine ⟨⟨vs, vs[i], h1, e⟩, fun x H' y => ?_⟩
      obtain ⟨e1, y⟩ := y
      subst e1
      have e2 := y vs h1
      rw [e] at e2
      cases e2
      exact ⟨.refl _, hi i d _ h e⟩
  · cases r with
    | tup h1 hl hz hi => exact ⟨_, h1, by rw [hl]; exact Nat.le_refl _⟩
def rangeD (lo : Int) (n : Nat) : List D := (List.range n).map fun (i : Nat) => D.int (lo + i)
theorem rangeD_length (lo : Int) (n : Nat) : (rangeD lo n).length = n := by simp [rangeD]
theorem wk_range {K : PySem.W.Frag} {lo : Int} {n : Nat} : Wk K (Itr lo n) .non .non (rangeD lo n) := by
  refine ⟨fun H M i d _ r h => ?_, fun H M r => by rw [rangeD_length]; exact Nat.le_refl _⟩
  have hi : i < n := by
    have := (List.getElem?_eq_some_iff.mp h).1
    rwa [rangeD_length] at this
  have e : d = .int (lo + i) := by
    unfold rangeD at h
    rw [List.getElem?_map, List.getElem?_range hi] at h
    cases h
    rfl
  refine ⟨hi, fun x H' y => ?_⟩
  obtain ⟨e1, e2⟩ := y
  subst e1 e2 e
  exact ⟨.refl _, .int _⟩
/-- over a list or a tuple -/
def mSeq (m : Ev) : Em := fun env => do
  let r ← m env
  match r.1 with
  | .lst ds => pure (ds, r.2)
  | .tup ds => pure (ds, r.2)
  | _ => .bad
def iSeq (K : PySem.W.Frag) (t : TE) : TI := fun σ H R => iList K t σ H R ∨ iTup K t σ H R
theorem pi_seq (h : PE X e te) : PI X tg e (iSeq X.K te) := ⟨fun pins s σ H R I q => q.elim ((pi_list h).run pins s σ H R I) ((pi_tup h).run pins s σ H R I)⟩
theorem im_seq (g : Gd X C W k) (h : EM X C W e te m) : IM X C W tg e (iSeq C.K te) (mSeq m) := by
  refine ⟨g.kE ▸ pi_seq h.pe, fun M0 ad σ H env R RR w => ?_⟩
  unfold mSeq at w
  rw [wp_bind] at w
  cases q : m env with
  | ok r =>
    rw [q] at w
    obtain ⟨d, env2⟩ := r
    cases d with
    | lst ds =>
      refine .inl (h.sn M0 ad σ H env _ RR ?_)
      rw [q]
      intro v H' R' S' V'
      have V2 : Rp C.K H' (Mo (C.w M0) env2 ad) (.lst ds) v := V'
      cases V2 with
      | lst h1 hm hl hz hi => exact ⟨_, rfl, ⟨_, .of h1⟩, w _ _ _ H' R' S' (.lst h1 hm hl hz hi) wk_list hz⟩
    | tup ds =>
      refine .inr (h.sn M0 ad σ H env _ RR ?_)
      rw [q]
      intro v H' R' S' V'
      have V2 : Rp C.K H' (Mo (C.w M0) env2 ad) (.tup ds) v := V'
      cases V2 with
      | tup h1 hl hz hi => exact ⟨_, rfl, ⟨_, h1⟩, w _ _ _ H' R' S' (.tup h1 hl hz hi) wk_tup hz⟩
    | _ => exact w.elim
  | err c =>
    refine .inl (h.sn M0 ad σ H env _ RR ?_)
    rw [q]
    rw [q] at w
    exact w
  | bad => rw [q] at w; exact w.elim
/-- over range(n) -/
def int1 : List D → Option Int
  | [.int j] => some j
  | _ => none
def int2 : List D → Option (Int × Int)
  | [.int i, .int j] => some (i, j)
  | _ => none
theorem int1_eq {ds : List D} {j : Int} (h : int1 ds = some j) : ds = [.int j] := by
  unfold int1 at h
  split at h
  · cases h; rfl
  · cases h
theorem int2_eq {ds : List D} {p : Int × Int} (h : int2 ds = some p) : ds = [.int p.1, .int p.2] := by
  unfold int2 at h
  split at h
  · cases h; rfl
  · cases h
def mRng1 (ms : Evs) : Em := fun env => do
  let r ← ms env
  match int1 r.1 with
  | some j => if -4611686018427387904 ≤ j ∧ j ≤ 16777216 then pure (rangeD 0 j.toNat, r.2) else .bad
  | none => .bad
def mRng2 (ms : Evs) : Em := fun env => do
  let r ← ms env
  match int2 r.1 with
  | some p => if -4611686018427387904 ≤ p.1 ∧ p.1 < 4611686018427387904 ∧ -4611686018427387904 ≤ p.2 ∧ p.2 < 4611686018427387904 ∧ p.2 - p.1 ≤ 16777216 then pure (rangeD p.1 (p.2 - p.1).toNat, r.2) else .bad
  | none => .bad
theorem im_range1 {tA : TA} (g : Gd X C W k) (h : AM X C W [a] tA ms) (hm : X.mg "range" = none) (hg : Gl X "range" := by rfl) (hs : starEach [a] X.env = [(false, eval a X.env)] := by rfl) : IM X C W tg (.Call (.Name "range" p) [a] [] pos) (iRng1 tA) (mRng1 ms) := by
  refine ⟨pi_range1 hg hm h.pe hs, fun M0 ad σ H env R RR w => ?_⟩
  unfold mRng1 at w
  refine h.sn' RR w fun r vs H' R' S' V' w1 => ?_
  obtain ⟨ds, env2⟩ := r
  simp only at V' w1
  cases q : int1 ds with
  | none => rw [q] at w1; exact w1.elim
  | some j =>
    rw [q] at w1
    rw [int1_eq q] at V'
    obtain ⟨v, us, e1, h1, q⟩ := V'.cons_inv
    have e2 := q.nil_inv
    subst e2
    have h2 : Rp C.K H' (Mo (C.w M0) env2 ad) (.int j) v := h1
    cases h2
    simp only at w1
    split at w1
    · rename_i hz
      refine ⟨j, e1, by omega, by omega, w1 _ .non .non H' R' S' .non wk_range ?_⟩
      show (rangeD 0 j.toNat).length ≤ sizeLine
      rw [rangeD_length, sizeLine_eq]
      omega
    · exact w1.elim
theorem im_range2 {tA : TA} (g : Gd X C W k) (h : AM X C W [a, b] tA ms) (hm : X.mg "range" = none) (hg : Gl X "range" := by rfl) (hs : starEach [a, b] X.env = [(false, eval a X.env), (false, eval b X.env)] := by rfl) (hs2 : starEach [b] X.env = [(false, eval b X.env)] := by rfl) :
    IM X C W tg (.Call (.Name "range" p) [a, b] [] pos) (iRng2 tA) (mRng2 ms) := by
  refine ⟨pi_range2 hg hm h.pe hs hs2, fun M0 ad σ H env R RR w => ?_⟩
  unfold mRng2 at w
  refine h.sn' RR w fun r vs H' R' S' V' w1 => ?_
  obtain ⟨ds, env2⟩ := r
  simp only at V' w1
  cases q : int2 ds with
  | none => rw [q] at w1; exact w1.elim
  | some pr =>
    rw [q] at w1
    rw [int2_eq q] at V'
    obtain ⟨v, us, e1, h1, q⟩ := V'.cons_inv
    obtain ⟨v2, us2, e3, h3, q2⟩ := q.cons_inv
    have e2 := q2.nil_inv
    subst e2
    subst e3
    have h2 : Rp C.K H' (Mo (C.w M0) env2 ad) (.int pr.1) v := h1
    cases h2
    have h4 : Rp C.K H' (Mo (C.w M0) env2 ad) (.int pr.2) v2 := h3
    cases h4
    simp only at w1
    split at w1
    · rename_i hz
      refine ⟨pr.1, pr.2, e1, ⟨by omega, by omega, by omega, by omega⟩, w1 _ .non .non H' R' S' .non wk_range ?_⟩
      show (rangeD pr.1 (pr.2 - pr.1).toNat).length ≤ sizeLine
      rw [rangeD_length, sizeLine_eq]
      omega
    · exact w1.elim

/-! ### targets -/
def gmN (i : Nat) : Gv := fun d env => if notPar env i = true then .ok (env.set i (.t d)) else .bad
theorem gm_name (i : Nat) {x : Str} {pos : Pos} (hN : X.N.Nodup) (hi : X.N[i]? = some x := by rfl) (hx : Loc X.env.scope x := by first | exact .inl rfl | exact .inr rfl) (hf : X.fn x = true ∨ X.env.scope.names.lookup x = some .local := by first | exact .inl rfl | exact .inr rfl) : GM X C (.Name x pos) (gName i) [i] (gmN i) := by
  refine ⟨pg_name hN hi hx hf, fun M0 ad σ H env d v Q R r w => ?_⟩
  unfold gmN at w
  split at w
  · refine w _ (R.setS rfl ⟨v, rfl, r⟩) (ow_set rfl) (by rw [List.length_set]) fun j hj => ?_
    rw [List.getElem?_set_ne]
    intro e
    exact hj (by simp [e])
  · exact w.elim
def gmNil : List D → Sls → Res Sls := fun ds env => match ds with
  | [] => .ok env
  | _ => .bad
def gmCons (g : Gv) (gs : List D → Sls → Res Sls) : List D → Sls → Res Sls := fun ds env => match ds with
  | d :: ds => do
    let e ← g d env
    gs ds e
  | _ => .bad
theorem gms_nil : GMs X C [] gNil [] gmNil := by
  refine ⟨pgs_nil, fun M0 ad σ H env ds us Q R r w => ?_⟩
  cases ds with
  | nil => exact ⟨r.nil_inv, w σ R (fun _ z => z) rfl fun _ _ => rfl⟩
  | cons d ds => exact w.elim
theorem gms_cons {e : Expr} {es : List Expr} {g : TG} {gs : TGs} {vs ws : List Nat} {m : Gv} {ms : List D → Sls → Res Sls} (h : GM X C e g vs m) (hs : GMs X C es gs ws ms)
    (ha : (assignEach (e :: es) X.env).map (·.2) = assign e X.env :: (assignEach es X.env).map (·.2) := by rfl) : GMs X C (e :: es) (gCons g gs) (vs ++ ws) (gmCons m ms) := by
  refine ⟨pgs_cons h.pe hs.pe ha, fun M0 ad σ H env ds us Q R r w => ?_⟩
  cases ds with
  | nil => exact w.elim
  | cons d ds =>
    obtain ⟨v, us', rfl, r1, r2⟩ := r.cons_inv
    unfold gmCons at w
    simp only at w
    rw [wp_bind] at w
    refine ⟨v, us', rfl, h.sn M0 ad σ H env d v _ R r1 (w.imp (fun env2 w2 σ2 R2 mo2 l2 o2 => ?_) fun _ z => z)⟩
    refine hs.sn M0 ad σ2 H env2 ds us' Q R2 (r2.less fun a z => z.imp id (mo2 a)) (w2.imp (fun env3 w3 σ3 R3 mo3 l3 o3 => ?_) fun _ z => z)
    refine w3 σ3 R3 (fun a z => mo2 a (mo3 a z)) (l3.trans l2) fun j hj => ?_
    rw [o3 j (fun z => hj (List.mem_append_right _ z)), o2 j (fun z => hj (List.mem_append_left _ z))]
def gmT (n : Nat) (gs : List D → Sls → Res Sls) : Gv := fun d env => match d with
  | .tup ds => if ds.length = n then gs ds env else .bad
  | _ => .bad
theorem gm_tup {es : List Expr} {i n : Nat} {gs : TGs} {vs : List Nat} {ms : List D → Sls → Res Sls} (g : Gd X C W k) (h : GMs X C es gs vs ms) (hn : (assignEach es X.env).length = n := by rfl) (hst : (assignEach es X.env).findIdx? (·.1) = none := by rfl) :
    GM X C (.Tuple es i pos) (gTup C.K n gs) vs (gmT n ms) := by
  refine ⟨g.kE ▸ pg_tup g.calm h.pe hn hst, fun M0 ad σ H env d v Q R r w => ?_⟩
  cases d with
  | tup ds =>
    unfold gmT at w
    simp only at w
    split at w
    · rename_i hl
      cases r with
      | tup h1 hl2 hz hi =>
        exact ⟨_, _, rfl, h1, by rw [hl2]; exact hl, h.sn M0 ad σ H env ds _ Q R ⟨hl2, hi⟩ w⟩
    · exact w.elim
  | _ => exact w.elim

/-! ### comprehensions -/
def noE {α : Type} (r : Res α) : Res α := match r with
  | .err _ => .bad
  | r => r
theorem noE_wp {α : Type} {r : Res α} {P : α → Prop} {E E' : Str → Prop} (w : (noE r).Wp P E) : r.Wp P E' := by
  cases r with
  | ok a => exact w
  | err c => exact w.elim
  | bad => exact w.elim
theorem noE_ok {α : Type} (a : α) : noE (Res.ok a) = .ok a := rfl
def wipeE (env : Sls) : List Nat → Sls
  | [] => env
  | v :: vs => (wipeE env vs).set v .u
def backE (base env : Sls) : List Nat → Sls
  | [] => env
  | v :: vs => (backE base env vs).set v (base.getD v .u)
def okWipe (env : Sls) (vs : List Nat) : Bool := vs.all fun v => match env[v]? with
  | some .u => true
  | some (.t _) => true
  | _ => false
def lcL (vs : List Nat) (g : Gv) (tt : Ev1) (me : Ev) : List D → Sls → Res (List D × Sls)
  | [], env => .ok ([], env)
  | d :: ds, env => do
    let e1 ← noE (g d env)
    let b ← noE (tt e1)
    if b.1 = true then do
      let r ← noE (me b.2)
      let y ← kp r.1
      let q ← lcL vs g tt me ds (wipeE r.2 vs)
      pure (y :: q.1, q.2)
    else lcL vs g tt me ds (wipeE b.2 vs)
def mLc (mi : Em) (vs : List Nat) (g : Gv) (tt : Ev1) (me : Ev) : Ev := fun env => do
  let r ← mi env
  if okWipe r.2 vs = true then do
    let q ← lcL vs g tt me r.1 (wipeE r.2 vs)
    pure (.lst q.1, backE r.2 q.2 vs)
  else .bad
theorem lcL_len {vs : List Nat} {g : Gv} {tt : Ev1} {me : Ev} : ∀ {ds : List D} {env : Sls} {q : List D × Sls}, lcL vs g tt me ds env = .ok q → q.1.length ≤ ds.length
  | [], env, q, h => by cases h; exact Nat.le_refl _
  | d :: ds, env, q, h => by
    simp only [lcL] at h
    cases h1 : noE (g d env) with
    | err c => rw [h1] at h; cases h
    | bad => rw [h1] at h; cases h
    | ok e1 =>
      rw [h1, ok_bind] at h
      cases h2 : noE (tt e1) with
      | err c => rw [h2] at h; cases h
      | bad => rw [h2] at h; cases h
      | ok b =>
        rw [h2, ok_bind] at h
        split at h
        · cases h3 : noE (me b.2) with
          | err c => rw [h3] at h; cases h
          | bad => rw [h3] at h; cases h
          | ok r =>
            rw [h3, ok_bind] at h
            cases h4 : kp r.1 with
            | err c => rw [h4] at h; cases h
            | bad => rw [h4] at h; cases h
            | ok y =>
              rw [h4, ok_bind] at h
              cases h5 : lcL vs g tt me ds (wipeE r.2 vs) with
              | err c => rw [h5] at h; cases h
              | bad => rw [h5] at h; cases h
              | ok q2 =>
                rw [h5, ok_bind] at h
                have := lcL_len h5
                cases h
                simp only [List.length_cons]
                omega
        · have := lcL_len h
          rw [List.length_cons]
          omega

/-! slots wiped and back -/
theorem RE.wipe {ad : Nat → Addr} {σ : L2.St} {H : Hp} {env : Sls} (R : RE C ad H σ env) : ∀ vs : List Nat, RE C ad H (L2.wipe σ vs) (wipeE env vs)
  | [] => R
  | v :: vs => (RE.wipe R vs).setS rfl True.intro
theorem ow_wipe {ad : Nat → Addr} {env : Sls} : ∀ vs : List Nat, ∀ a, Ow (wipeE env vs) ad a → Ow env ad a
  | [], a, h => h
  | v :: vs, a, h => ow_wipe vs a (ow_set rfl a h)
theorem wipeE_out {env : Sls} {i : Nat} : ∀ {vs : List Nat}, i ∉ vs → (wipeE env vs)[i]? = env[i]?
  | [], _ => rfl
  | v :: vs, h => by
    show ((wipeE env vs).set v .u)[i]? = _
    rw [List.getElem?_set_ne (fun e => h (by simp [e])), wipeE_out fun z => h (List.mem_cons_of_mem _ z)]
theorem wipeE_len {env : Sls} : ∀ {vs : List Nat}, (wipeE env vs).length = env.length
  | [] => rfl
  | v :: vs => by
    show ((wipeE env vs).set v .u).length = _
    rw [List.length_set, wipeE_len]
theorem st_wipe_eq {σ σ' : L2.St} {vs : List Nat} (hl : σ'.length = σ.length) (h : ∀ j, j ∉ vs → σ'[j]? = σ[j]?) : L2.wipe σ' vs = L2.wipe σ vs := by
  have inn : ∀ (τ : L2.St) (ws : List Nat) (j : Nat), j ∈ ws → j < τ.length → (L2.wipe τ ws)[j]? = some none := by
    intro τ ws
    induction ws with
    | nil => intro j hj; cases hj
    | cons w ws ih =>
      intro j hj hlt
      show ((L2.wipe τ ws).set w none)[j]? = _
      by_cases e : w = j
      · subst e
        rw [List.getElem?_set_self (by rw [wipe_length]; exact hlt)]
      · rw [List.getElem?_set_ne e]
        exact ih j ((List.mem_cons.mp hj).resolve_left fun z => e z.symm) hlt
  refine List.ext_getElem? fun j => ?_
  by_cases hlt : j < σ.length
  · by_cases hj : j ∈ vs
    · rw [inn σ' vs j hj (by rw [hl]; exact hlt), inn σ vs j hj hlt]
    · rw [wipe_out hj, wipe_out hj, h j hj]
  · rw [List.getElem?_eq_none_iff.mpr (by rw [wipe_length, hl]; omega), List.getElem?_eq_none_iff.mpr (by rw [wipe_length]; omega)]
def backS (σ τ : L2.St) : List Nat → L2.St
  | [] => τ
  | v :: vs => (backS σ τ vs).set v (σ.getD v none)
theorem backS_wipe (σ : L2.St) (vs : List Nat) : backS σ (L2.wipe σ vs) vs = σ := by
  have len : ∀ ws (τ : L2.St), (backS σ τ ws).length = τ.length := by
    intro ws
    induction ws with
    | nil => intro τ; rfl
    | cons w ws ih => intro τ; show ((backS σ τ ws).set w _).length = _; rw [List.length_set, ih]
  have inn : ∀ (ws : List Nat) (τ : L2.St) (j : Nat), τ.length = σ.length → j < σ.length → (j ∈ ws → (backS σ τ ws)[j]? = σ[j]?) ∧ (j ∉ ws → (backS σ τ ws)[j]? = τ[j]?) := by
    intro ws
    induction ws with
    | nil => intro τ j _ _; exact ⟨fun h => by (cases h), fun _ => rfl⟩
    | cons w ws ih =>
      intro τ j hl hlt
      obtain ⟨i1, i2⟩ := ih τ j hl hlt
      have step : ∀ h : w ≠ j, (backS σ τ (w :: ws))[j]? = (backS σ τ ws)[j]? := fun h => by
        show ((backS σ τ ws).set w _)[j]? = _
        rw [List.getElem?_set_ne h]
      refine ⟨fun hj => ?_, fun hj => ?_⟩
      · by_cases e : w = j
        · subst e
          show ((backS σ τ ws).set w _)[w]? = _
          rw [List.getElem?_set_self (by rw [len, hl]; exact hlt), List.getD_eq_getElem?_getD, List.getElem?_eq_getElem hlt]
          rfl
        · rw [step e, i1 ((List.mem_cons.mp hj).resolve_left fun z => e z.symm)]
      · rw [step (fun e => hj (by simp [e])), i2 fun z => hj (List.mem_cons_of_mem _ z)]
  refine List.ext_getElem? fun j => ?_
  by_cases hlt : j < σ.length
  · by_cases hj : j ∈ vs
    · exact (inn vs _ j (wipe_length _ _) hlt).1 hj
    · rw [(inn vs _ j (wipe_length _ _) hlt).2 hj, wipe_out hj]
  · rw [List.getElem?_eq_none_iff.mpr (by rw [len, wipe_length]; omega), List.getElem?_eq_none_iff.mpr (by omega)]
/-- the wiped slots as they were -/
theorem RE.back {ad : Nat → Addr} {σ τ : L2.St} {H H' : Hp} {base env : Sls} (B : RE C ad H σ base) (x : Ext (Mo C base ad) H H') (R : RE C ad H' τ env) (hmo : ∀ a, Ow env ad a → Ow base ad a) : ∀ {vs : List Nat}, okWipe base vs = true →
    RE C ad H' (backS σ τ vs) (backE base env vs) ∧ ∀ a, Ow (backE base env vs) ad a → Ow env ad a
  | [], _ => ⟨R, fun _ z => z⟩
  | v :: vs, h => by
    have h' : (match base[v]? with | some .u => true | some (.t _) => true | _ => false) = true ∧ okWipe base vs = true := by
      have := h
      unfold okWipe at this
      rw [List.all_cons, Bool.and_eq_true] at this
      exact this
    obtain ⟨R2, m2⟩ := RE.back B x R hmo h'.2
    cases q : base[v]? with
    | none => rw [q] at h'; cases h'.1
    | some s =>
      have e : base.getD v .u = s := by rw [List.getD_eq_getElem?_getD, q]; rfl
      have ho : s.isOwn = false := by
        rw [q] at h'
        cases s <;> first | rfl | exact absurd h'.1 Bool.false_ne_true
      have z := B.sl v s q
      have sg : σ[v]?.join = σ.getD v none := by
        rw [List.getD_eq_getElem?_getD]
        cases σ[v]? <;> rfl
      refine ⟨?_, fun a w => ?_⟩
      · show RE C ad H' ((backS σ τ vs).set v (σ.getD v none)) ((backE base env vs).set v (base.getD v .u))
        rw [e]
        refine R2.setS ho ?_
        rw [← sg]
        exact SlOk.ext (C := C) z (fun o => by rw [ho] at o; cases o) x fun b w => .inl (w.imp id fun w => hmo b (m2 b w))
      · have w' : Ow ((backE base env vs).set v (base.getD v .u)) ad a := w
        rw [e] at w'
        exact m2 a (ow_set ho a w')
/-- a cell that others hold is changed -/
theorem RE.other {ad : Nat → Addr} {σ : L2.St} {H : Hp} {env : Sls} (R : RE C ad H σ env) {a : Addr} {us us' : List V} (ha : C.M0 a) (hno : ¬ Ow env ad a) (h0 : C.H0 a = none) (ho : H a = some (.lst us)) : RE C ad (upd H a (.lst us')) σ env ∧ Ext (fun b => b = a) H (upd H a (.lst us')) := by
  have x : Ext (fun b => b = a) H (upd H a (.lst us')) := by
    refine ⟨fun b o e n => by rw [upd_ne n]; exact e, fun b xs e => ?_, fun b o u e => ?_, fun b e => ?_⟩
    · by_cases q : b = a
      · rw [q, ho] at e; cases e
      · rw [upd_ne q]; exact e
    · by_cases q : b = a
      · rw [q, ho] at e; cases e
      · rw [upd_ne q]; exact e
    · by_cases q : b = a
      · rw [q, upd_same]; exact fun z => nomatch z
      · rw [upd_ne q]; exact e
  refine ⟨⟨R.len, fun i s h => ?_, R.inj, R.loc, R.par, fun b o e n => ?_, R.frk, fun b e => x.trk b (R.trk b e), fun b e => x.trk b (R.m0 b e)⟩, x⟩
  · refine SlOk.ext (C := C) (R.sl i s h) (fun o => ?_) (x.mono fun b e => .inl (e ▸ ha)) fun b z => .inl z
    rw [upd_ne fun e => hno ⟨i, s, h, o, e⟩]
  · rw [upd_ne fun q => by rw [q, h0] at e; cases e]
    exact R.same b o e n

theorem RE.mtrk' {ad : Nat → Addr} {σ : L2.St} {H : Hp} {env : Sls} (R : RE C ad H σ env) (a : Addr) (h : Mo C env ad a) : H a ≠ none := R.mtrk h

abbrev W0 : WX := fun _ _ _ _ => False
theorem takesF {X : Cx} : Takes X W0 := fun _ _ x => by
  obtain ⟨_, _, _, _, _, _, _, _, _, _, _, _, _, _, _, _, z⟩ := x
  exact z.elim
/-- the surroundings of a comprehension's block -/
theorem Gd.blk {s : Shared} {H : Hp} {scope : Scope} {cenv : Env} {fp : List Addr} (g : Gd X C W k) : Gd (X.blk s H scope cenv fp) C W0 k := ⟨g.kE, g.mE, g.calm, takesF, g.room, g.nd⟩
/-- tests of a comprehension -/
structure TMs (X : Cx) (C : Cfg) (W : WX) (ifs : List Expr) (t : TT) (m : Ev1) : Prop where
  pe : PTs X ifs t
  sn : ∀ (M0 : Addr → Prop) (ad : Nat → Addr) (σ : L2.St) (H : Hp) (env : Sls) (Q : Bool → Hp → Prop), RE (C.w M0) ad H σ env →
    (m env).Wp (fun r => ∀ H', RE (C.w M0) ad H' σ r.2 → Stp (C.w M0) ad H env H' r.2 → Q r.1 H') (Er (C.w M0) ad σ W) → t σ H Q
def mYes : Ev1 := fun env => .ok (true, env)
theorem tms_nil : TMs X C W [] tYes mYes := ⟨pts_nil, fun M0 ad σ H env Q R w => w H R .refl⟩
theorem tms_one {c : Expr} {t : TT} {m : Ev1} (h : TM X C W c t m) : TMs X C W [c] t m := ⟨pts_one h.pe, h.sn⟩
theorem lc_sn {g : TG} {gv : Gv} {tt : TT} {mt : Ev1} {wi : TI} {mi : Em} {vs : List Nat} (hi : ∀ (M0 : Addr → Prop) (ad : Nat → Addr) (σ : L2.St) (H : Hp) (env : Sls) (R : It → Hp → Prop), RE (C.w M0) ad H σ env →
      (mi env).Wp (fun r => ∀ J hd hv H', RE (C.w M0) ad H' σ r.2 → Stp (C.w M0) ad H env H' r.2 → Rp C.K H' (Mo (C.w M0) r.2 ad) hd hv → Wk C.K J hd hv r.1 → r.1.length ≤ sizeLine → R J H') (Er (C.w M0) ad σ W) → wi σ H R)
    (hg : ∀ (M0 : Addr → Prop) (ad : Nat → Addr) (σ : L2.St) (H : Hp) (env : Sls) (d : D) (v : V) (Q : L2.St → Hp → Prop), RE (C.w M0) ad H σ env → Rp C.K H (Mo (C.w M0) env ad) d v →
      (gv d env).Wp (fun env' => ∀ σ', RE (C.w M0) ad H σ' env' → (∀ a, Ow env' ad a → Ow env ad a) → σ'.length = σ.length → (∀ j, j ∉ vs → σ'[j]? = σ[j]?) → Q σ' H) (fun _ => False) → g v σ H Q)
    (ht : ∀ (M0 : Addr → Prop) (ad : Nat → Addr) (σ : L2.St) (H : Hp) (env : Sls) (Q : Bool → Hp → Prop), RE (C.w M0) ad H σ env →
      (mt env).Wp (fun r => ∀ H', RE (C.w M0) ad H' σ r.2 → Stp (C.w M0) ad H env H' r.2 → Q r.1 H') (Er (C.w M0) ad σ W0) → tt σ H Q)
    (he : ∀ (M0 : Addr → Prop) (ad : Nat → Addr) (σ : L2.St) (H : Hp) (env : Sls) (Q : VK), RE (C.w M0) ad H σ env →
      (me env).Wp (fun r => ∀ v H', RE (C.w M0) ad H' σ r.2 → Stp (C.w M0) ad H env H' r.2 → VR (C.w M0) ad H' σ r.2 r.1 v → Q v H') (Er (C.w M0) ad σ W0) → te σ H Q)
    {M0 : Addr → Prop} {ad : Nat → Addr} {σ : L2.St} {H : Hp} {env : Sls} {Q : VK} (R : RE (C.w M0) ad H σ env)
    (w : (mLc mi vs gv mt me env).Wp (fun r => ∀ a H', H a = none → RE ((C.w M0).add a) ad H' σ r.2 → Stp (C.w M0) ad H env H' r.2 → CellOk C.K H' (Mo ((C.w M0).add a) r.2 ad) r.1 a → Q (.ref a) H') (Er (C.w M0) ad σ W)) : tLc wi g tt te vs σ H Q := by
  unfold mLc at w
  rw [wp_bind] at w
  refine hi M0 ad σ H env _ R (w.imp (fun r w1 J hd hv H1 R1 S1 Rh Wlk Hz => ?_) fun _ z => z)
  clear w
  obtain ⟨ds, env1⟩ := r
  simp only at w1 R1 S1 Rh Wlk Hz
  split at w1
  · rename_i hw
    intro L hL
    rw [wp_bind] at w1
    have sL : Same H1 (upd H1 L (.lst [])) := same_new hL
    have HL0 : H L = none := by
      cases z : H L with
      | none => rfl
      | some o => exact absurd hL (S1.ext.trk L (by rw [z]; exact fun z => nomatch z))
    have h0L : C.H0 L = none := by
      cases z : C.H0 L with
      | none => rfl
      | some o => exact absurd hL (R1.trk L (by show C.H0 L ≠ none; rw [z]; exact fun z => nomatch z))
    have LnO : ¬ Ow env1 ad L := fun z => R1.mtrk (.inr z) hL
    have RA : RE ((C.w M0).add L) ad (upd H1 L (.lst [])) σ env1 := R1.growAdd sL hL (by rw [upd_same]; exact fun z => nomatch z)
    -- the word: at turn i
    refine ⟨fun i m H => m = ds.length - i ∧ i ≤ ds.length ∧ ∃ (env' : Sls) (acc : List D) (us : List V), RE ((C.w M0).add L) ad H (L2.wipe σ vs) env' ∧ Ext (Ow env1 ad) H1 H ∧ (∀ a, Ow env' ad a → Ow env1 ad a) ∧
        H L = some (.lst us) ∧ RpL C.K H (Mo ((C.w M0).add L) env' ad) acc us ∧ acc.length ≤ i ∧
        (lcL vs gv mt me (ds.drop i) env').Wp (fun q => ∀ H', RE ((C.w M0).add L) ad H' σ (backE env1 q.2 vs) → Ext (Ow env1 ad) H1 H' → (∀ a, Ow (backE env1 q.2 vs) ad a → Ow env1 ad a) →
          CellOk C.K H' (Mo ((C.w M0).add L) (backE env1 q.2 vs) ad) (.lst (acc ++ q.1)) L → Q (.ref L) H') (fun _ => True), ⟨ds.length, by simp, Nat.zero_le _, wipeE env1 vs, [], [], RA.wipe vs, .of_same sL, ow_wipe vs, upd_same, .nil, Nat.le_refl _, ?_⟩, ?_⟩
    · rw [List.drop_zero]
      cases q : lcL vs gv mt me ds (wipeE env1 vs) with
      | ok r =>
        rw [q] at w1
        intro H' R' x' mo' c'
        exact w1 L H' HL0 R' (S1.trans ⟨x', mo'⟩) c'
      | err c => exact True.intro
      | bad => rw [q] at w1; exact w1.elim
    · rintro i m H2 ⟨rfl, hil, env2, acc, us, R2, x2, ow2, hus, rac, hacc, w2⟩
      have Rh2 : Rp C.K H2 (Mo ((C.w M0).add L) env2 ad) hd hv := Rh.ext (x2.mono fun a z => .inr z) fun b z => by
        rcases mo_add.mp z with z | z
        · exact .inl (z.imp id (ow2 b))
        · exact .inr (z ▸ hL)
      by_cases hlt : i < ds.length
      · have ed : ds[i]? = some ds[i] := List.getElem?_eq_getElem hlt
        have edr : ds.drop i = ds[i] :: ds.drop (i + 1) := List.drop_eq_getElem_cons hlt
        obtain ⟨hgo, hy⟩ := Wlk.go H2 _ i _ (fun a z => R2.mtrk z) Rh2 ed
        rw [edr] at w2
        unfold lcL at w2
        refine .inr ⟨hgo, fun H' => ∃ (env' : Sls) (acc : List D) (us : List V), RE ((C.w M0).add L) ad H' (L2.wipe σ vs) env' ∧ Ext (Ow env1 ad) H1 H' ∧ (∀ a, Ow env' ad a → Ow env1 ad a) ∧
          H' L = some (.lst us) ∧ RpL C.K H' (Mo ((C.w M0).add L) env' ad) acc us ∧ acc.length ≤ i + 1 ∧
          (lcL vs gv mt me (ds.drop (i + 1)) env').Wp (fun q => ∀ H', RE ((C.w M0).add L) ad H' σ (backE env1 q.2 vs) → Ext (Ow env1 ad) H1 H' → (∀ a, Ow (backE env1 q.2 vs) ad a → Ow env1 ad a) →
            CellOk C.K H' (Mo ((C.w M0).add L) (backE env1 q.2 vs) ad) (.lst (acc ++ q.1)) L → Q (.ref L) H') (fun _ => True), fun H' h' => ⟨ds.length - (i + 1), by omega, rfl, hlt, h'⟩, fun x H3 y => ?_⟩
        obtain ⟨s3, rx⟩ := hy x H3 y
        have R3 : RE ((C.w M0).add L) ad H3 (L2.wipe σ vs) env2 := R2.grow s3
        rw [wp_bind] at w2
        refine hg _ ad (L2.wipe σ vs) H3 env2 ds[i] x _ R3 rx ((noE_wp (E' := fun _ => False) w2).imp (fun env3 w3 σ3 R3' ow3 l3 o3 => ?_) fun _ z => z)
        have ew : L2.wipe σ3 vs = L2.wipe σ vs := by
          rw [st_wipe_eq l3 o3]
          exact st_wipe_eq (wipe_length _ _) fun j hj => wipe_out hj
        refine ⟨ew, ?_⟩
        rw [wp_bind] at w3
        refine ht _ ad σ3 H3 env3 _ R3' ((noE_wp (E' := Er ((C.w M0).add L) ad σ3 W0) w3).imp (fun b w4 H4 R4 S4 => ?_) fun _ z => z)
        have x4 : Ext (Ow env1 ad) H2 H4 := (Ext.of_same s3).trans (S4.ext.mono fun a z => ow2 a (ow3 a z))
        have ow4 : ∀ a, Ow b.2 ad a → Ow env1 ad a := fun a z => ow2 a (ow3 a (S4.ow a z))
        have lowM : ∀ {e1 e2 : Sls}, (∀ a, Ow e2 ad a → Ow e1 ad a) → ∀ a, Mo ((C.w M0).add L) e2 ad a → Mo ((C.w M0).add L) e1 ad a := fun h a z => z.imp id (h a)
        split
        · rename_i hb
          rw [if_pos hb, wp_bind] at w4
          refine he _ ad σ3 H4 b.2 _ R4 ((noE_wp (E' := Er ((C.w M0).add L) ad σ3 W0) w4).imp (fun r w5 v H5 R5 S5 V5 => ?_) fun _ z => z)
          rw [wp_bind] at w5
          obtain ⟨_, w6, rv⟩ := kp_rp V5 w5
          have x5 : Ext (Ow env1 ad) H2 H5 := x4.trans (S5.ext.mono ow4)
          have ow5 : ∀ a, Ow r.2 ad a → Ow env1 ad a := fun a z => ow4 a (S5.ow a z)
          have hL5 : H5 L = some (.lst us) := x5.stay L _ hus LnO
          obtain ⟨R6, x6⟩ := R5.other (us' := us ++ [v]) (.inr rfl) (fun z => LnO (ow5 L z)) h0L hL5
          have rac5 : RpL C.K H5 (Mo ((C.w M0).add L) r.2 ad) acc us := rac.ext ((Ext.of_same s3).trans ((S4.ext.trans (S5.ext.mono S4.ow)).mono fun a z => .inr (ow3 a z))) fun a z => .inl (z.imp id fun z => ow3 a (S4.ow a (S5.ow a z)))
          refine ⟨us, hL5, by rw [rac5.len]; omega, wipeE r.2 vs, acc ++ [r.1], us ++ [v], by rw [← ew]; exact R6.wipe vs, ?_, fun a z => ow5 a (ow_wipe vs a z), upd_same, ?_, by rw [List.length_append]; exact Nat.succ_le_succ hacc, ?_⟩
          · refine ⟨fun b o e n => ?_, fun b xs e => ?_, fun b o u e => ?_, fun b e => ?_⟩
            · rw [upd_ne fun q => by rw [q, hL] at e; cases e]
              exact x5.stay b o (x2.stay b o e n) n
            · rw [upd_ne fun q => by rw [q, hL] at e; cases e]
              exact x5.tups b xs (x2.tups b xs e)
            · rw [upd_ne fun q => by rw [q, hL] at e; cases e]
              exact x5.frzs b o u (x2.frzs b o u e)
            · rw [upd_ne fun q => by rw [q] at e; exact e hL]
              exact x5.trk b (x2.trk b e)
          · refine ((rac5.append (.one rv)).ext (x6.mono fun b e => ?_) fun a z => .inl (lowM (fun a z => ow_wipe vs a z) a z))
            rw [e]
            exact .inl (.inr rfl)
          · cases q : lcL vs gv mt me (ds.drop (i + 1)) (wipeE r.2 vs) with
            | ok z =>
              rw [q] at w6
              intro H' R' x' m' c'
              exact w6 H' R' x' m' (by rw [List.append_assoc] at c'; exact c')
            | err c => exact True.intro
            | bad => rw [q] at w6; exact w6.elim
        · rename_i hb
          rw [if_neg hb] at w4
          have hL4 : H4 L = some (.lst us) := x4.stay L _ hus LnO
          refine ⟨wipeE b.2 vs, acc, us, by rw [← ew]; exact R4.wipe vs, x2.trans x4, fun a z => ow4 a (ow_wipe vs a z), hL4, ?_, Nat.le_succ_of_le hacc, w4⟩
          exact rac.ext ((Ext.of_same s3).trans (S4.ext.mono fun a z => .inr (ow3 a z))) fun a z => .inl (z.imp id fun z => ow3 a (S4.ow a (ow_wipe vs a z)))
      · have ei : i = ds.length := by omega
        subst ei
        rw [List.drop_length] at w2
        refine .inl ⟨Wlk.stop H2 _ Rh2, ?_⟩
        have xb : Ext (Mo ((C.w M0).add L) env1 ad) (upd H1 L (.lst [])) H2 := by
          refine ⟨fun b o e n => ?_, fun b xs e => ?_, fun b o u e => ?_, fun b e => ?_⟩
          · rw [upd_ne fun q => n (.inl (.inr q))] at e
            exact x2.stay b o e fun z => n (.inr z)
          · by_cases q : b = L
            · rw [q, upd_same] at e; cases e
            · rw [upd_ne q] at e; exact x2.tups b xs e
          · by_cases q : b = L
            · rw [q, upd_same] at e; cases e
            · rw [upd_ne q] at e; exact x2.frzs b o u e
          · by_cases q : b = L
            · rw [q, hus]; exact fun z => nomatch z
            · rw [upd_ne q] at e; exact x2.trk b e
        obtain ⟨RB, mb⟩ := RE.back RA xb R2 ow2 hw
        rw [backS_wipe] at RB
        refine w2 H2 RB x2 (fun a z => ow2 a (mb a z)) ⟨?_, us, hus, ?_⟩
        · rw [List.append_nil]; exact Nat.le_trans hacc Hz
        · rw [List.append_nil]
          exact rac.less fun a z => z.imp id (mb a)
  · exact w1.elim
end
end Vm
end
section
set_option maxHeartbeats 4000000
/-! Vm, part H: comprehensions as expressions, statements. -/
namespace Vm
open PySem PySem.Spec PyProof.Rows L2

section
variable {X : Cx} {C : Cfg} {W : WX} {k j n : Nat} {a b e : Expr} {es rest : List Expr} {ta tb tc te : TE} {t : TA} {ma mb mc m me : Ev} {ms : Evs} {pos p : Pos} {x : Str} {tg iter elt : Expr}
theorem ef_lc {ifs : List Expr} {scope : Scope} {own : List (Str × Nat)} {wi : TI} {gt : TG} {tt : TT} {mi : Em} {gv : Gv} {mt : Ev1} (g : Gd X C W k) (hi : IM X C W tg iter wi mi) (ok : BlkOk X.N X.env.scope scope own)
    (hg : ∀ (s : Shared) (H : Hp) (L : Addr) (cl : List (Str × Addr)) (fp : List Addr), Gd (X.blk s H scope (compEnvC scope cl L X.env) fp) C W0 k → GM (X.blk s H scope (compEnvC scope cl L X.env) fp) C tg gt (own.map (·.2)) gv)
    (ht : ∀ (s : Shared) (H : Hp) (L : Addr) (cl : List (Str × Addr)) (fp : List Addr), Gd (X.blk s H scope (compEnvC scope cl L X.env) fp) C W0 k → TMs (X.blk s H scope (compEnvC scope cl L X.env) fp) C W0 ifs tt mt)
    (he : ∀ (s : Shared) (H : Hp) (L : Addr) (cl : List (Str × Addr)) (fp : List Addr), Gd (X.blk s H scope (compEnvC scope cl L X.env) fp) C W0 k → EM (X.blk s H scope (compEnvC scope cl L X.env) fp) C W0 elt te me)
    (hs : ∀ x, foldedSetIterable iter X.env x = pure x := by intro _; rfl) :
    EF X C W (.ListComp elt [⟨tg, iter, ifs, 0⟩] scope pos) (tLc wi gt tt te (own.map (·.2))) (mLc mi (own.map (·.2)) gv mt me) :=
  ⟨pe_lc g.calm g.nd hi.pe ok (fun s H L cl fp => (hg s H L cl fp g.blk).pe) (fun s H L cl fp => (ht s H L cl fp g.blk).pe) (fun s H L cl fp => (he s H L cl fp g.blk).pe) hs,
    fun M0 ad σ H env Q R w => lc_sn hi.sn (hg X.s_0 X.H_0 0 [] [] g.blk).sn (ht X.s_0 X.H_0 0 [] [] g.blk).sn (he X.s_0 X.H_0 0 [] [] g.blk).sn R w⟩

/-! ### statements -/
inductive Out where
  | next
  | brk
  | cont
  | ret (d : D)
abbrev Sv := Sls → Res (Out × Sls)
def Keep (C : Cfg) (ad : Nat → Addr) (H : Hp) (env : Sls) (ad' : Nat → Addr) (H' : Hp) (env' : Sls) : Prop := ∀ d v, Rp C.K H (Mo C env ad) d v → Rp C.K H' (Mo C env' ad') d v
theorem Keep.refl {ad : Nat → Addr} {H : Hp} {env : Sls} : Keep C ad H env ad H env := fun _ _ h => h
theorem Keep.trans {ad ad' ad2 : Nat → Addr} {H H' H2 : Hp} {env env' env2 : Sls} (x : Keep C ad H env ad' H' env') (y : Keep C ad' H' env' ad2 H2 env2) : Keep C ad H env ad2 H2 env2 := fun d v h => y d v (x d v h)
theorem Stp.keep {ad : Nat → Addr} {H H' : Hp} {env env' : Sls} (S : Stp C ad H env H' env') : Keep C ad H env ad H' env' := fun _ _ h => S.rp h
def RetOk (C : Cfg) (ad : Nat → Addr) (H : Hp) (σ : L2.St) (env : Sls) (d : D) (v : V) : Prop :=
  match C.fresh with
  | false => RE C ad H σ env ∧ Rp C.K H (Mo C env ad) d v
  | true => ∃ a, v = .ref a ∧ C.H0 a = none ∧ RE (C.add a) ad H σ env ∧ CellOk C.K H (Mo (C.add a) env ad) d a
def Fin (C : Cfg) (Dn : Ends) (ad : Nat → Addr) (H : Hp) (env : Sls) (r : Out × Sls) : Prop :=
  match r.1 with
  | .next => ∀ ad' σ' H', RE C ad' H' σ' r.2 → Keep C ad H env ad' H' r.2 → Dn.nx σ' H'
  | .brk => ∀ ad' σ' H', RE C ad' H' σ' r.2 → Keep C ad H env ad' H' r.2 → Dn.bk σ' H'
  | .cont => ∀ ad' σ' H', RE C ad' H' σ' r.2 → Keep C ad H env ad' H' r.2 → Dn.ct σ' H'
  | .ret d => ∀ ad' σ' H' v, RetOk C ad' H' σ' r.2 d v → Dn.rt v H'
def ErS (C : Cfg) (W : WX) (c : Str) : Prop := ∀ ad σ cls dd H env', C.mg c = some cls → RE C ad H σ env' → W cls dd σ H
theorem ErS.er {ad : Nat → Addr} {σ : L2.St} {c : Str} (h : ErS C W c) : Er C ad σ W c := fun cls dd H env' hm R => h ad σ cls dd H env' hm R
theorem Fin.mid {Dn : Ends} {ad ad' : Nat → Addr} {H H' : Hp} {env env' : Sls} {r : Out × Sls} (K : Keep C ad H env ad' H' env') (h : Fin C Dn ad H env r) : Fin C Dn ad' H' env' r := by
  obtain ⟨o, e2⟩ := r
  cases o with
  | next => exact fun ad2 σ2 H2 R k2 => h ad2 σ2 H2 R (K.trans k2)
  | brk => exact fun ad2 σ2 H2 R k2 => h ad2 σ2 H2 R (K.trans k2)
  | cont => exact fun ad2 σ2 H2 R k2 => h ad2 σ2 H2 R (K.trans k2)
  | ret d => exact h
structure SM (X : Cx) (C : Cfg) (W : WX) (st : Stmt) (t : TS) (m : Sv) : Prop where
  pe : PS X st t
  sn : ∀ (ad : Nat → Addr) (σ : L2.St) (H : Hp) (env : Sls) (Dn : Ends), RE C ad H σ env → (m env).Wp (Fin C Dn ad H env) (ErS C W) → t Dn σ H
structure SSM (X : Cx) (C : Cfg) (W : WX) (st : List Stmt) (t : TS) (m : Sv) : Prop where
  pe : PSs X st t
  sn : ∀ (ad : Nat → Addr) (σ : L2.St) (H : Hp) (env : Sls) (Dn : Ends), RE C ad H σ env → (m env).Wp (Fin C Dn ad H env) (ErS C W) → t Dn σ H
/-- an expression within a statement -/
theorem EM.st (h : EM X C W e ta m) {ad : Nat → Addr} {σ : L2.St} {H : Hp} {env : Sls} {Q : VK} {α : Type} {f : D × Sls → Res α} {P : α → Prop} (R : RE C ad H σ env)
    (w : (m env >>= f).Wp P (ErS C W)) (hq : ∀ (r : D × Sls) v H', RE C ad H' σ r.2 → Stp C ad H env H' r.2 → VR C ad H' σ r.2 r.1 v → (f r).Wp P (ErS C W) → Q v H') : ta σ H Q := by
  rw [wp_bind] at w
  exact h.sn C.M0 ad σ H env Q R (w.imp (fun r z v H' R' S' V' => hq r v H' R' S' V' z) fun _ z => z.er)
theorem TM.st {t : TT} {m : Ev1} (h : TM X C W e t m) {ad : Nat → Addr} {σ : L2.St} {H : Hp} {env : Sls} {Q : Bool → Hp → Prop} {α : Type} {f : Bool × Sls → Res α} {P : α → Prop} (R : RE C ad H σ env)
    (w : (m env >>= f).Wp P (ErS C W)) (hq : ∀ (r : Bool × Sls) H', RE C ad H' σ r.2 → Stp C ad H env H' r.2 → (f r).Wp P (ErS C W) → Q r.1 H') : t σ H Q := by
  rw [wp_bind] at w
  exact h.sn C.M0 ad σ H env Q R (w.imp (fun r z H' R' S' => hq r H' R' S' z) fun _ z => z.er)
theorem EF.st (h : EF X C W e ta m) {ad : Nat → Addr} {σ : L2.St} {H : Hp} {env : Sls} {Q : VK} {α : Type} {f : D × Sls → Res α} {P : α → Prop} (R : RE C ad H σ env)
    (w : (m env >>= f).Wp P (ErS C W)) (hq : ∀ (r : D × Sls) a H', H a = none → RE (C.add a) ad H' σ r.2 → Stp C ad H env H' r.2 → CellOk C.K H' (Mo (C.add a) r.2 ad) r.1 a → (f r).Wp P (ErS C W) → Q (.ref a) H') : ta σ H Q := by
  rw [wp_bind] at w
  exact h.sn C.M0 ad σ H env Q R (w.imp (fun r z a H' hn R' S' c => hq r a H' hn R' S' c z) fun _ z => z.er)

def mSk : Sv := fun env => .ok (.next, env)
def mSq (m1 m2 : Sv) : Sv := fun env => do
  let r ← m1 env
  match r.1 with
  | .next => m2 r.2
  | o => pure (o, r.2)
theorem ssm_nil : SSM X C W [] tNext mSk := ⟨pss_nil, fun ad σ H env Dn R w => w ad σ H R .refl⟩
theorem ssm_cons {st : Stmt} {sts : List Stmt} {t u : TS} {m1 m2 : Sv} (h1 : SM X C W st t m1) (h2 : SSM X C W sts u m2) : SSM X C W (st :: sts) (tSeq t u) (mSq m1 m2) := by
  refine ⟨pss_cons h1.pe h2.pe, fun ad σ H env Dn R w => ?_⟩
  unfold mSq at w
  rw [wp_bind] at w
  refine h1.sn ad σ H env { Dn with nx := u Dn } R (w.imp (fun r z => ?_) fun _ z => z)
  obtain ⟨o, e2⟩ := r
  cases o with
  | next => exact fun ad' σ' H' R' K' => h2.sn ad' σ' H' e2 Dn R' (Res.Wp.imp z (fun r q => q.mid K') fun _ q => q)
  | brk => exact z
  | cont => exact z
  | ret d => exact z
theorem ssm_one {st : Stmt} {t : TS} {m1 : Sv} (h1 : SM X C W st t m1) : SSM X C W [st] t m1 := ⟨pss_one h1.pe, h1.sn⟩
theorem sm_pass : SM X C W (.Pass pos) tNext mSk := ⟨ps_pass, fun ad σ H env Dn R w => w ad σ H R .refl⟩
def mBrk : Sv := fun env => .ok (.brk, env)
def mCnt : Sv := fun env => .ok (.cont, env)
theorem sm_brk : SM X C W (.Break pos) tBreak mBrk := ⟨ps_break, fun ad σ H env Dn R w => w ad σ H R .refl⟩
theorem sm_cnt : SM X C W (.Continue pos) tCont mCnt := ⟨ps_continue, fun ad σ H env Dn R w => w ad σ H R .refl⟩

/-! name = value -/
def mSet (i : Nat) (m : Ev) : Sv := fun env => do
  let r ← m env
  let d ← kp r.1
  if notPar r.2 i = true then pure (.next, r.2.set i (.t d)) else .bad
theorem set_sn {i : Nat} (h : ∀ (M0 : Addr → Prop) (ad : Nat → Addr) (σ : L2.St) (H : Hp) (env : Sls) (Q : VK), RE (C.w M0) ad H σ env →
      (m env).Wp (fun r => ∀ v H', RE (C.w M0) ad H' σ r.2 → Stp (C.w M0) ad H env H' r.2 → VR (C.w M0) ad H' σ r.2 r.1 v → Q v H') (Er (C.w M0) ad σ W) → ta σ H Q)
    {ad : Nat → Addr} {σ : L2.St} {H : Hp} {env : Sls} {Dn : Ends} (R : RE C ad H σ env) (w : (mSet i m env).Wp (Fin C Dn ad H env) (ErS C W)) : tAsg ta (gName i) Dn σ H := by
  unfold mSet at w
  rw [wp_bind] at w
  refine h C.M0 ad σ H env _ R (w.imp (fun r z v H' R' S' V' => ?_) fun _ z => z.er)
  rw [wp_bind] at z
  obtain ⟨_, z2, rp⟩ := kp_rp V' z
  split at z2
  · exact z2 ad _ H' (RE.setS (C := C) R' rfl ⟨v, rfl, rp⟩) (S'.keep.trans fun d v q => q.less (mo_set rfl))
  · exact z2.elim
theorem sm_set {i : Nat} {x : Str} {pos' : Pos} (g : Gd X C W k) (h : EM X C W e ta m) (hi : X.N[i]? = some x := by rfl) (hx : Loc X.env.scope x := by first | exact .inl rfl | exact .inr rfl) (hs : swapsWith e (some (.Name x pos')) pos.line X.env = pure false := by rfl) (hf : X.fn x = true ∨ X.env.scope.names.lookup x = some .local := by exact .inl rfl) :
    SM X C W (.Assign [.Name x pos'] e pos) (tAsg ta (gName i)) (mSet i m) := ⟨ps_set g.nd hi hx h.pe hs hf, fun ad σ H env Dn R w => set_sn h.sn R w⟩
def mSetL (i : Nat) (m : Ev) : Sv := fun env => do
  let r ← m env
  if notPar r.2 i = true then pure (.next, r.2.set i (.l r.1)) else .bad
theorem notPar_lt {env : Sls} {i : Nat} (h : notPar env i = true) : i < env.length := by
  unfold notPar at h
  cases q : env[i]? with
  | none => rw [q] at h; cases h
  | some s => exact (List.getElem?_eq_some_iff.mp q).1
theorem setL_sn {i : Nat} (h : ∀ (M0 : Addr → Prop) (ad : Nat → Addr) (σ : L2.St) (H : Hp) (env : Sls) (Q : VK), RE (C.w M0) ad H σ env →
      (m env).Wp (fun r => ∀ a H', H a = none → RE ((C.w M0).add a) ad H' σ r.2 → Stp (C.w M0) ad H env H' r.2 → CellOk C.K H' (Mo ((C.w M0).add a) r.2 ad) r.1 a → Q (.ref a) H') (Er (C.w M0) ad σ W) → ta σ H Q)
    {ad : Nat → Addr} {σ : L2.St} {H : Hp} {env : Sls} {Dn : Ends} (R : RE C ad H σ env) (w : (mSetL i m env).Wp (Fin C Dn ad H env) (ErS C W)) : tAsg ta (gName i) Dn σ H := by
  unfold mSetL at w
  rw [wp_bind] at w
  refine h C.M0 ad σ H env _ R (w.imp (fun r z a H' hn R' S' c => ?_) fun _ z => z.er)
  split at z
  · rename_i hp
    have h0 : C.H0 a = none := by
      cases q : C.H0 a with
      | none => rfl
      | some o => exact absurd hn (R.trk a (by rw [q]; exact fun z => nomatch z))
    have hno : ¬ Mo C r.2 ad a := fun q => R.mtrk (S'.mo a q) hn
    have R2 : RE C (adSet ad i a) H' (σ.set i (some (.ref a))) (r.2.set i (.l r.1)) := RE.setL (C := C) R' h0 hno (notPar_lt hp) c
    refine z _ _ H' R2 fun d v q => q.ext S'.extM fun b y => ?_
    rcases y with y | ⟨j, s, e1, o, rfl⟩
    · exact .inl (.inl y)
    · by_cases hj : j = i
      · right
        have : adSet ad i a j = a := by unfold adSet; rw [if_pos hj]
        rw [this]; exact hn
      · rw [List.getElem?_set_ne (Ne.symm hj)] at e1
        have : adSet ad i a j = ad j := by unfold adSet; rw [if_neg hj]
        rw [this]
        exact .inl (S'.mo _ (.inr ⟨j, s, e1, o, rfl⟩))
  · exact z.elim
theorem sm_setL {i : Nat} {x : Str} {pos' : Pos} (g : Gd X C W k) (h : EF X C W e ta m) (hi : X.N[i]? = some x := by rfl) (hx : Loc X.env.scope x := by first | exact .inl rfl | exact .inr rfl) (hs : swapsWith e (some (.Name x pos')) pos.line X.env = pure false := by rfl) (hf : X.fn x = true ∨ X.env.scope.names.lookup x = some .local := by exact .inl rfl) :
    SM X C W (.Assign [.Name x pos'] e pos) (tAsg ta (gName i)) (mSetL i m) := ⟨ps_set g.nd hi hx h.pe hs hf, fun ad σ H env Dn R w => setL_sn h.sn R w⟩
/-- name = [..], the machine's own way of it -/
theorem ps_lc {i : Nat} {y : Str} {py spos : Pos} {ifs : List Expr} {scope : Scope} {own : List (Str × Nat)} {wi : TI} {gt : TG} {tt : TT} {mi : Em} {gv : Gv} {mt : Ev1} (g : Gd X C W k) (hi : IM X C W tg iter wi mi) (ok : BlkOk X.N X.env.scope scope own)
    (hg : ∀ (s : Shared) (H : Hp) (L : Addr) (cl : List (Str × Addr)) (fp : List Addr), Gd (X.blk s H scope (compEnvC scope cl L X.env) fp) C W0 k → GM (X.blk s H scope (compEnvC scope cl L X.env) fp) C tg gt (own.map (·.2)) gv)
    (ht : ∀ (s : Shared) (H : Hp) (L : Addr) (cl : List (Str × Addr)) (fp : List Addr), Gd (X.blk s H scope (compEnvC scope cl L X.env) fp) C W0 k → TMs (X.blk s H scope (compEnvC scope cl L X.env) fp) C W0 ifs tt mt)
    (he : ∀ (s : Shared) (H : Hp) (L : Addr) (cl : List (Str × Addr)) (fp : List Addr), Gd (X.blk s H scope (compEnvC scope cl L X.env) fp) C W0 k → EM (X.blk s H scope (compEnvC scope cl L X.env) fp) C W0 elt te me)
    (hy : X.N[i]? = some y := by rfl) (hyl : X.env.scope.names.lookup y = some .local := by rfl) (hsw : swapsWith (.ListComp elt [⟨tg, iter, ifs, 0⟩] scope pos) (some (.Name y py)) spos.line X.env = pure true := by exact sw_true rfl rfl rfl (by decide +kernel)) (hs : ∀ x, foldedSetIterable iter X.env x = pure x := by intro _; rfl) :
    PS X (.Assign [.Name y py] (.ListComp elt [⟨tg, iter, ifs, 0⟩] scope pos) spos) (tAsg (tLc wi gt tt te (own.map (·.2))) (gName i)) :=
  ps_setLc g.calm g.nd hy hyl hsw hi.pe ok (fun s H L cl fp => (hg s H L cl fp g.blk).pe) (fun s H L cl fp => (ht s H L cl fp g.blk).pe) (fun s H L cl fp => (he s H L cl fp g.blk).pe) hs
theorem sm_lcL {i : Nat} {st : Stmt} (hp : PS X st (tAsg ta (gName i))) (h : EF X C W e ta m) : SM X C W st (tAsg ta (gName i)) (mSetL i m) := ⟨hp, fun ad σ H env Dn R w => setL_sn h.sn R w⟩
theorem sm_lc {i : Nat} {st : Stmt} (hp : PS X st (tAsg ta (gName i))) (h : EM X C W e ta m) : SM X C W st (tAsg ta (gName i)) (mSet i m) := ⟨hp, fun ad σ H env Dn R w => set_sn h.sn R w⟩
/-- a, b = value -/
def mUnp (gv : Gv) (m : Ev) : Sv := fun env => do
  let r ← m env
  let d ← kp r.1
  let e ← noE (gv d r.2)
  pure (.next, e)
theorem sm_unp {gt : TG} {vs : List Nat} {gv : Gv} (h : EM X C W e ta m) (hg : GM X C tg gt vs gv) (hs : swapsWithSole [tg] e pos.line X.env = pure false := by rfl) (hw : swappedStores [tg] e X.env = pure none := by rfl)
    (h1 : (assignEach [tg] X.env).map (·.2) = [assign tg X.env] := by rfl) : SM X C W (.Assign [tg] e pos) (tAsg ta gt) (mUnp gv m) := by
  refine ⟨ps_asg h.pe hg.pe hs hw h1, fun ad σ H env Dn R w => ?_⟩
  unfold mUnp at w
  refine h.st R w fun r v H' R' S' V' z => ?_
  rw [wp_bind] at z
  obtain ⟨_, z2, rp⟩ := kp_rp V' z
  rw [wp_bind] at z2
  refine hg.sn C.M0 ad σ H' r.2 r.1 v _ R' rp ((noE_wp (E' := fun _ => False) z2).imp (fun env3 w3 σ3 R3 ow3 l3 o3 => ?_) fun _ z => z)
  exact w3 ad σ3 H' R3 (S'.keep.trans fun d v q => q.less fun a y => y.imp id (ow3 a))
/-- an expression for its effect -/
def mExp (m : Ev) : Sv := fun env => do
  let r ← m env
  pure (.next, r.2)
theorem sm_expr (h : EM X C W e ta m) (hs : swapsWith e none pos.line X.env = pure false := by rfl) : SM X C W (.Expr e pos) (tDrop ta) (mExp m) := by
  refine ⟨ps_expr h.pe hs, fun ad σ H env Dn R w => ?_⟩
  unfold mExp at w
  exact h.st R w fun r v H' R' S' V' z => z ad σ H' R' S'.keep
theorem sm_doc {y : Str} {j : Nat} {p2 : Pos} : SM X C W (.Expr (.Constant (.str y) j p2) pos) tNext mSk := ⟨ps_doc, fun ad σ H env Dn R w => w ad σ H R .refl⟩
def mIfS (mt : Ev1) (m1 m2 : Sv) : Sv := fun env => do
  let r ← mt env
  if r.1 = true then m1 r.2 else m2 r.2
theorem sm_if {c : Expr} {s1 s2 : List Stmt} {tc : TT} {mt : Ev1} {t u : TS} {m1 m2 : Sv} (hc : TM X C W c tc mt) (h1 : SSM X C W s1 t m1) (h2 : SSM X C W s2 u m2) : SM X C W (.If c s1 s2 pos) (tIfS tc t u) (mIfS mt m1 m2) := by
  refine ⟨ps_if hc.pe h1.pe h2.pe, fun ad σ H env Dn R w => ?_⟩
  unfold mIfS at w
  refine hc.st R w fun r H' R' S' z => ?_
  split
  · rename_i hb
    rw [if_pos hb] at z
    exact h1.sn ad σ H' r.2 Dn R' (z.imp (fun q y => y.mid S'.keep) fun _ y => y)
  · rename_i hb
    rw [if_neg hb] at z
    exact h2.sn ad σ H' r.2 Dn R' (z.imp (fun q y => y.mid S'.keep) fun _ y => y)
/-- return -/
def mRet (m : Ev) : Sv := fun env => do
  let r ← m env
  let d ← kp r.1
  pure (.ret d, r.2)
theorem sm_ret (h : EM X C W e ta m) (hf : C.fresh = false := by rfl) : SM X C W (.Return (some e) pos) (tRet ta) (mRet m) := by
  refine ⟨ps_ret h.pe, fun ad σ H env Dn R w => ?_⟩
  unfold mRet at w
  refine h.st R w fun r v H' R' S' V' z => ?_
  rw [wp_bind] at z
  obtain ⟨_, z2, rp⟩ := kp_rp V' z
  refine z2 ad σ H' v ?_
  unfold RetOk
  rw [hf]
  exact ⟨R', rp⟩
theorem sm_retF (h : EF X C W e ta m) (hf : C.fresh = true := by rfl) : SM X C W (.Return (some e) pos) (tRet ta) (mRet m) := by
  refine ⟨ps_ret h.pe, fun ad σ H env Dn R w => ?_⟩
  unfold mRet at w
  refine h.st R w fun r a H' hn R' S' c z => ?_
  rw [wp_bind] at z
  have hk : kp r.1 = .ok r.1 := by
    cases q : r.1 with
    | own i => rw [q] at c; exact c.elim
    | _ => rfl
  rw [hk] at z
  refine z ad σ H' (.ref a) ?_
  unfold RetOk
  rw [hf]
  refine ⟨a, rfl, ?_, R', c⟩
  cases q : C.H0 a with
  | none => rfl
  | some o => exact absurd hn (R.trk a (by rw [q]; exact fun z => nomatch z))
def mRetN : Sv := fun env => .ok (.ret .non, env)
theorem sm_retN (hf : C.fresh = false := by rfl) : SM X C W (.Return none pos) tRetN mRetN := by
  refine ⟨ps_retN, fun ad σ H env Dn R w => w ad σ H .non ?_⟩
  unfold RetOk
  rw [hf]
  exact ⟨R, .non⟩
/-- return of the def's own list -/
def mRetL (i : Nat) : Sv := fun env =>
  match env[i]? with
  | some (.l d) => .ok (.ret d, env.set i .u)
  | _ => .bad
theorem sm_retL (i : Nat) {x : Str} {p2 : Pos} (hN : X.N[i]? = some x := by rfl) (hv : Vis X.env.scope x := by first | exact Or.inl rfl | exact Or.inr (Or.inl rfl) | exact Or.inr (Or.inr rfl)) (hd : (x == ("__debug__" : Str)) = false := by decide)
    (hcd : (x == ("__classdict__" : Str)) = false := by decide) (hf : C.fresh = true := by rfl) : SM X C W (.Return (some (.Name x p2)) pos) (tRet (tVar i)) (mRetL i) := by
  refine ⟨ps_ret (pe_var hN hv hd hcd), fun ad σ H env Dn R w => ?_⟩
  unfold mRetL at w
  cases q : env[i]? with
  | none => rw [q] at w; exact w.elim
  | some s =>
    rw [q] at w
    cases s with
    | l d =>
      have hi : i < env.length := (List.getElem?_eq_some_iff.mp q).1
      obtain ⟨d0, hd0, hσ, c0⟩ := R.cell q rfl
      have e0 : d0 = d := by rcases hd0 with z | z | z <;> cases z; rfl
      subst e0
      refine ⟨.ref (ad i), hσ, w ad (σ.set i none) H _ ?_⟩
      unfold RetOk
      rw [hf]
      have hM : Mo C env ad (ad i) := .inr ⟨i, _, q, rfl, rfl⟩
      have lo : ∀ b, Mo (C.add (ad i)) (env.set i .u) ad b → Mo C env ad b := fun b z => by
        rcases mo_add.mp z with z | z
        · exact mo_set rfl b z
        · exact z ▸ hM
      have RA : RE (C.add (ad i)) ad H (σ.set i none) (env.set i .u) := by
        have R2 := RE.setS R (i := i) (s := .u) (v := none) rfl True.intro
        refine ⟨R2.len, fun j s e => ?_, R2.inj, fun j f e => ⟨(R2.loc j f e).1, fun z => ?_⟩, R2.par, R2.same, R2.frk, R2.trk, fun b z => z.elim (R2.m0 b) fun z => z ▸ c0.trk⟩
        · by_cases hj : i = j
          · subst hj
            rw [List.getElem?_set_self hi] at e
            cases e
            trivial
          · rw [List.getElem?_set_ne hj] at e ⊢
            exact SlOk.ext (C := C) (R.sl j s e) (fun _ => rfl) .refl fun b z => .inl (lo b z)
        · rcases z with z | z
          · exact (R2.loc j f e).2 z
          · have e' : ∃ s : Sl, env[j]? = some s ∧ s.isOwn = true ∧ j ≠ i := by
              by_cases hj : i = j
              · subst hj
                rw [List.getElem?_set_self hi] at e
                rcases e with e | e <;> cases e
              · rw [List.getElem?_set_ne hj] at e
                rcases e with e | e
                · exact ⟨_, e, rfl, fun z => hj z.symm⟩
                · exact ⟨_, e, rfl, fun z => hj z.symm⟩
            obtain ⟨s, e1, e2, e3⟩ := e'
            exact e3 (R.inj _ _ _ _ e1 q e2 rfl z)
      exact ⟨ad i, rfl, (R.loc i d0 (.inl q)).1, RA, c0.ext rfl .refl fun b z => .inl (lo b z)⟩
    | _ => exact w.elim
/-- raise X('..') -/
structure ExF (K : PySem.W.Frag) (mg : Str → Option Value) (x : Str) : Prop where
  ex : ∃ C : Addr, mg x = some (.ref C) ∧ PySem.W.excIn K C [.type "ValueError", .type "Exception", .type "BaseException", .type "object"] "ValueError.__new__" = true ∧ PySem.W.keepIn K (.ref C) = true ∧
    PySem.W.subIn K (.ref C) (.type "BaseException") = some true ∧ PySem.W.typeIn K (.ref C) = some (.type "type")
def mRai (x : Str) : Sv := fun _ => .err x
theorem sm_raise {x m : Str} {j : Nat} {p2 p3 p4 : Pos} (g : Gd X C W k) (F : ExF X.K X.mg x) (hg : Gl X x := by rfl) (hdb : (x == ("__debug__" : Str)) = false := by decide) :
    ∃ t, SM X C W (.Raise (some (.Call (.Name x p2) [.Constant (.str m) j p3] [] p4)) none pos) t (mRai x) := by
  obtain ⟨A, gC, q, kC, hsub, hty⟩ := F.ex
  refine ⟨_, ps_raise g.calm g.tk (pmk_own PySem.F.excBase_ValueError q gC kC (raises_own hsub hty) hg hdb), fun ad σ H env Dn R w => ?_⟩
  exact w ad σ (.ref A) none H env (by rw [← g.mE]; exact gC) R
/-- for -/
def forL (gv : Gv) (b : Sv) : List D → Sls → Res (Out × Sls)
  | [], env => .ok (.next, env)
  | d :: ds, env => do
    let e1 ← noE (gv d env)
    let r ← b e1
    match r.1 with
    | .next => forL gv b ds r.2
    | .cont => forL gv b ds r.2
    | .brk => pure (.next, r.2)
    | .ret d => pure (.ret d, r.2)
def mFor (mi : Em) (gv : Gv) (b : Sv) : Sv := fun env => do
  let r ← mi env
  forL gv b r.1 r.2
theorem sm_for {body : List Stmt} {wi : TI} {gt : TG} {vs : List Nat} {tb : TS} {mi : Em} {gv : Gv} {mb : Sv} (g : Gd X C W k) (hi : IM X C W tg iter wi mi) (hg : GM X C tg gt vs gv) (hb : SSM X C W body tb mb)
    (hp : PassesOwn (model X.prog X.w) X.A X.env X.xe := by exact passes_of rfl) (hs : ∀ x, foldedSetIterable iter X.env x = pure x := by intro _; rfl) : SM X C W (.For tg iter body [] pos) (tFor wi gt tb) (mFor mi gv mb) := by
  refine ⟨ps_for hp g.calm hi.pe hg.pe hb.pe hs, fun ad σ H env Dn R w => ?_⟩
  unfold mFor at w
  rw [wp_bind] at w
  refine hi.sn C.M0 ad σ H env _ R (w.imp (fun r w1 J hd hv H1 R1 S1 Rh Wlk Hz => ?_) fun _ z => z.er)
  clear w
  obtain ⟨ds, env1⟩ := r
  simp only at w1 R1 S1 Rh Wlk Hz
  have K1 : Keep C ad H env ad H1 env1 := Stp.keep (C := C) S1
  refine ⟨fun i m σ2 H2 => m = ds.length - i ∧ i ≤ ds.length ∧ ∃ (ad2 : Nat → Addr) (env2 : Sls), RE C ad2 H2 σ2 env2 ∧ Keep C ad H env ad2 H2 env2 ∧ Keep C ad H1 env1 ad2 H2 env2 ∧ (forL gv mb (ds.drop i) env2).Wp (Fin C Dn ad H env) (ErS C W),
    ⟨ds.length, by simp, Nat.zero_le _, ad, env1, R1, K1, .refl, by rw [List.drop_zero]; exact w1⟩, ?_⟩
  rintro i m σ2 H2 ⟨rfl, hil, ad2, env2, R2, K2, K3, w2⟩
  have Rh2 : Rp C.K H2 (Mo C env2 ad2) hd hv := K3 hd hv Rh
  by_cases hlt : i < ds.length
  · have ed : ds[i]? = some ds[i] := List.getElem?_eq_getElem hlt
    have edr : ds.drop i = ds[i] :: ds.drop (i + 1) := List.drop_eq_getElem_cons hlt
    obtain ⟨hgo, hy⟩ := Wlk.go H2 _ i _ (fun a z => R2.mtrk z) Rh2 ed
    rw [edr] at w2
    unfold forL at w2
    rw [wp_bind] at w2
    refine .inr ⟨hgo, fun σ3 H3 => ∃ (ad3 : Nat → Addr) (env3 : Sls), RE C ad3 H3 σ3 env3 ∧ Keep C ad H env ad3 H3 env3 ∧ Keep C ad H1 env1 ad3 H3 env3 ∧ (forL gv mb (ds.drop (i + 1)) env3).Wp (Fin C Dn ad H env) (ErS C W),
      fun σ3 H3 h3 => ⟨ds.length - (i + 1), by omega, rfl, hlt, h3⟩, fun x H3 y => ?_⟩
    obtain ⟨s3, rx⟩ := hy x H3 y
    have R3 : RE C ad2 H3 σ2 env2 := R2.grow s3
    have K4 : Keep C ad2 H2 env2 ad2 H3 env2 := Stp.keep (.grow s3)
    refine hg.sn C.M0 ad2 σ2 H3 env2 ds[i] x _ R3 rx ((noE_wp (E' := fun _ => False) w2).imp (fun env4 w4 σ4 R4 ow4 _ _ => ?_) fun _ z => z)
    have K5 : Keep C ad2 H2 env2 ad2 H3 env4 := K4.trans fun d v q => q.less fun a z => z.imp id (ow4 a)
    rw [wp_bind] at w4
    refine hb.sn ad2 σ4 H3 env4 _ R4 (w4.imp (fun r z => ?_) fun _ z => z)
    obtain ⟨o, e5⟩ := r
    cases o with
    | next => exact fun ad' σ' H' R' K' => ⟨ad', e5, R', (K2.trans K5).trans K', (K3.trans K5).trans K', z⟩
    | cont => exact fun ad' σ' H' R' K' => ⟨ad', e5, R', (K2.trans K5).trans K', (K3.trans K5).trans K', z⟩
    | brk => exact fun ad' σ' H' R' K' => z ad' σ' H' R' ((K2.trans K5).trans K')
    | ret d => exact z
  · have ei : i = ds.length := by omega
    subst ei
    rw [List.drop_length] at w2
    exact .inl ⟨Wlk.stop H2 _ Rh2, w2 ad2 σ2 H2 R2 K2⟩
/-- while -/
def whL (mt : Ev1) (mb : Sv) : Nat → Sls → Res (Out × Sls)
  | 0, _ => .bad
  | n + 1, env => do
    let b ← mt env
    if b.1 = true then do
      let r ← mb b.2
      match r.1 with
      | .next => whL mt mb n r.2
      | .cont => whL mt mb n r.2
      | .brk => pure (.next, r.2)
      | .ret d => pure (.ret d, r.2)
    else pure (.next, b.2)
def mWh (f : Sls → Nat) (mt : Ev1) (mb : Sv) : Sv := fun env => whL mt mb (f env) env
theorem sm_while {c : Expr} {body : List Stmt} {tc : TT} {tb : TS} {mt : Ev1} {mb : Sv} (f : Sls → Nat) (hc : TM X C W c tc mt) (hb : SSM X C W body tb mb) (hp : PassesOwn (model X.prog X.w) X.A X.env X.xe := by exact passes_of rfl) : SM X C W (.While c body [] pos) (tWhile tc tb) (mWh f mt mb) := by
  refine ⟨ps_while hp hc.pe hb.pe, fun ad σ H env Dn R w => ?_⟩
  refine ⟨fun m σ2 H2 => ∃ (ad2 : Nat → Addr) (env2 : Sls), RE C ad2 H2 σ2 env2 ∧ Keep C ad H env ad2 H2 env2 ∧ (whL mt mb m env2).Wp (Fin C Dn ad H env) (ErS C W), ⟨f env, ad, env, R, .refl, w⟩, ?_⟩
  rintro m σ2 H2 ⟨ad2, env2, R2, K2, w2⟩
  cases m with
  | zero => exact w2.elim
  | succ n =>
    unfold whL at w2
    refine hc.st R2 w2 fun r H3 R3 S3 z => ?_
    split
    · rename_i hb'
      rw [if_pos hb', wp_bind] at z
      refine ⟨fun σ4 H4 => ∃ (ad4 : Nat → Addr) (env4 : Sls), RE C ad4 H4 σ4 env4 ∧ Keep C ad H env ad4 H4 env4 ∧ (whL mt mb n env4).Wp (Fin C Dn ad H env) (ErS C W), fun σ4 H4 h4 => ⟨n, Nat.lt_succ_self n, h4⟩, ?_⟩
      refine hb.sn ad2 σ2 H3 r.2 _ R3 (z.imp (fun q y => ?_) fun _ y => y)
      obtain ⟨o, e5⟩ := q
      cases o with
      | next => exact fun ad' σ' H' R' K' => ⟨ad', e5, R', (K2.trans S3.keep).trans K', y⟩
      | cont => exact fun ad' σ' H' R' K' => ⟨ad', e5, R', (K2.trans S3.keep).trans K', y⟩
      | brk => exact fun ad' σ' H' R' K' => y ad' σ' H' R' ((K2.trans S3.keep).trans K')
      | ret d => exact y
    · rename_i hb'
      rw [if_neg hb'] at z
      exact z ad2 σ2 H3 R3 (K2.trans S3.keep)
end
end Vm
end
section
set_option maxHeartbeats 4000000
/-! Vm, part I: o[i] = v, defs, the law's end. -/
namespace Vm
open PySem PySem.Spec PyProof.Rows L2

section
variable {X : Cx} {C : Cfg} {W : WX} {k j n : Nat} {a b e : Expr} {es rest : List Expr} {ta tb tc te : TE} {t : TA} {ma mb mc m me : Ev} {ms : Evs} {pos p : Pos} {x : Str} {tg iter elt : Expr}
def rSetA : TSet := fun o i v H Q => rSetL o i v H Q ∨ rSetD o i v H Q
theorem set_any (hr : Room k X.A) : PSet X rSetA := by
  intro pins s σ H o i v ov iv u Q I ro ri rv h
  rcases h with h | h
  · exact set_list pins s σ H o i v ov iv u Q I ro ri rv h
  · exact set_dict (hu_of hr) pins s σ H o i v ov iv u Q I ro ri rv h
def putAt (c y d : D) : Res D := match c with
  | .lst ds => (match y with
    | .int i => (match ixN ds.length i with
      | some j => .ok (.lst (ds.set j d))
      | none => .bad)
    | _ => .bad)
  | .dic ds => (match dkey y with
    | some k => if ds.length < sizeLine then .ok (.dic (putD ds k d)) else .bad
    | none => .bad)
  | _ => .bad
def mPut (i : Nat) (mi mv : Ev) : Sv := fun env => do
  let r1 ← mv env
  let d ← kp r1.1
  match r1.2[i]?.bind Sl.con with
  | some _ => do
    let r2 ← mi r1.2
    let y ← rs r2.2 r2.1
    match r2.2[i]? with
    | some s => (match s.con with
      | some c => (match putAt c y d with
        | .ok c' => pure (.next, r2.2.set i (s.put c'))
        | _ => .bad)
      | none => .bad)
    | none => .bad
  | none => .bad
theorem length_putD (ds : List (Key × D)) (k : Key) (d : D) : (putD ds k d).length ≤ ds.length + 1 := by
  unfold putD
  split
  · rw [List.length_map]; omega
  · rw [List.length_append]; exact Nat.le_refl _
theorem sm_put (i : Nat) {y : Str} {py p2 : Pos} {ei ev : Expr} {ti tv : TE} {mi mv : Ev} (g : Gd X C W k) (hi : EM X C W ei ti mi) (hv : EM X C W ev tv mv) (hN : X.N[i]? = some y := by rfl) (hvi : Vis X.env.scope y := by first | exact Or.inl rfl | exact Or.inr (Or.inl rfl) | exact Or.inr (Or.inr rfl)) (hd : (y == ("__debug__" : Str)) = false := by decide)
    (hcd : (y == ("__classdict__" : Str)) = false := by decide)
    (ha : ∀ v, assign (.Subscript (.Name y py) ei p2) X.env v = (do
      let ov ← holding [v] (eval (.Name y py) X.env)
      let iv ← holding [v, ov] (eval ei X.env)
      standAt p2
      holding [v, ov, iv] (setItem ov iv v)
      release [v, ov, iv] []) := by intro _; rfl)
    (hs : swapsWithSole [.Subscript (.Name y py) ei p2] ev pos.line X.env = pure false := by rfl) (hw : swappedStores [.Subscript (.Name y py) ei p2] ev X.env = pure none := by rfl)
    (h1 : (assignEach [.Subscript (.Name y py) ei p2] X.env).map (·.2) = [assign (.Subscript (.Name y py) ei p2) X.env] := by rfl) :
    SM X C W (.Assign [.Subscript (.Name y py) ei p2] ev pos) (tAsg tv (gSub (tVar i) ti rSetA)) (mPut i mi mv) := by
  refine ⟨ps_asg hv.pe (pg_sub (pe_var hN hvi hd hcd) hi.pe (set_any g.room) ha) hs hw h1, fun ad σ H env Dn R w => ?_⟩
  unfold mPut at w
  refine hv.st R w fun r1 v H1 R1 S1 V1 w1 => ?_
  rw [wp_bind] at w1
  obtain ⟨_, w2, rv⟩ := kp_rp V1 w1
  cases z : r1.2[i]? with
  | none => rw [z] at w2; exact w2.elim
  | some s0 =>
    rw [z] at w2
    simp only [Option.bind_some] at w2
    cases zc : s0.con with
    | none => rw [zc] at w2; exact w2.elim
    | some c0 =>
      rw [zc] at w2
      obtain ⟨hσ, _⟩ := R1.con z zc
      refine ⟨.ref (ad i), hσ, ?_⟩
      refine hi.st R1 w2 fun r2 iv H2 R2 S2 V2 w3 => ?_
      rw [wp_bind] at w3
      obtain ⟨y', _, w4, ry⟩ := R2.rs V2 w3
      cases z2 : r2.2[i]? with
      | none => rw [z2] at w4; exact w4.elim
      | some s =>
        rw [z2] at w4
        simp only at w4
        cases zc2 : s.con with
        | none => rw [zc2] at w4; exact w4.elim
        | some c =>
          rw [zc2] at w4
          simp only at w4
          obtain ⟨_, hc⟩ := R2.con z2 zc2
          have rv2 : Rp C.K H2 (Mo C r2.2 ad) r1.1 v := S2.rp rv
          have hM : Ow r2.2 ad (ad i) := ⟨i, s, z2, Sl.isMut.own (Sl.con_mut zc2), rfl⟩
          have ck := hc.kind
          have xt : ∀ o, Ext (Mo C r2.2 ad) H2 (upd H2 (ad i) o) := fun o => by
            refine ⟨fun b o e hn => by rw [upd_ne (fun q : b = ad i => hn (.inr (q ▸ hM)))]; exact e, fun b xs e => ?_, fun b o u e => ?_, fun b e => ?_⟩
            · by_cases q : b = ad i
              · rw [q] at e; exact absurd e (ck.1 xs)
              · rw [upd_ne q]; exact e
            · by_cases q : b = ad i
              · rw [q] at e; exact absurd e (ck.2 _ _)
              · rw [upd_ne q]; exact e
            · by_cases q : b = ad i
              · rw [q, upd_same]; exact fun z => nomatch z
              · rw [upd_ne q]; exact e
          have kk : ∀ o' b o, H2 b = some o → b ≠ ad i → upd H2 (ad i) o' b = some o := fun o' b o e hb => by rw [upd_ne hb]; exact e
          cases c with
          | lst ds =>
            cases y' with
            | int q =>
              rw [ry.int_inv]
              simp only [putAt] at w4
              cases qx : ixN ds.length q with
              | none => rw [qx] at w4; exact w4.elim
              | some j =>
                rw [qx] at w4
                obtain ⟨z3, us, hu, ru⟩ := hc
                refine .inl ⟨ad i, us, q, j, rfl, rfl, hu, by rw [ru.len]; exact qx, ?_⟩
                obtain ⟨R3, S3⟩ := R2.put (d := .lst (ds.set j r1.1)) (H' := upd H2 (ad i) (.lst (us.set j v))) z2 (Sl.con_mut zc2) (kk _) ⟨by rw [List.length_set]; exact z3, _, upd_same, (ru.set j rv2).ext (xt _) fun b q => .inl q⟩
                exact w4 ad σ _ R3 ((S1.trans S2).trans S3).keep
            | _ => exact w4.elim
          | dic ds =>
            simp only [putAt] at w4
            cases qk : dkey y' with
            | none => rw [qk] at w4; exact w4.elim
            | some kk' =>
              rw [qk] at w4
              simp only at w4
              by_cases hz : ds.length < sizeLine
              · rw [if_pos hz] at w4
                obtain ⟨z3, us, hu, ru⟩ := hc
                refine .inr ⟨ad i, _, rfl, .inl ⟨us, kk', hu, dkey_v qk ry, by rw [ru.len]; exact hz, rfl⟩, ?_⟩
                obtain ⟨R3, S3⟩ := R2.put (d := .dic (putD ds kk' r1.1)) (H' := upd H2 (ad i) (.dK (putK us kk' v))) z2 (Sl.con_mut zc2) (kk _) ⟨Nat.le_trans (length_putD _ _ _) hz, _, upd_same, (ru.put rv2).ext (xt _) fun b q => .inl q⟩
                exact w4 ad σ _ R3 ((S1.trans S2).trans S3).keep
              · rw [if_neg hz] at w4
                exact w4.elim
          | _ => exact w4.elim
end

/-! ### defs -/
abbrev mkC (K : PySem.W.Frag) (mg : Str → Option Value) (H0 : Hp) (M0 fr : Addr → Prop) (pa : Nat → Addr) (fresh : Bool) : Cfg := ⟨K, mg, H0, M0, fr, pa, fresh⟩
/-- a def's body follows the mirror m -/
def Body (P : Program) (w : World) (K : PySem.W.Frag) (mg : Str → Option Value) (base : Heap) (N : List Str) (qual : Str) (st : Stmt) (k : Nat) (fresh : Bool) (m : Sv) : Prop :=
  ∀ (f : Addr) (cdv : Value) (A : Around) (outer : List Env) (s : Shared) (H : Hp) (E : XK) (M0 fr : Addr → Prop) (pa : Nat → Addr),
    Gd (cxOf (L2.CX P w) P w K mg base N qual (defScope st) f cdv A outer s H E) (mkC K mg H M0 fr pa fresh) (fun cls d _ H' => E cls d H') k →
    ∃ t, SSM (cxOf (L2.CX P w) P w K mg base N qual (defScope st) f cdv A outer s H E) (mkC K mg H M0 fr pa fresh) (fun cls d _ H' => E cls d H') (defBody st) t m
def envOf (n : Nat) (ds : List D) : Sls := ds.map Sl.t ++ List.replicate (n - ds.length) .u
def run (n : Nat) (m : Sv) (ds : List D) : Res D :=
  match m (envOf n ds) with
  | .ok (.ret d, _) => .ok d
  | .ok (.next, _) => .ok .non
  | .ok _ => .bad
  | .err c => .err c
  | .bad => .bad
def runF (n : Nat) (m : Sv) (ds : List D) : Res D :=
  match m (envOf n ds) with
  | .ok (.ret d, _) => .ok d
  | .ok _ => .bad
  | .err c => .err c
  | .bad => .bad
def envJ (n : Nat) (j : D) (ds : List D) : Sls := .p j :: (ds.map Sl.t ++ List.replicate (n - ds.length - 1) .u)
def runJ (n : Nat) (m : Sv) (j : D) (ds : List D) : Res (D × D) :=
  match m (envJ n j ds) with
  | .ok (.ret d, e) => (match (e[0]? : Option Sl) with
    | some (.p j') => .ok (d, j')
    | _ => .bad)
  | .ok (.next, e) => (match (e[0]? : Option Sl) with
    | some (.p j') => .ok (.non, j')
    | _ => .bad)
  | _ => .bad
section
variable {P : Program} {w : World} {K : PySem.W.Frag} {mg : Str → Option Value} {base : Heap} {x : Str} {st : Stmt} {f : Addr} {fd : FuncData} {N ps : List Str} {k n : Nat} {m : Sv}
theorem re_start {H : Hp} {M : Addr → Prop} {ds : List D} {vs : List V} {fresh : Bool} (hl : ds.length ≤ N.length) (tk : ∀ a, M a → H a ≠ none) (r : RpL K H M ds vs) :
    RE (mkC K mg H M (fun _ => False) (fun _ => 0) fresh) (fun _ => 0) H (L2.start N vs) (envOf N.length ds) := by
  have noOw : ∀ (i : Nat) (s : Sl), (envOf N.length ds)[i]? = some s → s.isOwn = false := fun i s e => by
    have := List.mem_of_getElem? e
    unfold envOf at this
    rcases List.mem_append.mp this with q | q
    · obtain ⟨d, _, rfl⟩ := List.mem_map.mp q; rfl
    · rw [(List.mem_replicate.mp q).2]; rfl
  have moM : ∀ b, Mo (mkC K mg H M (fun _ => False) (fun _ => 0) fresh) (envOf N.length ds) (fun _ => 0) b → M b := fun b z => by
    rcases z with z | ⟨i, s, e, o, _⟩
    · exact z
    · rw [noOw i s e] at o; cases o
  refine ⟨?_, fun i s e => ?_, fun i j s t e _ o _ _ => (by rw [noOw i s e] at o; cases o), fun i d e => ?_, fun i d e => (by cases noOw i _ e), fun b o e _ => e, fun b h => h.elim, fun b h => h, tk⟩
  · unfold L2.start envOf
    simp only [List.length_append, List.length_map, List.length_replicate, r.len]
  · unfold envOf at e
    by_cases hi : i < ds.length
    · rw [List.getElem?_append_left (by rw [List.length_map]; exact hi), List.getElem?_map, List.getElem?_eq_getElem hi] at e
      cases e
      have hv : i < vs.length := by rw [r.len]; exact hi
      refine ⟨vs[i], ?_, (r.item i _ _ (List.getElem?_eq_getElem hi) (List.getElem?_eq_getElem hv)).less moM⟩
      unfold L2.start
      rw [List.getElem?_append_left (by rw [List.length_map]; exact hv), List.getElem?_map, List.getElem?_eq_getElem hv]
      rfl
    · rw [List.getElem?_append_right (by rw [List.length_map]; omega)] at e
      have := List.mem_of_getElem? e
      rw [(List.mem_replicate.mp this).2]
      trivial
  · rcases e with e | e <;> cases noOw i _ e
theorem gd_of {fresh : Bool} {cdv : Value} {A : Around} {outer : List Env} {s : Shared} {H : Hp} {E : XK} {M0 fr : Addr → Prop} {pa : Nat → Addr} (S : FnScope N ps (defScope st)) (hr : Room k (A.deeper (envOfC x (defScope st) s.heap.objs.size f cdv))) :
    Gd (cxOf (L2.CX P w) P w K mg base N x (defScope st) f cdv A outer s H E) (mkC K mg H M0 fr pa fresh) (fun cls d _ H' => E cls d H') k := ⟨rfl, rfl, rfl, takes_of rfl rfl rfl rfl, hr, S.nd⟩
theorem pre_len (S : FnScope N ps (defScope st)) : ps.length ≤ N.length := by
  have := congrArg List.length S.pre
  rw [List.length_take] at this
  omega
theorem fnP_ok (F : Fun K x x st f fd) (S : FnScope N ps (defScope st)) (hn : ps.length = n) (B : Body P w K mg base N x st k false m) : FnOk P w K mg base (L2.CX P w) (k + 1) f fd ps (spP K mg n (run N.length m)) := by
  refine F.okX S (fun vs H Q E h => h.1.trans hn.symm) (fun cdv A outer s H vs Q E hr h => ?_)
  obtain ⟨hl, M, ds, tk, r, q⟩ := h
  have hds : ds.length ≤ N.length := by rw [← r.len, hl, ← hn]; exact pre_len S
  obtain ⟨t, hs⟩ := B f cdv A outer s H E M (fun _ => False) (fun _ => 0) (gd_of S hr)
  refine ⟨t, hs.pe, hs.sn _ _ H _ _ (re_start hds tk r) ?_⟩
  unfold run at q
  cases z : m (envOf N.length ds) with
  | ok r2 =>
    rw [z] at q
    obtain ⟨o, e2⟩ := r2
    cases o with
    | ret d =>
      intro ad' σ' H' v hR
      obtain ⟨R', rp⟩ := hR
      exact q v H' (fun b o e => R'.same b o e fun z => z) (rp.less fun b z => .inl z)
    | next => exact fun ad' σ' H' R' _ => q .non H' (fun b o e => R'.same b o e fun z => z) .non
    | brk => exact q.elim
    | cont => exact q.elim
  | err c =>
    rw [z] at q
    exact fun ad' σ' cls dd H' e' hc R' => q cls dd H' hc fun b o e => R'.same b o e fun z => z
  | bad => rw [z] at q; exact q.elim
theorem fnP (F : Fun K x x st f fd) (S : FnScope N ps (defScope st)) (hn : ps.length = n) (hm : mg x = some (.ref f)) (hb : Binds K fd ps []) (B : Body P w K mg base N x st k false m) : Fn P w K mg base (k + 1) x (spP K mg n (run N.length m)) :=
  ⟨f, fd, ps, fnP_ok F S hn B, hm, F.kp, hb⟩
theorem fnF (F : Fun K x x st f fd) (S : FnScope N ps (defScope st)) (hn : ps.length = n) (hm : mg x = some (.ref f)) (hb : Binds K fd ps []) (B : Body P w K mg base N x st k true m) : Fn P w K mg base (k + 1) x (spF K mg n (runF N.length m)) := by
  refine ⟨f, fd, ps, F.okX S (fun vs H Q E h => h.1.trans hn.symm) (fun cdv A outer s H vs Q E hr h => ?_), hm, F.kp, hb⟩
  obtain ⟨hl, M, ds, tk, r, q⟩ := h
  have hds : ds.length ≤ N.length := by rw [← r.len, hl, ← hn]; exact pre_len S
  obtain ⟨t, hs⟩ := B f cdv A outer s H E M (fun _ => False) (fun _ => 0) (gd_of S hr)
  refine ⟨t, hs.pe, hs.sn _ _ H _ _ (re_start hds tk r) ?_⟩
  unfold runF at q
  cases z : m (envOf N.length ds) with
  | ok r2 =>
    rw [z] at q
    obtain ⟨o, e2⟩ := r2
    cases o with
    | ret d =>
      intro ad' σ' H' v hR
      obtain ⟨a, rfl, h0, R', c⟩ := hR
      refine q a H' h0 (fun b o e => R'.same b o e fun z => z) (c.ext rfl .refl fun b z => ?_)
      rcases z with z | z
      · exact .inl (.inl (.inl z))
      · exact .inl (.inl (.inr z))
    | next => exact q.elim
    | brk => exact q.elim
    | cont => exact q.elim
  | err c =>
    rw [z] at q
    exact fun ad' σ' cls dd H' e' hc R' => q cls dd H' hc fun b o e => R'.same b o e fun z => z
  | bad => rw [z] at q; exact q.elim
theorem re_startJ {H : Hp} {M : Addr → Prop} {a : Addr} {j : D} {ds : List D} {vs : List V} (hl : ds.length + 1 ≤ N.length) (hM : M a) (tk : ∀ a, M a → H a ≠ none) (c : CellOk K H M j a) (r : RpL K H M ds vs) :
    RE (mkC K mg H M (fun b => b = a) (fun _ => a) false) (fun _ => a) H (L2.start N (.ref a :: vs)) (envJ N.length j ds) := by
  have noOw : ∀ (i : Nat) (s : Sl), (envJ N.length j ds)[i]? = some s → s.isOwn = true → i = 0 ∧ s = .p j := fun i s e o => by
    cases i with
    | zero => cases e; exact ⟨rfl, rfl⟩
    | succ i =>
      have := List.mem_of_getElem? (show (ds.map Sl.t ++ List.replicate (N.length - ds.length - 1) Sl.u)[i]? = some s from e)
      rcases List.mem_append.mp this with q | q
      · obtain ⟨d, _, rfl⟩ := List.mem_map.mp q; cases o
      · rw [(List.mem_replicate.mp q).2] at o; cases o
  have moM : ∀ b, Mo (mkC K mg H M (fun b => b = a) (fun _ => a) false) (envJ N.length j ds) (fun _ => a) b → M b := fun b z => by
    rcases z with z | ⟨i, s, e, o, z⟩
    · exact z
    · exact z ▸ hM
  have hsl : N.length - (V.ref a :: vs).length = N.length - ds.length - 1 := by rw [List.length_cons, r.len]; omega
  refine ⟨?_, fun i s e => ?_, fun i i' s t e e' o o' _ => ((noOw i s e o).1.trans (noOw i' t e' o').1.symm), fun i d e => ?_, fun i d e => ⟨rfl, rfl⟩, fun b o e _ => e, fun b h => ?_, fun b h => h, tk⟩
  · unfold L2.start envJ
    simp only [List.length_append, List.length_map, List.length_replicate, List.length_cons, r.len]
    omega
  · cases i with
    | zero =>
      cases e
      exact ⟨rfl, c.ext rfl .refl fun b z => .inl (moM b z)⟩
    | succ i =>
      have e : (ds.map Sl.t ++ List.replicate (N.length - ds.length - 1) Sl.u)[i]? = some s := e
      have es : (L2.start N (.ref a :: vs))[i + 1]? = (vs.map some ++ List.replicate (N.length - ds.length - 1) none)[i]? := by
        unfold L2.start
        rw [hsl]
        rfl
      by_cases hi : i < ds.length
      · rw [List.getElem?_append_left (by rw [List.length_map]; exact hi), List.getElem?_map, List.getElem?_eq_getElem hi] at e
        cases e
        have hv : i < vs.length := by rw [r.len]; exact hi
        refine ⟨vs[i], ?_, (r.item i _ _ (List.getElem?_eq_getElem hi) (List.getElem?_eq_getElem hv)).less moM⟩
        rw [es, List.getElem?_append_left (by rw [List.length_map]; exact hv), List.getElem?_map, List.getElem?_eq_getElem hv]
        rfl
      · rw [List.getElem?_append_right (by rw [List.length_map]; omega)] at e
        have := List.mem_of_getElem? e
        rw [(List.mem_replicate.mp this).2]
        trivial
  · rcases e with e | e
    · cases (noOw i _ e rfl).2
    · cases (noOw i _ e rfl).2
  · have h : b = a := h
    subst h
    have ck := c.kind
    cases z : H b with
    | none => exact absurd z c.trk
    | some o => exact ⟨o, z, fun xs q => ck.1 xs (by rw [z, q]), fun o' u q => ck.2 o' u (by rw [z, q])⟩
theorem fnJ (F : Fun K x x st f fd) (S : FnScope N ps (defScope st)) (hn : ps.length = n) (hm : mg x = some (.ref f)) (hb : Binds K fd ps []) (B : Body P w K mg base N x st k false m) : Fn P w K mg base (k + 1) x (spJ K n (runJ N.length m)) := by
  refine ⟨f, fd, ps, F.okX S (fun vs H Q E h => h.1.trans hn.symm) (fun cdv A outer s H vs Q E hr h => ?_), hm, F.kp, hb⟩
  obtain ⟨hl, M, a, ws, j, ds, rfl, hM, tk, c, r, q⟩ := h
  have hds : ds.length + 1 ≤ N.length := by
    rw [← r.len]
    rw [List.length_cons] at hl
    rw [hl, ← hn]
    exact pre_len S
  obtain ⟨t, hs⟩ := B f cdv A outer s H E M (fun b => b = a) (fun _ => a) (gd_of S hr)
  refine ⟨t, hs.pe, hs.sn _ _ H _ _ (re_startJ hds hM tk c r) ?_⟩
  unfold runJ at q
  cases z : m (envJ N.length j ds) with
  | ok r2 =>
    rw [z] at q
    obtain ⟨o, e2⟩ := r2
    have fin : ∀ (ad' : Nat → Addr) (σ' : L2.St) (H' : Hp) (j' : D), RE (mkC K mg H M (fun b => b = a) (fun _ => a) false) ad' H' σ' e2 → e2[0]? = some (.p j') → (∀ b o, H b = some o → b ≠ a → H' b = some o) ∧ CellOk K H' M j' a := fun ad' σ' H' j' R' e0 => by
      obtain ⟨d0, hd0, _, c0⟩ := R'.cell e0 rfl
      have e1 : d0 = j' := by rcases hd0 with z | z | z <;> cases z; rfl
      subst e1
      obtain ⟨p1, _⟩ := R'.par 0 d0 e0
      have p1' : ad' 0 = a := p1
      refine ⟨fun b o e hb => R'.same b o e fun z => hb z, ?_⟩
      rw [← p1']
      exact c0.ext rfl .refl fun b z => .inl (.inl z)
    cases o with
    | ret d =>
      intro ad' σ' H' v hR
      obtain ⟨R', rp⟩ := hR
      simp only at q
      cases e0 : e2[0]? with
      | none => rw [e0] at q; exact q.elim
      | some s =>
        rw [e0] at q
        cases s with
        | p j' =>
          obtain ⟨f1, f2⟩ := fin ad' σ' H' j' R' e0
          exact q v H' f1 f2 (rp.less fun b z => .inl z)
        | _ => exact q.elim
    | next =>
      intro ad' σ' H' R' _
      simp only at q
      cases e0 : e2[0]? with
      | none => rw [e0] at q; exact q.elim
      | some s =>
        rw [e0] at q
        cases s with
        | p j' =>
          obtain ⟨f1, f2⟩ := fin ad' σ' H' j' R' e0
          exact q .non H' f1 f2 .non
        | _ => exact q.elim
    | brk => exact q.elim
    | cont => exact q.elim
  | err c => rw [z] at q; exact q.elim
  | bad => rw [z] at q; exact q.elim
end

/-! ### the law's end -/
def spL (K : PySem.W.Frag) (fm : List D → Res D) : Sp := fun vs H Q E => vs.length = 1 ∧ ∃ (M : Addr → Prop) (ds : List D), (∀ a, M a → H a ≠ none) ∧ RpL K H M ds vs ∧
  (fm ds).Wp (fun d => ∀ v H', Same H H' → Rp K H' M d v → Q v H') (fun _ => False)
theorem Fn.law {P : Program} {w : World} {K : PySem.W.Frag} {mg : Str → Option Value} {base : Heap} {j : Nat} {x : Str} {fm : List D → Res D} (F : Fn P w K mg base j x (spP K mg 1 fm)) : Fn P w K mg base j x (spL K fm) := by
  obtain ⟨f, fd, ps, F, h⟩ := F.ex
  exact ⟨f, fd, ps, F.imp fun vs H Q E ⟨hl, M, ds, tk, r, q⟩ => ⟨hl, M, ds, tk, r, q.imp (fun d z => z) fun c z => z.elim⟩, h⟩
theorem law_sp {K : PySem.W.Frag} {fm : List D → Res D} {H : Hp} {a : Addr} {ns : List Int} {E : XK} (hz : ns.length ≤ sizeLine) (hO : Only H) (hS : SqL K H a (ns.map V.int)) (h : fm [.scr ns] = .ok (.bl true)) : spL K fm [.ref a] H (fun v _ => v = .bl true) E := by
  refine ⟨rfl, fun _ => False, [.scr ns], fun a z => z.elim, .one (.scr ?_ hz), ?_⟩
  · rcases hS with (hS | ⟨o, hS⟩) | hS
    · rcases hO a with q | ⟨o, xs, q⟩
      · rw [hS] at q; cases q
      · rw [hS] at q; cases q
    · exact .inl ⟨o, hS⟩
    · exact .inr hS
  · rw [h]
    intro v H' _ r
    cases r
    rfl
theorem cx_law {P : Program} {w : World} {H : Hp} {s : Shared} {e : Value} {s' : Shared} (h : L2.CX P w [] H s (fun _ _ _ => False) e s') : False := by
  obtain ⟨_, _, _, _, _, _, _, _, _, _, _, _, z⟩ := h
  exact z
end Vm
end
section
set_option maxHeartbeats 4000000
/-! Vm, part J: chains, minus, slices of either kind, keywords, isinstance with two classes, a walk over an own list. -/
namespace Vm
open PySem PySem.Spec PyProof.Rows L2

section
variable {X : Cx} {C : Cfg} {W : WX} {k j n : Nat} {a b c e : Expr} {es rest : List Expr} {ta tb tc te : TE} {t : TA} {ma mb mc m me : Ev} {ms : Evs} {pos p : Pos} {x : Str} {tg iter elt : Expr}
/-! ### the rules at the written part C.K -/
theorem oAdd (g : Gd X C W k) : OpR X (binaryOp .Add) (rAddA C.K) := g.kE ▸ or_addA
theorem oEq (g : Gd X C W k) : OpR X (compareOp .Eq) (rEqA C.K) := g.kE ▸ or_eqA g.room
theorem oNe (g : Gd X C W k) : OpR X (compareOp .NotEq) (rNeA C.K) := g.kE ▸ or_neA g.room
theorem iIx (g : Gd X C W k) : IxR X (rIxA C.K) := g.kE ▸ ir_ixA g.room
theorem cLen (g : Gd X C W k) : CallR X (.builtin "len") (rLenA C.K) := g.kE ▸ cr_lenA
theorem cSum (g : Gd X C W k) : CallR X (.builtin "sum") (rSum C.K) := g.kE ▸ cr_sum g.calm
theorem cAll (g : Gd X C W k) : CallR X (.builtin "all") (rAll C.K) := g.kE ▸ cr_all g.calm
theorem cAny (g : Gd X C W k) : CallR X (.builtin "any") (rAny C.K) := g.kE ▸ cr_any g.calm
theorem cMaxL (g : Gd X C W k) : CallR X (.builtin "max") (rMax C.K) := g.kE ▸ cr_max g.calm
theorem cMinL (g : Gd X C W k) : CallR X (.builtin "min") (rMin C.K) := g.kE ▸ cr_min g.calm
theorem cSortI (g : Gd X C W k) : CallR X (.builtin "sorted") (rSortedI C.K) := g.kE ▸ cr_sortedI
theorem cTuple (g : Gd X C W k) : CallR X (.type "tuple") (fun xs H Q => ∃ p ys, xs = [.ref p] ∧ ((SqL C.K H p ys ∧ ∀ l, H l = none → Q (.ref l) (upd H l (.tup ys))) ∨ (SqT C.K H p ys ∧ Q (.ref p) H))) := g.kE ▸ call_tuple_of
theorem cList (g : Gd X C W k) : CallR X (.type "list") (fun xs H Q => ∃ p ys, xs = [.ref p] ∧ (SqL C.K H p ys ∨ SqT C.K H p ys) ∧ ∀ l, H l = none → Q (.ref l) (upd H l (.lst ys))) := g.kE ▸ call_list_of
/-! ### -a -/
def negD (x : D) : Res D := match x with
  | .int i => .ok (.int (-i))
  | _ => .bad
def mUn (g : D → Res D) (m : Ev) : Ev := fun env => do
  let r ← m env
  let x ← rs r.2 r.1
  match g x with
  | .ok d => pure (d, r.2)
  | _ => .bad
theorem em_neg (h : EM X C W a ta ma) : EM X C W (.UnaryOp .USub a pos) (tUn (rU fun i => .int (-i)) ta) (mUn negD ma) := by
  refine ⟨pe_un un_neg h.pe, fun M0 ad σ H env Q R w => ?_⟩
  unfold mUn at w
  refine h.sn' R w fun r v H1 R1 S1 V1 w1 => ?_
  rw [wp_bind] at w1
  obtain ⟨y, _, w2, ry⟩ := R1.rs V1 w1
  cases y with
  | int i =>
    rw [ry.int_inv]
    exact ⟨i, rfl, w2 _ H1 R1 S1 (.of (.int _))⟩
  | _ => exact w2.elim
/-! ### a op b op c -/
theorem chain_sn {r r' : R2} {g g' : D → D → Res D} (ho : OpS C.K r g) (ho' : OpS C.K r' g') (ha : EM X C W a ta ma) (hb : EM X C W b tb mb) (hc : EM X C W c tc mc) {M0 : Addr → Prop} {ad : Nat → Addr} {σ : L2.St} {H : Hp} {env : Sls} {Q : VK} (R : RE (C.w M0) ad H σ env)
    (w : (mChain g g' ma mb mc env).Wp (fun r => ∀ v H', RE (C.w M0) ad H' σ r.2 → Stp (C.w M0) ad H env H' r.2 → VR (C.w M0) ad H' σ r.2 r.1 v → Q v H') (Er (C.w M0) ad σ W)) : tChain r r' ta tb tc σ H Q := by
  unfold mChain at w
  refine ha.sn' R w fun r1 v1 H1 R1 S1 V1 w1 => ?_
  refine hb.sn' R1 w1 fun r2 v2 H2 R2 S2 V2 w2 => ?_
  rw [wp_bind] at w2
  obtain ⟨y1, _, w3, ry1⟩ := R2.rs (V1.stp S2) w2
  rw [wp_bind] at w3
  obtain ⟨y2, _, w4, ry2⟩ := R2.rs V2 w3
  refine ho H2 (Mo (C.w M0) r2.2 ad) v1 v2 y1 y2 _ (fun a z => R2.mtrk z) ry1 ry2 ?_
  cases q : g y1 y2 with
  | err c => rw [q] at w4; exact w4.elim
  | bad => rw [q] at w4; exact w4.elim
  | ok d =>
    rw [q] at w4
    cases d with
    | bl kb =>
      intro v H' e rp
      cases rp
      have R2' := R2.grow e
      have S2' : Stp (C.w M0) ad H env H' r2.2 := (S1.trans S2).trans (.grow e)
      cases kb with
      | false => exact ⟨false, rfl, w4 _ H' R2' S2' (.of (.bl false))⟩
      | true =>
        refine ⟨true, rfl, ?_⟩
        refine hc.sn' R2' w4 fun r3 v3 H3 R3 S3 V3 w5 => ?_
        rw [wp_bind] at w5
        obtain ⟨z1, _, w6, rz1⟩ := R3.rs ((V2.stp (.grow e)).stp S3) w5
        rw [wp_bind] at w6
        obtain ⟨z2, _, w7, rz2⟩ := R3.rs V3 w6
        refine ho' H3 (Mo (C.w M0) r3.2 ad) v2 v3 z1 z2 Q (fun a z => R3.mtrk z) rz1 rz2 ?_
        cases q2 : g' z1 z2 with
        | ok d =>
          rw [q2] at w7
          exact fun v H' e r => w7 v H' (R3.grow e) ((S2'.trans S3).trans (.grow e)) (.of r)
        | err c => rw [q2] at w7; exact w7.elim
        | bad => rw [q2] at w7; exact w7.elim
    | _ => exact w4.elim
theorem em_chain {op op' : CmpOp} {r r' : R2} {g g' : D → D → Res D} (hr : OpR X (compareOp op) r) (hr' : OpR X (compareOp op') r') (ho : OpS C.K r g) (ho' : OpS C.K r' g') (ha : EM X C W a ta ma) (hb : EM X C W b tb mb) (hc : EM X C W c tc mc)
    (hm : lastMarks [op, op'] [b, c] = false := by with_unfolding_all rfl) : EM X C W (.Compare a [op, op'] [b, c] pos) (tChain r r' ta tb tc) (mChain g g' ma mb mc) :=
  ⟨pe_chain hr hr' ha.pe hb.pe hc.pe hm, fun M0 ad σ H env Q R w => chain_sn ho ho' ha hb hc R w⟩
theorem tm_chain {op op' : CmpOp} {r r' : R2} {g g' : D → D → Res D} (hr : OpR X (compareOp op) r) (hr' : OpR X (compareOp op') r') (ho : OpS C.K r g) (ho' : OpS C.K r' g') (ha : EM X C W a ta ma) (hb : EM X C W b tb mb) (hc : EM X C W c tc mc)
    (hm : lastMarks [op, op'] [b, c] = false := by with_unfolding_all rfl) : TM X C W (.Compare a [op, op'] [b, c] pos) (tTest (tChain r r' ta tb tc)) (mTru (mChain g g' ma mb mc)) := by
  refine ⟨pt_chain hr hr' ha.pe hb.pe hc.pe hm, fun M0 ad σ H env Q R w => ?_⟩
  refine chain_sn ho ho' ha hb hc R ?_
  unfold mTru at w
  rw [wp_bind] at w
  refine w.imp (fun r z v H' R' S' V' => ?_) fun _ z => z
  cases hd : r.1 with
  | bl k =>
    rw [hd] at z V'
    cases V'
    exact ⟨k, rfl, z H' R' S'⟩
  | _ => rw [hd] at z; exact z.elim
/-! ### a[lo:hi], a list or a tuple -/
def sliceD (x : D) (lo hi : Option Int) : Res D := match x with
  | .lst xs => .ok (.lst (cutD xs lo hi))
  | .tup xs => .ok (.tup (cutD xs lo hi))
  | .scr ns => .ok (.lst (cutD (ns.map D.int) lo hi))
  | _ => .bad
def rSlE (K : PySem.W.Frag) : V → Option Int → Option Int → Hp → VK → Prop := fun x lo hi H Q => rSlL K x lo hi H Q ∨ rSlA K x lo hi H Q
theorem em_slice {lo hi : Option Expr} {tl th : TO} {ml mh : Eo} {p2 : Pos} (g : Gd X C W k) (h : EM X C W e te m) (hl : OM X C W lo tl ml) (hh : OM X C W hi th mh) :
    EM X C W (.Subscript e (.Slice lo hi none p2) pos) (tSl (rSlE C.K) te tl th) (mSl sliceD m ml mh) := by
  refine ⟨g.kE ▸ pe_slice (sl_list.or sl_tupA) h.pe hl.pe hh.pe, fun M0 ad σ H env Q R w => ?_⟩
  unfold mSl at w
  refine h.sn' R w fun r v H1 R1 S1 V1 w1 => ?_
  rw [wp_bind] at w1
  refine hl.sn M0 ad σ H1 r.2 _ R1 (w1.imp (fun l w2 H2 R2 S2 => ?_) fun _ z => z)
  rw [wp_bind] at w2
  refine hh.sn M0 ad σ H2 l.2 _ R2 (w2.imp (fun q w3 H3 R3 S3 => ?_) fun _ z => z)
  rw [wp_bind] at w3
  obtain ⟨y, _, w4, rx⟩ := R3.rs ((V1.stp S2).stp S3) w3
  have fresh : ∀ {xs : List D} {us : List V} {p : Addr}, RpL C.K H3 (Mo (C.w M0) q.2 ad) xs us → H3 p = none → xs.length ≤ sizeLine → Rp C.K (upd H3 p (.lst us)) (Mo (C.w M0) q.2 ad) (.lst xs) (.ref p) := fun r hn z =>
    cell_rp (cell_new r hn z) (fun q => R3.mtrk q hn) fun b q => .inl q
  cases y with
  | lst xs =>
    obtain ⟨a, us, rfl, hs, z, qr⟩ := rx.lst_inv
    exact .inl ⟨a, us, rfl, .of hs, fun p hn => w4 _ _ (R3.grow (same_new hn)) (((S1.trans S2).trans S3).trans (.grow (same_new hn))) (.of (fresh (qr.cut _ _) hn (Nat.le_trans (cutD_length _ _ _) z)))⟩
  | scr ns =>
    cases rx with
    | scr hs z =>
      have qr : RpL C.K H3 (Mo (C.w M0) q.2 ad) (ns.map D.int) (ns.map V.int) := .of_ints
      exact .inl ⟨_, _, rfl, hs.sq, fun p hn => w4 _ _ (R3.grow (same_new hn)) (((S1.trans S2).trans S3).trans (.grow (same_new hn))) (.of (fresh (qr.cut _ _) hn (Nat.le_trans (cutD_length _ _ _) (by rw [List.length_map]; exact z))))⟩
  | tup xs =>
    obtain ⟨a, us, rfl, hs, z, qr⟩ := rx.tup_inv
    refine .inr ⟨a, us, rfl, hs, fun c => ?_, fun c p hn => w4 _ _ (R3.grow (same_new hn)) (((S1.trans S2).trans S3).trans (.grow (same_new hn))) (.of (.tup' (.of upd_same) (Nat.le_trans (cutD_length _ _ _) z) ((qr.cut _ _).same (same_new hn))))⟩
    have e : cutD xs l.1 q.1 = xs := by
      unfold cutD
      rw [← qr.len, c.1, c.2, qr.len]
      simp
    refine w4 _ H3 R3 ((S1.trans S2).trans S3) (.of ?_)
    show Rp C.K H3 _ (.tup (cutD xs l.1 q.1)) _
    rw [e]
    exact .tup' hs z qr
  | _ => exact w4.elim
/-! ### keywords -/
structure KM (X : Cx) (C : Cfg) (W : WX) (kws : List Keyword) (t : TA) (m : Evs) : Prop where
  pe : PK X kws t
  sn : ∀ (M0 : Addr → Prop) (ad : Nat → Addr) (σ : L2.St) (H : Hp) (env : Sls) (Q : List V → Hp → Prop), RE (C.w M0) ad H σ env →
    (m env).Wp (fun r => ∀ vs H', RE (C.w M0) ad H' σ r.2 → Stp (C.w M0) ad H env H' r.2 → VRL (C.w M0) ad H' σ r.2 r.1 vs → Q vs H') (Er (C.w M0) ad σ W) → t σ H Q
theorem km_nil : KM X C W [] tNil mNil := ⟨pk_nil, fun M0 ad σ H env Q R w => w [] H R .refl .nil⟩
theorem km_cons {kws : List Keyword} {nm : Option Str} {kp : Pos} (h : EM X C W e te m) (hr : KM X C W kws t ms) : KM X C W (⟨nm, e, kp⟩ :: kws) (tCons te t) (mCons m ms) := by
  refine ⟨pk_cons h.pe hr.pe, fun M0 ad σ H env Q R w => ?_⟩
  unfold mCons at w
  refine h.sn' R w fun r1 v1 H1 R1 S1 V1 w1 => ?_
  rw [wp_bind] at w1
  refine hr.sn M0 ad σ H1 r1.2 _ R1 (w1.imp (fun r2 w2 vs H2 R2 S2 V2 => ?_) fun _ z => z)
  exact w2 (v1 :: vs) H2 R2 (S1.trans S2) (.cons (V1.stp S2) V2)
/-- the keywords' values in the parameters' order -/
def pick {α : Type} (is : List Nat) (l : List α) : List α := is.filterMap (l[·]?)
theorem pick_vals {is : List Nat} {zs : List V} {ws : List Value} (r : Vals zs ws) : Vals (pick is zs) (pick is ws) := by
  unfold pick
  induction is with
  | nil => exact .nil
  | cons i is ih =>
    rw [List.filterMap_cons, List.filterMap_cons]
    cases q : zs[i]? with
    | none => rw [r.none_of q]; exact ih
    | some v =>
      obtain ⟨u, e, rv⟩ := r.get q
      rw [e]
      exact .cons rv ih
/-- how the keywords ks bind: is, the places of the parameters among them -/
structure KB (K : PySem.W.Frag) (fd : FuncData) (ps ks : List Str) (is : List Nat) : Prop where
  to : ∀ (s : Shared) (ws : List Value), K.In s.heap → ws.length = is.length → BindsTo s fd ⟨[], ks.zip ws⟩ (ps.zip (pick is ws))
theorem run_fnkS {CX : CXT} {f : Addr} {fd : FuncData} {ps ks : List Str} {is : List Nat} {sp : Sp} {E : L2.St → XK} {pins : List (Addr × Obj)} {σ : L2.St} {H : Hp} {s : Shared} {Q : VK} {ws : List Value} {zs : List V}
    (F : FnOk X.prog X.w X.K X.mg X.base CX k f fd ps sp) (hr : Room k X.A) (hb : KB X.K fd ps ks is) (hx : PassesAt CX X σ (E σ))
    (I : Inv X pins σ H s) (rz : Vals zs ws) (hl : zs.length = is.length) (h : sp (pick is zs) H Q (E σ)) : wpAny (model X.prog X.w) X.A (call (.ref f) [] (ks.zip ws)) (EP X pins σ Q) X.xe s := by
  have r2 := pick_vals (is := is) rz
  refine wpAny_call (codeAny_mono (F.run X.A X.stack s H ⟨[], ks.zip ws⟩ (pick is ws) (pick is zs) Q (E σ) hr I.env0 (hb.to s ws I.kIn (by rw [← rz.length]; exact hl)) r2 h) fun r s' hq => ?_)
  cases r with
  | error e => exact hx pins H s e s' I hq
  | ok fl =>
    cases fl with
    | ret u => exact I.after hq
    | next => exact False.elim hq
    | brk => exact False.elim hq
    | cont => exact False.elim hq
def tCallKS (sp : Sp) (is : List Nat) (E : L2.St → XK) (tk : TA) : TE := fun σ H Q => tk σ H fun zs H2 => zs.length = is.length ∧ sp (pick is zs) H2 Q (E σ)
theorem pe_callKS0 {CX : CXT} {f : Addr} {fd : FuncData} {ps ks : List Str} {is : List Nat} {sp : Sp} {E : L2.St → XK} {kws : List Keyword} {tk : TA} (F : FnOk X.prog X.w X.K X.mg X.base CX k f fd ps sp) (hr : Room k X.A) (hg : Gl X x) (hm : X.mg x = some (.ref f)) (hk : PySem.W.keepIn X.K (.ref f) = true) (hb : KB X.K fd ps ks is) (hx : ∀ σ, PassesAt CX X σ (E σ))
    (hkw : PK X kws tk) (hall : (backToKw pos (keywordEach kws X.env)).all (·.1.isSome) = true := by rfl) (hks : (backToKw pos (keywordEach kws X.env)).filterMap (·.1) = ks := by rfl)
    (hdb : (x == ("__debug__" : Str)) = false := by decide) (hpl : ((backTo pos (starEach [] X.env)).any (·.1) || (backToKw pos (keywordEach kws X.env)).any (·.1.isNone)) = false := by rfl) :
    PE X (.Call (.Name x p) [] kws pos) (tCallKS sp is E tk) := by
  refine ⟨fun pins s σ H Q I h => ?_⟩
  refine wpAny_Call_Name_kw (ld_glob I hg hm ?_ hdb)
  refine PySem.W.callWith_KW0 (h₀ := X.base) I.ok.mod.kin hk hall ?_ hpl
  refine thn (hkw.run pos pins s σ H _ I h) fun ws s2 ⟨zs, H2, I2, rz, hl, q2⟩ => ⟨I2.kIn, ?_⟩
  rw [hks]
  exact run_fnkS F hr hb (hx σ) I2 rz hl q2
theorem pick_vrl {ad : Nat → Addr} {H : Hp} {σ : L2.St} {env : Sls} {ds : List D} {vs : List V} {is : List Nat} (r : VRL C ad H σ env ds vs) : VRL C ad H σ env (pick is ds) (pick is vs) := by
  unfold pick
  induction is with
  | nil => exact .nil
  | cons i is ih =>
    rw [List.filterMap_cons, List.filterMap_cons]
    cases q : ds[i]? with
    | none =>
      have : vs[i]? = none := List.getElem?_eq_none_iff.mpr (by rw [r.len]; exact List.getElem?_eq_none_iff.mp q)
      rw [this]; exact ih
    | some d =>
      have hi : i < vs.length := by rw [r.len]; exact (List.getElem?_eq_some_iff.mp q).1
      have e : vs[i]? = some vs[i] := List.getElem?_eq_getElem hi
      rw [e]
      exact .cons (r.item i _ _ q e) ih
def mCallK (n : Nat) (is : List Nat) (fm : List D → Res D) (ms : Evs) : Ev := fun env => do
  let r ← ms env
  if r.1.length = is.length ∧ (pick is r.1).length = n ∧ allKp (pick is r.1) = true then do
    let d ← fm (pick is r.1)
    pure (d, r.2)
  else .bad
/-- how the keywords ks of x bind: is, their places -/
structure FnK (P : Program) (w : World) (K : PySem.W.Frag) (mg : Str → Option Value) (base : Heap) (j : Nat) (x : Str) (ks : List Str) (is : List Nat) (sp : Sp) : Prop where
  ex : ∃ f fd ps, FnOk P w K mg base (L2.CX P w) j f fd ps sp ∧ mg x = some (.ref f) ∧ PySem.W.keepIn K (.ref f) = true ∧ KB K fd ps ks is
theorem FnK.mono {P : Program} {w : World} {K : PySem.W.Frag} {mg : Str → Option Value} {base : Heap} {i j : Nat} {x : Str} {ks : List Str} {is : List Nat} {sp : Sp} (F : FnK P w K mg base i x ks is sp) (h : i ≤ j) : FnK P w K mg base j x ks is sp := by
  obtain ⟨f, fd, ps, F, h2⟩ := F.ex
  exact ⟨f, fd, ps, F.mono h, h2⟩
theorem em_callK {fm : List D → Res D} {ks : List Str} {is : List Nat} {kws : List Keyword} {tk : TA} (g : Gd X C W k) (F : FnK X.prog X.w X.K X.mg X.base j x ks is (spP C.K C.mg n fm)) (h : KM X C W kws tk ms) (hj : j ≤ k := by decide) (hg : Gl X x := by rfl)
    (hall : (backToKw pos (keywordEach kws X.env)).all (·.1.isSome) = true := by rfl) (hks : (backToKw pos (keywordEach kws X.env)).filterMap (·.1) = ks := by rfl)
    (hdb : (x == ("__debug__" : Str)) = false := by decide) (hpl : ((backTo pos (starEach [] X.env)).any (·.1) || (backToKw pos (keywordEach kws X.env)).any (·.1.isNone)) = false := by rfl) :
    EM X C W (.Call (.Name x p) [] kws pos) (tCallKS (spP C.K C.mg n fm) is (WE W) tk) (mCallK n is fm ms) := by
  obtain ⟨f, fd, ps, F, hm, hk, hb⟩ := (F.mono hj).ex
  refine ⟨pe_callKS0 F g.room hg hm hk hb (fun σ => passAt g.tk σ) h.pe hall hks hdb hpl, fun M0 ad σ H env Q R w => ?_⟩
  unfold mCallK at w
  rw [wp_bind] at w
  refine h.sn M0 ad σ H env _ R (w.imp (fun r w1 vs H1 R1 S1 V1 => ?_) fun _ z => z)
  split at w1
  · rename_i hc
    have V2 := pick_vrl (is := is) V1
    refine ⟨by rw [V1.len]; exact hc.1, by rw [V2.len]; exact hc.2.1, Mo (C.w M0) r.2 ad, pick is r.1, fun a z => R1.mtrk z, allKp_rp V2 hc.2.2, ?_⟩
    rw [wp_bind] at w1
    exact w1.imp (fun d z v H' e rp => z v H' (R1.grow e) (S1.trans (.grow e)) (.of rp)) fun c z cls dd H' hm e => z cls dd H' r.2 hm (R1.grow e)
  · exact w1.elim
/-! ### name = [..] -/
theorem sm_lcA {fresh : Bool} {i : Nat} {y : Str} {py spos : Pos} {ifs : List Expr} {scope : Scope} {own : List (Str × Nat)} {wi : TI} {gt : TG} {tt : TT} {mi : Em} {gv : Gv} {mt : Ev1} (g : Gd X C W k) (hi : IM X C W tg iter wi mi) (ok : BlkOk X.N X.env.scope scope own)
    (hg : ∀ (s : Shared) (H : Hp) (L : Addr) (cl : List (Str × Addr)) (fp : List Addr), Gd (X.blk s H scope (compEnvC scope cl L X.env) fp) C W0 k → GM (X.blk s H scope (compEnvC scope cl L X.env) fp) C tg gt (own.map (·.2)) gv)
    (ht : ∀ (s : Shared) (H : Hp) (L : Addr) (cl : List (Str × Addr)) (fp : List Addr), Gd (X.blk s H scope (compEnvC scope cl L X.env) fp) C W0 k → TMs (X.blk s H scope (compEnvC scope cl L X.env) fp) C W0 ifs tt mt)
    (he : ∀ (s : Shared) (H : Hp) (L : Addr) (cl : List (Str × Addr)) (fp : List Addr), Gd (X.blk s H scope (compEnvC scope cl L X.env) fp) C W0 k → EM (X.blk s H scope (compEnvC scope cl L X.env) fp) C W0 elt te me)
    (hy : X.N[i]? = some y := by rfl) (hyl : X.env.scope.names.lookup y = some .local := by rfl) (hsw : swapsWith (.ListComp elt [⟨tg, iter, ifs, 0⟩] scope pos) (some (.Name y py)) spos.line X.env = pure true := by exact sw_true rfl rfl rfl (by decide +kernel)) (hs : ∀ x, foldedSetIterable iter X.env x = pure x := by intro _; rfl) :
    SM X C W (.Assign [.Name y py] (.ListComp elt [⟨tg, iter, ifs, 0⟩] scope pos) spos) (tAsg (tLc wi gt tt te (own.map (·.2))) (gName i)) (match fresh with | true => mSetL i (mLc mi (own.map (·.2)) gv mt me) | false => mSet i (mLc mi (own.map (·.2)) gv mt me)) := by
  have hp := ps_lc (spos := spos) (py := py) (pos := pos) g hi ok hg ht he hy hyl hsw hs
  have he2 := ef_lc (pos := pos) g hi ok hg ht he hs
  cases fresh with
  | true => exact sm_lcL hp he2
  | false => exact sm_lc hp (em_of_ef he2)
/-! ### isinstance(x, (T, U)) -/
def isi2D (n1 n2 : String) (x : D) : Res D := match isiD n1 x with
  | .ok (.bl true) => .ok (.bl true)
  | .ok (.bl false) => isiD n2 x
  | _ => .bad
def mIsi2 (n1 n2 : String) (m : Ev) : Ev := fun env => do
  let r ← m env
  let x ← rs r.2 r.1
  match isi2D n1 n2 x with
  | .ok d => pure (d, r.2)
  | _ => .bad
theorem em_isi2 {n1 n2 : String} {T U : Str} {p pT pU p2 : Pos} {kk} (g : Gd X C W k) (hg : Gl X "isinstance") (hm : X.mg "isinstance" = none) (hgT : Gl X T) (hmT : X.mg T = none) (hvT : bootBuiltins T = some (.type n1)) (hgU : Gl X U) (hmU : X.mg U = none) (hvU : bootBuiltins U = some (.type n2)) (he : EM X C W e te m)
    (hnT : T ≠ "__name__" := by decide) (hdT : (T == ("__debug__" : Str)) = false := by decide) (hnU : U ≠ "__name__" := by decide) (hdU : (U == ("__debug__" : Str)) = false := by decide)
    (hs : starEach [e, .Tuple [.Name T pT, .Name U pU] kk p2] X.env = (false, eval e X.env) :: starEach [.Tuple [.Name T pT, .Name U pU] kk p2] X.env := by rfl)
    (hs2 : starEach [.Tuple [.Name T pT, .Name U pU] kk p2] X.env = (false, eval (.Tuple [.Name T pT, .Name U pU] kk p2) X.env) :: starEach [] X.env := by rfl)
    (hs3 : starEach [.Name T pT, .Name U pU] X.env = (false, eval (.Name T pT) X.env) :: starEach [.Name U pU] X.env := by rfl) (hs4 : starEach [.Name U pU] X.env = (false, eval (.Name U pU) X.env) :: starEach [] X.env := by rfl)
    (hpl : (backTo pos (starEach [.Tuple [.Name T pT, .Name U pU] kk p2] X.env)).any (·.1) = false := by rfl) :
    EM X C W (.Call (.Name "isinstance" p) [e, .Tuple [.Name T pT, .Name U pU] kk p2] [] pos) (tCB (rIsiT C.K) (tCons te (tCons (tTup (tCons (tC (.ty n1)) (tCons (tC (.ty n2)) tNil))) tNil))) (mIsi2 n1 n2 m) := by
  refine ⟨g.kE ▸ pe_callB call_isiT hg hm (by decide +kernel) (pa_cons he.pe (pa_cons (pe_tup (pa_cons (pe_bltn hgT hmT hvT rfl hnT hdT) (pa_cons (pe_bltn hgU hmU hvU rfl hnU hdU) pa_nil hs4) hs3)) pa_nil hs2) hs) (by decide) (by decide) hs hpl, fun M0 ad σ H env Q R w => ?_⟩
  unfold mIsi2 at w
  refine he.sn' R w fun r v H1 R1 S1 V1 w1 => ?_
  rw [wp_bind] at w1
  obtain ⟨y, _, w2, rx⟩ := R1.rs V1 w1
  refine ⟨by show 2 ≤ sizeLine; decide, fun o hn => ?_⟩
  have RG := R1.grow (same_new (o := .tup [V.ty n1, V.ty n2]) hn)
  have SG : Stp (C.w M0) ad H env (upd H1 o (.tup [V.ty n1, V.ty n2])) r.2 := S1.trans (.grow (same_new hn))
  have rx2 : Ro C.K (upd H1 o (.tup [V.ty n1, V.ty n2])) (Mo (C.w M0) r.2 ad) y v := rx.same (same_new hn)
  cases q1 : isiD n1 y with
  | err c => unfold isi2D at w2; rw [q1] at w2; exact w2.elim
  | bad => unfold isi2D at w2; rw [q1] at w2; exact w2.elim
  | ok d1 =>
    obtain ⟨b1, rfl, hk1⟩ := isi_kit q1
    have fin : ∀ bb, PySem.W.kitAny C.K (.type (tyN y)) [.type n1, .type n2] = some bb → (∀ v H', RE (C.w M0) ad H' σ r.2 → Stp (C.w M0) ad H env H' r.2 → VR (C.w M0) ad H' σ r.2 (.bl bb) v → Q v H') →
        rIsiT C.K [v, .ref o] (upd H1 o (.tup [V.ty n1, V.ty n2])) Q := fun bb hk hq => by
      exact ⟨v, o, _, _, _, bb, rfl, upd_same, .cons (.ty n1) (.cons (.ty n2) .nil), rx2.tyx, hk, hq _ _ RG SG (.of (.bl bb))⟩
    unfold isi2D at w2
    rw [q1] at w2
    cases b1 with
    | true => exact fin true (kitAny_cons (kit_ty hk1) (fun z => by cases z) fun _ => rfl) w2
    | false =>
      simp only at w2
      cases q2 : isiD n2 y with
      | err c => rw [q2] at w2; exact w2.elim
      | bad => rw [q2] at w2; exact w2.elim
      | ok d2 =>
        obtain ⟨b2, rfl, hk2⟩ := isi_kit q2
        rw [q2] at w2
        refine fin b2 (kitAny_cons (kit_ty hk1) (fun _ => kitAny_cons (kit_ty hk2) (fun z => by rw [z]; exact kitAny_nil) fun z => z) fun z => by cases z) w2
end
section
variable {P : Program} {w : World} {K : PySem.W.Frag} {mg : Str → Option Value} {base : Heap} {x : Str} {st : Stmt} {f : Addr} {fd : FuncData} {N ps ks : List Str} {is : List Nat} {k n : Nat} {m : Sv}
theorem fnK (F : Fun K x x st f fd) (S : FnScope N ps (defScope st)) (hn : ps.length = n) (hm : mg x = some (.ref f))
    (hb : ∀ (kV doc pm : Value) (an : Option Addr) (cdv ct : Value) (us : List Value), us.length = is.length → bindArgs (PySem.W.fnOf x x (defArgs st) (defBody st) (defScope st) .none kV doc pm an cdv ct) ⟨[], ks.zip us⟩ = pure (ps.zip (pick is us)))
    (B : Body P w K mg base N x st k false m) : FnK P w K mg base (k + 1) x ks is (spP K mg n (run N.length m)) := by
  refine ⟨f, fd, ps, fnP_ok F S hn B, hm, F.kp, ?_⟩
  obtain ⟨oc, od, kV, doc, pm, an, cdv, ct, osl, rfl, lk, hcd⟩ := F.ex
  exact ⟨fun s ws _ hl => .of_eq (hb kV doc pm an cdv ct ws hl)⟩
end
end Vm
end
section
namespace Vm
open PySem L2
@[simp] theorem z_mVar (i : Nat) (env : Sls) : (mVar i env : Res (D × Sls)) = (  match env[i]? with
  | some (.t d) => .ok (d, env)
  | some (.l _) => .ok (.own i, env)
  | some (.p _) => .ok (.own i, env)
  | some (.r _) => .ok (.own i, env)
  | _ => .bad) := rfl
@[simp] theorem z_mK (d : D) (env : Sls) : (mK d env : Res (D × Sls)) = (.ok (d, env)) := rfl
@[simp] theorem z_mBin (g : D → D → Res D) (ma mb : Ev) (env : Sls) : (mBin g ma mb env : Res (D × Sls)) = (do
  let r1 ← ma env
  let r2 ← mb r1.2
  let x ← rs r2.2 r1.1
  let y ← rs r2.2 r2.1
  let d ← match g x y with
    | .err _ => .bad
    | z => z
  pure (d, r2.2)) := rfl
@[simp] theorem z_mTru (m : Ev) (env : Sls) : (mTru m env : Res (Bool × Sls)) = (do
  let r ← m env
  match r.1 with
  | .bl b => pure (b, r.2)
  | _ => .bad) := rfl
@[simp] theorem z_mNotT (m : Ev1) (env : Sls) : (mNotT m env : Res (Bool × Sls)) = (do
  let r ← m env
  pure (!r.1, r.2)) := rfl
@[simp] theorem z_mAndT (m n : Ev1) (env : Sls) : (mAndT m n env : Res (Bool × Sls)) = (do
  let r ← m env
  if r.1 = true then n r.2 else pure (false, r.2)) := rfl
@[simp] theorem z_mOrT (m n : Ev1) (env : Sls) : (mOrT m n env : Res (Bool × Sls)) = (do
  let r ← m env
  if r.1 = true then pure (true, r.2) else n r.2) := rfl
@[simp] theorem z_mAndV (m n : Ev) (env : Sls) : (mAndV m n env : Res (D × Sls)) = (do
  let r ← m env
  match r.1 with
  | .bl true => n r.2
  | .bl false => pure (.bl false, r.2)
  | _ => .bad) := rfl
@[simp] theorem z_mOrV (m n : Ev) (env : Sls) : (mOrV m n env : Res (D × Sls)) = (do
  let r ← m env
  match r.1 with
  | .bl true => pure (.bl true, r.2)
  | .bl false => n r.2
  | _ => .bad) := rfl
@[simp] theorem z_mNotV (m : Ev) (env : Sls) : (mNotV m env : Res (D × Sls)) = (do
  let r ← m env
  match r.1 with
  | .bl b => pure (.bl (!b), r.2)
  | _ => .bad) := rfl
@[simp] theorem z_mIf (mt : Ev1) (ma mb : Ev) (env : Sls) : (mIf mt ma mb env : Res (D × Sls)) = (do
  let r ← mt env
  if r.1 = true then ma r.2 else mb r.2) := rfl
@[simp] theorem z_mNil (env : Sls) : (mNil env : Res (List D × Sls)) = (.ok ([], env)) := rfl
@[simp] theorem z_mCons (m : Ev) (ms : Evs) (env : Sls) : (mCons m ms env : Res (List D × Sls)) = (do
  let r1 ← m env
  let r2 ← ms r1.2
  pure (r1.1 :: r2.1, r2.2)) := rfl
@[simp] theorem z_mCallB (g : List D → Res D) (ms : Evs) (env : Sls) : (mCallB g ms env : Res (D × Sls)) = (do
  let r ← ms env
  let xs ← rsL r.2 r.1
  match g xs with
  | .ok d => pure (d, r.2)
  | _ => .bad) := rfl
@[simp] theorem z_mTup (ms : Evs) (env : Sls) : (mTup ms env : Res (D × Sls)) = (do
  let r ← ms env
  let xs ← kpL r.1
  if xs.length ≤ sizeLine then pure (.tup xs, r.2) else .bad) := rfl
@[simp] theorem z_mLst (ms : Evs) (env : Sls) : (mLst ms env : Res (D × Sls)) = (do
  let r ← ms env
  let xs ← kpL r.1
  if xs.length ≤ sizeLine then pure (.lst xs, r.2) else .bad) := rfl
@[simp] theorem z_mDic0 (env : Sls) : (mDic0 env : Res (D × Sls)) = (.ok (.dic [], env)) := rfl
@[simp] theorem z_subD (x y : D) : (subD x y : Res D) = (match x, y with
  | .int i, .int j => .ok (.int (i - j))
  | _, _ => .bad) := rfl
@[simp] theorem z_modD (x y : D) : (modD x y : Res D) = (match x, y with
  | .int i, .int j => if 0 < j then .ok (.int (i % j)) else .bad
  | _, _ => .bad) := rfl
@[simp] theorem z_cmpD (p : Int → Int → Bool) (x y : D) : (cmpD p x y : Res D) = (match x, y with
  | .int i, .int j => .ok (.bl (p i j))
  | _, _ => .bad) := rfl
@[simp] theorem z_isD (x y : D) : (isD x y : Res D) = (match x, y with
  | x, .non => (match x with
    | .non => .ok (.bl true)
    | .own _ => .bad
    | _ => .ok (.bl false))
  | .bl a, .bl b => .ok (.bl (decide (a = b)))
  | _, _ => .bad) := rfl
@[simp] theorem z_isntD (x y : D) : (isntD x y : Res D) = (match x, y with
  | x, .non => (match x with
    | .non => .ok (.bl false)
    | .own _ => .bad
    | _ => .ok (.bl true))
  | .bl a, .bl b => .ok (.bl (!decide (a = b)))
  | _, _ => .bad) := rfl
@[simp] theorem z_one (g : D → Res D) (ds : List D) : (one g ds : Res D) = (match ds with
  | [x] => g x
  | _ => .bad) := rfl
@[simp] theorem z_two (g : D → D → Res D) (ds : List D) : (two g ds : Res D) = (match ds with
  | [x, y] => g x y
  | _ => .bad) := rfl
@[simp] theorem z_lenD (x : D) : (lenD x : Res D) = (match x with
  | .lst xs => .ok (.int xs.length)
  | .tup xs => .ok (.int xs.length)
  | .str x => if x.length ≤ sizeLine then .ok (.int x.length) else .bad
  | .dic xs => .ok (.int xs.length)
  | .scr ns => .ok (.int ns.length)
  | _ => .bad) := rfl
@[simp] theorem z_maxD (x y : D) : (maxD x y : Res D) = (match x, y with
  | .int i, .int j => .ok (.int (if j > i then j else i))
  | _, _ => .bad) := rfl
@[simp] theorem z_minD (x y : D) : (minD x y : Res D) = (match x, y with
  | .int i, .int j => .ok (.int (if j < i then j else i))
  | _, _ => .bad) := rfl
@[simp] theorem z_intD (x : D) : (intD x : Res D) = (match x with
  | .int i => .ok (.int i)
  | .bl k => .ok (.int (if k then 1 else 0))
  | _ => .bad) := rfl
@[simp] theorem z_absD (x : D) : (absD x : Res D) = (match x with
  | .int i => .ok (.int (if i < 0 then -i else i))
  | _ => .bad) := rfl
@[simp] theorem z_tupD (x : D) : (tupD x : Res D) = (match x with
  | .lst xs => .ok (.tup xs)
  | .tup xs => .ok (.tup xs)
  | _ => .bad) := rfl
@[simp] theorem z_lstD (x : D) : (lstD x : Res D) = (match x with
  | .lst xs => .ok (.lst xs)
  | .tup xs => .ok (.lst xs)
  | _ => .bad) := rfl
@[simp] theorem z_dkey (y : D) : (dkey y : Option Key) = (match y with
  | .int i => some (.inl i)
  | .str x => some (.inr x)
  | _ => none) := rfl
@[simp] theorem z_mIsi (n : String) (m : Ev) (env : Sls) : (mIsi n m env : Res (D × Sls)) = (do
  let r ← m env
  let x ← rs r.2 r.1
  match isiD n x with
  | .ok d => pure (d, r.2)
  | _ => .bad) := rfl
@[simp] theorem z_mNo (env : Sls) : (mNo env : Res (Option Int × Sls)) = (.ok (none, env)) := rfl
@[simp] theorem z_mPart (m : Ev) (env : Sls) : (mPart m env : Res (Option Int × Sls)) = (do
  let r ← m env
  match r.1 with
  | .int i => pure (some i, r.2)
  | _ => .bad) := rfl
@[simp] theorem z_mSl (g : D → Option Int → Option Int → Res D) (m : Ev) (ml mh : Eo) (env : Sls) : (mSl g m ml mh env : Res (D × Sls)) = (do
  let r ← m env
  let l ← ml r.2
  let h ← mh l.2
  let x ← rs h.2 r.1
  match g x l.1 h.1 with
  | .ok d => pure (d, h.2)
  | _ => .bad) := rfl
@[simp] theorem z_mCall (n : Nat) (fm : List D → Res D) (ms : Evs) (env : Sls) : (mCall n fm ms env : Res (D × Sls)) = (do
  let r ← ms env
  if r.1.length = n then
    if allKp r.1 = true then do
      let d ← fm r.1
      pure (d, r.2)
    else do
      let xs ← rsL r.2 r.1
      let d ← fm xs
      if d.flat = true then pure (d, r.2) else .bad
  else .bad) := rfl
@[simp] theorem z_mCall0 (fm : List D → Res D) (env : Sls) : (mCall0 fm env : Res (D × Sls)) = (  match fm [] with
  | .ok d => .ok (d, env)
  | _ => .bad) := rfl
@[simp] theorem z_mCallF (n : Nat) (fm : List D → Res D) (ms : Evs) (env : Sls) : (mCallF n fm ms env : Res (D × Sls)) = (do
  let r ← ms env
  if r.1.length = n then
    if allKp r.1 = true then do
      let d ← fm r.1
      pure (d, r.2)
    else .bad
  else .bad) := rfl
@[simp] theorem z_mCallJ (n : Nat) (fm : D → List D → Res (D × D)) (ms : Evs) (env : Sls) : (mCallJ n fm ms env : Res (D × Sls)) = (do
  let r ← ms env
  if r.1.length = n then
    match r.1 with
    | .own i :: ds =>
      if allKp ds = true then
        match r.2[i]? with
        | some (.l c) => (match fm c ds with
          | .ok q => pure (q.1, r.2.set i (.l q.2))
          | _ => .bad)
        | some (.p c) => (match fm c ds with
          | .ok q => pure (q.1, r.2.set i (.p q.2))
          | _ => .bad)
        | _ => .bad
      else .bad
    | _ => .bad
  else .bad) := rfl
@[simp] theorem z_mApp (i : Nat) (m : Ev) (env : Sls) : (mApp i m env : Res (D × Sls)) = (  match env[i]?.bind Sl.con with
  | some (.lst _) => do
    let r ← m env
    let d ← kp r.1
    match r.2[i]? with
    | some s => (match s.con with
      | some (.lst ds) => if ds.length < sizeLine then pure (.non, r.2.set i (s.put (.lst (ds ++ [d])))) else .bad
      | _ => .bad)
    | _ => .bad
  | _ => .bad) := rfl
@[simp] theorem z_mSeq (m : Ev) (env : Sls) : (mSeq m env : Res (List D × Sls)) = (do
  let r ← m env
  match r.1 with
  | .lst ds => pure (ds, r.2)
  | .tup ds => pure (ds, r.2)
  | _ => .bad) := rfl
@[simp] theorem z_gmN (i : Nat) (d : D) (env : Sls) : (gmN i d env : Res Sls) = (if notPar env i = true then .ok (env.set i (.t d)) else .bad) := rfl
@[simp] theorem z_gmNil (ds : List D) (env : Sls) : (gmNil ds env : Res Sls) = (match ds with
  | [] => .ok env
  | _ => .bad) := rfl
@[simp] theorem z_gmCons (g : Gv) (gs : List D → Sls → Res Sls) (ds : List D) (env : Sls) : (gmCons g gs ds env : Res Sls) = (match ds with
  | d :: ds => do
    let e ← g d env
    gs ds e
  | _ => .bad) := rfl
@[simp] theorem z_gmT (n : Nat) (gs : List D → Sls → Res Sls) (d : D) (env : Sls) : (gmT n gs d env : Res Sls) = (match d with
  | .tup ds => if ds.length = n then gs ds env else .bad
  | _ => .bad) := rfl
@[simp] theorem z_noE {α : Type} (r : Res α) : (noE r : Res α) = (match r with
  | .err _ => .bad
  | r => r) := rfl
@[simp] theorem z_mLc (mi : Em) (vs : List Nat) (g : Gv) (tt : Ev1) (me : Ev) (env : Sls) : (mLc mi vs g tt me env : Res (D × Sls)) = (do
  let r ← mi env
  if okWipe r.2 vs = true then do
    let q ← lcL vs g tt me r.1 (wipeE r.2 vs)
    pure (.lst q.1, backE r.2 q.2 vs)
  else .bad) := rfl
@[simp] theorem z_mYes (env : Sls) : (mYes env : Res (Bool × Sls)) = (.ok (true, env)) := rfl
@[simp] theorem z_mSk (env : Sls) : (mSk env : Res (Out × Sls)) = (.ok (.next, env)) := rfl
@[simp] theorem z_mSq (m1 m2 : Sv) (env : Sls) : (mSq m1 m2 env : Res (Out × Sls)) = (do
  let r ← m1 env
  match r.1 with
  | .next => m2 r.2
  | o => pure (o, r.2)) := rfl
@[simp] theorem z_mBrk (env : Sls) : (mBrk env : Res (Out × Sls)) = (.ok (.brk, env)) := rfl
@[simp] theorem z_mCnt (env : Sls) : (mCnt env : Res (Out × Sls)) = (.ok (.cont, env)) := rfl
@[simp] theorem z_mSet (i : Nat) (m : Ev) (env : Sls) : (mSet i m env : Res (Out × Sls)) = (do
  let r ← m env
  let d ← kp r.1
  if notPar r.2 i = true then pure (.next, r.2.set i (.t d)) else .bad) := rfl
@[simp] theorem z_mSetL (i : Nat) (m : Ev) (env : Sls) : (mSetL i m env : Res (Out × Sls)) = (do
  let r ← m env
  if notPar r.2 i = true then pure (.next, r.2.set i (.l r.1)) else .bad) := rfl
@[simp] theorem z_mUnp (gv : Gv) (m : Ev) (env : Sls) : (mUnp gv m env : Res (Out × Sls)) = (do
  let r ← m env
  let d ← kp r.1
  let e ← noE (gv d r.2)
  pure (.next, e)) := rfl
@[simp] theorem z_mExp (m : Ev) (env : Sls) : (mExp m env : Res (Out × Sls)) = (do
  let r ← m env
  pure (.next, r.2)) := rfl
@[simp] theorem z_mIfS (mt : Ev1) (m1 m2 : Sv) (env : Sls) : (mIfS mt m1 m2 env : Res (Out × Sls)) = (do
  let r ← mt env
  if r.1 = true then m1 r.2 else m2 r.2) := rfl
@[simp] theorem z_mRet (m : Ev) (env : Sls) : (mRet m env : Res (Out × Sls)) = (do
  let r ← m env
  let d ← kp r.1
  pure (.ret d, r.2)) := rfl
@[simp] theorem z_mRetN (env : Sls) : (mRetN env : Res (Out × Sls)) = (.ok (.ret .non, env)) := rfl
@[simp] theorem z_mRetL (i : Nat) (env : Sls) : (mRetL i env : Res (Out × Sls)) = (  match env[i]? with
  | some (.l d) => .ok (.ret d, env.set i .u)
  | _ => .bad) := rfl
@[simp] theorem z_mRai (x : Str) (env : Sls) : (mRai x env : Res (Out × Sls)) = (.err x) := rfl
@[simp] theorem z_mFor (mi : Em) (gv : Gv) (b : Sv) (env : Sls) : (mFor mi gv b env : Res (Out × Sls)) = (do
  let r ← mi env
  forL gv b r.1 r.2) := rfl
@[simp] theorem z_mPut (i : Nat) (mi mv : Ev) (env : Sls) : (mPut i mi mv env : Res (Out × Sls)) = (do
  let r1 ← mv env
  let d ← kp r1.1
  match r1.2[i]?.bind Sl.con with
  | some _ => do
    let r2 ← mi r1.2
    let y ← rs r2.2 r2.1
    match r2.2[i]? with
    | some s => (match s.con with
      | some c => (match putAt c y d with
        | .ok c' => pure (.next, r2.2.set i (s.put c'))
        | _ => .bad)
      | none => .bad)
    | none => .bad
  | none => .bad) := rfl
@[simp] theorem z_envOf (n : Nat) (ds : List D) : (envOf n ds : Sls) = (ds.map Sl.t ++ List.replicate (n - ds.length) .u) := rfl
@[simp] theorem z_run (n : Nat) (m : Sv) (ds : List D) : (run n m ds : Res D) = (
  match m (envOf n ds) with
  | .ok (.ret d, _) => .ok d
  | .ok (.next, _) => .ok .non
  | .ok _ => .bad
  | .err c => .err c
  | .bad => .bad) := rfl
@[simp] theorem z_runF (n : Nat) (m : Sv) (ds : List D) : (runF n m ds : Res D) = (
  match m (envOf n ds) with
  | .ok (.ret d, _) => .ok d
  | .ok _ => .bad
  | .err c => .err c
  | .bad => .bad) := rfl
@[simp] theorem z_envJ (n : Nat) (j : D) (ds : List D) : (envJ n j ds : Sls) = (.p j :: (ds.map Sl.t ++ List.replicate (n - ds.length - 1) .u)) := rfl
@[simp] theorem z_runJ (n : Nat) (m : Sv) (j : D) (ds : List D) : (runJ n m j ds : Res (D × D)) = (
  match m (envJ n j ds) with
  | .ok (.ret d, e) => (match (e[0]? : Option Sl) with
    | some (.p j') => .ok (d, j')
    | _ => .bad)
  | .ok (.next, e) => (match (e[0]? : Option Sl) with
    | some (.p j') => .ok (.non, j')
    | _ => .bad)
  | _ => .bad) := rfl
@[simp] theorem z_negD (x : D) : (negD x : Res D) = (match x with
  | .int i => .ok (.int (-i))
  | _ => .bad) := rfl
@[simp] theorem z_mUn (g : D → Res D) (m : Ev) (env : Sls) : (mUn g m env : Res (D × Sls)) = (do
  let r ← m env
  let x ← rs r.2 r.1
  match g x with
  | .ok d => pure (d, r.2)
  | _ => .bad) := rfl
@[simp] theorem z_sliceD (x : D) (lo hi : Option Int) : (sliceD x lo hi : Res D) = (match x with
  | .lst xs => .ok (.lst (cutD xs lo hi))
  | .tup xs => .ok (.tup (cutD xs lo hi))
  | .scr ns => .ok (.lst (cutD (ns.map D.int) lo hi))
  | _ => .bad) := rfl
@[simp] theorem z_mCallK (n : Nat) (is : List Nat) (fm : List D → Res D) (ms : Evs) (env : Sls) : (mCallK n is fm ms env : Res (D × Sls)) = (do
  let r ← ms env
  if r.1.length = is.length ∧ (pick is r.1).length = n ∧ allKp (pick is r.1) = true then do
    let d ← fm (pick is r.1)
    pure (d, r.2)
  else .bad) := rfl
@[simp] theorem z_mIsi2 (n1 n2 : String) (m : Ev) (env : Sls) : (mIsi2 n1 n2 m env : Res (D × Sls)) = (do
  let r ← m env
  let x ← rs r.2 r.1
  match isi2D n1 n2 x with
  | .ok d => pure (d, r.2)
  | _ => .bad) := rfl
@[simp] theorem z_mWh (f : Sls → Nat) (mt : Ev1) (mb : Sv) (env : Sls) : (mWh f mt mb env : Res (Out × Sls)) = (whL mt mb (f env) env) := rfl
@[simp] theorem z_mChain (g g' : D → D → Res D) (ma mb mc : Ev) (env : Sls) : (mChain g g' ma mb mc env : Res (D × Sls)) = (do
  let r1 ← ma env
  let r2 ← mb r1.2
  let x ← rs r2.2 r1.1
  let y ← rs r2.2 r2.1
  match g x y with
  | .ok (.bl true) =>
    let r3 ← mc r2.2
    let y ← rs r3.2 r2.1
    let z ← rs r3.2 r3.1
    match g' y z with
    | .ok d => pure (d, r3.2)
    | _ => .bad
  | .ok (.bl false) => pure (.bl false, r2.2)
  | _ => .bad) := rfl
@[simp] theorem z_mGive (i : Nat) (env : Sls) : (mGive i env : Res (D × Sls)) = (  match env[i]? with
  | some (.l d) => .ok (d, env.set i (.t d))
  | _ => .bad) := rfl
theorem rg1_ex : ∃ f : Int → Bool, ∀ j, (f j = true) = (-4611686018427387904 ≤ j ∧ j ≤ 16777216) := ⟨fun j => decide (-4611686018427387904 ≤ j ∧ j ≤ 16777216), fun j => decide_eq_true_eq⟩
theorem rg2_ex : ∃ f : Int × Int → Bool, ∀ p, (f p = true) = (-4611686018427387904 ≤ p.1 ∧ p.1 < 4611686018427387904 ∧ -4611686018427387904 ≤ p.2 ∧ p.2 < 4611686018427387904 ∧ p.2 - p.1 ≤ 16777216) := ⟨fun p => decide (-4611686018427387904 ≤ p.1 ∧ p.1 < 4611686018427387904 ∧ -4611686018427387904 ≤ p.2 ∧ p.2 < 4611686018427387904 ∧ p.2 - p.1 ≤ 16777216), fun p => decide_eq_true_eq⟩
noncomputable def rg1 : Int → Bool := Classical.choose rg1_ex
noncomputable def rg2 : Int × Int → Bool := Classical.choose rg2_ex
theorem rg1_eq (j : Int) : (rg1 j = true) = (-4611686018427387904 ≤ j ∧ j ≤ 16777216) := Classical.choose_spec rg1_ex j
theorem rg2_eq (p : Int × Int) : (rg2 p = true) = (-4611686018427387904 ≤ p.1 ∧ p.1 < 4611686018427387904 ∧ -4611686018427387904 ≤ p.2 ∧ p.2 < 4611686018427387904 ∧ p.2 - p.1 ≤ 16777216) := Classical.choose_spec rg2_ex p
theorem rg1_ok {j : Int} (h : -16777216 ≤ j) (h2 : j ≤ 16777216) : rg1 j = true := by rw [rg1_eq]; omega
theorem rg2_ok {i j : Int} (h : -1000000 ≤ i) (h2 : i ≤ 1000000) (h3 : -1000000 ≤ j) (h4 : j ≤ 1000000) : rg2 (i, j) = true := by rw [rg2_eq]; simp only; omega
@[simp] theorem rg1_lit (j : Nat) (h : j ≤ 16777216) : rg1 (j : Int) = true := rg1_ok (by omega) (by omega)
@[simp] theorem z_mRng1 (ms : Evs) (env : Sls) : mRng1 ms env = (do
  let r ← ms env
  match int1 r.1 with
  | some j => if rg1 j = true then pure (rangeD 0 j.toNat, r.2) else .bad
  | none => .bad) := by
  unfold mRng1
  simp only [rg1_eq] <;> rfl
@[simp] theorem z_mRng2 (ms : Evs) (env : Sls) : mRng2 ms env = (do
  let r ← ms env
  match int2 r.1 with
  | some p => if rg2 p = true then pure (rangeD p.1 (p.2 - p.1).toNat, r.2) else .bad
  | none => .bad) := by
  unfold mRng2
  simp only [rg2_eq] <;> rfl
@[simp] theorem sz_lit (n : Nat) (h : n ≤ 1000000 := by decide) : (n ≤ sizeLine) = True := eq_true (Nat.le_trans h (by decide))
@[simp] theorem sz_lt (n : Nat) (h : n < 1000000) : (n < sizeLine) = True := eq_true (Nat.lt_of_lt_of_le h (by decide))
def np (s : Sl) : Bool := match s with
  | .p _ => false
  | _ => true
@[simp] theorem n0 (s : Sl) (e : Sls) : notPar (s :: e) 0 = np s := by cases s <;> rfl
@[simp] theorem n1 (s : Sl) (e : Sls) (i : Nat) : notPar (s :: e) (i + 1) = notPar e i := by
  unfold notPar
  rw [List.getElem?_cons_succ]
@[simp] theorem n2 (d : D) : np (.t d) = true := rfl
@[simp] theorem n3 (d : D) : np (.l d) = true := rfl
@[simp] theorem n4 : np .u = true := rfl
@[simp] theorem n5 (d : D) : np (.r d) = true := rfl
@[simp] theorem n6 (d : D) : np (.p d) = false := rfl
@[simp] theorem v4 (i j : Int) : powD (.int i) (.int j) = (if 0 ≤ j ∧ j ≤ 1000000 ∧ i.natAbs < 2 ^ 64 then .ok (.int (i ^ j.toNat)) else .bad) := rfl
@[simp] theorem v0 (i j : Int) : addD (.int i) (.int j) = .ok (.int (i + j)) := rfl
@[simp] theorem v1 (a b : List D) : addD (.lst a) (.lst b) = (if a.length + b.length ≤ sizeLine then .ok (.lst (a ++ b)) else .bad) := rfl
@[simp] theorem v2 (a b : List D) : addD (.tup a) (.tup b) = (if a.length + b.length ≤ sizeLine then .ok (.tup (a ++ b)) else .bad) := rfl
@[simp] theorem v3 (a b : Str) : addD (.str a) (.str b) = (if a.length + b.length ≤ sizeLine then .ok (.str (a ++ b)) else .bad) := rfl
@[simp] theorem x0 (i : Bool) : kp (.bl i) = .ok (.bl i) := rfl
@[simp] theorem w0 (env : Sls) (i : Bool) : rs env (.bl i) = .ok (.bl i) := rfl
@[simp] theorem x1 (i : Int) : kp (.int i) = .ok (.int i) := rfl
@[simp] theorem w1 (env : Sls) (i : Int) : rs env (.int i) = .ok (.int i) := rfl
@[simp] theorem x2 (i : Str) : kp (.str i) = .ok (.str i) := rfl
@[simp] theorem w2 (env : Sls) (i : Str) : rs env (.str i) = .ok (.str i) := rfl
@[simp] theorem x3 (i : List D) : kp (.tup i) = .ok (.tup i) := rfl
@[simp] theorem w3 (env : Sls) (i : List D) : rs env (.tup i) = .ok (.tup i) := rfl
@[simp] theorem x4 (i : List D) : kp (.lst i) = .ok (.lst i) := rfl
@[simp] theorem w4 (env : Sls) (i : List D) : rs env (.lst i) = .ok (.lst i) := rfl
@[simp] theorem x5 (i : List (Key × D)) : kp (.dic i) = .ok (.dic i) := rfl
@[simp] theorem w5 (env : Sls) (i : List (Key × D)) : rs env (.dic i) = .ok (.dic i) := rfl
@[simp] theorem x6 (i : List Int) : kp (.scr i) = .ok (.scr i) := rfl
@[simp] theorem w6 (env : Sls) (i : List Int) : rs env (.scr i) = .ok (.scr i) := rfl
@[simp] theorem x7 : kp .non = .ok .non := rfl
@[simp] theorem w7 (env : Sls) : rs env .non = .ok .non := rfl
@[simp] theorem x8 (i : Nat) : kp (.own i) = .bad := rfl
@[simp] theorem w8 (env : Sls) (i : Nat) : rs env (.own i) = (match env[i]? with
    | some (.t d) => .ok d
    | some (.l d) => .ok d
    | some (.p d) => .ok d
    | some (.r d) => .ok d
    | _ => .bad) := rfl
@[simp] theorem w9 (i : Int) : int1 [.int i] = some i := rfl
@[simp] theorem w10 (i j : Int) : int2 [.int i, .int j] = some (i, j) := rfl
@[simp] theorem y1 {α β : Type} (a : α) (f : α → Res β) : (Res.ok a >>= f) = f a := rfl
@[simp] theorem y2 {α β : Type} (c : Str) (f : α → Res β) : ((Res.err c : Res α) >>= f) = Res.err c := rfl
@[simp] theorem y3 {α β : Type} (f : α → Res β) : ((Res.bad : Res α) >>= f) = Res.bad := rfl
@[simp] theorem y4 {α : Type} (a : α) : (pure a : Res α) = Res.ok a := rfl
@[simp] theorem y5 (env : Sls) : rsL env [] = .ok [] := rfl
@[simp] theorem y6 (env : Sls) (d : D) (ds : List D) : rsL env (d :: ds) = (do
    let x ← rs env d
    let xs ← rsL env ds
    pure (x :: xs)) := rfl
@[simp] theorem y7 : kpL [] = .ok [] := rfl
@[simp] theorem y8 (d : D) (ds : List D) : kpL (d :: ds) = (do
    let x ← kp d
    let xs ← kpL ds
    pure (x :: xs)) := rfl
@[simp] theorem y9 : allKp [] = true := rfl
@[simp] theorem y10 (i : Nat) (ds : List D) : allKp (.own i :: ds) = false := rfl
@[simp] theorem y11 (i : Int) (ds : List D) : allKp (.int i :: ds) = allKp ds := rfl
@[simp] theorem y12 (i : List D) (ds : List D) : allKp (.tup i :: ds) = allKp ds := rfl
@[simp] theorem y13 (i : Bool) (ds : List D) : allKp (.bl i :: ds) = allKp ds := rfl
@[simp] theorem y14 (i : Str) (ds : List D) : allKp (.str i :: ds) = allKp ds := rfl
@[simp] theorem y15 (ds : List D) : allKp (.non :: ds) = allKp ds := rfl
@[simp] theorem y16 (i : List D) (ds : List D) : allKp (.lst i :: ds) = allKp ds := rfl
@[simp] theorem y17 (i : List (Key × D)) (ds : List D) : allKp (.dic i :: ds) = allKp ds := rfl
@[simp] theorem y18 (i : List Int) (ds : List D) : allKp (.scr i :: ds) = allKp ds := rfl
@[simp] theorem y19 (env : Sls) : wipeE env [] = env := rfl
@[simp] theorem y20 (env : Sls) (v : Nat) (vs : List Nat) : wipeE env (v :: vs) = (wipeE env vs).set v .u := rfl
@[simp] theorem y21 (b env : Sls) : backE b env [] = env := rfl
@[simp] theorem y22 (b env : Sls) (v : Nat) (vs : List Nat) : backE b env (v :: vs) = (backE b env vs).set v (b.getD v .u) := rfl
@[simp] theorem y23 (env : Sls) : okWipe env [] = true := rfl
@[simp] theorem y24 (env : Sls) (v : Nat) (vs : List Nat) : okWipe env (v :: vs) = ((match env[v]? with
  | some .u => true
  | some (.t _) => true
  | _ => false) && okWipe env vs) := rfl
@[simp] theorem y25 (d : D) : (Sl.l d).con = some d := rfl
@[simp] theorem y26 (d : D) : (Sl.p d).con = some d := rfl
@[simp] theorem y27 (d e : D) : (Sl.l d).put e = .l e := rfl
@[simp] theorem y28 (d e : D) : (Sl.p d).put e = .p e := rfl
@[simp] theorem y29 (ds : List D) (i : Int) : ixD (.lst ds) (.int i) = (match L2.atI ds i with | some d => .ok d | none => .bad) := rfl
@[simp] theorem y30 (ds : List D) (i : Int) : ixD (.tup ds) (.int i) = (match L2.atI ds i with | some d => .ok d | none => .bad) := rfl
@[simp] theorem y31 (ds : List D) (y : D) : ixA (.lst ds) y = ixD (.lst ds) y := rfl
@[simp] theorem y32 (ds : List D) (y : D) : ixA (.tup ds) y = ixD (.tup ds) y := rfl
@[simp] theorem y33 (ds : List (Key × D)) (y : D) : ixA (.dic ds) y = (match dkey y with
    | some k => (match valD ds k with | some d => .ok d | none => .bad)
    | none => .bad) := rfl
@[simp] theorem y34 {α : Type} (x : α) (xs : List α) : L2.atI (x :: xs) 0 = some x := by unfold L2.atI L2.ixN; rw [if_pos (by decide), if_pos (by simp only [List.length_cons]; omega)]; rfl
@[simp] theorem y35 {α : Type} (x y : α) (xs : List α) : L2.atI (x :: y :: xs) 1 = some y := by unfold L2.atI L2.ixN; rw [if_pos (by decide), if_pos (by simp only [List.length_cons]; omega)]; rfl
@[simp] theorem y36 {α : Type} (x y z : α) (xs : List α) : L2.atI (x :: y :: z :: xs) 2 = some z := by unfold L2.atI L2.ixN; rw [if_pos (by decide), if_pos (by simp only [List.length_cons]; omega)]; rfl
@[simp] theorem y37 {α : Type} (x y z u : α) (xs : List α) : L2.atI (x :: y :: z :: u :: xs) 3 = some u := by unfold L2.atI L2.ixN; rw [if_pos (by decide), if_pos (by simp only [List.length_cons]; omega)]; rfl
theorem atI_ok {α : Type} {xs : List α} {i : Int} (h : 0 ≤ i) (h2 : i < xs.length) : ∃ (q : i.toNat < xs.length), L2.atI xs i = some (xs[i.toNat]) := by
  refine ⟨by omega, ?_⟩
  unfold L2.atI L2.ixN
  rw [if_pos h, if_pos h2]
  simp
@[simp] theorem y38 (ds : List D) (i : Int) (d : D) : putAt (.lst ds) (.int i) d = (match L2.ixN ds.length i with
      | some j => .ok (.lst (ds.set j d))
      | none => .bad) := rfl
@[simp] theorem y39 (ds : List (Key × D)) (y d : D) : putAt (.dic ds) y d = (match dkey y with
    | some k => if ds.length < sizeLine then .ok (.dic (putD ds k d)) else .bad
    | none => .bad) := rfl
@[simp] theorem y40 (ds : List D) : isiD "tuple" (.tup ds) = .ok (.bl true) := rfl
@[simp] theorem y41 (i : Int) : isiD "int" (.int i) = .ok (.bl true) := rfl
@[simp] theorem y42 (i : Int) : isiD "bool" (.int i) = .ok (.bl false) := rfl
@[simp] theorem y43 (i : Str) : isiD "str" (.str i) = .ok (.bl true) := rfl
@[simp] theorem y44 (i : List D) : isiD "list" (.lst i) = .ok (.bl true) := rfl
@[simp] theorem y45 (i j : Int) : eqD (.int i) (.int j) = .ok (.bl (decide (i = j))) := rfl
@[simp] theorem y46 (i j : Str) : eqD (.str i) (.str j) = .ok (.bl (decide (i = j))) := rfl
@[simp] theorem y47 (i j : Int) : neD (.int i) (.int j) = .ok (.bl (!decide (i = j))) := rfl
@[simp] theorem y48 (i j : Str) : neD (.str i) (.str j) = .ok (.bl (!decide (i = j))) := rfl
@[simp] theorem y49 (gv : Gv) (b : Sv) (env : Sls) : forL gv b [] env = .ok (.next, env) := rfl
@[simp] theorem y51 (vs : List Nat) (gv : Gv) (t : Ev1) (m : Ev) (env : Sls) : lcL vs gv t m [] env = .ok ([], env) := rfl
theorem log_lt {n k : Nat} (h : n < 2 ^ (k + 1)) : n.log2 < k + 1 := by
  by_cases z : n = 0
  · subst z; simp
  · exact (Nat.log2_lt z).mpr h
theorem pow_le {a b : Nat} (h : a ≤ b) : 2 ^ a ≤ 2 ^ b := Nat.pow_le_pow_right (by decide) h
theorem mul_ok {i j : Int} (a : i.natAbs < 2 ^ 250) (b : j.natAbs < 2 ^ 250) : mulD (.int i) (.int j) = .ok (.int (i * j)) := by
  have h1 := log_lt (k := 249) a
  have h2 := log_lt (k := 249) b
  show (if i.natAbs.log2 + j.natAbs.log2 < 1000000 then Res.ok (D.int (i * j)) else .bad) = _
  rw [if_pos (by omega)]
theorem div_ok {i j : Int} (a : 0 < j) (b : j.natAbs < 2 ^ 250) : divD (.int i) (.int j) = .ok (.int (i / j)) := by
  have h2 := log_lt (k := 249) b
  show (if 0 < j ∧ j.natAbs.log2 < 9000 then Res.ok (D.int (i / j)) else .bad) = _
  rw [if_pos ⟨a, by omega⟩]
theorem str_ok {i : Int} (a : i.natAbs < 2 ^ 250) : strI (.int i) = .ok (.str (toString i)) := by
  have h1 := log_lt (k := 249) a
  show (if i.natAbs.log2 < 1920 then Res.ok (D.str (toString i)) else Res.bad) = _
  rw [if_pos (by omega)]
@[simp] theorem pick10 {α : Type} (a b : α) : pick [1, 0] [a, b] = [b, a] := rfl
@[simp] theorem pick01 {α : Type} (a b : α) : pick [0, 1] [a, b] = [a, b] := rfl
@[simp] theorem pick0 {α : Type} (a : α) : pick [0] [a] = [a] := rfl
theorem bd_mul {i j : Int} {a b : Nat} (h : i.natAbs ≤ a) (h2 : j.natAbs ≤ b) : (i * j).natAbs ≤ a * b := by
  rw [Int.natAbs_mul]
  exact Nat.mul_le_mul h h2
theorem bd_add {i j : Int} {a b : Nat} (h : i.natAbs ≤ a) (h2 : j.natAbs ≤ b) : (i + j).natAbs ≤ a + b := by omega
theorem bd_sub {i j : Int} {a b : Nat} (h : i.natAbs ≤ a) (h2 : j.natAbs ≤ b) : (i - j).natAbs ≤ a + b := by omega
/-- a loop: an invariant of what is behind it -/
theorem forL_inv {gv : Gv} {b : Sv} (I : Nat → Sls → Prop) : ∀ (ds : List D) (env : Sls) (n : Nat), I n env →
    (∀ (i : Nat) (d : D) (e : Sls), ds[i]? = some d → I (n + i) e → ∃ e1 e2, gv d e = .ok e1 ∧ (b e1 = .ok (.next, e2) ∨ b e1 = .ok (.cont, e2)) ∧ I (n + i + 1) e2) →
    ∃ e', forL gv b ds env = .ok (.next, e') ∧ I (n + ds.length) e'
  | [], env, n, h, _ => ⟨env, rfl, h⟩
  | d :: ds, env, n, h, hs => by
    obtain ⟨e1, e2, h1, h2, h3⟩ := hs 0 d env rfl h
    obtain ⟨e', q, r⟩ := forL_inv I ds e2 (n + 1) h3 (fun i x e hx hi => by
      have := hs (i + 1) x e (by simpa using hx) (by rw [← Nat.add_assoc, Nat.add_right_comm]; exact hi)
      rw [← Nat.add_assoc, Nat.add_right_comm n i 1] at this
      exact this)
    refine ⟨e', ?_, by rw [List.length_cons, Nat.add_comm ds.length, ← Nat.add_assoc]; exact r⟩
    unfold forL
    rw [h1]
    rcases h2 with h2 | h2
    · simp [h2, q]
    · simp [h2, q]
/-- a comprehension: each item's value -/
theorem lcL_map {vs : List Nat} {gv : Gv} {t : Ev1} {m : Ev} {env : Sls} (f : D → D) : ∀ (ds : List D), (∀ d ∈ ds, ∃ e1 b e3, gv d env = .ok e1 ∧ t e1 = .ok (true, b) ∧ m b = .ok (f d, e3) ∧ kp (f d) = .ok (f d) ∧ wipeE e3 vs = env) →
    lcL vs gv t m ds env = .ok (ds.map f, env)
  | [], _ => rfl
  | d :: ds, h => by
    obtain ⟨e1, b, e3, h1, h2, h3, h4, h5⟩ := h d (.head _)
    have ih := lcL_map (vs := vs) (gv := gv) (t := t) (m := m) f ds fun x hx => h x (.tail _ hx)
    unfold lcL
    rw [h1]
    simp [h2, h3, h4, h5, ih]
/-! dicts with whole keys -/
def ki (p : Int × D) : Key × D := (.inl p.1, p.2)
def putP (ps : List (Int × D)) (c : Int) (d : D) : List (Int × D) := if (ps.any fun p => decide (p.1 = c)) = true then ps.map (fun p => if p.1 = c then (p.1, d) else p) else ps ++ [(c, d)]
def getP (ps : List (Int × D)) (c : Int) : Option D := (ps.find? fun p => decide (p.1 = c)).map (·.2)
@[simp] theorem ki_inl (c b : Int) : ((Sum.inl c : Key) = Sum.inl b) = (c = b) := by
  apply propext
  exact ⟨fun h => by cases h; rfl, fun h => by rw [h]⟩
theorem putD_ki (ps : List (Int × D)) (c : Int) (d : D) : putD (ps.map ki) (.inl c) d = (putP ps c d).map ki := by
  unfold putD putP
  have e : ((ps.map ki).any fun kv => decide (kv.1 = (Sum.inl c : Key))) = ps.any fun p => decide (p.1 = c) := by
    rw [List.any_map]
    congr 1
    funext p
    exact decide_eq_decide.mpr ⟨fun h => by cases p; cases h; rfl, fun h => by cases p; cases h; rfl⟩
  rw [e]
  split
  · rw [List.map_map, List.map_map]
    refine List.map_congr_left fun p _ => ?_
    by_cases h : p.1 = c
    · simp [ki, h]
    · simp only [Function.comp, if_neg h]
      rw [if_neg]
      intro z
      exact h (by cases p; cases z; rfl)
  · simp [ki]
theorem keysI_ki : ∀ ps : List (Int × D), keysI (ps.map ki) = some (ps.map (·.1))
  | [] => rfl
  | p :: ps => by
    show (keysI (ps.map ki)).map (p.1 :: ·) = _
    rw [keysI_ki ps]
    rfl
theorem valD_ki : ∀ (ps : List (Int × D)) (c : Int), valD (ps.map ki) (.inl c) = getP ps c
  | [], c => rfl
  | p :: ps, c => by
    have ih := valD_ki ps c
    unfold valD getP at *
    by_cases h : p.1 = c
    · rw [List.map_cons, List.find?_cons_of_pos, List.find?_cons_of_pos (by simpa using h)]
      · rfl
      · simp only [decide_eq_true_eq]; show (Sum.inl p.1 : Key) = _; rw [h]
    · rw [List.map_cons, List.find?_cons_of_neg, List.find?_cons_of_neg (by simpa using h)]
      · exact ih
      · simp only [decide_eq_true_eq]; intro z; exact h (by cases p; cases z; rfl)
theorem putP_len (ps : List (Int × D)) (c : Int) (d : D) : (putP ps c d).length ≤ ps.length + 1 := by
  unfold putP
  split <;> simp
theorem putP_mem {ps : List (Int × D)} {c : Int} {d : D} {q : Int × D} (h : q ∈ putP ps c d) : q = (c, d) ∨ q ∈ ps := by
  unfold putP at h
  split at h
  · obtain ⟨p, hp, e⟩ := List.mem_map.mp h
    split at e
    · rename_i z; left; rw [← e, z]
    · right; rw [← e]; exact hp
  · rcases List.mem_append.mp h with h | h
    · exact .inr h
    · left; simpa using h
theorem putP_nodup {ps : List (Int × D)} (c : Int) (d : D) (h : (ps.map (·.1)).Nodup) : ((putP ps c d).map (·.1)).Nodup := by
  unfold putP
  split
  · have e : (ps.map (fun p => if p.1 = c then (p.1, d) else p)).map (·.1) = ps.map (·.1) := by
      rw [List.map_map]
      refine List.map_congr_left fun p _ => ?_
      by_cases z : p.1 = c <;> simp [z]
    rw [e]; exact h
  · rename_i z
    rw [List.map_append, List.nodup_append]
    refine ⟨h, by simp, fun a ha b hb => ?_⟩
    simp at hb
    subst hb
    rintro rfl
    apply z
    obtain ⟨p, hp, e⟩ := List.mem_map.mp ha
    exact List.any_eq_true.mpr ⟨p, hp, by simpa using e⟩
theorem getP_mem {ps : List (Int × D)} {c : Int} (h : c ∈ ps.map (·.1)) : ∃ d, getP ps c = some d ∧ (c, d) ∈ ps := by
  obtain ⟨p, hp, e⟩ := List.mem_map.mp h
  cases q : ps.find? (fun p => decide (p.1 = c)) with
  | none =>
    have := List.find?_eq_none.mp q p hp
    simp [e] at this
  | some x =>
    have h1 := List.find?_some q
    have h2 := List.mem_of_find?_eq_some q
    simp at h1
    exact ⟨x.2, by simp [getP, q], by rw [← h1]; exact h2⟩
theorem sortI_lt {ns : List Int} (h : ns.Nodup) : (sortI ns).Pairwise (· < ·) := by
  have h1 := sortI_sorted ns
  have h2 : (sortI ns).Nodup := (sortI_perm ns).nodup_iff.mpr h
  exact (h1.and h2).imp fun ⟨a, b⟩ => by omega
theorem cut_head {xs : List D} (k : Nat) : cutD xs none (some (k : Int)) = xs.take k := by
  unfold cutD
  rw [HT.sIx_none, HT.sIx_nat]
  simp
theorem bls_true {α : Type} : ∀ (xs : List α), blsD (xs.map fun _ => D.bl true) = some (xs.map fun _ => true)
  | [] => rfl
  | x :: xs => by simp only [List.map_cons, blsD, bls_true xs]; rfl
@[simp] theorem all_true {α : Type} (xs : List α) : onB (fun ns => .ok (.bl (ns.all id))) (.lst (xs.map fun _ => D.bl true)) = .ok (.bl true) := by
  simp [onB, bls_true]
theorem ints_mapf {α : Type} (f : α → Int) : ∀ (xs : List α), intsD (xs.map fun x => D.int (f x)) = some (xs.map f)
  | [] => rfl
  | x :: xs => by simp only [List.map_cons, intsD, ints_mapf f xs]; rfl
@[simp] theorem sum_mapf {α : Type} (f : α → Int) (xs : List α) : onI (fun ns => .ok (.int ns.sum)) (.lst (xs.map fun x => D.int (f x))) = .ok (.int (xs.map f).sum) := by
  simp [onI, ints_mapf]

end Vm
end
section
namespace Law
open PySem Vm

abbrev b__law_draws : Sv :=
  (mRet (mLst (mCons (mCallB (two maxD) (mCons (mK (.int 0)) (mCons (mBin subD (mCallB (one intD) (mCons (mVar 0) mNil)) (mBin powD (mK (.int 10)) (mK (.int 18)))) mNil))) (mCons (mBin modD (mCallB (one intD) (mCons (mVar 0) mNil)) (mK (.int 999999999999999989))) (mCons (mK (.int 0)) mNil)))))
def m__law_draws (ds : List D) : Res D := runF 1 b__law_draws ds
abbrev b__law_pick : Sv :=
  (mSq (mIfS (mTru (mBin gtD (mBin ixA (mVar 0) (mK (.int 0))) (mK (.int 0)))) (mSq (mSet 4 (mBin modD (mCallB (one intD) (mCons (mBin ixA (mVar 0) (mK (.int 0))) mNil)) (mVar 1)))
    (mSq (mPut 0 (mK (.int 0)) (mBin divD (mBin ixA (mVar 0) (mK (.int 0))) (mVar 1)))
    (mRet (mVar 4)))) mSk)
    (mSq (mPut 0 (mK (.int 2)) (mBin addD (mBin ixA (mVar 0) (mK (.int 2))) (mK (.int 1))))
    (mSq (mSet 2 (mBin ixA (mVar 0) (mK (.int 2))))
    (mSq (mSet 3 (mBin addD (mBin addD (mBin ixA (mVar 0) (mK (.int 1))) (mBin mulD (mBin mulD (mK (.int 9176)) (mVar 2)) (mVar 2))) (mK (.int 31))))
    (mSq (mSet 3 (mBin addD (mBin mulD (mVar 3) (mBin addD (mBin ixA (mVar 0) (mK (.int 1))) (mBin mulD (mK (.int 40503)) (mVar 2)))) (mVar 2)))
    (mSq (mSet 3 (mBin divD (mBin modD (mCallB (one intD) (mCons (mBin addD (mBin mulD (mVar 3) (mVar 3)) (mBin mulD (mK (.int 77731)) (mVar 3))) mNil)) (mK (.int 1000000000000000003))) (mK (.int 4099))))
    (mRet (mBin modD (mBin divD (mBin modD (mCallB (one intD) (mCons (mBin mulD (mVar 3) (mBin addD (mBin addD (mVar 3) (mBin mulD (mK (.int 2)) (mVar 2))) (mK (.int 1)))) mNil)) (mK (.int 4294967291))) (mK (.int 32))) (mVar 1)))))))))
def m__law_pick (j : D) (ds : List D) : Res (D × D) := runJ 5 b__law_pick j ds
abbrev b__law_wide : Sv :=
  (mSq (mIfS (mTru (mBin leD (mVar 1) (mBin powD (mK (.int 10)) (mK (.int 7))))) (mRet (mCallJ 2 m__law_pick (mCons (mVar 0) (mCons (mVar 1) mNil)))) mSk)
    (mSq (mSet 2 (mK (.int 0)))
    (mSq (mFor (mRng1 (mCons (mK (.int 5)) mNil)) (gmN 3) (mSet 2 (mBin addD (mBin mulD (mVar 2) (mBin powD (mK (.int 10)) (mK (.int 7)))) (mCallJ 2 m__law_pick (mCons (mVar 0) (mCons (mBin powD (mK (.int 10)) (mK (.int 7))) mNil))))))
    (mRet (mBin modD (mCallB (one intD) (mCons (mVar 2) mNil)) (mVar 1))))))
def m__law_wide (j : D) (ds : List D) : Res (D × D) := runJ 4 b__law_wide j ds
abbrev b__law_a_plan : Sv :=
  (mSq (mSet 2 (mBin ixA (mLst (mCons (mK (.int 3)) (mCons (mK (.int 12)) (mCons (mBin powD (mK (.int 10)) (mK (.int 6))) (mCons (mBin mulD (mK (.int 9)) (mBin powD (mK (.int 10)) (mK (.int 29)))) mNil))))) (mCallJ 2 m__law_pick (mCons (mVar 0) (mCons (mK (.int 4)) mNil)))))
    (mSq (mSet 3 (mBin ixA (mLst (mCons (mK (.int 6)) (mCons (mK (.int 40)) (mCons (mBin powD (mK (.int 10)) (mK (.int 6))) (mCons (mBin mulD (mK (.int 9)) (mBin powD (mK (.int 10)) (mK (.int 29)))) mNil))))) (mCallJ 2 m__law_pick (mCons (mVar 0) (mCons (mK (.int 4)) mNil)))))
    (mSq (mSetL 4 (mDic0))
    (mSq (mFor (mRng1 (mCons (mCallJ 2 m__law_pick (mCons (mVar 0) (mCons (mBin addD (mVar 1) (mK (.int 1))) mNil))) mNil)) (gmN 5) (mPut 4 (mBin addD (mBin subD (mCallJ 2 m__law_wide (mCons (mVar 0) (mCons (mBin subD (mBin mulD (mK (.int 2)) (mVar 3)) (mK (.int 1))) mNil))) (mVar 3)) (mK (.int 1))) (mBin addD (mK (.int 1)) (mCallJ 2 m__law_wide (mCons (mVar 0) (mCons (mBin subD (mVar 2) (mK (.int 1))) mNil))))))
    (mSq (mSet 6 (mLc (mSeq (mCallB (one sortDI) (mCons (mVar 4) mNil))) [7] (gmN 7) mYes (mTup (mCons (mVar 7) (mCons (mBin ixA (mVar 4) (mVar 7)) mNil)))))
    (mRet (mTup (mCons (mBin addD (mBin subD (mCallJ 2 m__law_wide (mCons (mVar 0) (mCons (mBin subD (mBin mulD (mK (.int 2)) (mVar 2)) (mK (.int 1))) mNil))) (mVar 2)) (mK (.int 1))) (mCons (mCallB (one tupD) (mCons (mVar 6) mNil)) mNil)))))))))
def m__law_a_plan (j : D) (ds : List D) : Res (D × D) := runJ 8 b__law_a_plan j ds
abbrev b_is_integer : Sv :=
  (mRet (mAndV (mIsi "int" (mVar 0)) (mNotV (mIsi "bool" (mVar 0)))))
def m_is_integer (ds : List D) : Res D := run 1 b_is_integer ds
abbrev b_is_corner : Sv :=
  (mSq (mIfS (mOrT (mNotT (mTru (mIsi "tuple" (mVar 0)))) (mTru (mBin neD (mCallB (one lenD) (mCons (mVar 0) mNil)) (mK (.int 2))))) (mRet (mK (.bl false))) mSk)
    (mRet (mAndV (mCall 1 m_is_integer (mCons (mBin ixA (mVar 0) (mK (.int 0))) mNil)) (mAndV (mCall 1 m_is_integer (mCons (mBin ixA (mVar 0) (mK (.int 1))) mNil)) (mBin geD (mBin ixA (mVar 0) (mK (.int 1))) (mK (.int 1)))))))
def m_is_corner (ds : List D) : Res D := run 1 b_is_corner ds
abbrev b_is_tariff : Sv :=
  (mSq (mIfS (mOrT (mNotT (mTru (mIsi "tuple" (mVar 0)))) (mOrT (mTru (mBin neD (mCallB (one lenD) (mCons (mVar 0) mNil)) (mK (.int 2)))) (mNotT (mTru (mCall 1 m_is_integer (mCons (mBin ixA (mVar 0) (mK (.int 0))) mNil)))))) (mRet (mK (.bl false))) mSk)
    (mSq (mSet 1 (mBin ixA (mVar 0) (mK (.int 1))))
    (mSq (mIfS (mOrT (mNotT (mTru (mIsi "tuple" (mVar 1)))) (mNotT (mTru (mCallB (one (onB fun ns => .ok (.bl (ns.all id)))) (mCons (mLc (mSeq (mVar 1)) [3] (gmN 3) mYes (mCall 1 m_is_corner (mCons (mVar 3) mNil))) mNil))))) (mRet (mK (.bl false))) mSk)
    (mRet (mCallB (one (onB fun ns => .ok (.bl (ns.all id)))) (mCons (mLc (mRng2 (mCons (mK (.int 1)) (mCons (mCallB (one lenD) (mCons (mVar 1) mNil)) mNil))) [2] (gmN 2) mYes (mBin ltD (mBin ixA (mBin ixA (mVar 1) (mBin subD (mVar 2) (mK (.int 1)))) (mK (.int 0))) (mBin ixA (mBin ixA (mVar 1) (mVar 2)) (mK (.int 0))))) mNil))))))
def m_is_tariff (ds : List D) : Res D := run 4 b_is_tariff ds
abbrev b_need_tariff : Sv :=
  (mIfS (mNotT (mTru (mCall 1 m_is_tariff (mCons (mVar 0) mNil)))) (mRai "InvalidTariff") mSk)
def m_need_tariff (ds : List D) : Res D := run 1 b_need_tariff ds
abbrev b_need_day : Sv :=
  (mIfS (mNotT (mTru (mCall 1 m_is_integer (mCons (mVar 0) mNil)))) (mRai "InvalidDay") mSk)
def m_need_day (ds : List D) : Res D := run 1 b_need_day ds
abbrev b_charge_at : Sv :=
  (mSq (mUnp (gmT 2 (gmCons (gmN 2) (gmCons (gmN 3) gmNil))) (mVar 0))
    (mRet (mBin addD (mBin mulD (mVar 2) (mVar 1)) (mCallB (one (onI fun ns => .ok (.int ns.sum))) (mCons (mLc (mSeq (mVar 3)) [4, 5] (gmT 2 (gmCons (gmN 4) (gmCons (gmN 5) gmNil))) mYes (mBin mulD (mVar 5) (mCallB (two maxD) (mCons (mK (.int 0)) (mCons (mBin subD (mVar 1) (mVar 4)) mNil))))) mNil)))))
def m_charge_at (ds : List D) : Res D := run 6 b_charge_at ds
abbrev b_charge : Sv :=
  (mSq (mExp (mCall 1 m_need_tariff (mCons (mVar 0) mNil)))
    (mSq (mExp (mCall 1 m_need_day (mCons (mVar 1) mNil)))
    (mRet (mCall 2 m_charge_at (mCons (mVar 0) (mCons (mVar 1) mNil))))))
def m_charge (ds : List D) : Res D := run 2 b_charge ds
abbrev b__law_same : Sv :=
  (mRet (mBin eqD (mCallB (one strI) (mCons (mVar 0) mNil)) (mCallB (one strI) (mCons (mVar 1) mNil))))
def m__law_same (ds : List D) : Res D := run 2 b__law_same ds
abbrev b__law_fee : Sv :=
  (mSq (mSet 2 (mBin mulD (mBin ixA (mVar 0) (mK (.int 0))) (mVar 1)))
    (mSq (mFor (mSeq (mBin ixA (mVar 0) (mK (.int 1)))) (gmT 2 (gmCons (gmN 3) (gmCons (gmN 4) gmNil))) (mIfS (mTru (mBin gtD (mVar 1) (mVar 3))) (mSet 2 (mBin addD (mVar 2) (mBin mulD (mVar 4) (mBin subD (mVar 1) (mVar 3))))) mSk))
    (mRet (mVar 2))))
def m__law_fee (ds : List D) : Res D := run 5 b__law_fee ds
abbrev b_law : Sv :=
  (mSq (mSet 1 (mK (.int 87956512302624623172088601172558782940379589863846638883097012422803920253)))
    (mSq (mFor (mSeq (mBin addD (mLst (mCons (mVar 1) mNil)) (mSl sliceD (mVar 0) mNo (mPart (mK (.int 24)))))) (gmN 2) (mSq (mSetL 3 (mCallF 1 m__law_draws (mCons (mVar 2) mNil)))
    (mSq (mSet 4 (mCallJ 2 m__law_a_plan (mCons (mVar 3) (mCons (mK (.int 20)) mNil))))
    (mSq (mSetL 5 (mLst (mCons (mBin subD (mCallJ 2 m__law_pick (mCons (mVar 3) (mCons (mK (.int 9)) mNil))) (mK (.int 4))) (mCons (mBin subD (mCallJ 2 m__law_wide (mCons (mVar 3) (mCons (mBin mulD (mK (.int 2)) (mBin powD (mK (.int 10)) (mK (.int 30)))) mNil))) (mBin powD (mK (.int 10)) (mK (.int 30)))) mNil))))
    (mSq (mFor (mSeq (mBin ixA (mVar 4) (mK (.int 1)))) (gmT 2 (gmCons (gmN 8) (gmCons (gmN 9) gmNil))) (mExp (mApp 5 (mBin subD (mBin addD (mVar 8) (mCallJ 2 m__law_pick (mCons (mVar 3) (mCons (mK (.int 3)) mNil)))) (mK (.int 1))))))
    (mSq (mFor (mSeq (mBin addD (mVar 5) (mSl sliceD (mVar 5) mNo (mPart (mK (.int 3)))))) (gmN 6) (mIfS (mNotT (mTru (mCall 2 m__law_same (mCons (mCall 2 m_charge (mCons (mVar 4) (mCons (mVar 6) mNil))) (mCons (mCall 2 m__law_fee (mCons (mVar 4) (mCons (mVar 6) mNil))) mNil))))) (mRet (mK (.bl false))) mSk))
    (mSq (mSet 7 (mCallK 2 [1, 0] m_charge (mCons (mBin ixA (mVar 5) (mK (.int 1))) (mCons (mVar 4) mNil))))
    (mIfS (mOrT (mNotT (mTru (mCall 2 m__law_same (mCons (mVar 7) (mCons (mCall 2 m__law_fee (mCons (mVar 4) (mCons (mBin ixA (mVar 5) (mK (.int 1))) mNil))) mNil))))) (mTru (mBin isntD (mCall 1 m_is_tariff (mCons (mVar 4) mNil)) (mK (.bl true))))) (mRet (mK (.bl false))) mSk))))))))
    (mRet (mK (.bl true)))))
def m_law (ds : List D) : Res D := run 10 b_law ds
end Law
end
section
namespace Law
open PySem Vm
def Jar (n : Int) (s : D) : Prop := ∃ a b c : Int, s = .lst [.int a, .int b, .int c] ∧ 0 ≤ b ∧ b < 10 ^ 18 ∧ 0 ≤ c ∧ c ≤ n
theorem small {x : Int} {n : Nat} (h : x.natAbs ≤ n) (h2 : n < 2 ^ 250 := by decide) : x.natAbs < 2 ^ 250 := Nat.lt_of_le_of_lt h h2
theorem pick_ok {n : Int} {s : D} {u : Int} (hn : n < 1000000) (h : Jar n s) (hu : 0 < u) (h2 : u.natAbs < 2 ^ 250) : ∃ (d : Int) (s' : D), m__law_pick s [.int u] = .ok (.int d, s') ∧ 0 ≤ d ∧ d < u ∧ Jar (n + 1) s' := by
  obtain ⟨a, b, c, rfl, h3, h4, h5, h6⟩ := h
  by_cases ha : 0 < a
  · refine ⟨a % u, .lst [.int (a / u), .int b, .int c], ?_, Int.emod_nonneg _ (by omega), Int.emod_lt_of_pos _ hu, a / u, b, c, rfl, h3, h4, h5, by omega⟩
    simp [m__law_pick, div_ok, hu, h2, L2.ixN, ha]
  · have b0 : (c + 1).natAbs ≤ 1000000 := by omega
    have b1 : ((9176 : Int) * (c + 1)).natAbs ≤ 9176 * 1000000 := bd_mul (by decide) b0
    have b2 : (9176 * (c + 1) * (c + 1)).natAbs ≤ 9176 * 1000000 * 1000000 := bd_mul b1 b0
    have b3 : ((40503 : Int) * (c + 1)).natAbs ≤ 40503 * 1000000 := bd_mul (by decide) b0
    generalize e1 : b + 9176 * (c + 1) * (c + 1) + 31 = x1
    have c1 : x1.natAbs ≤ 10 ^ 20 := by omega
    generalize e2 : b + 40503 * (c + 1) = x2
    have c2 : x2.natAbs ≤ 10 ^ 20 := by omega
    have c3 : (x1 * x2).natAbs ≤ 10 ^ 20 * 10 ^ 20 := bd_mul c1 c2
    generalize e3 : x1 * x2 + (c + 1) = x3
    have c4 : x3.natAbs ≤ 10 ^ 41 := by omega
    have d1 := mul_ok (i := 9176) (by decide) (small b0)
    have d2 := mul_ok (small b1) (small b0)
    have d3 := mul_ok (i := 40503) (by decide) (small b0)
    have d4 := mul_ok (small c1) (small c2)
    have d5 := mul_ok (small c4) (small c4)
    have d6 := mul_ok (i := 77731) (by decide) (small c4)
    generalize e4 : (x3 * x3 + 77731 * x3) % 1000000000000000003 / 4099 = x4
    have c5 : x4.natAbs ≤ 10 ^ 18 := by omega
    have d7 := mul_ok (i := 2) (by decide) (small b0)
    have c6 : (x4 + 2 * (c + 1) + 1).natAbs ≤ 10 ^ 19 := by omega
    have d8 := mul_ok (small c5) (small c6)
    refine ⟨_, .lst [.int a, .int b, .int (c + 1)], ?_, Int.emod_nonneg _ (by omega), Int.emod_lt_of_pos (x4 * (x4 + 2 * (c + 1) + 1) % 4294967291 / 32) hu, a, b, c + 1, rfl, h3, h4, by omega, by omega⟩
    simp [m__law_pick, div_ok, hu, h2, L2.ixN, ha, d1, d2, d3, d4, d5, d6, d7, d8, e1, e2, e3, e4]
def Wok (u : Int) : Prop := 0 < u ∧ u.natAbs < 2 ^ 240
theorem wide_ok {n : Int} {s : D} {u : Int} (hn : n < 900000) (h : Jar n s) (hu : 0 < u) (h2 : u.natAbs < 2 ^ 250) : ∃ (d : Int) (s' : D), m__law_wide s [.int u] = .ok (.int d, s') ∧ 0 ≤ d ∧ d < u ∧ Jar (n + 5) s' := by
  by_cases hb : u ≤ 10000000
  · obtain ⟨d, s', p, q1, q2, q3⟩ := pick_ok (by omega) h hu h2
    obtain ⟨a, b, c, rfl, h3, h4, h5, h6⟩ := q3
    exact ⟨d, _, by simp [m__law_wide, hb, p], q1, q2, a, b, c, rfl, h3, h4, h5, by omega⟩
  · obtain ⟨d1, s1, p1, q1, r1, j1⟩ := pick_ok (u := 10000000) (by omega) h (by decide) (by decide)
    obtain ⟨d2, s2, p2, q2, r2, j2⟩ := pick_ok (u := 10000000) (by omega) j1 (by decide) (by decide)
    obtain ⟨d3, s3, p3, q3, r3, j3⟩ := pick_ok (u := 10000000) (by omega) j2 (by decide) (by decide)
    obtain ⟨d4, s4, p4, q4, r4, j4⟩ := pick_ok (u := 10000000) (by omega) j3 (by decide) (by decide)
    obtain ⟨d5, s5, p5, q5, r5, j5⟩ := pick_ok (u := 10000000) (by omega) j4 (by decide) (by decide)
    have m0 := mul_ok (i := 0) (j := 10000000) (by decide) (by decide)
    have m1 := mul_ok (i := d1) (j := 10000000) (small (n := 10 ^ 40) (by omega)) (by decide)
    have m2 := mul_ok (i := d1 * 10000000 + d2) (j := 10000000) (small (n := 10 ^ 40) (by omega)) (by decide)
    have m3 := mul_ok (i := (d1 * 10000000 + d2) * 10000000 + d3) (j := 10000000) (small (n := 10 ^ 40) (by omega)) (by decide)
    have m4 := mul_ok (i := ((d1 * 10000000 + d2) * 10000000 + d3) * 10000000 + d4) (j := 10000000) (small (n := 10 ^ 40) (by omega)) (by decide)
    refine ⟨_, s5, ?_, Int.emod_nonneg ((((d1 * 10000000 + d2) * 10000000 + d3) * 10000000 + d4) * 10000000 + d5) (by omega), Int.emod_lt_of_pos _ hu, by rw [show n + 5 = n + 1 + 1 + 1 + 1 + 1 by omega]; exact j5⟩
    have hr := rg1_ok (j := 5) (by decide) (by decide)
    have er : rangeD 0 5 = [.int 0, .int 1, .int 2, .int 3, .int 4] := rfl
    simp [m__law_wide, hb, p1, p2, p3, p4, p5, m0, m1, m2, m3, m4, er, hr, hu, forL]
end Law
end
section
namespace Law
open PySem Vm
def cr (q : Int × Int) : D := .tup [.int q.1, .int q.2]
structure Tar (sl : Int) (cs : List (Int × Int)) : Prop where
  s : sl.natAbs ≤ 10 ^ 30
  n : cs.length ≤ 20
  o : (cs.map (·.1)).Pairwise (· < ·)
  b : ∀ q ∈ cs, q.1.natAbs ≤ 10 ^ 30 ∧ 1 ≤ q.2 ∧ q.2 ≤ 10 ^ 30
def tar (sl : Int) (cs : List (Int × Int)) : D := .tup [.int sl, .tup (cs.map cr)]
theorem top_ok (d : Int) (h : 0 ≤ d) (h2 : d < 4) (a b c e : Int) (ha : 3 ≤ a ∧ a ≤ 9 * 10 ^ 29) (hb : 3 ≤ b ∧ b ≤ 9 * 10 ^ 29) (hc : 3 ≤ c ∧ c ≤ 9 * 10 ^ 29) (he : 3 ≤ e ∧ e ≤ 9 * 10 ^ 29) :
    ∃ t, L2.atI [D.int a, .int b, .int c, .int e] d = some (.int t) ∧ 3 ≤ t ∧ t ≤ 9 * 10 ^ 29 := by
  have : d = 0 ∨ d = 1 ∨ d = 2 ∨ d = 3 := by omega
  rcases this with rfl | rfl | rfl | rfl
  · exact ⟨a, by simp, ha⟩
  · exact ⟨b, by simp, hb⟩
  · exact ⟨c, by simp, hc⟩
  · exact ⟨e, by simp, he⟩
def PlI (b0 : Int) (top span : Int) (i : Nat) (e : Sls) : Prop := ∃ (s : D) (ps : List (Int × D)) (x5 : Sl), e = [.p s, .t (.int 20), .t (.int top), .t (.int span), .l (.dic (ps.map ki)), x5, .u, .u] ∧ np x5 = true ∧ Jar (b0 + 10 * i) s ∧
  (ps.map (·.1)).Nodup ∧ ps.length ≤ i ∧ ∀ q ∈ ps, q.1.natAbs ≤ 10 ^ 30 ∧ ∃ m : Int, q.2 = .int m ∧ 1 ≤ m ∧ m ≤ 10 ^ 30
theorem plan_ok {n : Int} {s : D} (hn : n < 800000) (h : Jar n s) : ∃ (sl : Int) (cs : List (Int × Int)) (s' : D), m__law_a_plan s [.int 20] = .ok (tar sl cs, s') ∧ Tar sl cs ∧ Jar (n + 300) s' := by
  obtain ⟨d1, s1, p1, q1, r1, j1⟩ := pick_ok (u := 4) (by omega) h (by decide) (by decide)
  obtain ⟨d2, s2, p2, q2, r2, j2⟩ := pick_ok (u := 4) (by omega) j1 (by decide) (by decide)
  obtain ⟨d3, s3, p3, q3, r3, j3⟩ := pick_ok (u := 21) (by omega) j2 (by decide) (by decide)
  obtain ⟨top, t1, t2, t3⟩ := top_ok d1 q1 r1 3 12 1000000 900000000000000000000000000000 (by decide) (by decide) (by decide) (by decide)
  obtain ⟨span, u1, u2, u3⟩ := top_ok d2 q2 r2 6 40 1000000 900000000000000000000000000000 (by decide) (by decide) (by decide) (by decide)
  have mu : mulD (.int 9) (.int 100000000000000000000000000000) = .ok (.int 900000000000000000000000000000) := mul_ok (by decide) (by decide)
  have ms : mulD (.int 2) (.int span) = .ok (.int (2 * span)) := mul_ok (by decide) (small (n := 10 ^ 40) (by omega))
  have mt : mulD (.int 2) (.int top) = .ok (.int (2 * top)) := mul_ok (by decide) (small (n := 10 ^ 40) (by omega))
  have I0 : PlI (n + 3) top span 0 [.p s3, .t (.int 20), .t (.int top), .t (.int span), .l (.dic []), .u, .u, .u] := ⟨s3, [], .u, rfl, rfl, by rw [show n + 3 + 10 * ((0 : Nat) : Int) = n + 1 + 1 + 1 by omega]; exact j3, .nil, Nat.le_refl _, fun q h => by cases h⟩
  have hlen : (rangeD 0 d3.toNat).length = d3.toNat := rangeD_length _ _
  obtain ⟨e', fe, s4, ps, x5, rfl, hx, j4, nd, nl, bd⟩ := forL_inv (gv := gmN 5) (b := mPut 4 (mBin addD (mBin subD (mCallJ 2 m__law_wide (mCons (mVar 0) (mCons (mBin subD (mBin mulD (mK (.int 2)) (mVar 3)) (mK (.int 1))) mNil))) (mVar 3)) (mK (.int 1))) (mBin addD (mK (.int 1)) (mCallJ 2 m__law_wide (mCons (mVar 0) (mCons (mBin subD (mVar 2) (mK (.int 1))) mNil)))))
    (PlI (n + 3) top span) (rangeD 0 d3.toNat) _ 0 I0 (fun i d e hi I => by
      have hi2 : i < d3.toNat := by have := (List.getElem?_eq_some_iff.mp hi).1; rwa [hlen] at this
      obtain ⟨s, ps, x5, rfl, hx, j, nd, nl, bd⟩ := I
      obtain ⟨w1, s', a1, a2, a3, a4⟩ := wide_ok (u := top - 1) (by omega) j (by omega) (small (n := 10 ^ 40) (by omega))
      obtain ⟨w2, s'', b1, b2, b3, b4⟩ := wide_ok (u := 2 * span - 1) (by omega) a4 (by omega) (small (n := 10 ^ 40) (by omega))
      refine ⟨[.p s, .t (.int 20), .t (.int top), .t (.int span), .l (.dic (ps.map ki)), .t d, .u, .u], [.p s'', .t (.int 20), .t (.int top), .t (.int span), .l (.dic ((putP ps (w2 - span + 1) (.int (1 + w1))).map ki)), .t d, .u, .u], ?_, .inl ?_, s'', _, .t d, rfl, rfl, ?_, putP_nodup _ _ nd, ?_, ?_⟩
      · simp [hx]
      · have hz : (ps.map ki).length < sizeLine := by rw [List.length_map]; refine Nat.lt_of_le_of_lt (m := 20) (by omega) (by decide)
        simp only [List.length_map] at hz
        simp [a1, b1, ms, hz, putD_ki]
      · rw [show n + 3 + 10 * ((0 + i + 1 : Nat) : Int) = n + 3 + 10 * ((0 + i : Nat) : Int) + 5 + 5 by omega]; exact b4
      · have := putP_len ps (w2 - span + 1) (.int (1 + w1)); omega
      · intro q hq
        rcases putP_mem hq with rfl | hq
        · exact ⟨by show (w2 - span + 1).natAbs ≤ _; omega, 1 + w1, rfl, by omega, by omega⟩
        · exact bd q hq)
  rw [hlen] at j4 nl
  obtain ⟨w, s5, c1, c2, c3, c4⟩ := wide_ok (u := 2 * top - 1) (by omega) j4 (by omega) (small (n := 10 ^ 40) (by omega))
  let mm : Int → Int := fun c => match getP ps c with | some (.int m) => m | _ => 0
  have hm : ∀ c ∈ ps.map (·.1), getP ps c = some (.int (mm c)) ∧ c.natAbs ≤ 10 ^ 30 ∧ 1 ≤ mm c ∧ mm c ≤ 10 ^ 30 := fun c hc => by
    obtain ⟨d, h1, h2⟩ := getP_mem hc
    obtain ⟨h3, m, h4, h5, h6⟩ := bd _ h2
    simp only at h4
    subst h4
    have : mm c = m := by simp only [mm, h1]
    rw [this]
    exact ⟨h1, h3, h5, h6⟩
  have hp := sortI_perm (ps.map (·.1))
  have hl := sortI_lt nd
  generalize hks : sortI (ps.map (·.1)) = ks at hp hl
  refine ⟨w - top + 1, ks.map fun c => (c, mm c), s5, ?_, ⟨by omega, ?_, ?_, ?_⟩, ?_⟩
  · have hz : ¬ 64 ≤ ps.length := by omega
    have hb := rg1_ok (j := d3) (by omega) (by omega)
    have hlc := lcL_map (vs := [7]) (gv := gmN 7) (t := mYes) (m := mTup (mCons (mVar 7) (mCons (mBin ixA (mVar 4) (mVar 7)) mNil))) (env := [.p s4, .t (.int 20), .t (.int top), .t (.int span), .l (.dic (ps.map ki)), x5, .u, .u])
      (fun d => match d with | .int c => .tup [.int c, .int (mm c)] | _ => .non) (ks.map D.int) (fun d hd => by
        obtain ⟨c, hc, rfl⟩ := List.mem_map.mp hd
        refine ⟨_, _, [.p s4, .t (.int 20), .t (.int top), .t (.int span), .l (.dic (ps.map ki)), x5, .u, .t (.int c)], by simp; rfl, by simp; rfl, ?_, rfl, rfl⟩
        simp [valD_ki, (hm c (hp.mem_iff.mp hc)).1])
    have hs : sortDI (.dic (ps.map ki)) = .ok (.lst (ks.map D.int)) := by
      unfold sortDI
      simp only [keysI_ki]
      rw [if_pos (by rw [List.length_map]; omega), hks]
    simp [m__law_a_plan, p1, p2, p3, t1, u1, mu, hb, fe, hs, hlc, mt, c1, tar]
    exact fun _ _ => rfl
  · rw [List.length_map, hp.length_eq, List.length_map]; omega
  · rw [List.map_map]
    have : ks.map ((fun q : Int × Int => q.1) ∘ fun c => (c, mm c)) = ks := by
      conv => rhs; rw [← List.map_id ks]
      rfl
    rw [this]; exact hl
  · intro q hq
    obtain ⟨c, hc, rfl⟩ := List.mem_map.mp hq
    exact (hm c (hp.mem_iff.mp hc)).2
  · obtain ⟨a, b, c, rfl, h3, h4, h5, h6⟩ := c4
    exact ⟨a, b, c, rfl, h3, h4, h5, by omega⟩
end Law
end
section
namespace Law
open PySem Vm
@[simp] theorem int_ok (i : Int) : m_is_integer [.int i] = .ok (.bl true) := by simp [m_is_integer]
theorem corner_ok (q : Int × Int) (h : 1 ≤ q.2) : m_is_corner [cr q] = .ok (.bl true) := by simp [m_is_corner, cr, h]
theorem tariff_ok {sl : Int} {cs : List (Int × Int)} (T : Tar sl cs) : m_is_tariff [tar sl cs] = .ok (.bl true) := by
  have h1 := lcL_map (vs := [3]) (gv := gmN 3) (t := mYes) (m := mCall 1 m_is_corner (mCons (mVar 3) mNil)) (env := [.t (tar sl cs), .t (.tup (cs.map cr)), .u, .u]) (fun _ => .bl true) (cs.map cr) (fun d hd => by
    obtain ⟨q, hq, rfl⟩ := List.mem_map.mp hd
    refine ⟨_, _, [.t (tar sl cs), .t (.tup (cs.map cr)), .u, .t (cr q)], by simp; rfl, by simp; rfl, ?_, rfl, rfl⟩
    have := corner_ok q (T.b q hq).2.1
    simp [cr] at this ⊢
    simp [this])
  have h2 := lcL_map (vs := [2]) (gv := gmN 2) (t := mYes) (m := mBin ltD (mBin ixA (mBin ixA (mVar 1) (mBin subD (mVar 2) (mK (.int 1)))) (mK (.int 0))) (mBin ixA (mBin ixA (mVar 1) (mVar 2)) (mK (.int 0)))) (env := [.t (tar sl cs), .t (.tup (cs.map cr)), .u, .u]) (fun _ => .bl true) (rangeD 1 (cs.length - 1)) (fun d hd => by
    unfold rangeD at hd
    obtain ⟨i, hi, rfl⟩ := List.mem_map.mp hd
    rw [List.mem_range] at hi
    refine ⟨_, _, [.t (tar sl cs), .t (.tup (cs.map cr)), .t (.int (1 + i)), .u], by simp; rfl, by simp; rfl, ?_, rfl, rfl⟩
    obtain ⟨e1, g1⟩ := atI_ok (xs := cs.map cr) (i := 1 + i) (by omega) (by rw [List.length_map]; omega)
    obtain ⟨e2, g2⟩ := atI_ok (xs := cs.map cr) (i := 1 + i - 1) (by omega) (by rw [List.length_map]; omega)
    have hlt := List.pairwise_iff_getElem.mp T.o (1 + i - 1 : Int).toNat (1 + i : Int).toNat (by simpa using e2) (by simpa using e1) (by omega)
    rw [List.getElem_map] at g1 g2
    simp only [List.getElem_map] at hlt
    simp [g1, g2, cr]
    simpa using hlt)
  have b := rg2_ok (i := 1) (j := cs.length) (by decide) (by decide) (by omega) (by have := T.n; omega)
  simp only [tar] at h1 h2
  simp [m_is_tariff, tar, h1, h2, b, Function.comp_def]
def bit (g : Int) (q : Int × Int) : Int := q.2 * if q.1 < g then g - q.1 else 0
def fee (sl g : Int) (cs : List (Int × Int)) : Int := sl * g + (cs.map (bit g)).sum
theorem at_ok {sl g : Int} {cs : List (Int × Int)} (T : Tar sl cs) (hg : g.natAbs ≤ 10 ^ 32) : m_charge_at [tar sl cs, .int g] = .ok (.int (fee sl g cs)) := by
  have h1 := lcL_map (vs := [4, 5]) (gv := gmT 2 (gmCons (gmN 4) (gmCons (gmN 5) gmNil))) (t := mYes) (m := mBin mulD (mVar 5) (mCallB (two maxD) (mCons (mK (.int 0)) (mCons (mBin subD (mVar 1) (mVar 4)) mNil)))) (env := [.t (tar sl cs), .t (.int g), .t (.int sl), .t (.tup (cs.map cr)), .u, .u])
    (fun d => match d with | .tup [.int c, .int m] => .int (bit g (c, m)) | _ => .non) (cs.map cr) (fun d hd => by
      obtain ⟨q, hq, rfl⟩ := List.mem_map.mp hd
      have := T.b q hq
      refine ⟨_, _, [.t (tar sl cs), .t (.int g), .t (.int sl), .t (.tup (cs.map cr)), .t (.int q.1), .t (.int q.2)], by simp [cr]; rfl, by simp; rfl, ?_, rfl, rfl⟩
      have m1 := mul_ok (i := q.2) (j := if q.1 < g then g - q.1 else 0) (small (n := 10 ^ 40) (by omega)) (small (n := 10 ^ 40) (by omega))
      simp [cr]
      simp [m1, bit, cr])
  have m2 := mul_ok (i := sl) (j := g) (small (n := 10 ^ 40) (by have := T.s; omega)) (small (n := 10 ^ 40) (by omega))
  simp only [tar] at h1
  have e : List.map (fun d => match d with | .tup [.int c, .int m] => D.int (bit g (c, m)) | _ => D.non) (cs.map cr) = cs.map fun q => D.int (bit g q) := by rw [List.map_map]; rfl
  rw [e] at h1
  simp [m_charge_at, tar, m2, h1, fee]
theorem charge_ok {sl g : Int} {cs : List (Int × Int)} (T : Tar sl cs) (hg : g.natAbs ≤ 10 ^ 32) : m_charge [tar sl cs, .int g] = .ok (.int (fee sl g cs)) := by
  have h1 := tariff_ok T
  have h2 := at_ok T hg
  simp only [tar] at h1 h2 ⊢
  simp [m_charge, m_need_tariff, m_need_day, h1, h2]
theorem fee_loop (sl g : Int) (a : D) (hg : g.natAbs ≤ 10 ^ 32) : ∀ (cs : List (Int × Int)) (t : Int) (x y : Sl), np x = true → np y = true → (∀ q ∈ cs, q.1.natAbs ≤ 10 ^ 30 ∧ 1 ≤ q.2 ∧ q.2 ≤ 10 ^ 30) →
    ∃ x' y', forL (gmT 2 (gmCons (gmN 3) (gmCons (gmN 4) gmNil))) (mIfS (mTru (mBin gtD (mVar 1) (mVar 3))) (mSet 2 (mBin addD (mVar 2) (mBin mulD (mVar 4) (mBin subD (mVar 1) (mVar 3))))) mSk) (cs.map cr) [.t a, .t (.int g), .t (.int t), x, y] =
      .ok (.next, [.t a, .t (.int g), .t (.int (t + (cs.map (bit g)).sum)), x', y'])
  | [], t, x, y, _, _, _ => ⟨x, y, by simp⟩
  | q :: cs, t, x, y, hx, hy, hb => by
    obtain ⟨x', y', ih⟩ := fee_loop sl g a hg cs (t + bit g q) (.t (.int q.1)) (.t (.int q.2)) rfl rfl fun r hr => hb r (.tail _ hr)
    refine ⟨x', y', ?_⟩
    have := hb q (.head _)
    by_cases z : q.1 < g
    · have m1 := mul_ok (i := q.2) (j := g - q.1) (small (n := 10 ^ 40) (by omega)) (small (n := 10 ^ 40) (by omega))
      have e : bit g q = q.2 * (g - q.1) := by unfold bit; rw [if_pos (by omega)]
      rw [e] at ih
      simp [forL, cr, hx, hy, z, m1, ih, e, Int.add_assoc]
    · have e : bit g q = 0 := by unfold bit; rw [if_neg (by omega)]; simp
      rw [e] at ih
      simp at ih
      simp [forL, cr, hx, hy, z, ih, e]
theorem fee_ok {sl g : Int} {cs : List (Int × Int)} (T : Tar sl cs) (hg : g.natAbs ≤ 10 ^ 32) : m__law_fee [tar sl cs, .int g] = .ok (.int (fee sl g cs)) := by
  have m2 := mul_ok (i := sl) (j := g) (small (n := 10 ^ 40) (by have := T.s; omega)) (small (n := 10 ^ 40) (by omega))
  obtain ⟨x', y', h⟩ := fee_loop sl g (tar sl cs) hg cs (sl * g) .u .u rfl rfl T.b
  simp only [tar] at h ⊢
  simp [m__law_fee, m2, h, fee]
end Law
end
section
namespace Law
open PySem Vm
def GpI (b0 : Int) (A B : D) (sl : Int) (cs : List (Int × Int)) (i : Nat) (e : Sls) : Prop := ∃ (C6 : D) (s : D) (gs : List Int) (x6 x7 x8 x9 : Sl), e = [.t A, .t B, .t C6, .l s, .t (tar sl cs), .l (.lst (gs.map .int)), x6, x7, x8, x9] ∧
  np x6 = true ∧ np x7 = true ∧ np x8 = true ∧ np x9 = true ∧ Jar (b0 + i) s ∧ 2 ≤ gs.length ∧ gs.length ≤ 2 + i ∧ ∀ g ∈ gs, g.natAbs ≤ 10 ^ 32
theorem draws_ok (c : Int) : ∃ s, m__law_draws [.int c] = .ok s ∧ Jar 0 s := by
  refine ⟨.lst [.int (if 0 < c - 1000000000000000000 then c - 1000000000000000000 else 0), .int (c % 999999999999999989), .int 0], ?_, _, _, 0, rfl, Int.emod_nonneg _ (by decide), Int.lt_trans (Int.emod_lt_of_pos _ (by decide)) (by decide), by decide, by decide⟩
  simp [m__law_draws]
theorem same_ok {z : Int} (h : z.natAbs ≤ 10 ^ 70) : m__law_same [.int z, .int z] = .ok (.bl true) := by
  have := str_ok (i := z) (small h)
  simp [m__law_same, str_ok (small h)]
theorem sum_bd {g : Int} (hg : g.natAbs ≤ 10 ^ 32) : ∀ {cs : List (Int × Int)}, (∀ q ∈ cs, q.1.natAbs ≤ 10 ^ 30 ∧ 1 ≤ q.2 ∧ q.2 ≤ 10 ^ 30) → ((cs.map (bit g)).sum).natAbs ≤ 10 ^ 65 * cs.length
  | [], _ => by simp
  | q :: cs, h => by
    have ih := sum_bd hg (cs := cs) fun r hr => h r (.tail _ hr)
    have h1 := h q (.head _)
    have h2 : (bit g q).natAbs ≤ 10 ^ 30 * 10 ^ 34 := bd_mul (by omega) (by omega)
    rw [List.map_cons, List.sum_cons, List.length_cons]
    omega
theorem fee_bd {sl g : Int} {cs : List (Int × Int)} (T : Tar sl cs) (hg : g.natAbs ≤ 10 ^ 32) : (fee sl g cs).natAbs ≤ 10 ^ 70 := by
  have h1 := sum_bd hg T.b
  have h2 : (sl * g).natAbs ≤ 10 ^ 30 * 10 ^ 32 := bd_mul T.s hg
  have := T.n
  unfold fee
  omega
abbrev bodyA : Sv := (mExp (mApp 5 (mBin subD (mBin addD (mVar 8) (mCallJ 2 m__law_pick (mCons (mVar 3) (mCons (mK (.int 3)) mNil)))) (mK (.int 1)))))
abbrev bodyB : Sv := (mIfS (mNotT (mTru (mCall 2 m__law_same (mCons (mCall 2 m_charge (mCons (mVar 4) (mCons (mVar 6) mNil))) (mCons (mCall 2 m__law_fee (mCons (mVar 4) (mCons (mVar 6) mNil))) mNil))))) (mRet (mK (.bl false))) mSk)
theorem gaps_ok (b0 : Int) (hb : b0 < 800000) (A B : D) {sl : Int} {cs : List (Int × Int)} (T : Tar sl cs) (e : Sls) (I : GpI b0 A B sl cs 0 e) :
    ∃ e', forL (gmT 2 (gmCons (gmN 8) (gmCons (gmN 9) gmNil))) bodyA (cs.map cr) e = .ok (.next, e') ∧ GpI b0 A B sl cs (0 + (cs.map cr).length) e' := by
  refine forL_inv (GpI b0 A B sl cs) (cs.map cr) e 0 I fun i d e hi I => ?_
  rw [List.getElem?_map] at hi
  cases hq : cs[i]? with
  | none => rw [hq] at hi; cases hi
  | some q =>
    rw [hq] at hi
    cases hi
    have hmem := List.mem_of_getElem? hq
    have hlt := (List.getElem?_eq_some_iff.mp hq).1
    have bq := T.b q hmem
    have hn := T.n
    obtain ⟨C6, s, gs, x6, x7, x8, x9, rfl, h6, h7, h8, h9, j, l1, l2, bg⟩ := I
    obtain ⟨d, s', p, q1, r1, j1⟩ := pick_ok (u := 3) (by omega) j (by decide) (by decide)
    have hz : gs.length < sizeLine := Nat.lt_of_le_of_lt (m := 100) (by omega) (by decide)
    refine ⟨_, _, by simp [cr, h8, h9]; rfl, .inl ?_, C6, s', gs ++ [q.1 + d - 1], x6, x7, .t (.int q.1), .t (.int q.2), rfl, h6, h7, rfl, rfl, ?_, ?_, ?_, ?_⟩
    · simp [p, hz]
    · rw [show b0 + ((0 + i + 1 : Nat) : Int) = b0 + ((0 + i : Nat) : Int) + 1 by omega]; exact j1
    · simp; omega
    · simp; omega
    · intro g hg
      rcases List.mem_append.mp hg with hg | hg
      · exact bg g hg
      · simp at hg; subst hg; omega
theorem asks_ok {sl : Int} {cs : List (Int × Int)} (T : Tar sl cs) (A B E s gl : D) (x7 x8 x9 : Sl) (gs : List Int) (x6 : Sl) (h6 : np x6 = true) (hb : ∀ g ∈ gs, g.natAbs ≤ 10 ^ 32) :
    ∃ x6', np x6' = true ∧ forL (gmN 6) bodyB (gs.map .int) [.t A, .t B, .t E, .l s, .t (tar sl cs), .l gl, x6, x7, x8, x9] = .ok (.next, [.t A, .t B, .t E, .l s, .t (tar sl cs), .l gl, x6', x7, x8, x9]) := by
  obtain ⟨e', h, x6', rfl, hx⟩ := forL_inv (gv := gmN 6) (b := bodyB) (fun _ e => ∃ x6', e = [.t A, .t B, .t E, .l s, .t (tar sl cs), .l gl, x6', x7, x8, x9] ∧ np x6' = true) (gs.map .int) [.t A, .t B, .t E, .l s, .t (tar sl cs), .l gl, x6, x7, x8, x9] 0 ⟨x6, rfl, h6⟩ (fun i d e hi ⟨y, he, hy⟩ => by
    subst he
    obtain ⟨g, hg, rfl⟩ := List.mem_map.mp (List.mem_of_getElem? hi)
    have h1 := charge_ok T (hb g hg)
    have h2 := fee_ok T (hb g hg)
    have h3 := same_ok (fee_bd T (hb g hg))
    refine ⟨_, [.t A, .t B, .t E, .l s, .t (tar sl cs), .l gl, .t (.int g), x7, x8, x9], by simp [hy]; rfl, .inl ?_, _, rfl, rfl⟩
    simp only [tar] at h1 h2 ⊢
    simp [h1, h2, h3])
  exact ⟨x6', hx, h⟩
end Law
end
section
namespace Law
open PySem Vm
def LwI (A B : D) (_ : Nat) (e : Sls) : Prop := ∃ x2 x3 x4 x5 x6 x7 x8 x9 : Sl, e = [.t A, .t B, x2, x3, x4, x5, x6, x7, x8, x9] ∧ np x2 = true ∧ np x3 = true ∧ np x4 = true ∧ np x5 = true ∧ np x6 = true ∧ np x7 = true ∧ np x8 = true ∧ np x9 = true
theorem law_true (ns : List Int) (h : ns.length ≤ 63) : m_law [.scr ns] = .ok (.bl true) := by
  have hc : cutD (ns.map D.int) none (some 24) = (ns.take 24).map D.int := by
    rw [show (some 24 : Option Int) = some ((24 : Nat) : Int) from rfl, cut_head, List.map_take]
  let gr : Int := 87956512302624623172088601172558782940379589863846638883097012422803920253
  have ha : addD (.lst [.int gr]) (.lst ((ns.take 24).map D.int)) = .ok (.lst ((gr :: ns.take 24).map D.int)) := by
    have : [D.int gr].length + ((ns.take 24).map D.int).length ≤ sizeLine := by
      rw [List.length_map, List.length_take]
      exact Nat.le_trans (m := 25) (by simp; omega) (by decide)
    rw [v1, if_pos this]
    rfl
  obtain ⟨e', hl, x2, x3, x4, x5, x6, x7, x8, x9, rfl, -⟩ := forL_inv (gv := gmN 2) (b := (mSq (mSetL 3 (mCallF 1 m__law_draws (mCons (mVar 2) mNil)))
    (mSq (mSet 4 (mCallJ 2 m__law_a_plan (mCons (mVar 3) (mCons (mK (.int 20)) mNil))))
    (mSq (mSetL 5 (mLst (mCons (mBin subD (mCallJ 2 m__law_pick (mCons (mVar 3) (mCons (mK (.int 9)) mNil))) (mK (.int 4))) (mCons (mBin subD (mCallJ 2 m__law_wide (mCons (mVar 3) (mCons (mBin mulD (mK (.int 2)) (mBin powD (mK (.int 10)) (mK (.int 30)))) mNil))) (mBin powD (mK (.int 10)) (mK (.int 30)))) mNil))))
    (mSq (mFor (mSeq (mBin ixA (mVar 4) (mK (.int 1)))) (gmT 2 (gmCons (gmN 8) (gmCons (gmN 9) gmNil))) bodyA)
    (mSq (mFor (mSeq (mBin addD (mVar 5) (mSl sliceD (mVar 5) mNo (mPart (mK (.int 3)))))) (gmN 6) bodyB)
    (mSq (mSet 7 (mCallK 2 [1, 0] m_charge (mCons (mBin ixA (mVar 5) (mK (.int 1))) (mCons (mVar 4) mNil))))
    (mIfS (mOrT (mNotT (mTru (mCall 2 m__law_same (mCons (mVar 7) (mCons (mCall 2 m__law_fee (mCons (mVar 4) (mCons (mBin ixA (mVar 5) (mK (.int 1))) mNil))) mNil))))) (mTru (mBin isntD (mCall 1 m_is_tariff (mCons (mVar 4) mNil)) (mK (.bl true))))) (mRet (mK (.bl false))) mSk))))))))
    (LwI (.scr ns) (.int gr)) ((gr :: ns.take 24).map D.int) [.t (.scr ns), .t (.int gr), .u, .u, .u, .u, .u, .u, .u, .u] 0 ⟨.u, .u, .u, .u, .u, .u, .u, .u, rfl, rfl, rfl, rfl, rfl, rfl, rfl, rfl, rfl⟩ (fun i d e hi I => by
      obtain ⟨c, hc, rfl⟩ := List.mem_map.mp (List.mem_of_getElem? hi)
      clear hc hi
      obtain ⟨x2, x3, x4, x5, x6, x7, x8, x9, rfl, h2, h3, h4, h5, h6, h7, h8, h9⟩ := I
      obtain ⟨s0, p0, j0⟩ := draws_ok c
      obtain ⟨sl, cs, s1, p1, T, j1⟩ := plan_ok (by decide) j0
      obtain ⟨d2, s2, p2, q2, r2, j2⟩ := pick_ok (u := 9) (by decide) j1 (by decide) (by decide)
      obtain ⟨d3, s3, p3, q3, r3, j3⟩ := wide_ok (u := 2000000000000000000000000000000) (by decide) j2 (by decide) (by decide)
      have mu : mulD (.int 2) (.int 1000000000000000000000000000000) = .ok (.int 2000000000000000000000000000000) := mul_ok (by decide) (by decide)
      obtain ⟨e1, f1, C6, s4, gs, y6, y7, y8, y9, rfl, k6, k7, k8, k9, j4, l1, l2, bg⟩ := gaps_ok (0 + 300 + 1 + 5) (by decide) (.scr ns) (.int gr) T [.t (.scr ns), .t (.int gr), .t (.int c), .l s3, .t (tar sl cs), .l (.lst ([d2 - 4, d3 - 1000000000000000000000000000000].map .int)), x6, x7, x8, x9]
        ⟨.int c, s3, _, x6, x7, x8, x9, rfl, h6, h7, h8, h9, by simpa using j3, by simp, by simp, fun g hg => by simp at hg; rcases hg with rfl | rfl <;> omega⟩
      obtain ⟨z6, hz6, f2⟩ := asks_ok T (.scr ns) (.int gr) C6 s4 (.lst (gs.map .int)) y7 y8 y9 (gs ++ gs.take 3) y6 k6 (fun g hg => by
        rcases List.mem_append.mp hg with hg | hg
        · exact bg g hg
        · exact bg g (List.mem_of_mem_take hg))
      have hn := T.n
      have hc3 : cutD (gs.map D.int) none (some 3) = (gs.take 3).map D.int := by
        rw [show (some 3 : Option Int) = some ((3 : Nat) : Int) from rfl, cut_head, List.map_take]
      have ha3 : addD (.lst (gs.map D.int)) (.lst ((gs.take 3).map D.int)) = .ok (.lst ((gs ++ gs.take 3).map D.int)) := by
        rw [v1, if_pos, List.map_append]
        rw [List.length_map, List.length_map, List.length_take]
        rw [List.length_map] at l2
        exact Nat.le_trans (m := 1000) (by omega) (by decide)
      match gs, l1 with
      | g0 :: g1 :: gs, _ =>
        have hb := bg g1 (.tail _ (.head _))
        have t1 := charge_ok T hb
        have t2 := fee_ok T hb
        have t3 := same_ok (fee_bd T hb)
        have t4 := tariff_ok T
        refine ⟨_, [.t (.scr ns), .t (.int gr), .t C6, .l s4, .t (tar sl cs), .l (.lst ((g0 :: g1 :: gs).map .int)), z6, .t (.int (fee sl g1 cs)), y8, y9], by simp [h2]; rfl, .inl ?_, _, _, _, _, _, _, _, _, rfl, rfl, rfl, rfl, rfl, hz6, rfl, k8, k9⟩
        simp only [tar] at *
        simp at f1 f2 ha3 hc3
        simp [h3, h4, h5, p0, p1, p2, p3, mu, f1, f2, ha3, hc3, k7, t1, t2, t3, t4, tar])
  have hz : 1 + min 24 ns.length ≤ sizeLine := Nat.le_trans (m := 25) (by omega) (by decide)
  simp only [gr] at hl
  simp at hl
  simp [m_law, hc, hz, hl]
end Law
end
section
set_option maxRecDepth 100000
set_option maxHeartbeats 4000000
namespace Law
open PySem PySem.Spec PyProof.Rows L2 Vm
def topS (i : Nat) : Stmt := PySem.Challenge.pw_oldestbills_k20_charge.main.body.getD i (.Pass ⟨0, 0, 0, 0⟩)
abbrev s__law_draws : Stmt := topS 14
abbrev N__law_draws : List Str := ["cell"]
theorem sc__law_draws : FnScope N__law_draws ["cell"] (defScope s__law_draws) := ⟨rfl, rfl, rfl, by decide +kernel, rfl, by decide +kernel, by decide +kernel⟩
abbrev s__law_pick : Stmt := topS 15
abbrev N__law_pick : List Str := ["stock", "upto", "turn", "stir", "digit"]
theorem sc__law_pick : FnScope N__law_pick ["stock", "upto"] (defScope s__law_pick) := ⟨rfl, rfl, rfl, by decide +kernel, rfl, by decide +kernel, by decide +kernel⟩
abbrev s__law_wide : Stmt := topS 16
abbrev N__law_wide : List Str := ["stock", "upto", "whole", "turn"]
theorem sc__law_wide : FnScope N__law_wide ["stock", "upto"] (defScope s__law_wide) := ⟨rfl, rfl, rfl, by decide +kernel, rfl, by decide +kernel, by decide +kernel⟩
abbrev s__law_a_plan : Stmt := topS 18
abbrev N__law_a_plan : List Str := ["stock", "many", "top", "span", "corners", "turn", "row", "corner"]
theorem sc__law_a_plan : FnScope N__law_a_plan ["stock", "many"] (defScope s__law_a_plan) := ⟨rfl, rfl, rfl, by decide +kernel, rfl, by decide +kernel, by decide +kernel⟩
abbrev s_is_integer : Stmt := topS 5
abbrev N_is_integer : List Str := ["value"]
theorem sc_is_integer : FnScope N_is_integer ["value"] (defScope s_is_integer) := ⟨rfl, rfl, rfl, by decide +kernel, rfl, by decide +kernel, by decide +kernel⟩
abbrev s_is_corner : Stmt := topS 8
abbrev N_is_corner : List Str := ["value"]
theorem sc_is_corner : FnScope N_is_corner ["value"] (defScope s_is_corner) := ⟨rfl, rfl, rfl, by decide +kernel, rfl, by decide +kernel, by decide +kernel⟩
abbrev s_is_tariff : Stmt := topS 9
abbrev N_is_tariff : List Str := ["value", "corners", "at", "corner"]
theorem sc_is_tariff : FnScope N_is_tariff ["value"] (defScope s_is_tariff) := ⟨rfl, rfl, rfl, by decide +kernel, rfl, by decide +kernel, by decide +kernel⟩
abbrev s_need_tariff : Stmt := topS 10
abbrev N_need_tariff : List Str := ["value"]
theorem sc_need_tariff : FnScope N_need_tariff ["value"] (defScope s_need_tariff) := ⟨rfl, rfl, rfl, by decide +kernel, rfl, by decide +kernel, by decide +kernel⟩
abbrev s_need_day : Stmt := topS 6
abbrev N_need_day : List Str := ["value"]
theorem sc_need_day : FnScope N_need_day ["value"] (defScope s_need_day) := ⟨rfl, rfl, rfl, by decide +kernel, rfl, by decide +kernel, by decide +kernel⟩
abbrev s_charge_at : Stmt := topS 11
abbrev N_charge_at : List Str := ["tariff", "delay", "slope", "corners", "at", "more"]
theorem sc_charge_at : FnScope N_charge_at ["tariff", "delay"] (defScope s_charge_at) := ⟨rfl, rfl, rfl, by decide +kernel, rfl, by decide +kernel, by decide +kernel⟩
abbrev s_charge : Stmt := topS 12
abbrev N_charge : List Str := ["tariff", "delay"]
theorem sc_charge : FnScope N_charge ["tariff", "delay"] (defScope s_charge) := ⟨rfl, rfl, rfl, by decide +kernel, rfl, by decide +kernel, by decide +kernel⟩
abbrev s__law_same : Stmt := topS 19
abbrev N__law_same : List Str := ["back", "due"]
theorem sc__law_same : FnScope N__law_same ["back", "due"] (defScope s__law_same) := ⟨rfl, rfl, rfl, by decide +kernel, rfl, by decide +kernel, by decide +kernel⟩
abbrev s__law_fee : Stmt := topS 17
abbrev N__law_fee : List Str := ["plan", "gap", "total", "corner", "more"]
theorem sc__law_fee : FnScope N__law_fee ["plan", "gap"] (defScope s__law_fee) := ⟨rfl, rfl, rfl, by decide +kernel, rfl, by decide +kernel, by decide +kernel⟩
abbrev s_law : Stmt := topS 20
abbrev N_law : List Str := ["script", "great", "cell", "stock", "plan", "gaps", "gap", "back", "corner", "more"]
theorem sc_law : FnScope N_law ["script"] (defScope s_law) := ⟨rfl, rfl, rfl, by decide +kernel, rfl, by decide +kernel, by decide +kernel⟩
theorem bt_all : bootBuiltins "all" = some (.builtin "all") := by decide +kernel
theorem bt_bool : bootBuiltins "bool" = some (.type "bool") := by decide +kernel
theorem bt_int : bootBuiltins "int" = some (.type "int") := by decide +kernel
theorem bt_len : bootBuiltins "len" = some (.builtin "len") := by decide +kernel
theorem bt_max : bootBuiltins "max" = some (.builtin "max") := by decide +kernel
theorem bt_repr : bootBuiltins "repr" = some (.builtin "repr") := by decide +kernel
theorem bt_sorted : bootBuiltins "sorted" = some (.builtin "sorted") := by decide +kernel
theorem bt_sum : bootBuiltins "sum" = some (.builtin "sum") := by decide +kernel
theorem bt_tuple : bootBuiltins "tuple" = some (.type "tuple") := by decide +kernel
/-- what the top has left -/
structure Txt (K : PySem.W.Frag) (mg : Str → Option Value) : Prop where
  f__law_draws : ∃ f fd, Fun K "_law_draws" "_law_draws" s__law_draws f fd ∧ mg "_law_draws" = some (.ref f)
  f__law_pick : ∃ f fd, Fun K "_law_pick" "_law_pick" s__law_pick f fd ∧ mg "_law_pick" = some (.ref f)
  f__law_wide : ∃ f fd, Fun K "_law_wide" "_law_wide" s__law_wide f fd ∧ mg "_law_wide" = some (.ref f)
  f__law_a_plan : ∃ f fd, Fun K "_law_a_plan" "_law_a_plan" s__law_a_plan f fd ∧ mg "_law_a_plan" = some (.ref f)
  f_is_integer : ∃ f fd, Fun K "is_integer" "is_integer" s_is_integer f fd ∧ mg "is_integer" = some (.ref f)
  f_is_corner : ∃ f fd, Fun K "is_corner" "is_corner" s_is_corner f fd ∧ mg "is_corner" = some (.ref f)
  f_is_tariff : ∃ f fd, Fun K "is_tariff" "is_tariff" s_is_tariff f fd ∧ mg "is_tariff" = some (.ref f)
  f_need_tariff : ∃ f fd, Fun K "need_tariff" "need_tariff" s_need_tariff f fd ∧ mg "need_tariff" = some (.ref f)
  f_need_day : ∃ f fd, Fun K "need_day" "need_day" s_need_day f fd ∧ mg "need_day" = some (.ref f)
  f_charge_at : ∃ f fd, Fun K "charge_at" "charge_at" s_charge_at f fd ∧ mg "charge_at" = some (.ref f)
  f_charge : ∃ f fd, Fun K "charge" "charge" s_charge f fd ∧ mg "charge" = some (.ref f)
  f__law_same : ∃ f fd, Fun K "_law_same" "_law_same" s__law_same f fd ∧ mg "_law_same" = some (.ref f)
  f__law_fee : ∃ f fd, Fun K "_law_fee" "_law_fee" s__law_fee f fd ∧ mg "_law_fee" = some (.ref f)
  f_law : ∃ f fd, Fun K "law" "law" s_law f fd ∧ mg "law" = some (.ref f)
  b_all : mg "all" = none
  b_bool : mg "bool" = none
  b_int : mg "int" = none
  b_isinstance : mg "isinstance" = none
  b_len : mg "len" = none
  b_max : mg "max" = none
  b_range : mg "range" = none
  b_repr : mg "repr" = none
  b_sorted : mg "sorted" = none
  b_sum : mg "sum" = none
  b_tuple : mg "tuple" = none
  e_InvalidDay : ExF K mg "InvalidDay"
  e_InvalidTariff : ExF K mg "InvalidTariff"
section
variable {P : Program} {w : World} {K : PySem.W.Frag} {mg : Str → Option Value} {base : Heap}
theorem w__law_draws (T : Txt K mg) : Body P w K mg base N__law_draws "_law_draws" s__law_draws 0 true b__law_draws := fun f cdv A outer s H E M0 fr pa g => ⟨_, (ssm_one (sm_retF (ef_lst (am_cons (em_callB (call_max2 g.calm) cs_max2 (by rfl) T.b_max bt_max (am_cons (em_int) (am_cons (em_bin op_sub os_sub (em_callTy call_int1 cs_int (by rfl) T.b_int bt_int (am_cons (em_var 0) am_nil)) (em_bin op_pow os_pow (em_int) (em_int))) am_nil))) (am_cons (em_bin op_mod os_mod (em_callTy call_int1 cs_int (by rfl) T.b_int bt_int (am_cons (em_var 0) am_nil)) (em_int)) (am_cons (em_int) am_nil))))))⟩
theorem h__law_draws (T : Txt K mg) : Fn P w K mg base 1 "_law_draws" (spF K mg 1 m__law_draws) := by
  obtain ⟨f, fd, F, hm⟩ := T.f__law_draws
  exact fnF F sc__law_draws rfl hm (F.binds (ps := ["cell"]) fun _ _ _ _ _ _ us hl => match us, hl with | [_], _ => rfl) (w__law_draws T)
theorem w__law_pick (T : Txt K mg) : Body P w K mg base N__law_pick "_law_pick" s__law_pick 0 false b__law_pick := fun f cdv A outer s H E M0 fr pa g => ⟨_, (ssm_cons (sm_if (tm_cmp op_gt os_cmp (em_ix (iIx g) os_ixA (em_var 0) (em_int)) (em_int)) (ssm_cons (sm_set (i := 4) g (em_bin op_mod os_mod (em_callTy call_int1 cs_int (by rfl) T.b_int bt_int (am_cons (em_ix (iIx g) os_ixA (em_var 0) (em_int)) am_nil)) (em_var 1)))
    (ssm_cons (sm_put 0 g (em_int) (em_bin op_fdivW os_div (em_ix (iIx g) os_ixA (em_var 0) (em_int)) (em_var 1)))
    (ssm_one (sm_ret (em_var 4))))) ssm_nil)
    (ssm_cons (sm_put 0 g (em_int) (em_bin (oAdd g) os_addA (em_ix (iIx g) os_ixA (em_var 0) (em_int)) (em_int)))
    (ssm_cons (sm_set (i := 2) g (em_ix (iIx g) os_ixA (em_var 0) (em_int)))
    (ssm_cons (sm_set (i := 3) g (em_bin (oAdd g) os_addA (em_bin (oAdd g) os_addA (em_ix (iIx g) os_ixA (em_var 0) (em_int)) (em_bin op_mulW os_mul (em_bin op_mulW os_mul (em_int) (em_var 2)) (em_var 2))) (em_int)))
    (ssm_cons (sm_set (i := 3) g (em_bin (oAdd g) os_addA (em_bin op_mulW os_mul (em_var 3) (em_bin (oAdd g) os_addA (em_ix (iIx g) os_ixA (em_var 0) (em_int)) (em_bin op_mulW os_mul (em_int) (em_var 2)))) (em_var 2)))
    (ssm_cons (sm_set (i := 3) g (em_bin op_fdivW os_div (em_bin op_mod os_mod (em_callTy call_int1 cs_int (by rfl) T.b_int bt_int (am_cons (em_bin (oAdd g) os_addA (em_bin op_mulW os_mul (em_var 3) (em_var 3)) (em_bin op_mulW os_mul (em_int) (em_var 3))) am_nil)) (em_int)) (em_int)))
    (ssm_one (sm_ret (em_bin op_mod os_mod (em_bin op_fdivW os_div (em_bin op_mod os_mod (em_callTy call_int1 cs_int (by rfl) T.b_int bt_int (am_cons (em_bin op_mulW os_mul (em_var 3) (em_bin (oAdd g) os_addA (em_bin (oAdd g) os_addA (em_var 3) (em_bin op_mulW os_mul (em_int) (em_var 2))) (em_int))) am_nil)) (em_int)) (em_int)) (em_var 1))))))))))⟩
theorem h__law_pick (T : Txt K mg) : Fn P w K mg base 1 "_law_pick" (spJ K 2 m__law_pick) := by
  obtain ⟨f, fd, F, hm⟩ := T.f__law_pick
  exact fnJ F sc__law_pick rfl hm (F.binds (ps := ["stock", "upto"]) fun _ _ _ _ _ _ us hl => match us, hl with | [_, _], _ => rfl) (w__law_pick T)
theorem w__law_wide (T : Txt K mg) : Body P w K mg base N__law_wide "_law_wide" s__law_wide 1 false b__law_wide := fun f cdv A outer s H E M0 fr pa g => ⟨_, (ssm_cons (sm_if (tm_cmp op_le os_cmp (em_var 1) (em_bin op_pow os_pow (em_int) (em_int))) (ssm_one (sm_ret (em_callJ g (h__law_pick T) (am_cons (em_var 0) (am_cons (em_var 1) am_nil))))) ssm_nil)
    (ssm_cons (sm_set (i := 2) g (em_int))
    (ssm_cons (sm_for g (im_range1 g (am_cons (em_int) am_nil) T.b_range) (gm_name 3 g.nd) (ssm_one (sm_set (i := 2) g (em_bin (oAdd g) os_addA (em_bin op_mulW os_mul (em_var 2) (em_bin op_pow os_pow (em_int) (em_int))) (em_callJ g (h__law_pick T) (am_cons (em_var 0) (am_cons (em_bin op_pow os_pow (em_int) (em_int)) am_nil)))))))
    (ssm_one (sm_ret (em_bin op_mod os_mod (em_callTy call_int1 cs_int (by rfl) T.b_int bt_int (am_cons (em_var 2) am_nil)) (em_var 1)))))))⟩
theorem h__law_wide (T : Txt K mg) : Fn P w K mg base 2 "_law_wide" (spJ K 2 m__law_wide) := by
  obtain ⟨f, fd, F, hm⟩ := T.f__law_wide
  exact fnJ F sc__law_wide rfl hm (F.binds (ps := ["stock", "upto"]) fun _ _ _ _ _ _ us hl => match us, hl with | [_, _], _ => rfl) (w__law_wide T)
theorem w__law_a_plan (T : Txt K mg) : Body P w K mg base N__law_a_plan "_law_a_plan" s__law_a_plan 2 false b__law_a_plan := fun f cdv A outer s H E M0 fr pa g => ⟨_, (ssm_cons (sm_set (i := 2) g (em_ix (iIx g) os_ixA (em_of_ef (ef_lst (am_cons (em_int) (am_cons (em_int) (am_cons (em_bin op_pow os_pow (em_int) (em_int)) (am_cons (em_bin op_mulW os_mul (em_int) (em_bin op_pow os_pow (em_int) (em_int))) am_nil)))))) (em_callJ g (h__law_pick T) (am_cons (em_var 0) (am_cons (em_int) am_nil)))))
    (ssm_cons (sm_set (i := 3) g (em_ix (iIx g) os_ixA (em_of_ef (ef_lst (am_cons (em_int) (am_cons (em_int) (am_cons (em_bin op_pow os_pow (em_int) (em_int)) (am_cons (em_bin op_mulW os_mul (em_int) (em_bin op_pow os_pow (em_int) (em_int))) am_nil)))))) (em_callJ g (h__law_pick T) (am_cons (em_var 0) (am_cons (em_int) am_nil)))))
    (ssm_cons (sm_setL (i := 4) g (ef_dic0))
    (ssm_cons (sm_for g (im_range1 g (am_cons (em_callJ g (h__law_pick T) (am_cons (em_var 0) (am_cons (em_bin (oAdd g) os_addA (em_var 1) (em_int)) am_nil))) am_nil) T.b_range) (gm_name 5 g.nd) (ssm_one (sm_put 4 g (em_bin (oAdd g) os_addA (em_bin op_sub os_sub (em_callJ g (h__law_wide T) (am_cons (em_var 0) (am_cons (em_bin op_sub os_sub (em_bin op_mulW os_mul (em_int) (em_var 3)) (em_int)) am_nil))) (em_var 3)) (em_int)) (em_bin (oAdd g) os_addA (em_int) (em_callJ g (h__law_wide T) (am_cons (em_var 0) (am_cons (em_bin op_sub os_sub (em_var 2) (em_int)) am_nil)))))))
    (ssm_cons (sm_lcA (fresh := false) (i := 6) (own := [("corner", 7)]) g (im_seq g (em_of_ef (ef_callB (call_sortedDI g.calm) cf_sortDI (by rfl) T.b_sorted bt_sorted (am_cons (em_var 4) am_nil)))) (blkOk_by (N := N__law_a_plan) (sc := defScope s__law_a_plan) (by decide +kernel)) (fun _ _ _ _ _ g => (gm_name 7 g.nd)) (fun _ _ _ _ _ g => tms_nil) (fun _ _ _ _ _ g => (em_tup (am_cons (em_var 7) (am_cons (em_ix (iIx g) os_ixA (em_var 4) (em_var 7)) am_nil)))))
    (ssm_one (sm_ret (em_tup (am_cons (em_bin (oAdd g) os_addA (em_bin op_sub os_sub (em_callJ g (h__law_wide T) (am_cons (em_var 0) (am_cons (em_bin op_sub os_sub (em_bin op_mulW os_mul (em_int) (em_var 2)) (em_int)) am_nil))) (em_var 2)) (em_int)) (am_cons (em_callTy (cTuple g) cs_tuple (by rfl) T.b_tuple bt_tuple (am_cons (em_var 6) am_nil)) am_nil))))))))))⟩
theorem h__law_a_plan (T : Txt K mg) : Fn P w K mg base 3 "_law_a_plan" (spJ K 2 m__law_a_plan) := by
  obtain ⟨f, fd, F, hm⟩ := T.f__law_a_plan
  exact fnJ F sc__law_a_plan rfl hm (F.binds (ps := ["stock", "many"]) fun _ _ _ _ _ _ us hl => match us, hl with | [_, _], _ => rfl) (w__law_a_plan T)
theorem w_is_integer (T : Txt K mg) : Body P w K mg base N_is_integer "is_integer" s_is_integer 0 false b_is_integer := fun f cdv A outer s H E M0 fr pa g => ⟨_, (ssm_one (sm_ret (em_and (em_isi g (by rfl) T.b_isinstance (by rfl) T.b_int bt_int (em_var 0)) (em_one (em_not (em_isi g (by rfl) T.b_isinstance (by rfl) T.b_bool bt_bool (em_var 0)))))))⟩
theorem h_is_integer (T : Txt K mg) : Fn P w K mg base 1 "is_integer" (spP K mg 1 m_is_integer) := by
  obtain ⟨f, fd, F, hm⟩ := T.f_is_integer
  exact fnP F sc_is_integer rfl hm (F.binds (ps := ["value"]) fun _ _ _ _ _ _ us hl => match us, hl with | [_], _ => rfl) (w_is_integer T)
theorem w_is_corner (T : Txt K mg) : Body P w K mg base N_is_corner "is_corner" s_is_corner 1 false b_is_corner := fun f cdv A outer s H E M0 fr pa g => ⟨_, (ssm_cons (sm_if (tm_wm (wm_or (tm_not (tm_val (em_isi g (by rfl) T.b_isinstance (by rfl) T.b_tuple bt_tuple (em_var 0)))) (wm_or1 (tm_cmp (oNe g) os_neA (em_callB (cLen g) cs_len (by rfl) T.b_len bt_len (am_cons (em_var 0) am_nil)) (em_int))))) (ssm_one (sm_ret (em_bl))) ssm_nil)
    (ssm_one (sm_ret (em_and (em_call g (h_is_integer T) (am_cons (em_ix (iIx g) os_ixA (em_var 0) (em_int)) am_nil)) (em_and (em_call g (h_is_integer T) (am_cons (em_ix (iIx g) os_ixA (em_var 0) (em_int)) am_nil)) (em_one (em_cmp op_ge os_cmp (em_ix (iIx g) os_ixA (em_var 0) (em_int)) (em_int))))))))⟩
theorem h_is_corner (T : Txt K mg) : Fn P w K mg base 2 "is_corner" (spP K mg 1 m_is_corner) := by
  obtain ⟨f, fd, F, hm⟩ := T.f_is_corner
  exact fnP F sc_is_corner rfl hm (F.binds (ps := ["value"]) fun _ _ _ _ _ _ us hl => match us, hl with | [_], _ => rfl) (w_is_corner T)
theorem w_is_tariff (T : Txt K mg) : Body P w K mg base N_is_tariff "is_tariff" s_is_tariff 2 false b_is_tariff := fun f cdv A outer s H E M0 fr pa g => ⟨_, (ssm_cons (sm_if (tm_wm (wm_or (tm_not (tm_val (em_isi g (by rfl) T.b_isinstance (by rfl) T.b_tuple bt_tuple (em_var 0)))) (wm_or (tm_cmp (oNe g) os_neA (em_callB (cLen g) cs_len (by rfl) T.b_len bt_len (am_cons (em_var 0) am_nil)) (em_int)) (wm_or1 (tm_not (tm_val (em_call g (h_is_integer T) (am_cons (em_ix (iIx g) os_ixA (em_var 0) (em_int)) am_nil)))))))) (ssm_one (sm_ret (em_bl))) ssm_nil)
    (ssm_cons (sm_set (i := 1) g (em_ix (iIx g) os_ixA (em_var 0) (em_int)))
    (ssm_cons (sm_if (tm_wm (wm_or (tm_not (tm_val (em_isi g (by rfl) T.b_isinstance (by rfl) T.b_tuple bt_tuple (em_var 1)))) (wm_or1 (tm_not (tm_val (em_callB (cAll g) cs_all (by rfl) T.b_all bt_all (am_cons (em_of_ef (ef_lc (own := [("corner", 3)]) g (im_seq g (em_var 1)) (blkOk_by (N := N_is_tariff) (sc := defScope s_is_tariff) (by decide +kernel)) (fun _ _ _ _ _ g => (gm_name 3 g.nd)) (fun _ _ _ _ _ g => tms_nil) (fun _ _ _ _ _ g => (em_call g (h_is_corner T) (am_cons (em_var 3) am_nil))))) am_nil))))))) (ssm_one (sm_ret (em_bl))) ssm_nil)
    (ssm_one (sm_ret (em_callB (cAll g) cs_all (by rfl) T.b_all bt_all (am_cons (em_of_ef (ef_lc (own := [("at", 2)]) g (im_range2 g (am_cons (em_int) (am_cons (em_callB (cLen g) cs_len (by rfl) T.b_len bt_len (am_cons (em_var 1) am_nil)) am_nil)) T.b_range) (blkOk_by (N := N_is_tariff) (sc := defScope s_is_tariff) (by decide +kernel)) (fun _ _ _ _ _ g => (gm_name 2 g.nd)) (fun _ _ _ _ _ g => tms_nil) (fun _ _ _ _ _ g => (em_cmp op_lt os_cmp (em_ix (iIx g) os_ixA (em_ix (iIx g) os_ixA (em_var 1) (em_bin op_sub os_sub (em_var 2) (em_int))) (em_int)) (em_ix (iIx g) os_ixA (em_ix (iIx g) os_ixA (em_var 1) (em_var 2)) (em_int)))))) am_nil)))))))⟩
theorem h_is_tariff (T : Txt K mg) : Fn P w K mg base 3 "is_tariff" (spP K mg 1 m_is_tariff) := by
  obtain ⟨f, fd, F, hm⟩ := T.f_is_tariff
  exact fnP F sc_is_tariff rfl hm (F.binds (ps := ["value"]) fun _ _ _ _ _ _ us hl => match us, hl with | [_], _ => rfl) (w_is_tariff T)
theorem w_need_tariff (T : Txt K mg) : Body P w K mg base N_need_tariff "need_tariff" s_need_tariff 3 false b_need_tariff := fun f cdv A outer s H E M0 fr pa g => ⟨_, (ssm_one (sm_if (tm_not (tm_val (em_call g (h_is_tariff T) (am_cons (em_var 0) am_nil)))) (ssm_one (Classical.choose_spec (sm_raise g T.e_InvalidTariff))) ssm_nil))⟩
theorem h_need_tariff (T : Txt K mg) : Fn P w K mg base 4 "need_tariff" (spP K mg 1 m_need_tariff) := by
  obtain ⟨f, fd, F, hm⟩ := T.f_need_tariff
  exact fnP F sc_need_tariff rfl hm (F.binds (ps := ["value"]) fun _ _ _ _ _ _ us hl => match us, hl with | [_], _ => rfl) (w_need_tariff T)
theorem w_need_day (T : Txt K mg) : Body P w K mg base N_need_day "need_day" s_need_day 1 false b_need_day := fun f cdv A outer s H E M0 fr pa g => ⟨_, (ssm_one (sm_if (tm_not (tm_val (em_call g (h_is_integer T) (am_cons (em_var 0) am_nil)))) (ssm_one (Classical.choose_spec (sm_raise g T.e_InvalidDay))) ssm_nil))⟩
theorem h_need_day (T : Txt K mg) : Fn P w K mg base 2 "need_day" (spP K mg 1 m_need_day) := by
  obtain ⟨f, fd, F, hm⟩ := T.f_need_day
  exact fnP F sc_need_day rfl hm (F.binds (ps := ["value"]) fun _ _ _ _ _ _ us hl => match us, hl with | [_], _ => rfl) (w_need_day T)
theorem w_charge_at (T : Txt K mg) : Body P w K mg base N_charge_at "charge_at" s_charge_at 0 false b_charge_at := fun f cdv A outer s H E M0 fr pa g => ⟨_, (ssm_cons (sm_unp (em_var 0) (gm_tup g (gms_cons (gm_name 2 g.nd) (gms_cons (gm_name 3 g.nd) gms_nil))))
    (ssm_one (sm_ret (em_bin (oAdd g) os_addA (em_bin op_mulW os_mul (em_var 2) (em_var 1)) (em_callB (cSum g) cs_sum (by rfl) T.b_sum bt_sum (am_cons (em_of_ef (ef_lc (own := [("at", 4), ("more", 5)]) g (im_seq g (em_var 3)) (blkOk_by (N := N_charge_at) (sc := defScope s_charge_at) (by decide +kernel)) (fun _ _ _ _ _ g => (gm_tup g (gms_cons (gm_name 4 g.nd) (gms_cons (gm_name 5 g.nd) gms_nil)))) (fun _ _ _ _ _ g => tms_nil) (fun _ _ _ _ _ g => (em_bin op_mulW os_mul (em_var 5) (em_callB (call_max2 g.calm) cs_max2 (by rfl) T.b_max bt_max (am_cons (em_int) (am_cons (em_bin op_sub os_sub (em_var 1) (em_var 4)) am_nil))))))) am_nil))))))⟩
theorem h_charge_at (T : Txt K mg) : Fn P w K mg base 1 "charge_at" (spP K mg 2 m_charge_at) := by
  obtain ⟨f, fd, F, hm⟩ := T.f_charge_at
  exact fnP F sc_charge_at rfl hm (F.binds (ps := ["tariff", "delay"]) fun _ _ _ _ _ _ us hl => match us, hl with | [_, _], _ => rfl) (w_charge_at T)
theorem w_charge (T : Txt K mg) : Body P w K mg base N_charge "charge" s_charge 4 false b_charge := fun f cdv A outer s H E M0 fr pa g => ⟨_, (ssm_cons (sm_expr (em_call g (h_need_tariff T) (am_cons (em_var 0) am_nil)))
    (ssm_cons (sm_expr (em_call g (h_need_day T) (am_cons (em_var 1) am_nil)))
    (ssm_one (sm_ret (em_call g (h_charge_at T) (am_cons (em_var 0) (am_cons (em_var 1) am_nil)))))))⟩
theorem h_charge (T : Txt K mg) : Fn P w K mg base 5 "charge" (spP K mg 2 m_charge) := by
  obtain ⟨f, fd, F, hm⟩ := T.f_charge
  exact fnP F sc_charge rfl hm (F.binds (ps := ["tariff", "delay"]) fun _ _ _ _ _ _ us hl => match us, hl with | [_, _], _ => rfl) (w_charge T)
theorem h_charge_delay_tariff (T : Txt K mg) : FnK P w K mg base 5 "charge" ["delay", "tariff"] [1, 0] (spP K mg 2 m_charge) := by
  obtain ⟨f, fd, F, hm⟩ := T.f_charge
  exact fnK F sc_charge rfl hm (ks := ["delay", "tariff"]) (is := [1, 0]) (fun _ _ _ _ _ _ us hl => match us, hl with | [_, _], _ => rfl) (w_charge T)
theorem w__law_same (T : Txt K mg) : Body P w K mg base N__law_same "_law_same" s__law_same 0 false b__law_same := fun f cdv A outer s H E M0 fr pa g => ⟨_, (ssm_one (sm_ret (em_cmp (oEq g) os_eqA (em_callB SkE.call_repr_int cs_strI (by rfl) T.b_repr bt_repr (am_cons (em_var 0) am_nil)) (em_callB SkE.call_repr_int cs_strI (by rfl) T.b_repr bt_repr (am_cons (em_var 1) am_nil)))))⟩
theorem h__law_same (T : Txt K mg) : Fn P w K mg base 1 "_law_same" (spP K mg 2 m__law_same) := by
  obtain ⟨f, fd, F, hm⟩ := T.f__law_same
  exact fnP F sc__law_same rfl hm (F.binds (ps := ["back", "due"]) fun _ _ _ _ _ _ us hl => match us, hl with | [_, _], _ => rfl) (w__law_same T)
theorem w__law_fee (T : Txt K mg) : Body P w K mg base N__law_fee "_law_fee" s__law_fee 0 false b__law_fee := fun f cdv A outer s H E M0 fr pa g => ⟨_, (ssm_cons (sm_set (i := 2) g (em_bin op_mulW os_mul (em_ix (iIx g) os_ixA (em_var 0) (em_int)) (em_var 1)))
    (ssm_cons (sm_for g (im_seq g (em_ix (iIx g) os_ixA (em_var 0) (em_int))) (gm_tup g (gms_cons (gm_name 3 g.nd) (gms_cons (gm_name 4 g.nd) gms_nil))) (ssm_one (sm_if (tm_cmp op_gt os_cmp (em_var 1) (em_var 3)) (ssm_one (sm_set (i := 2) g (em_bin (oAdd g) os_addA (em_var 2) (em_bin op_mulW os_mul (em_var 4) (em_bin op_sub os_sub (em_var 1) (em_var 3)))))) ssm_nil)))
    (ssm_one (sm_ret (em_var 2)))))⟩
theorem h__law_fee (T : Txt K mg) : Fn P w K mg base 1 "_law_fee" (spP K mg 2 m__law_fee) := by
  obtain ⟨f, fd, F, hm⟩ := T.f__law_fee
  exact fnP F sc__law_fee rfl hm (F.binds (ps := ["plan", "gap"]) fun _ _ _ _ _ _ us hl => match us, hl with | [_, _], _ => rfl) (w__law_fee T)
theorem w_law (T : Txt K mg) : Body P w K mg base N_law "law" s_law 5 false b_law := fun f cdv A outer s H E M0 fr pa g => ⟨_, (ssm_cons (sm_set (i := 1) g (em_int))
    (ssm_cons (sm_for g (im_seq g (em_bin (oAdd g) os_addA (em_of_ef (ef_lst (am_cons (em_var 1) am_nil))) (em_slice g (em_var 0) om_none (om_some (em_int))))) (gm_name 2 g.nd) (ssm_cons (sm_setL (i := 3) g (ef_call g (h__law_draws T) (am_cons (em_var 2) am_nil)))
    (ssm_cons (sm_set (i := 4) g (em_callJ g (h__law_a_plan T) (am_cons (em_var 3) (am_cons (em_int) am_nil))))
    (ssm_cons (sm_setL (i := 5) g (ef_lst (am_cons (em_bin op_sub os_sub (em_callJ g (h__law_pick T) (am_cons (em_var 3) (am_cons (em_int) am_nil))) (em_int)) (am_cons (em_bin op_sub os_sub (em_callJ g (h__law_wide T) (am_cons (em_var 3) (am_cons (em_bin op_mulW os_mul (em_int) (em_bin op_pow os_pow (em_int) (em_int))) am_nil))) (em_bin op_pow os_pow (em_int) (em_int))) am_nil))))
    (ssm_cons (sm_for g (im_seq g (em_ix (iIx g) os_ixA (em_var 4) (em_int))) (gm_tup g (gms_cons (gm_name 8 g.nd) (gms_cons (gm_name 9 g.nd) gms_nil))) (ssm_one (sm_expr (em_append 5 g (em_bin op_sub os_sub (em_bin (oAdd g) os_addA (em_var 8) (em_callJ g (h__law_pick T) (am_cons (em_var 3) (am_cons (em_int) am_nil)))) (em_int))))))
    (ssm_cons (sm_for g (im_seq g (em_bin (oAdd g) os_addA (em_var 5) (em_slice g (em_var 5) om_none (om_some (em_int))))) (gm_name 6 g.nd) (ssm_one (sm_if (tm_not (tm_val (em_call g (h__law_same T) (am_cons (em_call g (h_charge T) (am_cons (em_var 4) (am_cons (em_var 6) am_nil))) (am_cons (em_call g (h__law_fee T) (am_cons (em_var 4) (am_cons (em_var 6) am_nil))) am_nil))))) (ssm_one (sm_ret (em_bl))) ssm_nil)))
    (ssm_cons (sm_set (i := 7) g (em_callK g (h_charge_delay_tariff T) (km_cons (em_ix (iIx g) os_ixA (em_var 5) (em_int)) (km_cons (em_var 4) km_nil))))
    (ssm_one (sm_if (tm_wm (wm_or (tm_not (tm_val (em_call g (h__law_same T) (am_cons (em_var 7) (am_cons (em_call g (h__law_fee T) (am_cons (em_var 4) (am_cons (em_ix (iIx g) os_ixA (em_var 5) (em_int)) am_nil))) am_nil))))) (wm_or1 (tm_cmp or_isntA os_isntA (em_call g (h_is_tariff T) (am_cons (em_var 4) am_nil)) (em_bl))))) (ssm_one (sm_ret (em_bl))) ssm_nil)))))))))
    (ssm_one (sm_ret (em_bl)))))⟩
theorem h_law (T : Txt K mg) : Fn P w K mg base 6 "law" (spP K mg 1 m_law) := by
  obtain ⟨f, fd, F, hm⟩ := T.f_law
  exact fnP F sc_law rfl hm (F.binds (ps := ["script"]) fun _ _ _ _ _ _ us hl => match us, hl with | [_], _ => rfl) (w_law T)
end
theorem txt_mk {K : PySem.W.Frag} {h : Heap} {mg : Str → Option Value} (X : K.In h) (G : h.Ns mainGlobals mg)
    {f0 : Addr} {od0 an0 : Option Addr} {sl0 : Array (Option Value)} {oc0 kV0 dc0 pm0 cd0 ct0 : Value}
    (a0 : PySem.W.nsIn K mainGlobals "_law_draws" = some (some (.ref f0))) (l0 : K.lookup f0 = some ⟨oc0, od0, .func (PySem.W.fnOf "_law_draws" "_law_draws" (defArgs s__law_draws) (defBody s__law_draws) (defScope s__law_draws) .none kV0 dc0 pm0 an0 cd0 ct0), sl0⟩) (c0 : PySem.W.codeIn K cd0 "_law_draws" = true) (k0 : PySem.W.keepIn K (.ref f0) = true)
    {f1 : Addr} {od1 an1 : Option Addr} {sl1 : Array (Option Value)} {oc1 kV1 dc1 pm1 cd1 ct1 : Value}
    (a1 : PySem.W.nsIn K mainGlobals "_law_pick" = some (some (.ref f1))) (l1 : K.lookup f1 = some ⟨oc1, od1, .func (PySem.W.fnOf "_law_pick" "_law_pick" (defArgs s__law_pick) (defBody s__law_pick) (defScope s__law_pick) .none kV1 dc1 pm1 an1 cd1 ct1), sl1⟩) (c1 : PySem.W.codeIn K cd1 "_law_pick" = true) (k1 : PySem.W.keepIn K (.ref f1) = true)
    {f2 : Addr} {od2 an2 : Option Addr} {sl2 : Array (Option Value)} {oc2 kV2 dc2 pm2 cd2 ct2 : Value}
    (a2 : PySem.W.nsIn K mainGlobals "_law_wide" = some (some (.ref f2))) (l2 : K.lookup f2 = some ⟨oc2, od2, .func (PySem.W.fnOf "_law_wide" "_law_wide" (defArgs s__law_wide) (defBody s__law_wide) (defScope s__law_wide) .none kV2 dc2 pm2 an2 cd2 ct2), sl2⟩) (c2 : PySem.W.codeIn K cd2 "_law_wide" = true) (k2 : PySem.W.keepIn K (.ref f2) = true)
    {f3 : Addr} {od3 an3 : Option Addr} {sl3 : Array (Option Value)} {oc3 kV3 dc3 pm3 cd3 ct3 : Value}
    (a3 : PySem.W.nsIn K mainGlobals "_law_a_plan" = some (some (.ref f3))) (l3 : K.lookup f3 = some ⟨oc3, od3, .func (PySem.W.fnOf "_law_a_plan" "_law_a_plan" (defArgs s__law_a_plan) (defBody s__law_a_plan) (defScope s__law_a_plan) .none kV3 dc3 pm3 an3 cd3 ct3), sl3⟩) (c3 : PySem.W.codeIn K cd3 "_law_a_plan" = true) (k3 : PySem.W.keepIn K (.ref f3) = true)
    {f4 : Addr} {od4 an4 : Option Addr} {sl4 : Array (Option Value)} {oc4 kV4 dc4 pm4 cd4 ct4 : Value}
    (a4 : PySem.W.nsIn K mainGlobals "is_integer" = some (some (.ref f4))) (l4 : K.lookup f4 = some ⟨oc4, od4, .func (PySem.W.fnOf "is_integer" "is_integer" (defArgs s_is_integer) (defBody s_is_integer) (defScope s_is_integer) .none kV4 dc4 pm4 an4 cd4 ct4), sl4⟩) (c4 : PySem.W.codeIn K cd4 "is_integer" = true) (k4 : PySem.W.keepIn K (.ref f4) = true)
    {f5 : Addr} {od5 an5 : Option Addr} {sl5 : Array (Option Value)} {oc5 kV5 dc5 pm5 cd5 ct5 : Value}
    (a5 : PySem.W.nsIn K mainGlobals "is_corner" = some (some (.ref f5))) (l5 : K.lookup f5 = some ⟨oc5, od5, .func (PySem.W.fnOf "is_corner" "is_corner" (defArgs s_is_corner) (defBody s_is_corner) (defScope s_is_corner) .none kV5 dc5 pm5 an5 cd5 ct5), sl5⟩) (c5 : PySem.W.codeIn K cd5 "is_corner" = true) (k5 : PySem.W.keepIn K (.ref f5) = true)
    {f6 : Addr} {od6 an6 : Option Addr} {sl6 : Array (Option Value)} {oc6 kV6 dc6 pm6 cd6 ct6 : Value}
    (a6 : PySem.W.nsIn K mainGlobals "is_tariff" = some (some (.ref f6))) (l6 : K.lookup f6 = some ⟨oc6, od6, .func (PySem.W.fnOf "is_tariff" "is_tariff" (defArgs s_is_tariff) (defBody s_is_tariff) (defScope s_is_tariff) .none kV6 dc6 pm6 an6 cd6 ct6), sl6⟩) (c6 : PySem.W.codeIn K cd6 "is_tariff" = true) (k6 : PySem.W.keepIn K (.ref f6) = true)
    {f7 : Addr} {od7 an7 : Option Addr} {sl7 : Array (Option Value)} {oc7 kV7 dc7 pm7 cd7 ct7 : Value}
    (a7 : PySem.W.nsIn K mainGlobals "need_tariff" = some (some (.ref f7))) (l7 : K.lookup f7 = some ⟨oc7, od7, .func (PySem.W.fnOf "need_tariff" "need_tariff" (defArgs s_need_tariff) (defBody s_need_tariff) (defScope s_need_tariff) .none kV7 dc7 pm7 an7 cd7 ct7), sl7⟩) (c7 : PySem.W.codeIn K cd7 "need_tariff" = true) (k7 : PySem.W.keepIn K (.ref f7) = true)
    {f8 : Addr} {od8 an8 : Option Addr} {sl8 : Array (Option Value)} {oc8 kV8 dc8 pm8 cd8 ct8 : Value}
    (a8 : PySem.W.nsIn K mainGlobals "need_day" = some (some (.ref f8))) (l8 : K.lookup f8 = some ⟨oc8, od8, .func (PySem.W.fnOf "need_day" "need_day" (defArgs s_need_day) (defBody s_need_day) (defScope s_need_day) .none kV8 dc8 pm8 an8 cd8 ct8), sl8⟩) (c8 : PySem.W.codeIn K cd8 "need_day" = true) (k8 : PySem.W.keepIn K (.ref f8) = true)
    {f9 : Addr} {od9 an9 : Option Addr} {sl9 : Array (Option Value)} {oc9 kV9 dc9 pm9 cd9 ct9 : Value}
    (a9 : PySem.W.nsIn K mainGlobals "charge_at" = some (some (.ref f9))) (l9 : K.lookup f9 = some ⟨oc9, od9, .func (PySem.W.fnOf "charge_at" "charge_at" (defArgs s_charge_at) (defBody s_charge_at) (defScope s_charge_at) .none kV9 dc9 pm9 an9 cd9 ct9), sl9⟩) (c9 : PySem.W.codeIn K cd9 "charge_at" = true) (k9 : PySem.W.keepIn K (.ref f9) = true)
    {f10 : Addr} {od10 an10 : Option Addr} {sl10 : Array (Option Value)} {oc10 kV10 dc10 pm10 cd10 ct10 : Value}
    (a10 : PySem.W.nsIn K mainGlobals "charge" = some (some (.ref f10))) (l10 : K.lookup f10 = some ⟨oc10, od10, .func (PySem.W.fnOf "charge" "charge" (defArgs s_charge) (defBody s_charge) (defScope s_charge) .none kV10 dc10 pm10 an10 cd10 ct10), sl10⟩) (c10 : PySem.W.codeIn K cd10 "charge" = true) (k10 : PySem.W.keepIn K (.ref f10) = true)
    {f11 : Addr} {od11 an11 : Option Addr} {sl11 : Array (Option Value)} {oc11 kV11 dc11 pm11 cd11 ct11 : Value}
    (a11 : PySem.W.nsIn K mainGlobals "_law_same" = some (some (.ref f11))) (l11 : K.lookup f11 = some ⟨oc11, od11, .func (PySem.W.fnOf "_law_same" "_law_same" (defArgs s__law_same) (defBody s__law_same) (defScope s__law_same) .none kV11 dc11 pm11 an11 cd11 ct11), sl11⟩) (c11 : PySem.W.codeIn K cd11 "_law_same" = true) (k11 : PySem.W.keepIn K (.ref f11) = true)
    {f12 : Addr} {od12 an12 : Option Addr} {sl12 : Array (Option Value)} {oc12 kV12 dc12 pm12 cd12 ct12 : Value}
    (a12 : PySem.W.nsIn K mainGlobals "_law_fee" = some (some (.ref f12))) (l12 : K.lookup f12 = some ⟨oc12, od12, .func (PySem.W.fnOf "_law_fee" "_law_fee" (defArgs s__law_fee) (defBody s__law_fee) (defScope s__law_fee) .none kV12 dc12 pm12 an12 cd12 ct12), sl12⟩) (c12 : PySem.W.codeIn K cd12 "_law_fee" = true) (k12 : PySem.W.keepIn K (.ref f12) = true)
    {f13 : Addr} {od13 an13 : Option Addr} {sl13 : Array (Option Value)} {oc13 kV13 dc13 pm13 cd13 ct13 : Value}
    (a13 : PySem.W.nsIn K mainGlobals "law" = some (some (.ref f13))) (l13 : K.lookup f13 = some ⟨oc13, od13, .func (PySem.W.fnOf "law" "law" (defArgs s_law) (defBody s_law) (defScope s_law) .none kV13 dc13 pm13 an13 cd13 ct13), sl13⟩) (c13 : PySem.W.codeIn K cd13 "law" = true) (k13 : PySem.W.keepIn K (.ref f13) = true)
    (z0 : PySem.W.nsIn K mainGlobals "all" = some none)
    (z1 : PySem.W.nsIn K mainGlobals "bool" = some none)
    (z2 : PySem.W.nsIn K mainGlobals "int" = some none)
    (z3 : PySem.W.nsIn K mainGlobals "isinstance" = some none)
    (z4 : PySem.W.nsIn K mainGlobals "len" = some none)
    (z5 : PySem.W.nsIn K mainGlobals "max" = some none)
    (z6 : PySem.W.nsIn K mainGlobals "range" = some none)
    (z7 : PySem.W.nsIn K mainGlobals "repr" = some none)
    (z8 : PySem.W.nsIn K mainGlobals "sorted" = some none)
    (z9 : PySem.W.nsIn K mainGlobals "sum" = some none)
    (z10 : PySem.W.nsIn K mainGlobals "tuple" = some none)
    {E0 : Addr} (ea0 : PySem.W.nsIn K mainGlobals "InvalidDay" = some (some (.ref E0))) (eb0 : PySem.W.excIn K E0 [.type "ValueError", .type "Exception", .type "BaseException", .type "object"] "ValueError.__new__" = true) (ec0 : PySem.W.keepIn K (.ref E0) = true) (ed0 : PySem.W.subIn K (.ref E0) (.type "BaseException") = some true) (ee0 : PySem.W.typeIn K (.ref E0) = some (.type "type"))
    {E1 : Addr} (ea1 : PySem.W.nsIn K mainGlobals "InvalidTariff" = some (some (.ref E1))) (eb1 : PySem.W.excIn K E1 [.type "ValueError", .type "Exception", .type "BaseException", .type "object"] "ValueError.__new__" = true) (ec1 : PySem.W.keepIn K (.ref E1) = true) (ed1 : PySem.W.subIn K (.ref E1) (.type "BaseException") = some true) (ee1 : PySem.W.typeIn K (.ref E1) = some (.type "type")) : Txt K mg where
  f__law_draws := ⟨_, _, fun_mk (st := s__law_draws) l0 c0 k0, PySem.W.mg_of X G a0⟩
  f__law_pick := ⟨_, _, fun_mk (st := s__law_pick) l1 c1 k1, PySem.W.mg_of X G a1⟩
  f__law_wide := ⟨_, _, fun_mk (st := s__law_wide) l2 c2 k2, PySem.W.mg_of X G a2⟩
  f__law_a_plan := ⟨_, _, fun_mk (st := s__law_a_plan) l3 c3 k3, PySem.W.mg_of X G a3⟩
  f_is_integer := ⟨_, _, fun_mk (st := s_is_integer) l4 c4 k4, PySem.W.mg_of X G a4⟩
  f_is_corner := ⟨_, _, fun_mk (st := s_is_corner) l5 c5 k5, PySem.W.mg_of X G a5⟩
  f_is_tariff := ⟨_, _, fun_mk (st := s_is_tariff) l6 c6 k6, PySem.W.mg_of X G a6⟩
  f_need_tariff := ⟨_, _, fun_mk (st := s_need_tariff) l7 c7 k7, PySem.W.mg_of X G a7⟩
  f_need_day := ⟨_, _, fun_mk (st := s_need_day) l8 c8 k8, PySem.W.mg_of X G a8⟩
  f_charge_at := ⟨_, _, fun_mk (st := s_charge_at) l9 c9 k9, PySem.W.mg_of X G a9⟩
  f_charge := ⟨_, _, fun_mk (st := s_charge) l10 c10 k10, PySem.W.mg_of X G a10⟩
  f__law_same := ⟨_, _, fun_mk (st := s__law_same) l11 c11 k11, PySem.W.mg_of X G a11⟩
  f__law_fee := ⟨_, _, fun_mk (st := s__law_fee) l12 c12 k12, PySem.W.mg_of X G a12⟩
  f_law := ⟨_, _, fun_mk (st := s_law) l13 c13 k13, PySem.W.mg_of X G a13⟩
  b_all := PySem.W.mg_none_of X G z0
  b_bool := PySem.W.mg_none_of X G z1
  b_int := PySem.W.mg_none_of X G z2
  b_isinstance := PySem.W.mg_none_of X G z3
  b_len := PySem.W.mg_none_of X G z4
  b_max := PySem.W.mg_none_of X G z5
  b_range := PySem.W.mg_none_of X G z6
  b_repr := PySem.W.mg_none_of X G z7
  b_sorted := PySem.W.mg_none_of X G z8
  b_sum := PySem.W.mg_none_of X G z9
  b_tuple := PySem.W.mg_none_of X G z10
  e_InvalidDay := ⟨E0, PySem.W.mg_of X G ea0, eb0, ec0, ed0, ee0⟩
  e_InvalidTariff := ⟨E1, PySem.W.mg_of X G ea1, eb1, ec1, ed1, ee1⟩
theorem all_mk {l : PySem.W.OpenLaw} {w : World} {K : PySem.W.Frag} {mg : Str → Option Value} {fa : Addr} (T : Txt K mg) (hfa : mg "law" = some (.ref fa)) :
    ∃ fd : FuncData, (∀ (s : Shared) (v : Value), BindsTo s fd ⟨[v], []⟩ [("script", v)]) ∧ ∀ base : Heap, K.In base → base.Ns mainGlobals mg → FnOk l.prog w K mg base (L2.CX l.prog w) 6 fa fd ["script"] (spL K m_law) := by
  obtain ⟨f, fd, F, hm⟩ := T.f_law
  have e := hfa.symm.trans hm
  cases e
  have b := F.binds (ps := ["script"]) fun _ _ _ _ _ _ us hl => match us, hl with | [_], _ => rfl
  obtain ⟨oc, od, kV, doc, pm, an, cdv, ct, osl, rfl, lk, hcd⟩ := F.ex
  exact ⟨_, fun s v => .of_eq rfl, fun base _ _ => (fnP_ok F sc_law rfl (w_law T)).imp fun vs H Q E ⟨hl, M, ds, tk, r, q⟩ => ⟨hl, M, ds, tk, r, q.imp (fun d z => z) fun c z => z.elim⟩⟩
end Law
end
set_option maxRecDepth 100000
open PySem PySem.W PyProof.Rows
set_option maxHeartbeats 0 in
theorem PySem.Challenge.cw_oldestbills_k20_charge_holds : PySem.Challenge.rw_oldestbills_k20_charge.Holds := by
  w_on; o_law; k_head; (case hw => w_witness2)
  k_fill
  refine L2.walk_of (l := PySem.Challenge.rw_oldestbills_k20_charge) (n := 63) (k := 6) (x := "script") (CX := fun w => L2.CX PySem.Challenge.rw_oldestbills_k20_charge.prog w) (sp := fun w => Vm.spL _ Law.m_law) rfl (by decide) rfl ⟨rfl, by decide, by decide⟩ (fun w h Y => PySem.W.kIn_of Y) ?F (fun w H a ns hl hO hS => Vm.law_sp (Nat.le_trans hl (by decide)) hO hS (Law.law_true ns hl)) (fun _ _ _ _ _ h => Vm.cx_law h)
  case F =>
    intro w mg fa h KX G hmg
    refine' Law.all_mk (Law.txt_mk KX G ?a0 ?l0 ?c0 ?k0 ?a1 ?l1 ?c1 ?k1 ?a2 ?l2 ?c2 ?k2 ?a3 ?l3 ?c3 ?k3 ?a4 ?l4 ?c4 ?k4 ?a5 ?l5 ?c5 ?k5 ?a6 ?l6 ?c6 ?k6 ?a7 ?l7 ?c7 ?k7 ?a8 ?l8 ?c8 ?k8 ?a9 ?l9 ?c9 ?k9 ?a10 ?l10 ?c10 ?k10 ?a11 ?l11 ?c11 ?k11 ?a12 ?l12 ?c12 ?k12 ?a13 ?l13 ?c13 ?k13 ?z0 ?z1 ?z2 ?z3 ?z4 ?z5 ?z6 ?z7 ?z8 ?z9 ?z10 ?ea0 ?eb0 ?ec0 ?ed0 ?ee0 ?ea1 ?eb1 ?ec1 ?ed1 ?ee1) hmg
    (case a0 => k_is); (case l0 => k_is); (case c0 => k_is); (case k0 => k_is); (case a1 => k_is); (case l1 => k_is); (case c1 => k_is); (case k1 => k_is); (case a2 => k_is); (case l2 => k_is); (case c2 => k_is); (case k2 => k_is); (case a3 => k_is); (case l3 => k_is); (case c3 => k_is); (case k3 => k_is); (case a4 => k_is); (case l4 => k_is); (case c4 => k_is); (case k4 => k_is); (case a5 => k_is); (case l5 => k_is); (case c5 => k_is); (case k5 => k_is); (case a6 => k_is); (case l6 => k_is); (case c6 => k_is); (case k6 => k_is); (case a7 => k_is); (case l7 => k_is); (case c7 => k_is); (case k7 => k_is); (case a8 => k_is); (case l8 => k_is); (case c8 => k_is); (case k8 => k_is); (case a9 => k_is); (case l9 => k_is); (case c9 => k_is); (case k9 => k_is); (case a10 => k_is); (case l10 => k_is); (case c10 => k_is); (case k10 => k_is); (case a11 => k_is); (case l11 => k_is); (case c11 => k_is); (case k11 => k_is); (case a12 => k_is); (case l12 => k_is); (case c12 => k_is); (case k12 => k_is); (case a13 => k_is); (case l13 => k_is); (case c13 => k_is); (case k13 => k_is); (case z0 => k_is); (case z1 => k_is); (case z2 => k_is); (case z3 => k_is); (case z4 => k_is); (case z5 => k_is); (case z6 => k_is); (case z7 => k_is); (case z8 => k_is); (case z9 => k_is); (case z10 => k_is); (case ea0 => k_is); (case eb0 => k_exc); (case ec0 => k_is); (case ed0 => k_is); (case ee0 => k_is); (case ea1 => k_is); (case eb1 => k_exc); (case ec1 => k_is); (case ed1 => k_is); (case ee1 => k_is)
