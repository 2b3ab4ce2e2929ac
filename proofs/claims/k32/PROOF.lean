import PyProof.Rows.All
import PyProof.Rows.All
import Wide.All
import OpenK.AllK
import Wide.FinOn
import HandS.ForMost
import HandS.ForExc
import HandS.Flow
import HandS.Walk
import HandS.IsInst
import HandS.TupAny
import HandS.TupMul
import HandS.TupLe
import HandS.Style
import KE.DataEq
import HandS.SortInts
import HandS.Conv
import HandS.TupLen
import HandS.More
import KE.GoesNew
import HandS.Iter
import HandS.Exc
import HandS.TryOnly
import HandS.TryMany
import HandS.ExcOwn
import HandS.ExcIs
import PyProof.StrBlock2
import HandS.Strs
import HandS.SetFor
import HandS.Deep
import KE.KIndexWalk
import HandS.Text
import KE.DataMinMax
import KE.SortData
import PySem.Challenge.RW_duelground_k32_whole_measures
set_option Elab.async false
set_option linter.all false
set_option maxRecDepth 100000
set_option maxHeartbeats 4000000
/-! Pd0: plain data D, what stands for it in an abstract heap (Rp), the slots of a def by data (EnvR), outcomes. -/
namespace Pd
open PySem L2

/-! ### outcomes -/
inductive Out (α : Type) where
  | ok (a : α) | err (c : Nat) | bad
namespace Out
def bind {α β : Type} (o : Out α) (f : α → Out β) : Out β := match o with
  | .ok a => f a
  | .err c => .err c
  | .bad => .bad
@[simp] theorem ok_bind {α β : Type} (a : α) (f : α → Out β) : (Out.ok a).bind f = f a := rfl
@[simp] theorem err_bind {α β : Type} (c : Nat) (f : α → Out β) : (Out.err c : Out α).bind f = .err c := rfl
@[simp] theorem bad_bind {α β : Type} (f : α → Out β) : (Out.bad : Out α).bind f = .bad := rfl
/-- what is wanted of an outcome -/
def wp {α : Type} (o : Out α) (P : α → Prop) (E : Nat → Prop) : Prop := match o with
  | .ok a => P a
  | .err c => E c
  | .bad => False
theorem wp_bind {α β : Type} {o : Out α} {f : α → Out β} {P : β → Prop} {E : Nat → Prop} (h : (o.bind f).wp P E) : o.wp (fun a => (f a).wp P E) E := by
  cases o <;> exact h
theorem wp.imp {α : Type} {o : Out α} {P P' : α → Prop} {E E' : Nat → Prop} (h : o.wp P E) (hp : ∀ a, P a → P' a) (he : ∀ c, E c → E' c) : o.wp P' E' := by
  cases o with
  | ok a => exact hp a h
  | err c => exact he c h
  | bad => exact h
end Out

/-! ### data -/
inductive D where
  | none | bool (b : Bool) | int (i : Int) | str (s : Str) | list (l : List D) | tuple (l : List D) | dk (l : List (Key × V)) | dt (l : List (List Key × V))
  /-- the script; a tuple of ints that the module's top wrote -/
  | scr (l : List Int) | ktup (l : List Int)
  /-- a tuple, a dict with tuples as keys, that are known to the object -/
  | ftup (l : List D) | fdt (l : List (List Key × V))
instance : Inhabited D := ⟨.none⟩
/-- a value that is no object -/
def scV : V → Bool
  | .non => true
  | .bl _ => true
  | .int _ => true
  | .str _ => true
  | _ => false
def dv : V → D
  | .bl b => .bool b
  | .int i => .int i
  | .str s => .str s
  | _ => .none
def D.sc : D → Option V
  | .none => some .non
  | .bool b => some (.bl b)
  | .int i => some (.int i)
  | .str s => some (.str s)
  | _ => Option.none
mutual
/-- no list, no dict within -/
def D.fix : D → Bool
  | .none => true
  | .bool _ => true
  | .int _ => true
  | .str _ => true
  | .tuple l => D.fixA l
  | .list _ => false
  | .dk _ => false
  | .dt _ => false
  | .scr _ => false
  | .ktup _ => true
  | .ftup l => D.fixA l
  | .fdt _ => false
def D.fixA : List D → Bool
  | [] => true
  | d :: l => D.fix d && D.fixA l
end

/-- a tuple of the written part -/
def KTup (K : PySem.W.Frag) (a : Addr) (xs : List V) : Prop := ∃ (o : Obj) (its : Array Value) (n : Nat), K.lookup a = some o ∧ o.cls = .type "tuple" ∧ o.data = .seq its n ∧ its.size ≤ sizeLine ∧ Vals xs its.toList
mutual
inductive Rp (K : PySem.W.Frag) (H : Hp) : V → D → Prop
  | none : Rp K H .non .none
  | bool (b : Bool) : Rp K H (.bl b) (.bool b)
  | int (i : Int) : Rp K H (.int i) (.int i)
  | str (s : Str) : Rp K H (.str s) (.str s)
  | scr {a : Addr} {ns : List Int} : SqL K H a (ns.map V.int) → ns.length ≤ sizeLine → Rp K H (.ref a) (.scr ns)
  | list {a : Addr} {xs : List V} {ds : List D} : H a = some (.lst xs) → xs.length ≤ sizeLine → RpA K H xs ds → Rp K H (.ref a) (.list ds)
  | ktup {a : Addr} {ns : List Int} : KTup K a (ns.map V.int) → ns.length ≤ sizeLine → Rp K H (.ref a) (.ktup ns)
  | tuple {a : Addr} {xs : List V} {ds : List D} : H a = some (.tup xs) → xs.length ≤ sizeLine → RpA K H xs ds → Rp K H (.ref a) (.tuple ds)
  | dk {a : Addr} {kvs : List (Key × V)} : H a = some (.dK kvs) → (kvs.all fun p => scV p.2) = true → Rp K H (.ref a) (.dk kvs)
  | dt {a : Addr} {kvs : List (List Key × V)} : H a = some (.dT kvs) → (kvs.all fun p => scV p.2) = true → Rp K H (.ref a) (.dt kvs)
  | ftup {a : Addr} {o : Obj} {xs : List V} {ds : List D} : H a = some (.frz o (.tup xs)) → o.dict = none → xs.length ≤ sizeLine → RpA K H xs ds → Rp K H (.ref a) (.ftup ds)
  | fdt {a : Addr} {o : Obj} {kvs : List (List Key × V)} : H a = some (.frz o (.dT kvs)) → (kvs.all fun p => scV p.2) = true → Rp K H (.ref a) (.fdt kvs)
inductive RpA (K : PySem.W.Frag) (H : Hp) : List V → List D → Prop
  | nil : RpA K H [] []
  | cons {v : V} {vs : List V} {d : D} {ds : List D} : Rp K H v d → RpA K H vs ds → RpA K H (v :: vs) (d :: ds)
end

section
variable {K : PySem.W.Frag} {H H' : Hp}
theorem Same.seqT {a : Addr} {xs : List V} (e : Same H H') (h : SqT K H a xs) : SqT K H' a xs := by
  rcases h with (h | ⟨o, h⟩) | h
  · exact .inl (.inl (e _ _ h))
  · exact .inl (.inr ⟨o, e _ _ h⟩)
  · exact .inr h
mutual
theorem Rp.mono (e : Same H H') : ∀ (d : D) (v : V), Rp K H v d → Rp K H' v d
  | .none, _, h => by cases h; exact .none
  | .bool _, _, h => by cases h; exact .bool _
  | .int _, _, h => by cases h; exact .int _
  | .str _, _, h => by cases h; exact .str _
  | .list ds, _, h => by
    cases h with
    | list h1 h2 h3 => exact .list (e _ _ h1) h2 (RpA.mono e ds _ h3)
  | .tuple ds, _, h => by
    cases h with
    | tuple h1 h2 h3 => exact .tuple (e _ _ h1) h2 (RpA.mono e ds _ h3)
  | .dk _, _, h => by
    cases h with
    | dk h1 h2 => exact .dk (e _ _ h1) h2
  | .dt _, _, h => by
    cases h with
    | dt h1 h2 => exact .dt (e _ _ h1) h2
  | .scr _, _, h => by
    cases h with
    | scr h1 h2 => exact .scr (e.seq h1) h2
  | .ktup _, _, h => by
    cases h with
    | ktup h1 h2 => exact .ktup h1 h2
  | .ftup ds, _, h => by
    cases h with
    | ftup h1 h2 h3 h4 => exact .ftup (e _ _ h1) h2 h3 (RpA.mono e ds _ h4)
  | .fdt _, _, h => by
    cases h with
    | fdt h1 h2 => exact .fdt (e _ _ h1) h2
theorem RpA.mono (e : Same H H') : ∀ (ds : List D) (vs : List V), RpA K H vs ds → RpA K H' vs ds
  | [], _, h => by cases h; exact .nil
  | d :: ds, _, h => by
    cases h with
    | cons h1 h2 => exact .cons (Rp.mono e d _ h1) (RpA.mono e ds _ h2)
end
theorem Rp.up {d : D} {v : V} (h : Rp K H v d) (e : Same H H') : Rp K H' v d := Rp.mono e d v h
theorem RpA.up {ds : List D} {vs : List V} (h : RpA K H vs ds) (e : Same H H') : RpA K H' vs ds := RpA.mono e ds vs h
theorem RpA.len : ∀ {ds : List D} {vs : List V}, RpA K H vs ds → vs.length = ds.length
  | _, _, .nil => rfl
  | _, _, .cons _ t => by rw [List.length_cons, List.length_cons, RpA.len t]
theorem RpA.get : ∀ {ds : List D} {vs : List V} {i : Nat} {d : D}, RpA K H vs ds → ds[i]? = some d → ∃ v, vs[i]? = some v ∧ Rp K H v d
  | _, _, _, _, .nil, h => by simp at h
  | _, _, 0, _, .cons r _, h => by
    simp at h
    subst h
    exact ⟨_, rfl, r⟩
  | _, _, i + 1, d, .cons _ t, h => by
    obtain ⟨v, h1, h2⟩ := RpA.get (i := i) (d := d) t (by simpa using h)
    exact ⟨v, by simpa using h1, h2⟩
theorem RpA.getV : ∀ {ds : List D} {vs : List V} {i : Nat} {v : V}, RpA K H vs ds → vs[i]? = some v → ∃ d, ds[i]? = some d ∧ Rp K H v d
  | _, _, _, _, .nil, h => by simp at h
  | _, _, 0, _, .cons r _, h => by
    simp at h
    subst h
    exact ⟨_, rfl, r⟩
  | _, _, i + 1, v, .cons _ t, h => by
    obtain ⟨d, h1, h2⟩ := RpA.getV (i := i) (v := v) t (by simpa using h)
    exact ⟨d, by simpa using h1, h2⟩
theorem RpA.append : ∀ {ds es : List D} {vs ws : List V}, RpA K H vs ds → RpA K H ws es → RpA K H (vs ++ ws) (ds ++ es)
  | _, _, _, _, .nil, s => s
  | _, _, _, _, .cons r t, s => .cons r (RpA.append t s)
theorem RpA.take : ∀ {ds : List D} {vs : List V} (n : Nat), RpA K H vs ds → RpA K H (vs.take n) (ds.take n)
  | _, _, 0, _ => .nil
  | _, _, _ + 1, .nil => .nil
  | _, _, n + 1, .cons r t => .cons r (RpA.take n t)
theorem RpA.drop : ∀ {ds : List D} {vs : List V} (n : Nat), RpA K H vs ds → RpA K H (vs.drop n) (ds.drop n)
  | _, _, 0, r => r
  | _, _, _ + 1, .nil => .nil
  | _, _, n + 1, .cons _ t => RpA.drop n t
theorem RpA.set {v : V} {d : D} (r : Rp K H v d) : ∀ {ds : List D} {vs : List V} (i : Nat), RpA K H vs ds → RpA K H (vs.set i v) (ds.set i d)
  | _, _, _, .nil => .nil
  | _, _, 0, .cons _ t => .cons r t
  | _, _, i + 1, .cons q t => .cons q (RpA.set r i t)
theorem RpA.rev {ds : List D} {vs : List V} (h : RpA K H vs ds) : RpA K H vs.reverse ds.reverse := by
  induction ds generalizing vs with
  | nil => cases h; exact .nil
  | cons d ds ih =>
    cases h with
    | cons r t =>
      rw [List.reverse_cons, List.reverse_cons]
      exact RpA.append (ih t) (.cons r .nil)
theorem RpA.rep {ds : List D} {vs : List V} (h : RpA K H vs ds) : ∀ k : Nat, RpA K H (List.replicate k vs).flatten (List.replicate k ds).flatten
  | 0 => .nil
  | k + 1 => by
    rw [List.replicate_succ, List.replicate_succ, List.flatten_cons, List.flatten_cons]
    exact RpA.append h (RpA.rep h k)
theorem RpA.nil_iff {ds : List D} {vs : List V} (h : RpA K H vs ds) : vs = [] ↔ ds = [] := by
  cases h <;> simp
theorem Rp.of_sc {d : D} {v : V} (h : d.sc = some v) : Rp K H v d := by
  cases d <;> simp only [D.sc, Option.some.injEq, reduceCtorEq] at h <;> subst h
  · exact .none
  · exact .bool _
  · exact .int _
  · exact .str _
theorem Rp.sc {d : D} {v w : V} (r : Rp K H v d) (h : d.sc = some w) : v = w := by
  cases r <;> simp only [D.sc, Option.some.injEq, reduceCtorEq] at h <;> exact h
theorem scV_of_sc {d : D} {v : V} (h : d.sc = some v) : scV v = true := by
  cases d <;> simp only [D.sc, Option.some.injEq, reduceCtorEq] at h <;> subst h <;> rfl
theorem Rp.of_scV {v : V} (h : scV v = true) : Rp K H v (dv v) := by
  cases v <;> first | exact .none | exact .bool _ | exact .int _ | exact .str _ | (cases h)
end

/-! ### heaps with some addresses hidden -/
def hid (A : List Addr) (H : Hp) : Hp := fun b => if b ∈ A then none else H b
theorem hid_some {A : List Addr} {H : Hp} {b : Addr} {o : HO} (h : hid A H b = some o) : b ∉ A ∧ H b = some o := by
  unfold hid at h
  split at h
  · cases h
  · exact ⟨by assumption, h⟩
theorem hid_of {A : List Addr} {H : Hp} {b : Addr} {o : HO} (h : b ∉ A) (e : H b = some o) : hid A H b = some o := by
  unfold hid
  rw [if_neg h]
  exact e
theorem hid_mono {A : List Addr} {H H' : Hp} (e : Same H H') : Same (hid A H) (hid A H') := fun b o h => by
  obtain ⟨h1, h2⟩ := hid_some h
  exact hid_of h1 (e _ _ h2)
theorem hid_le {A B : List Addr} {H : Hp} (h : ∀ b ∈ B, b ∈ A ∨ H b = none) : Same (hid A H) (hid B H) := fun b o q => by
  obtain ⟨h1, h2⟩ := hid_some q
  refine hid_of (fun hb => ?_) h2
  rcases h b hb with z | z
  · exact h1 z
  · rw [h2] at z
    cases z
theorem hid_sub {A : List Addr} {H : Hp} : Same (hid A H) H := fun b o h => (hid_some h).2
theorem same_upd {H : Hp} {p : Addr} {o : HO} (h : H p = none) : Same H (upd H p o) := fun b x e => by
  rw [upd_ne (ne_of_none e h)]
  exact e
theorem hid_upd {A : List Addr} {H : Hp} {a : Addr} {o : HO} (h : a ∈ A) : hid A (upd H a o) = hid A H := by
  funext b
  unfold hid
  split
  · rfl
  · rename_i hb
    rw [upd_ne (fun z => hb (by rw [z]; exact h))]

/-! ### slots -/
abbrev Env := List (Option D)
/-- l, k, t: a list, a dict, a dict with tuples as keys, of the def's own; p: a list of the caller's that is changed in place -/
inductive Kd where
  | l | k | t | p
  deriving DecidableEq
abbrev Ow := List (Nat × Kd)
/-- the frame: hidden addresses of the callers; the slots whose lists are the caller's, with their addresses -/
structure Fm where
  A : List Addr
  fx : List (Nat × Addr)
def refAt (σ : St) (i : Nat) : Option Addr := match σ[i]? with
  | some (some (.ref a)) => some a
  | _ => none
theorem refAt_some {σ : St} {i : Nat} {a : Addr} (h : refAt σ i = some a) : σ[i]? = some (some (.ref a)) := by
  unfold refAt at h
  split at h
  · cases h
    assumption
  · cases h
theorem refAt_of {σ : St} {i : Nat} {a : Addr} (h : σ[i]? = some (some (.ref a))) : refAt σ i = some a := by
  unfold refAt
  rw [h]
def own (O : Ow) (σ : St) : List Addr := O.filterMap fun p => refAt σ p.1
theorem mem_own {O : Ow} {σ : St} {a : Addr} : a ∈ own O σ ↔ ∃ i k, (i, k) ∈ O ∧ σ[i]? = some (some (.ref a)) := by
  unfold own
  rw [List.mem_filterMap]
  constructor
  · rintro ⟨⟨i, k⟩, h1, h2⟩
    exact ⟨i, k, h1, refAt_some h2⟩
  · rintro ⟨i, k, h1, h2⟩
    exact ⟨(i, k), h1, refAt_of h2⟩
def Cel (K : PySem.W.Frag) (Hh H : Hp) : Kd → Addr → D → Prop
  | .l, a, d => ∃ xs ds, d = .list ds ∧ H a = some (.lst xs) ∧ xs.length ≤ sizeLine ∧ RpA K Hh xs ds
  | .p, a, d => ∃ xs ds, d = .list ds ∧ H a = some (.lst xs) ∧ xs.length ≤ sizeLine ∧ RpA K Hh xs ds
  | .k, a, d => ∃ kvs, d = .dk kvs ∧ H a = some (.dK kvs) ∧ (kvs.all fun p => scV p.2) = true
  | .t, a, d => (∃ kvs, d = .dt kvs ∧ H a = some (.dT kvs) ∧ (kvs.all fun p => scV p.2) = true) ∨ ∃ o kvs, d = .fdt kvs ∧ H a = some (.frz o (.dT kvs)) ∧ (kvs.all fun p => scV p.2) = true
/-- the objects of cells: lists and dicts -/
def celO : HO → Bool
  | .lst _ => true
  | .dK _ => true
  | .dT _ => true
  | .frz _ (.dT _) => true
  | _ => false
theorem Cel.some {K : PySem.W.Frag} {Hh H : Hp} {k : Kd} {a : Addr} {d : D} (h : Cel K Hh H k a d) : ∃ o, H a = some o ∧ celO o = true := by
  cases k with
  | l => obtain ⟨xs, ds, _, e, _⟩ := h; exact ⟨_, e, rfl⟩
  | p => obtain ⟨xs, ds, _, e, _⟩ := h; exact ⟨_, e, rfl⟩
  | k => obtain ⟨kvs, _, e, _⟩ := h; exact ⟨_, e, rfl⟩
  | t =>
    rcases h with ⟨kvs, _, e, _⟩ | ⟨o, kvs, _, e, _⟩
    · exact ⟨_, e, rfl⟩
    · exact ⟨_, e, rfl⟩
theorem Cel.up {K : PySem.W.Frag} {Hh Hh' H H' : Hp} {k : Kd} {a : Addr} {d : D} (h : Cel K Hh H k a d) (e1 : Same Hh Hh') (e2 : H' a = H a) : Cel K Hh' H' k a d := by
  cases k with
  | l =>
    obtain ⟨xs, ds, rfl, e, z, r⟩ := h
    exact ⟨xs, ds, rfl, e2.trans e, z, r.up e1⟩
  | p =>
    obtain ⟨xs, ds, rfl, e, z, r⟩ := h
    exact ⟨xs, ds, rfl, e2.trans e, z, r.up e1⟩
  | k =>
    obtain ⟨kvs, rfl, e, z⟩ := h
    exact ⟨kvs, rfl, e2.trans e, z⟩
  | t =>
    rcases h with ⟨kvs, rfl, e, z⟩ | ⟨o, kvs, rfl, e, z⟩
    · exact .inl ⟨kvs, rfl, e2.trans e, z⟩
    · exact .inr ⟨o, kvs, rfl, e2.trans e, z⟩
/-- as a value that is read -/
theorem Cel.rp {K : PySem.W.Frag} {Hh H B : Hp} {k : Kd} {a : Addr} {d : D} (h : Cel K Hh H k a d) (e1 : Same Hh B) (e2 : B a = H a) : Rp K B (.ref a) d := by
  cases k with
  | l =>
    obtain ⟨xs, ds, rfl, e, z, r⟩ := h
    exact .list (e2.trans e) z (r.up e1)
  | p =>
    obtain ⟨xs, ds, rfl, e, z, r⟩ := h
    exact .list (e2.trans e) z (r.up e1)
  | k =>
    obtain ⟨kvs, rfl, e, z⟩ := h
    exact .dk (e2.trans e) z
  | t =>
    rcases h with ⟨kvs, rfl, e, z⟩ | ⟨o, kvs, rfl, e, z⟩
    · exact .dt (e2.trans e) z
    · exact .fdt (e2.trans e) z

def hs (m : Bool) (F : Fm) (O : Ow) (σ : St) : List Addr := if m then F.A ++ own O σ else F.A
structure EnvR (K : PySem.W.Frag) (O : Ow) (F : Fm) (ρ : Env) (σ : St) (H : Hp) : Prop where
  len : ρ.length = σ.length
  val : ∀ i d, ρ[i]? = some (some d) → (∀ k, (i, k) ∉ O) → ∃ v, σ[i]? = some (some v) ∧ Rp K (hid (F.A ++ own O σ) H) v d
  cel : ∀ i k, (i, k) ∈ O → (∃ d a, ρ[i]? = some (some d) ∧ σ[i]? = some (some (.ref a)) ∧ a ∉ F.A ∧ Cel K (hid (F.A ++ own O σ) H) H k a d) ∨ (ρ[i]? = some none ∧ σ[i]? = some none)
  dis : ∀ i k j k' a, (i, k) ∈ O → (j, k') ∈ O → σ[i]? = some (some (.ref a)) → σ[j]? = some (some (.ref a)) → i = j
  adom : ∀ a ∈ F.A, ∃ o, H a = some o ∧ celO o = true
  fix : ∀ p ∈ F.fx, σ[p.1]? = some (some (.ref p.2))
  fxO : ∀ p ∈ F.fx, (p.1, Kd.p) ∈ O
def frzO : HO → Bool
  | .frz _ _ => true
  | _ => false
/-- what a statement may do: only the owned cells change, none that is known to the object -/
structure Stp (O : Ow) (σ : St) (H : Hp) (σ' : St) (H' : Hp) : Prop where
  keep : ∀ b o, b ∉ own O σ ∨ frzO o = true → H b = some o → H' b = some o
  new : ∀ b ∈ own O σ', b ∈ own O σ ∨ H b = none
theorem Stp.refl {O : Ow} {σ : St} {H : Hp} : Stp O σ H σ H := ⟨fun _ _ _ e => e, fun _ h => .inl h⟩
theorem Stp.trans {O : Ow} {σ σ1 σ2 : St} {H H1 H2 : Hp} (a : Stp O σ H σ1 H1) (b : Stp O σ1 H1 σ2 H2) : Stp O σ H σ2 H2 where
  keep := fun c o h e => b.keep c o (h.imp (fun h z => by
    rcases a.new c z with q | q
    · exact h q
    · rw [e] at q; cases q) id) (a.keep c o h e)
  new := fun c h => by
    rcases b.new c h with q | q
    · exact a.new c q
    · by_cases hc : c ∈ own O σ
      · exact .inl hc
      · refine .inr ?_
        cases e : H c with
        | none => rfl
        | some o =>
          rw [a.keep c o (.inl hc) e] at q
          cases q
theorem Stp.same {O : Ow} {σ : St} {H H' : Hp} (e : Same H H') : Stp O σ H σ H' := ⟨fun b o _ q => e b o q, fun _ h => .inl h⟩

section
variable {K : PySem.W.Frag} {O : Ow} {F : Fm} {ρ : Env} {σ : St} {H H' : Hp}
theorem EnvR.odom (E : EnvR K O F ρ σ H) : ∀ a ∈ own O σ, ∃ o, H a = some o ∧ celO o = true := fun a ha => by
  obtain ⟨i, k, h1, h2⟩ := mem_own.mp ha
  rcases E.cel i k h1 with ⟨d, b, _, q2, _, q4⟩ | ⟨_, q⟩
  · rw [h2] at q2
    cases q2
    exact q4.some
  · rw [h2] at q
    cases q
theorem EnvR.hdom (E : EnvR K O F ρ σ H) (m : Bool) : ∀ a ∈ hs m F O σ, ∃ o, H a = some o ∧ celO o = true := fun a ha => by
  unfold hs at ha
  cases m with
  | false => exact E.adom a ha
  | true =>
    rcases List.mem_append.mp ha with z | z
    · exact E.adom a z
    · exact E.odom a z
theorem EnvR.notup (E : EnvR K O F ρ σ H) : ∀ a ∈ own O σ, ∀ xs, H a ≠ some (.tup xs) := fun a ha xs z => by
  obtain ⟨o, e, q⟩ := E.odom a ha
  rw [e] at z
  cases z
  cases q
theorem EnvR.up (E : EnvR K O F ρ σ H) (e : Same H H') : EnvR K O F ρ σ H' where
  len := E.len
  val := fun i d h n => by
    obtain ⟨v, h1, h2⟩ := E.val i d h n
    exact ⟨v, h1, h2.up (hid_mono e)⟩
  cel := fun i k h => by
    rcases E.cel i k h with ⟨d, a, q1, q2, q3, q4⟩ | q
    · refine .inl ⟨d, a, q1, q2, q3, q4.up (hid_mono e) ?_⟩
      obtain ⟨o, e1, _⟩ := q4.some
      rw [e1, e a o e1]
    · exact .inr q
  dis := E.dis
  adom := fun a h => by
    obtain ⟨o, q1, q2⟩ := E.adom a h
    exact ⟨o, e a o q1, q2⟩
  fix := E.fix
  fxO := E.fxO
theorem refAt_set {σ : St} {i j : Nat} {v : Option V} (h : i ≠ j) : refAt (σ.set i v) j = refAt σ j := by
  unfold refAt
  rw [List.getElem?_set_ne h]
theorem filterMap_eq {α β : Type} {f g : α → Option β} : ∀ {l : List α}, (∀ x ∈ l, f x = g x) → l.filterMap f = l.filterMap g
  | [], _ => rfl
  | x :: l, h => by
    rw [List.filterMap_cons, List.filterMap_cons, h x List.mem_cons_self, filterMap_eq (l := l) fun y hy => h y (List.mem_cons_of_mem _ hy)]
theorem own_set {i : Nat} {v : Option V} (n : ∀ k, (i, k) ∉ O) : own O (σ.set i v) = own O σ := by
  unfold own
  refine filterMap_eq fun p hp => ?_
  exact refAt_set fun z => n p.2 (by rw [z]; exact hp)
/-- a slot that owns nothing takes a value -/
theorem EnvR.set {i : Nat} {v : V} {d : D} (E : EnvR K O F ρ σ H) (n : ∀ k, (i, k) ∉ O) (r : Rp K (hid (F.A ++ own O σ) H) v d) : EnvR K O F (ρ.set i (some d)) (σ.set i (some v)) H where
  len := by rw [List.length_set, List.length_set, E.len]
  val := fun j e h nj => by
    rw [own_set n]
    by_cases hij : i = j
    · subst hij
      by_cases hl : i < ρ.length
      · rw [List.getElem?_set_self hl] at h
        cases h
        exact ⟨v, List.getElem?_set_self (by rw [← E.len]; exact hl), r⟩
      · rw [List.getElem?_eq_none (by rw [List.length_set]; omega)] at h
        cases h
    · rw [List.getElem?_set_ne hij] at h ⊢
      exact E.val j e h nj
  cel := fun j k h => by
    have hij : i ≠ j := fun z => n k (by rw [z]; exact h)
    rw [own_set n, List.getElem?_set_ne hij, List.getElem?_set_ne hij]
    exact E.cel j k h
  dis := fun j k j' k' a h h' e e' => by
    have hj : i ≠ j := fun z => n k (by rw [z]; exact h)
    have hj' : i ≠ j' := fun z => n k' (by rw [z]; exact h')
    rw [List.getElem?_set_ne hj] at e
    rw [List.getElem?_set_ne hj'] at e'
    exact E.dis j k j' k' a h h' e e'
  adom := E.adom
  fix := fun p hp => by
    rw [List.getElem?_set_ne (fun z => n _ (by rw [z]; exact E.fxO p hp))]
    exact E.fix p hp
  fxO := E.fxO
/-- a slot that owns nothing is forgotten -/
theorem EnvR.forget {i : Nat} (E : EnvR K O F ρ σ H) (n : ∀ k, (i, k) ∉ O) : EnvR K O F (ρ.set i none) (σ.set i none) H where
  len := by rw [List.length_set, List.length_set, E.len]
  val := fun j e h nj => by
    rw [own_set n]
    by_cases hij : i = j
    · subst hij
      by_cases hl : i < ρ.length
      · rw [List.getElem?_set_self hl] at h
        cases h
      · rw [List.getElem?_eq_none (by rw [List.length_set]; omega)] at h
        cases h
    · rw [List.getElem?_set_ne hij] at h ⊢
      exact E.val j e h nj
  cel := fun j k h => by
    have hij : i ≠ j := fun z => n k (by rw [z]; exact h)
    rw [own_set n, List.getElem?_set_ne hij, List.getElem?_set_ne hij]
    exact E.cel j k h
  dis := fun j k j' k' a h h' e e' => by
    have hj : i ≠ j := fun z => n k (by rw [z]; exact h)
    have hj' : i ≠ j' := fun z => n k' (by rw [z]; exact h')
    rw [List.getElem?_set_ne hj] at e
    rw [List.getElem?_set_ne hj'] at e'
    exact E.dis j k j' k' a h h' e e'
  adom := E.adom
  fix := fun p hp => by
    rw [List.getElem?_set_ne (fun z => n _ (by rw [z]; exact E.fxO p hp))]
    exact E.fix p hp
  fxO := E.fxO
end
end Pd

/-! Pd1: what an expression, a test, an argument list is worth by data. -/
namespace Pd
open PySem L2

/-- the classes of errors by number; the slots that own a list or dict; what is wished of an error -/
structure Pc where
  cl : Nat → Addr
  O : Ow
  W : WX
abbrev W0 : WX := fun _ _ _ _ => False
abbrev Pc.w0 (c : Pc) : Pc := { c with W := W0 }
abbrev DE := Env → Out D
abbrev DT := Env → Out Bool
abbrev DA := Env → Out (List D)

section
variable (K : PySem.W.Frag) (c : Pc)
def erW (σ : St) (H : Hp) : Nat → Prop := fun x => ∀ H', Same H H' → c.W (.ref (c.cl x)) none σ H'
def rdE (m : Bool) (f : DE) : TE := fun σ H Q => ∃ F ρ, EnvR K c.O F ρ σ H ∧ (f ρ).wp (fun d => ∀ v H', Same H H' → Rp K (hid (hs m F c.O σ) H') v d → Q v H') (erW c σ H)
def rdT (f : DT) : TT := fun σ H Q => ∃ F ρ, EnvR K c.O F ρ σ H ∧ (f ρ).wp (fun b => ∀ H', Same H H' → Q b H') (erW c σ H)
def rdA (m : Bool) (f : DA) : TA := fun σ H Q => ∃ F ρ, EnvR K c.O F ρ σ H ∧ (f ρ).wp (fun ds => ∀ vs H', Same H H' → RpA K (hid (hs m F c.O σ) H') vs ds → Q vs H') (erW c σ H)
/-- a new list, dict -/
def rdF (k : Kd) (f : DE) : TE := fun σ H Q => ∃ F ρ, EnvR K c.O F ρ σ H ∧ (f ρ).wp (fun d => ∀ a H', Same H H' → H a = none → Cel K (hid (a :: (F.A ++ own c.O σ)) H') H' k a d → Q (.ref a) H') (erW c σ H)
end
abbrev PD (X : Cx) (c : Pc) (m : Bool) (e : Expr) (f : DE) : Prop := PE X e (rdE X.K c m f)
abbrev PTD (X : Cx) (c : Pc) (e : Expr) (f : DT) : Prop := PT X e (rdT X.K c f)
abbrev PWD (X : Cx) (c : Pc) (e : Expr) (f : DT) : Prop := PW X e (rdT X.K c f)
abbrev PAD (X : Cx) (c : Pc) (m : Bool) (es : List Expr) (f : DA) : Prop := PA X es (rdA X.K c m f)
abbrev PF (X : Cx) (c : Pc) (k : Kd) (e : Expr) (f : DE) : Prop := PE X e (rdF X.K c k f)

section
variable {X : Cx} {c : Pc} {m : Bool} {e a b : Expr} {pos p : Pos}
theorem PE.imp {t t' : TE} (h : PE X e t) (f : ∀ σ H Q, t' σ H Q → t σ H Q) : PE X e t' := ⟨fun pins s σ H Q I q => h.run pins s σ H Q I (f σ H Q q)⟩
theorem PT.imp {t t' : TT} (h : PT X e t) (f : ∀ σ H Q, t' σ H Q → t σ H Q) : PT X e t' := ⟨fun pins s σ H Q I q => h.run pins s σ H Q I (f σ H Q q)⟩
theorem PW.imp {t t' : TT} (h : PW X e t) (f : ∀ σ H Q, t' σ H Q → t σ H Q) : PW X e t' := ⟨fun w pins s σ H Q I q => h.run w pins s σ H Q I (f σ H Q q)⟩
theorem PA.imp {es : List Expr} {t t' : TA} (h : PA X es t) (f : ∀ σ H Q, t' σ H Q → t σ H Q) : PA X es t' := ⟨fun p pins s σ H Q I q => h.run p pins s σ H Q I (f σ H Q q)⟩
theorem erW.up {c : Pc} {σ : St} {H H1 : Hp} {x : Nat} (h : erW c σ H x) (e : Same H H1) : erW c σ H1 x := fun H' s => h H' (e.trans s)
theorem hs_false_le {F : Fm} {O : Ow} {σ : St} {H : Hp} : Same (hid (F.A ++ own O σ) H) (hid F.A H) := hid_le fun b h => .inl (List.mem_append_left _ h)
theorem hs_le {m : Bool} {F : Fm} {O : Ow} {σ : St} {H : Hp} : Same (hid (F.A ++ own O σ) H) (hid (hs m F O σ) H) := by
  cases m
  · exact hs_false_le
  · exact Same.refl _
theorem PD.weak {f : DE} (h : PD X c true e f) : PD X c m e f := PE.imp h fun σ H Q ⟨F, ρ, E, w⟩ => ⟨F, ρ, E, w.imp (fun d k v H' s r => k v H' s (r.up hs_le)) fun _ z => z⟩

/-! ### names -/
def dVar (i : Nat) : DE := fun ρ => match ρ[i]? with
  | some (some d) => .ok d
  | _ => .bad
theorem dVar_wp {i : Nat} {ρ : Env} {P : D → Prop} {E : Nat → Prop} (h : (dVar i ρ).wp P E) : ∃ d, ρ[i]? = some (some d) ∧ P d := by
  unfold dVar at h
  split at h
  · rename_i d q
    exact ⟨d, q, h⟩
  · exact h.elim
def noOw (O : Ow) (i : Nat) : Bool := O.all fun p => p.1 != i
theorem noOw_of {O : Ow} {i : Nat} (h : noOw O i = true) : ∀ k, (i, k) ∉ O := fun k hk => by
  have z := List.all_eq_true.mp h (i, k) hk
  simp at z
def isOw (O : Ow) (i : Nat) (k : Kd) : Bool := O.any fun p => p.1 == i && p.2 == k
theorem isOw_of {O : Ow} {i : Nat} {k : Kd} (h : isOw O i k = true) : (i, k) ∈ O := by
  obtain ⟨⟨j, k'⟩, h1, h2⟩ := List.any_eq_true.mp h
  simp only [Bool.and_eq_true, beq_iff_eq] at h2
  obtain ⟨rfl, rfl⟩ := h2
  exact h1
theorem pd_var (i : Nat) {x : Str} (ho : noOw c.O i = true := by rfl) (hN : X.N[i]? = some x := by rfl) (hv : Vis X.env.scope x := by first | exact Or.inl rfl | exact Or.inr (Or.inl rfl) | exact Or.inr (Or.inr rfl))
    (hd : (x == ("__debug__" : Str)) = false := by decide) (hcd : (x == ("__classdict__" : Str)) = false := by decide) : PD X c m (.Name x pos) (dVar i) :=
  PE.imp (pe_var hN hv hd hcd) fun σ H Q ⟨F, ρ, E, w⟩ => by
    obtain ⟨d, h1, h2⟩ := dVar_wp w
    obtain ⟨v, h3, h4⟩ := E.val i d h1 (noOw_of ho)
    exact ⟨v, h3, h2 v H (Same.refl H) (h4.up hs_le)⟩
/-- a name whose list is owned, to be read -/
theorem pd_varO (i : Nat) (k : Kd) {x : Str} (ho : isOw c.O i k = true := by rfl) (hN : X.N[i]? = some x := by rfl) (hv : Vis X.env.scope x := by first | exact Or.inl rfl | exact Or.inr (Or.inl rfl) | exact Or.inr (Or.inr rfl))
    (hd : (x == ("__debug__" : Str)) = false := by decide) (hcd : (x == ("__classdict__" : Str)) = false := by decide) : PD X c false (.Name x pos) (dVar i) :=
  PE.imp (pe_var hN hv hd hcd) fun σ H Q ⟨F, ρ, E, w⟩ => by
    obtain ⟨d, h1, h2⟩ := dVar_wp w
    rcases E.cel i k (isOw_of ho) with ⟨d', a, q1, q2, q3, q4⟩ | ⟨q, _⟩
    · rw [h1] at q1
      cases q1
      refine ⟨_, q2, h2 _ H (Same.refl H) (q4.rp hs_false_le ?_)⟩
      show hid F.A H a = H a
      unfold hid
      rw [if_neg q3]
    · rw [h1] at q
      cases q

/-! ### constants -/
def dC (d : D) : DE := fun _ => .ok d
theorem pd_int {i : Int} {j : Nat} : PD X c m (.Constant (.int i) j pos) (dC (.int i)) := PE.imp pe_int fun σ H Q ⟨F, ρ, E, w⟩ => w _ H (Same.refl H) (.int i)
theorem pd_bl {i : Bool} {j : Nat} : PD X c m (.Constant (.bool i) j pos) (dC (.bool i)) := PE.imp pe_bl fun σ H Q ⟨F, ρ, E, w⟩ => w _ H (Same.refl H) (.bool i)
theorem pd_non {j : Nat} : PD X c m (.Constant .none j pos) (dC .none) := PE.imp pe_non fun σ H Q ⟨F, ρ, E, w⟩ => w _ H (Same.refl H) .none
theorem pd_str {x : Str} {j : Nat} : PD X c m (.Constant (.str x) j pos) (dC (.str x)) := PE.imp pe_str fun σ H Q ⟨F, ρ, E, w⟩ => w _ H (Same.refl H) (.str x)
/-- a module's constant -/
theorem pd_glob {x : Str} {v : V} {u : Value} {d : D} (hm : X.mg x = some u) (r : RelV v u) (hr : ∀ H, Rp X.K H v d) (hg : Gl X x := by rfl) (hd : (x == ("__debug__" : Str)) = false := by decide) : PD X c m (.Name x pos) (dC d) :=
  PE.imp (pe_glob hg hm r hd) fun σ H Q ⟨F, ρ, E, w⟩ => w _ H (Same.refl H) (hr _)

/-! ### lists of arguments -/
def dNil : DA := fun _ => .ok []
def dCons (f : DE) (g : DA) : DA := fun ρ => (f ρ).bind fun d => (g ρ).bind fun ds => .ok (d :: ds)
theorem pd_nil : PAD X c m [] dNil := PA.imp pa_nil fun σ H Q ⟨F, ρ, E, w⟩ => w [] H (Same.refl H) .nil
theorem pd_cons {es : List Expr} {f : DE} {g : DA} (ha : PD X c m e f) (hr : PAD X c m es g) (hs : starEach (e :: es) X.env = (false, eval e X.env) :: starEach es X.env := by rfl) : PAD X c m (e :: es) (dCons f g) :=
  PA.imp (pa_cons ha hr hs) fun σ H Q ⟨F, ρ, E, w⟩ => ⟨F, ρ, E, (Out.wp_bind w).imp (fun d k v H1 s1 r1 => ⟨F, ρ, E.up s1, (Out.wp_bind k).imp (fun ds k2 vs H2 s2 r2 =>
    k2 (v :: vs) H2 (s1.trans s2) (.cons (r1.up (hid_mono s2)) r2)) fun x z => z.up s1⟩) fun x z => z⟩

/-! ### operators -/
def Out.of {α : Type} (o : Option α) : Out α := match o with
  | some a => .ok a
  | none => .bad
@[simp] theorem of_some {α : Type} (a : α) : Out.of (some a) = .ok a := rfl
@[simp] theorem of_none {α : Type} : Out.of (none : Option α) = .bad := rfl
theorem of_wp {α : Type} {o : Option α} {P : α → Prop} {E : Nat → Prop} (h : (Out.of o).wp P E) : ∃ a, o = some a ∧ P a := by
  cases o with
  | some a => exact ⟨a, rfl, h⟩
  | none => exact h.elim
def Dom (A : List Addr) (H : Hp) : Prop := ∀ a ∈ A, ∃ o, H a = some o ∧ celO o = true
theorem Dom.free {A : List Addr} {H : Hp} {p : Addr} (h : Dom A H) (n : H p = none) : p ∉ A := fun z => by
  obtain ⟨o, e, _⟩ := h p z
  rw [n] at e
  cases e
theorem Dom.up {A : List Addr} {H H' : Hp} (h : Dom A H) (e : Same H H') : Dom A H' := fun a ha => by
  obtain ⟨o, q1, q2⟩ := h a ha
  exact ⟨o, e a o q1, q2⟩
/-- an operation on values by data -/
def rdO (K : PySem.W.Frag) (g : D → D → Option D) : R2 := fun x y H Q => ∃ A dx dy, Dom A H ∧ Rp K (hid A H) x dx ∧ Rp K (hid A H) y dy ∧ ∃ d, g dx dy = some d ∧ ∀ v H', Same H H' → Rp K (hid A H') v d → Q v H'
def rdC (K : PySem.W.Frag) (g : D → D → Option Bool) : R2 := fun x y H Q => ∃ A dx dy, Dom A H ∧ Rp K (hid A H) x dx ∧ Rp K (hid A H) y dy ∧ ∃ b, g dx dy = some b ∧ Q (.bl b) H
def rdU (K : PySem.W.Frag) (g : D → Option D) : V → Hp → VK → Prop := fun x H Q => ∃ A dx, Dom A H ∧ Rp K (hid A H) x dx ∧ ∃ d, g dx = some d ∧ ∀ v H', Same H H' → Rp K (hid A H') v d → Q v H'
def rdL (K : PySem.W.Frag) (g : List D → Option D) : List V → Hp → VK → Prop := fun vs H Q => ∃ A ds, Dom A H ∧ RpA K (hid A H) vs ds ∧ ∃ d, g ds = some d ∧ ∀ v H', Same H H' → Rp K (hid A H') v d → Q v H'
def dOp (g : D → D → Option D) (f1 f2 : DE) : DE := fun ρ => (f1 ρ).bind fun x => (f2 ρ).bind fun y => .of (g x y)
def dCmp (g : D → D → Option Bool) (f1 f2 : DE) : DT := fun ρ => (f1 ρ).bind fun x => (f2 ρ).bind fun y => .of (g x y)
def dUn (g : D → Option D) (f : DE) : DE := fun ρ => (f ρ).bind fun x => .of (g x)
def dCall (g : List D → Option D) (f : DA) : DE := fun ρ => (f ρ).bind fun x => .of (g x)
/-- a test as a value -/
def dBv (t : DT) : DE := fun ρ => (t ρ).bind fun b => .ok (.bool b)
variable {f f1 f2 f3 : DE} {t t1 t2 : DT}
theorem two {R : R2} {σ : St} {H : Hp} {Q : VK} {F : Fm} {ρ : Env} {P : D → D → V → V → Hp → Prop} (E : EnvR X.K c.O F ρ σ H)
    (w : (f1 ρ).wp (fun x => (f2 ρ).wp (fun y => ∀ v u H', Same H H' → Rp X.K (hid (hs m F c.O σ) H') v x → Rp X.K (hid (hs m F c.O σ) H') u y → R v u H' Q) (erW c σ H)) (erW c σ H)) : tOp R (rdE X.K c m f1) (rdE X.K c m f2) σ H Q :=
  ⟨F, ρ, E, w.imp (fun x k v H1 s1 r1 => ⟨F, ρ, E.up s1, k.imp (fun y k2 u H2 s2 r2 => k2 v u H2 (s1.trans s2) (r1.up (hid_mono s2)) r2) fun _ z => z.up s1⟩) fun _ z => z⟩
theorem pd_op {op : Operator} {g : D → D → Option D} (ho : OpR X (binaryOp op) (rdO X.K g)) (ha : PD X c m a f1) (hb : PD X c m b f2) : PD X c m (.BinOp a op b pos) (dOp g f1 f2) :=
  PE.imp (pe_op ho ha hb) fun σ H Q ⟨F, ρ, E, w⟩ => two (P := fun _ _ _ _ _ => True) E ((Out.wp_bind w).imp (fun x k => (Out.wp_bind k).imp (fun y k2 v u H' s r1 r2 => by
    obtain ⟨d, e, q⟩ := of_wp k2
    exact ⟨_, x, y, (E.up s).hdom m, r1, r2, d, e, fun v' H2 s2 r => q v' H2 (s.trans s2) r⟩) fun _ z => z) fun _ z => z)
theorem pt_cmpD {op : CmpOp} {g : D → D → Option Bool} (ho : OpR X (compareOp op) (rdC X.K g)) (hm : behindInMarks op b = false) (ha : PD X c false a f1) (hb : PD X c false b f2) : PTD X c (.Compare a [op] [b] pos) (dCmp g f1 f2) :=
  PT.imp (pt_cmpR ho ha hb hm) fun σ H Q ⟨F, ρ, E, w⟩ => two (m := false) (P := fun _ _ _ _ _ => True) E ((Out.wp_bind w).imp (fun x k => (Out.wp_bind k).imp (fun y k2 v u H' s r1 r2 => by
    obtain ⟨d, e, q⟩ := of_wp k2
    exact ⟨_, x, y, (E.up s).hdom false, r1, r2, d, e, d, rfl, q H' s⟩) fun _ z => z) fun _ z => z)
theorem pd_cmp {op : CmpOp} {g : D → D → Option Bool} (ho : OpR X (compareOp op) (rdC X.K g)) (hm : behindInMarks op b = false) (ha : PD X c false a f1) (hb : PD X c false b f2) : PD X c m (.Compare a [op] [b] pos) (dBv (dCmp g f1 f2)) :=
  PE.imp (pe_cmpR ho ha hb hm) fun σ H Q ⟨F, ρ, E, w⟩ => two (m := false) (P := fun _ _ _ _ _ => True) E ((Out.wp_bind (Out.wp_bind w)).imp (fun x k => (Out.wp_bind k).imp (fun y k2 v u H' s r1 r2 => by
    obtain ⟨d, e, q⟩ := of_wp k2
    exact ⟨_, x, y, (E.up s).hdom false, r1, r2, d, e, q _ H' s (.bool d)⟩) fun _ z => z) fun _ z => z)
theorem pd_un {op : UnaryOp} {g : D → Option D} (ho : UnR X (unaryOp op) (rdU X.K g)) (ha : PD X c m a f) : PD X c m (.UnaryOp op a pos) (dUn g f) :=
  PE.imp (pe_un ho ha) fun σ H Q ⟨F, ρ, E, w⟩ => ⟨F, ρ, E, (Out.wp_bind w).imp (fun x k v H1 s r => by
    obtain ⟨d, e, q⟩ := of_wp k
    exact ⟨_, x, (E.up s).hdom m, r, d, e, fun v' H2 s2 r2 => q v' H2 (s.trans s2) r2⟩) fun _ z => z⟩
/-- a < b < c -/
def dChain (g g' : D → D → Option Bool) (f1 f2 f3 : DE) : DT := fun ρ => (f1 ρ).bind fun x => (f2 ρ).bind fun y => (Out.of (g x y)).bind fun b => if b = true then (f3 ρ).bind fun z => .of (g' y z) else .ok false
theorem chain3 {g g' : D → D → Option Bool} {σ : St} {H : Hp} {Q : VK} {F : Fm} {ρ : Env} (E : EnvR X.K c.O F ρ σ H)
    (w : (dChain g g' f1 f2 f3 ρ).wp (fun b => ∀ H', Same H H' → Q (.bl b) H') (erW c σ H)) : tChain (rdC X.K g) (rdC X.K g') (rdE X.K c false f1) (rdE X.K c false f2) (rdE X.K c false f3) σ H Q := by
  refine ⟨F, ρ, E, (Out.wp_bind w).imp (fun x k v H1 s1 r1 => ⟨F, ρ, E.up s1, (Out.wp_bind k).imp (fun y k2 u H2 s2 r2 => ?_) fun _ z => z.up s1⟩) fun _ z => z⟩
  obtain ⟨b1, e1, q1⟩ := of_wp (Out.wp_bind k2)
  have s12 := s1.trans s2
  refine ⟨_, x, y, (E.up s12).hdom false, r1.up (hid_mono s2), r2, b1, e1, b1, rfl, ?_⟩
  cases b1 with
  | false =>
    rw [if_neg Bool.false_ne_true] at q1 ⊢
    exact q1 H2 s12
  | true =>
    rw [if_pos rfl] at q1 ⊢
    refine ⟨F, ρ, E.up s12, (Out.wp_bind q1).imp (fun z k3 z' H3 s3 r3 => ?_) fun _ z => z.up s12⟩
    obtain ⟨b2, e2, q2⟩ := of_wp k3
    exact ⟨_, y, z, (E.up (s12.trans s3)).hdom false, r2.up (hid_mono s3), r3, b2, e2, q2 H3 (s12.trans s3)⟩
theorem pd_chain {op op' : CmpOp} {d : Expr} {g g' : D → D → Option Bool} (ho : OpR X (compareOp op) (rdC X.K g)) (ho' : OpR X (compareOp op') (rdC X.K g')) (ha : PD X c false a f1) (hb : PD X c false b f2) (hc : PD X c false d f3)
    (hm : lastMarks [op, op'] [b, d] = false := by with_unfolding_all rfl) : PD X c m (.Compare a [op, op'] [b, d] pos) (dBv (dChain g g' f1 f2 f3)) :=
  PE.imp (pe_chain ho ho' ha hb hc hm) fun σ H Q ⟨F, ρ, E, w⟩ => chain3 E ((Out.wp_bind w).imp (fun b k H' s => k _ H' s (.bool b)) fun _ z => z)
theorem pt_chainD {op op' : CmpOp} {d : Expr} {g g' : D → D → Option Bool} (ho : OpR X (compareOp op) (rdC X.K g)) (ho' : OpR X (compareOp op') (rdC X.K g')) (ha : PD X c false a f1) (hb : PD X c false b f2) (hc : PD X c false d f3)
    (hm : lastMarks [op, op'] [b, d] = false := by with_unfolding_all rfl) : PTD X c (.Compare a [op, op'] [b, d] pos) (dChain g g' f1 f2 f3) :=
  PT.imp (pt_chain ho ho' ha hb hc hm) fun σ H Q ⟨F, ρ, E, w⟩ => chain3 E (w.imp (fun b k H' s => ⟨b, rfl, k H' s⟩) fun _ z => z)

/-! ### tests -/
/-- a value as a test -/
def dTv (f : DE) : DT := fun ρ => (f ρ).bind fun d => match d with
  | .bool b => .ok b
  | _ => .bad
theorem dTv_wp {ρ : Env} {P : Bool → Prop} {E : Nat → Prop} (h : (dTv f ρ).wp P E) : (f ρ).wp (fun d => ∃ b, d = .bool b ∧ P b) E := (Out.wp_bind h).imp (fun d k => by
  cases d <;> first | exact ⟨_, rfl, k⟩ | exact k.elim) fun _ z => z
theorem pt_valD (h : PD X c false e f) (he : ∀ whole, isTrue e X.env whole = (do let v ← whole; standAt e.pos; holding [v] (truthy v)) := by intro _; rfl) : PTD X c e (dTv f) :=
  PT.imp (pt_val h he) fun σ H Q ⟨F, ρ, E, w⟩ => ⟨F, ρ, E, (dTv_wp w).imp (fun d ⟨b, e, k⟩ v H' s r => by
    subst e
    cases r
    exact ⟨b, rfl, k H' s⟩) fun _ z => z⟩
def dAnd (t u : DT) : DT := fun ρ => (t ρ).bind fun b => if b = true then u ρ else .ok false
def dOr (t u : DT) : DT := fun ρ => (t ρ).bind fun b => if b = true then .ok true else u ρ
def dNot (t : DT) : DT := fun ρ => (t ρ).bind fun b => .ok (!b)
theorem pw_and1D (h : PTD X c a t) : PWD X c (.BoolOp .And [a] pos) t := pw_and1 h
theorem pw_or1D (h : PTD X c a t) : PWD X c (.BoolOp .Or [a] pos) t := pw_or1 h
theorem pw_andD {r : List Expr} (h : PTD X c a t1) (h2 : PWD X c (.BoolOp .And (b :: r) pos) t2) : PWD X c (.BoolOp .And (a :: b :: r) pos) (dAnd t1 t2) :=
  PW.imp (pw_and h h2) fun σ H Q ⟨F, ρ, E, w⟩ => ⟨F, ρ, E, (Out.wp_bind w).imp (fun b k H1 s => by
    cases b with
    | false =>
      rw [if_neg Bool.false_ne_true] at k ⊢
      exact k H1 s
    | true =>
      rw [if_pos rfl] at k ⊢
      exact ⟨F, ρ, E.up s, k.imp (fun b2 k2 H2 s2 => k2 H2 (s.trans s2)) fun _ z => z.up s⟩) fun _ z => z⟩
theorem pw_orD {r : List Expr} (h : PTD X c a t1) (h2 : PWD X c (.BoolOp .Or (b :: r) pos) t2) : PWD X c (.BoolOp .Or (a :: b :: r) pos) (dOr t1 t2) :=
  PW.imp (pw_or h h2) fun σ H Q ⟨F, ρ, E, w⟩ => ⟨F, ρ, E, (Out.wp_bind w).imp (fun b k H1 s => by
    cases b with
    | true =>
      rw [if_pos rfl] at k ⊢
      exact k H1 s
    | false =>
      rw [if_neg Bool.false_ne_true] at k ⊢
      exact ⟨F, ρ, E.up s, k.imp (fun b2 k2 H2 s2 => k2 H2 (s.trans s2)) fun _ z => z.up s⟩) fun _ z => z⟩
theorem pt_ofW (h : PWD X c e t) : PTD X c e t := h.pt
theorem pt_notD (h : PTD X c a t) : PTD X c (.UnaryOp .Not a pos) (dNot t) :=
  PT.imp (pt_not h) fun σ H Q ⟨F, ρ, E, w⟩ => ⟨F, ρ, E, (Out.wp_bind w).imp (fun b k H1 s => k H1 s) fun _ z => z⟩
/-- and, or, not as values -/
def dAndV (t : DT) (f : DE) : DE := fun ρ => (t ρ).bind fun b => if b = true then f ρ else .ok (.bool false)
def dOrV (t : DT) (f : DE) : DE := fun ρ => (t ρ).bind fun b => if b = true then .ok (.bool true) else f ρ
theorem pd_one {op : BoolOp} (h : PD X c m a f) : PD X c m (.BoolOp op [a] pos) f := pe_one h
theorem pd_and {r : List Expr} (h : PD X c m a f1) (h2 : PD X c m (.BoolOp .And (b :: r) pos) f2) : PD X c m (.BoolOp .And (a :: b :: r) pos) (dAndV (dTv f1) f2) :=
  PE.imp (pe_and h h2) fun σ H Q ⟨F, ρ, E, w⟩ => ⟨F, ρ, E, (dTv_wp (Out.wp_bind w)).imp (fun d ⟨b, e, k⟩ v H1 s r => by
    subst e
    cases r
    refine ⟨b, rfl, ?_⟩
    cases b with
    | false =>
      rw [if_neg Bool.false_ne_true] at k ⊢
      exact k _ H1 s (.bool false)
    | true =>
      rw [if_pos rfl] at k ⊢
      exact ⟨F, ρ, E.up s, k.imp (fun b2 k2 v2 H2 s2 r2 => k2 v2 H2 (s.trans s2) r2) fun _ z => z.up s⟩) fun _ z => z⟩
theorem pd_or {r : List Expr} (h : PD X c m a f1) (h2 : PD X c m (.BoolOp .Or (b :: r) pos) f2) : PD X c m (.BoolOp .Or (a :: b :: r) pos) (dOrV (dTv f1) f2) :=
  PE.imp (pe_or h h2) fun σ H Q ⟨F, ρ, E, w⟩ => ⟨F, ρ, E, (dTv_wp (Out.wp_bind w)).imp (fun d ⟨b, e, k⟩ v H1 s r => by
    subst e
    cases r
    refine ⟨b, rfl, ?_⟩
    cases b with
    | true =>
      rw [if_pos rfl] at k ⊢
      exact k _ H1 s (.bool true)
    | false =>
      rw [if_neg Bool.false_ne_true] at k ⊢
      exact ⟨F, ρ, E.up s, k.imp (fun b2 k2 v2 H2 s2 r2 => k2 v2 H2 (s.trans s2) r2) fun _ z => z.up s⟩) fun _ z => z⟩
theorem pd_not (h : PD X c m a f) : PD X c m (.UnaryOp .Not a pos) (dBv (dNot (dTv f))) :=
  PE.imp (pe_not h) fun σ H Q ⟨F, ρ, E, w⟩ => ⟨F, ρ, E, (dTv_wp (Out.wp_bind (Out.wp_bind w))).imp (fun d ⟨b, e, k⟩ v H1 s r => by
    subst e
    cases r
    exact ⟨b, rfl, k _ H1 s (.bool _)⟩) fun _ z => z⟩
def dIf (t : DT) (f1 f2 : DE) : DE := fun ρ => (t ρ).bind fun b => if b = true then f1 ρ else f2 ρ

/-! ### displays -/
def dTup (g : DA) : DE := fun ρ => (g ρ).bind fun ds => if ds.length ≤ 1000 then .ok (.tuple ds) else .bad
def dLst (g : DA) : DE := fun ρ => (g ρ).bind fun ds => if ds.length ≤ 1000 then .ok (.list ds) else .bad
theorem if_wp {P : Prop} [Decidable P] {α : Type} {a : α} {Q : α → Prop} {E : Nat → Prop} (h : (if P then (Out.ok a : Out α) else .bad).wp Q E) : P ∧ Q a := by
  split at h
  · exact ⟨by assumption, h⟩
  · exact h.elim
theorem small_sz {n : Nat} (h : n ≤ 1000) : n ≤ sizeLine := Nat.le_trans h (by decide)
theorem hid_new {A : List Addr} {H : Hp} {p : Addr} {o : HO} (h : p ∉ A) : hid A (upd H p o) p = some o := hid_of h upd_same
theorem pd_tup {es : List Expr} {g : DA} {k : Nat} (h : PAD X c m es g) : PD X c m (.Tuple es k pos) (dTup g) :=
  PE.imp (pe_tup h) fun σ H Q ⟨F, ρ, E, w⟩ => ⟨F, ρ, E, (Out.wp_bind w).imp (fun ds k vs H1 s r => by
    obtain ⟨hl, q⟩ := if_wp k
    have hz : vs.length ≤ sizeLine := small_sz (by rw [r.len]; exact hl)
    refine ⟨hz, fun p hp => ?_⟩
    have s2 := same_upd (o := .tup vs) hp
    exact q _ _ (s.trans s2) (.tuple (hid_new (Dom.free ((E.up s).hdom m) hp)) hz (r.up (hid_mono s2)))) fun _ z => z⟩
theorem pf_lst {es : List Expr} {g : DA} (h : PAD X c true es g) : PF X c .l (.List es pos) (dLst g) :=
  PE.imp (pe_lst h) fun σ H Q ⟨F, ρ, E, w⟩ => ⟨F, ρ, E, (Out.wp_bind w).imp (fun ds k vs H1 s r => by
    obtain ⟨hl, q⟩ := if_wp k
    have hz : vs.length ≤ sizeLine := small_sz (by rw [r.len]; exact hl)
    refine ⟨hz, fun p hp => ?_⟩
    have s2 := same_upd (o := .lst vs) hp
    refine q p _ (s.trans s2) (Same.free s hp) ⟨vs, ds, rfl, upd_same, hz, ?_⟩
    rw [hid_upd List.mem_cons_self]
    refine r.up (hid_le fun b hb => ?_)
    rcases List.mem_cons.mp hb with z | z
    · exact .inr (by rw [z]; exact hp)
    · exact .inl z) fun _ z => z⟩
/-- a new list as a value -/
theorem PF.pd {k : Kd} (h : PF X c k e f) : PD X c m e f := PE.imp h fun σ H Q ⟨F, ρ, E, w⟩ => ⟨F, ρ, E, w.imp (fun d q a H' s n r => by
    refine q _ H' s (r.rp ?_ ?_)
    · refine hid_le fun b hb => .inl (List.mem_cons_of_mem _ ?_)
      cases m with
      | true => exact hb
      | false => exact List.mem_append_left _ hb
    · obtain ⟨o, e, _⟩ := r.some
      rw [e]
      exact hid_of (Dom.free (E.hdom m) n) e) fun _ z => z⟩
theorem pd_lst {es : List Expr} {g : DA} (h : PAD X c m es g) : PD X c m (.List es pos) (dLst g) :=
  PE.imp (pe_lst h) fun σ H Q ⟨F, ρ, E, w⟩ => ⟨F, ρ, E, (Out.wp_bind w).imp (fun ds k vs H1 s r => by
    obtain ⟨hl, q⟩ := if_wp k
    have hz : vs.length ≤ sizeLine := small_sz (by rw [r.len]; exact hl)
    refine ⟨hz, fun p hp => ?_⟩
    have s2 := same_upd (o := .lst vs) hp
    exact q _ _ (s.trans s2) (.list (hid_new (Dom.free ((E.up s).hdom m) hp)) hz (r.up (hid_mono s2)))) fun _ z => z⟩

/-! ### a value without lists may be kept -/
theorem EnvR.ocel {K : PySem.W.Frag} {O : Ow} {F : Fm} {ρ : Env} {σ : St} {H : Hp} (E : EnvR K O F ρ σ H) : ∀ a ∈ own O σ, ∃ o, H a = some o ∧ celO o = true := E.odom
section
variable {K : PySem.W.Frag} {H : Hp} {A B : List Addr}
theorem obj_keep {u : HO} (hu : celO u = false) (hB : ∀ b ∈ B, ∃ o, H b = some o ∧ celO o = true) {a : Addr} (h : hid A H a = some u) : hid (A ++ B) H a = some u := by
  obtain ⟨h1, h2⟩ := hid_some h
  refine hid_of (fun z => ?_) h2
  rcases List.mem_append.mp z with z | z
  · exact h1 z
  · obtain ⟨o, e, q⟩ := hB a z
    rw [h2] at e
    cases e
    rw [hu] at q
    cases q
theorem tup_keep (hB : ∀ b ∈ B, ∃ o, H b = some o ∧ celO o = true) {a : Addr} {xs : List V} (h : hid A H a = some (.tup xs)) : hid (A ++ B) H a = some (.tup xs) := by
  obtain ⟨h1, h2⟩ := hid_some h
  refine hid_of (fun z => ?_) h2
  rcases List.mem_append.mp z with z | z
  · exact h1 z
  · obtain ⟨o, e, q⟩ := hB a z
    rw [h2] at e
    cases e
    cases q
mutual
theorem Rp.keep (hB : ∀ b ∈ B, ∃ o, H b = some o ∧ celO o = true) : ∀ (d : D) (v : V), d.fix = true → Rp K (hid A H) v d → Rp K (hid (A ++ B) H) v d
  | .none, _, _, h => by cases h; exact .none
  | .bool _, _, _, h => by cases h; exact .bool _
  | .int _, _, _, h => by cases h; exact .int _
  | .str _, _, _, h => by cases h; exact .str _
  | .list ds, _, z, _ => by cases z
  | .dk _, _, z, _ => by cases z
  | .dt _, _, z, _ => by cases z
  | .scr _, _, z, _ => by cases z
  | .ktup _, _, _, h => by
    cases h with
    | ktup h1 h2 => exact .ktup h1 h2
  | .fdt _, _, z, _ => by cases z
  | .ftup ds, _, z, h => by
    cases h with
    | ftup h1 h2 h3 h4 => exact .ftup (obj_keep rfl hB h1) h2 h3 (RpA.keep hB ds _ (by simpa only [D.fix] using z) h4)
  | .tuple ds, _, z, h => by
    cases h with
    | tuple h1 h2 h3 => exact   .tuple (tup_keep hB h1) h2 (RpA.keep hB ds _ (by simpa only [D.fix] using z) h3)
theorem RpA.keep (hB : ∀ b ∈ B, ∃ o, H b = some o ∧ celO o = true) : ∀ (ds : List D) (vs : List V), D.fixA ds = true → RpA K (hid A H) vs ds → RpA K (hid (A ++ B) H) vs ds
  | [], _, _, h => by cases h; exact .nil
  | d :: ds, _, z, h => by
    cases h with
    | cons h1 h2 =>
      simp only [D.fixA, Bool.and_eq_true] at z
      exact .cons (Rp.keep hB d _ z.1 h1) (RpA.keep hB ds _ z.2 h2)
end
end
def dGuard (f : DE) : DE := fun ρ => (f ρ).bind fun d => if d.fix = true then .ok d else .bad
theorem pd_guard (h : PD X c false e f) : PD X c m e (dGuard f) := PD.weak (PE.imp h fun σ H Q ⟨F, ρ, E, w⟩ => ⟨F, ρ, E, (Out.wp_bind w).imp (fun d k v H' s r => by
  obtain ⟨hf, q⟩ := if_wp k
  exact q v H' s (Rp.keep (E.up s).ocel d v hf r)) fun _ z => z⟩)

/-! ### calls -/
theorem pd_callB {x : Str} {id : String} {g : List D → Option D} {es : List Expr} {ga : DA} (hc : CallR X (.builtin id) (rdL X.K g)) (hm : X.mg x = none) (hv : bootBuiltins x = some (.builtin id)) (ha : PAD X c m (e :: es) ga) (hg : Gl X x := by rfl) (hn : x ≠ "__name__" := by decide) (hdb : (x == ("__debug__" : Str)) = false := by decide)
    (he : starEach (e :: es) X.env = (false, eval e X.env) :: starEach es X.env := by rfl) (hpl : (backTo pos (starEach es X.env)).any (·.1) = false := by rfl) : PD X c m (.Call (.Name x p) (e :: es) [] pos) (dCall g ga) :=
  PE.imp (pe_callB hc hg hm hv ha hn hdb he hpl) fun σ H Q ⟨F, ρ, E, w⟩ => ⟨F, ρ, E, (Out.wp_bind w).imp (fun ds k vs H1 s r => by
    obtain ⟨d, e, q⟩ := of_wp k
    exact ⟨_, ds, (E.up s).hdom m, r, d, e, fun v' H2 s2 r2 => q v' H2 (s.trans s2) r2⟩) fun _ z => z⟩
theorem pd_callTy {x : Str} {T : String} {g : List D → Option D} {es : List Expr} {ga : DA} (hc : CallR X (.type T) (rdL X.K g)) (hm : X.mg x = none) (hv : bootBuiltins x = some (.type T)) (ha : PAD X c m (e :: es) ga) (hg : Gl X x := by rfl) (hn : x ≠ "__name__" := by decide) (hdb : (x == ("__debug__" : Str)) = false := by decide)
    (he : starEach (e :: es) X.env = (false, eval e X.env) :: starEach es X.env := by rfl) (hpl : (backTo pos (starEach es X.env)).any (·.1) = false := by rfl) : PD X c m (.Call (.Name x p) (e :: es) [] pos) (dCall g ga) :=
  PE.imp (pe_callTy hc hg hm hv ha hn hdb he hpl) fun σ H Q ⟨F, ρ, E, w⟩ => ⟨F, ρ, E, (Out.wp_bind w).imp (fun ds k vs H1 s r => by
    obtain ⟨d, e, q⟩ := of_wp k
    exact ⟨_, ds, (E.up s).hdom m, r, d, e, fun v' H2 s2 r2 => q v' H2 (s.trans s2) r2⟩) fun _ z => z⟩
/-- a def's promise by data -/
def spD (K : PySem.W.Frag) (cl : Nat → Addr) (n : Nat) (g : List D → Out D) : Sp := fun vs H Q E => vs.length = n ∧ ∃ A ds, Dom A H ∧ RpA K (hid A H) vs ds ∧
  (g ds).wp (fun d => ∀ v H', Same H H' → Rp K (hid A H') v d → Q v H') fun x => ∀ H', Same H H' → E (.ref (cl x)) none H'
def dUse (n : Nat) (g : List D → Out D) (f : DA) : DE := fun ρ => (f ρ).bind fun ds => if ds.length = n then g ds else .bad
theorem pd_call {x : Str} {k n : Nat} {fa : Addr} {fd : FuncData} {ps : List Str} {g : List D → Out D} {es : List Expr} {ga : DA} (F : FnOk X.prog X.w X.K X.mg X.base (L2.CX X.prog X.w) k fa fd ps (spD X.K c.cl n g)) (hr : Room k X.A) (hm : X.mg x = some (.ref fa)) (hk : PySem.W.keepIn X.K (.ref fa) = true) (hb : Binds X.K fd ps [])
    (tk : Takes X c.W) (ha : PAD X c m (e :: es) ga) (hg : Gl X x := by rfl) (hdb : (x == ("__debug__" : Str)) = false := by decide)
    (he : starEach (e :: es) X.env = (false, eval e X.env) :: starEach es X.env := by rfl) (hpl : (backTo pos (starEach es X.env)).any (·.1) = false := by rfl) :
    PD X c m (.Call (.Name x p) (e :: es) [] pos) (dUse n g ga) :=
  PE.imp (pe_callS F hr hg hm hk hb (fun σ => passAt tk σ) ha hdb he hpl) fun σ H Q ⟨Fm, ρ, E, w⟩ => ⟨Fm, ρ, E, (Out.wp_bind w).imp (fun ds k vs H1 s r => by
    by_cases hl : ds.length = n
    · rw [if_pos hl] at k
      exact ⟨by rw [r.len, hl], _, ds, (E.up s).hdom m, r, k.imp (fun d q v' H2 s2 r2 => q v' H2 (s.trans s2) r2) fun x z H2 s2 => z H2 (s.trans s2)⟩
    · rw [if_neg hl] at k
      exact k.elim) fun _ z => z⟩
end
end Pd

/-! Pd2: statements, loops, comprehensions, defs by data. -/
namespace Pd
open PySem L2

/-! ### what a statement comes to -/
inductive SO where
  | nx (ρ : Env) | bk (ρ : Env) | ct (ρ : Env) | rt (d : D) (ρ : Env) | err (c : Nat) (ρ : Env) | bad
abbrev DS := Env → SO
def SO.wp (o : SO) (P B C : Env → Prop) (R : D → Env → Prop) (E : Nat → Env → Prop) : Prop := match o with
  | .nx ρ => P ρ
  | .bk ρ => B ρ
  | .ct ρ => C ρ
  | .rt d ρ => R d ρ
  | .err c ρ => E c ρ
  | .bad => False
section
variable (K : PySem.W.Frag) (c : Pc)
def nxW (F : Fm) (σ : St) (H : Hp) (q : St → Hp → Prop) : Env → Prop := fun ρ' => ∀ σ' H', EnvR K c.O F ρ' σ' H' → Stp c.O σ H σ' H' → q σ' H'
def rtW (F : Fm) (σ : St) (H : Hp) (q : VK) : D → Env → Prop := fun d ρ' => ∀ v σ' H', EnvR K c.O F ρ' σ' H' → Stp c.O σ H σ' H' → Rp K (hid F.A H') v d → q v H'
def xW (F : Fm) (σ : St) (H : Hp) : Nat → Env → Prop := fun x ρ' => ∀ σ' H', EnvR K c.O F ρ' σ' H' → Stp c.O σ H σ' H' → c.W (.ref (c.cl x)) none σ' H'
def rdS (t : DS) : TS := fun Dn σ H => ∃ F ρ, EnvR K c.O F ρ σ H ∧ (t ρ).wp (nxW K c F σ H Dn.nx) (nxW K c F σ H Dn.bk) (nxW K c F σ H Dn.ct) (rtW K c F σ H Dn.rt) (xW K c F σ H)
end
abbrev PSD (X : Cx) (c : Pc) (st : Stmt) (t : DS) : Prop := PS X st (rdS X.K c t)
abbrev PSsD (X : Cx) (c : Pc) (st : List Stmt) (t : DS) : Prop := PSs X st (rdS X.K c t)

def lift {α : Type} (o : Out α) (ρ : Env) (k : α → SO) : SO := match o with
  | .ok a => k a
  | .err x => .err x ρ
  | .bad => .bad
@[simp] theorem lift_ok {α : Type} (a : α) (ρ : Env) (k : α → SO) : lift (.ok a) ρ k = k a := rfl
@[simp] theorem lift_err {α : Type} (x : Nat) (ρ : Env) (k : α → SO) : lift (.err x : Out α) ρ k = .err x ρ := rfl
@[simp] theorem lift_bad {α : Type} (ρ : Env) (k : α → SO) : lift (.bad : Out α) ρ k = .bad := rfl
theorem lift_wp {α : Type} {o : Out α} {ρ : Env} {k : α → SO} {P B C : Env → Prop} {R : D → Env → Prop} {E : Nat → Env → Prop} (h : (lift o ρ k).wp P B C R E) : o.wp (fun a => (k a).wp P B C R E) fun x => E x ρ := by
  cases o <;> exact h

section
variable {X : Cx} {c : Pc} {st : Stmt} {sts : List Stmt} {pos p : Pos} {m : Bool}
theorem PS.imp {t t' : TS} (h : PS X st t) (f : ∀ Dn σ H, t' Dn σ H → t Dn σ H) : PS X st t' := ⟨fun pins s σ H Dn I q => h.run pins s σ H Dn I (f Dn σ H q)⟩
theorem PSs.imp {t t' : TS} (h : PSs X sts t) (f : ∀ Dn σ H, t' Dn σ H → t Dn σ H) : PSs X sts t' := ⟨fun pins s σ H Dn I q => h.run pins s σ H Dn I (f Dn σ H q)⟩
theorem PI.imp {tg it : Expr} {w w' : TI} (h : PI X tg it w) (f : ∀ σ H R, w' σ H R → w σ H R) : PI X tg it w' := ⟨fun pins s σ H R I q => h.run pins s σ H R I (f σ H R q)⟩
variable {K : PySem.W.Frag} {F : Fm} {ρ : Env} {σ : St} {H : Hp}
theorem erW_of {x : Nat} (E : EnvR K c.O F ρ σ H) (h : xW K c F σ H x ρ) : erW c σ H x := fun H' s => h σ H' (E.up s) (.same s)
theorem nxW.up {q : St → Hp → Prop} {ρ' : Env} {σ1 : St} {H1 : Hp} (h : nxW K c F σ H q ρ') (s : Stp c.O σ H σ1 H1) : nxW K c F σ1 H1 q ρ' := fun σ' H' E t => h σ' H' E (s.trans t)
theorem rtW.up {q : VK} {d : D} {ρ' : Env} {σ1 : St} {H1 : Hp} (h : rtW K c F σ H q d ρ') (s : Stp c.O σ H σ1 H1) : rtW K c F σ1 H1 q d ρ' := fun v σ' H' E t => h v σ' H' E (s.trans t)
theorem xW.up {x : Nat} {ρ' : Env} {σ1 : St} {H1 : Hp} (h : xW K c F σ H x ρ') (s : Stp c.O σ H σ1 H1) : xW K c F σ1 H1 x ρ' := fun σ' H' E t => h σ' H' E (s.trans t)
/-- the wishes behind another state -/
theorem SO.up {o : SO} {Dn : Ends} {σ1 : St} {H1 : Hp} (s : Stp c.O σ H σ1 H1) (h : o.wp (nxW K c F σ H Dn.nx) (nxW K c F σ H Dn.bk) (nxW K c F σ H Dn.ct) (rtW K c F σ H Dn.rt) (xW K c F σ H)) :
    o.wp (nxW K c F σ1 H1 Dn.nx) (nxW K c F σ1 H1 Dn.bk) (nxW K c F σ1 H1 Dn.ct) (rtW K c F σ1 H1 Dn.rt) (xW K c F σ1 H1) := by
  cases o with
  | nx _ => exact nxW.up h s
  | bk _ => exact nxW.up h s
  | ct _ => exact nxW.up h s
  | rt _ _ => exact rtW.up h s
  | err _ _ => exact xW.up h s
  | bad => exact h
/-- an expression ahead of the rest -/
theorem ex_wp {f : DE} {m : Bool} {k : D → SO} {Dn : Ends} {Q : VK} (E : EnvR K c.O F ρ σ H) (h : (lift (f ρ) ρ k).wp (nxW K c F σ H Dn.nx) (nxW K c F σ H Dn.bk) (nxW K c F σ H Dn.ct) (rtW K c F σ H Dn.rt) (xW K c F σ H))
    (go : ∀ d v H', Same H H' → EnvR K c.O F ρ σ H' → Rp K (hid (hs m F c.O σ) H') v d → (k d).wp (nxW K c F σ H' Dn.nx) (nxW K c F σ H' Dn.bk) (nxW K c F σ H' Dn.ct) (rtW K c F σ H' Dn.rt) (xW K c F σ H') → Q v H') : rdE K c m f σ H Q :=
  ⟨F, ρ, E, (lift_wp h).imp (fun d k v H' s r => go d v H' s (E.up s) r (SO.up (.same s) k)) fun x z => erW_of E z⟩
theorem ts_wp {f : DT} {k : Bool → SO} {Dn : Ends} {Q : Bool → Hp → Prop} (E : EnvR K c.O F ρ σ H) (h : (lift (f ρ) ρ k).wp (nxW K c F σ H Dn.nx) (nxW K c F σ H Dn.bk) (nxW K c F σ H Dn.ct) (rtW K c F σ H Dn.rt) (xW K c F σ H))
    (go : ∀ b H', Same H H' → EnvR K c.O F ρ σ H' → (k b).wp (nxW K c F σ H' Dn.nx) (nxW K c F σ H' Dn.bk) (nxW K c F σ H' Dn.ct) (rtW K c F σ H' Dn.rt) (xW K c F σ H') → Q b H') : rdT K c f σ H Q :=
  ⟨F, ρ, E, (lift_wp h).imp (fun d k H' s => go d H' s (E.up s) (SO.up (.same s) k)) fun x z => erW_of E z⟩
theorem fr_wp {f : DE} {kd : Kd} {k : D → SO} {Dn : Ends} {Q : VK} (E : EnvR K c.O F ρ σ H) (h : (lift (f ρ) ρ k).wp (nxW K c F σ H Dn.nx) (nxW K c F σ H Dn.bk) (nxW K c F σ H Dn.ct) (rtW K c F σ H Dn.rt) (xW K c F σ H))
    (go : ∀ d a H', Same H H' → H a = none → EnvR K c.O F ρ σ H' → Cel K (hid (a :: (F.A ++ own c.O σ)) H') H' kd a d → (k d).wp (nxW K c F σ H Dn.nx) (nxW K c F σ H Dn.bk) (nxW K c F σ H Dn.ct) (rtW K c F σ H Dn.rt) (xW K c F σ H) → Q (.ref a) H') : rdF K c kd f σ H Q :=
  ⟨F, ρ, E, (lift_wp h).imp (fun d k a H' s n r => go d a H' s n (E.up s) r k) fun x z => erW_of E z⟩

/-! ### blocks, ifs, returns -/
def dNx : DS := fun ρ => .nx ρ
def dSeq (t u : DS) : DS := fun ρ => match t ρ with
  | .nx ρ' => u ρ'
  | o => o
theorem pss_nilD : PSsD X c [] dNx := PSs.imp pss_nil fun Dn σ H ⟨F, ρ, E, w⟩ => w σ H E .refl
theorem seq_wp {t u : DS} {Dn : Ends} (h : rdS K c (dSeq t u) Dn σ H) : rdS K c t { Dn with nx := rdS K c u Dn } σ H := by
  obtain ⟨F, ρ, E, w⟩ := h
  refine ⟨F, ρ, E, ?_⟩
  unfold dSeq at w
  cases e : t ρ with
  | nx ρ' =>
    rw [e] at w
    exact fun σ' H' E' s => ⟨F, ρ', E', SO.up s w⟩
  | bk _ => rw [e] at w; exact w
  | ct _ => rw [e] at w; exact w
  | rt _ _ => rw [e] at w; exact w
  | err _ _ => rw [e] at w; exact w
  | bad => rw [e] at w; exact w
theorem pss_consD {t u : DS} (h1 : PSD X c st t) (h2 : PSsD X c sts u) : PSsD X c (st :: sts) (dSeq t u) := PSs.imp (pss_cons h1 h2) fun _ _ _ h => seq_wp h
theorem pss_oneD {t : DS} (h1 : PSD X c st t) : PSsD X c [st] t := pss_one h1
def dIfS (b : DT) (t u : DS) : DS := fun ρ => lift (b ρ) ρ fun k => if k = true then t ρ else u ρ
theorem ps_ifD {e : Expr} {s1 s2 : List Stmt} {b : DT} {t u : DS} (hc : PTD X c e b) (h1 : PSsD X c s1 t) (h2 : PSsD X c s2 u) : PSD X c (.If e s1 s2 pos) (dIfS b t u) :=
  PS.imp (ps_if hc h1 h2) fun Dn σ H ⟨F, ρ, E, w⟩ => ts_wp E w fun k H' s E' w' => by
    cases k with
    | true =>
      rw [if_pos rfl] at w' ⊢
      exact ⟨F, ρ, E', w'⟩
    | false =>
      rw [if_neg Bool.false_ne_true] at w' ⊢
      exact ⟨F, ρ, E', w'⟩
def dRet (f : DE) : DS := fun ρ => lift (f ρ) ρ fun d => .rt d ρ
theorem ps_retD {e : Expr} {f : DE} (h : PD X c false e f) : PSD X c (.Return (some e) pos) (dRet f) :=
  PS.imp (ps_ret h) fun Dn σ H ⟨F, ρ, E, w⟩ => ex_wp E w fun d v H' s E' r w' => w' v σ H' E' .refl r
def dRetN : DS := fun ρ => .rt .none ρ
theorem ps_retND : PSD X c (.Return none pos) dRetN := PS.imp ps_retN fun Dn σ H ⟨F, ρ, E, w⟩ => w .non σ H E .refl .none
theorem ps_passD : PSD X c (.Pass pos) dNx := PS.imp ps_pass fun Dn σ H ⟨F, ρ, E, w⟩ => w σ H E .refl
def dDrop (f : DE) : DS := fun ρ => lift (f ρ) ρ fun _ => .nx ρ
theorem ps_exprD {e : Expr} {f : DE} (h : PD X c false e f) (hs : swapsWith e none pos.line X.env = pure false := by rfl) : PSD X c (.Expr e pos) (dDrop f) :=
  PS.imp (ps_expr h hs) fun Dn σ H ⟨F, ρ, E, w⟩ => ex_wp E w fun d v H' s E' r w' => w' σ H' E' .refl

/-! ### names take values -/
def dAsg (i : Nat) (f : DE) : DS := fun ρ => lift (f ρ) ρ fun d => .nx (ρ.set i (some d))
theorem stp_set {i : Nat} {v : Option V} (n : ∀ k, (i, k) ∉ c.O) : Stp c.O σ H (σ.set i v) H := ⟨fun _ _ _ e => e, fun b hb => .inl (by rw [own_set n] at hb; exact hb)⟩
theorem asg_wp {i : Nat} {k : D → Env} {d : D} {v : V} {H : Hp} {q : St → Hp → Prop} (E : EnvR K c.O F ρ σ H) (n : ∀ k, (i, k) ∉ c.O) (r : Rp K (hid (F.A ++ own c.O σ) H) v d) (w : nxW K c F σ H q (ρ.set i (some d))) : q (σ.set i (some v)) H :=
  w _ H (E.set n r) (stp_set n)
theorem ps_asgD (i : Nat) {x : Str} {e : Expr} {f : DE} {pos' : Pos} (hN : X.N.Nodup) (h : PD X c true e f) (ho : noOw c.O i = true := by rfl) (hi : X.N[i]? = some x := by rfl) (hx : Loc X.env.scope x := by first | exact Or.inl rfl | exact Or.inr rfl)
    (hs : swapsWith e (some (.Name x pos')) pos.line X.env = pure false := by rfl) (hf : X.fn x = true ∨ X.env.scope.names.lookup x = some .local := by first | exact .inl rfl | exact .inr rfl) : PSD X c (.Assign [.Name x pos'] e pos) (dAsg i f) :=
  PS.imp (ps_set hN hi hx h hs hf) fun Dn σ H ⟨F, ρ, E, w⟩ => ex_wp E w fun d v H' s E' r w' => asg_wp (k := fun _ => ρ) E' (noOw_of ho) r w'

/-! ### owned slots -/
theorem mem_own_set {O : Ow} {i : Nat} {a b : Addr} (h : b ∈ own O (σ.set i (some (.ref a)))) : b = a ∨ ∃ j k, j ≠ i ∧ (j, k) ∈ O ∧ σ[j]? = some (some (.ref b)) := by
  obtain ⟨j, k, h1, h2⟩ := mem_own.mp h
  by_cases hij : i = j
  · subst hij
    by_cases hl : i < σ.length
    · rw [List.getElem?_set_self hl] at h2
      cases h2
      exact .inl rfl
    · rw [List.getElem?_eq_none (by rw [List.length_set]; omega)] at h2
      cases h2
  · rw [List.getElem?_set_ne hij] at h2
    exact .inr ⟨j, k, fun z => hij z.symm, h1, h2⟩
def onlyK (O : Ow) (i : Nat) (k : Kd) : Bool := O.all fun p => p.1 != i || p.2 == k
theorem onlyK_of {O : Ow} {i : Nat} {k k' : Kd} (h : onlyK O i k = true) (h2 : (i, k') ∈ O) : k' = k := by
  have z := List.all_eq_true.mp h _ h2
  simpa using z
theorem EnvR.setO {i : Nat} {k : Kd} {a : Addr} {d : D} {H' : Hp} (E : EnvR K c.O F ρ σ H) (hi : (i, k) ∈ c.O) (hu : onlyK c.O i k = true) (hk : k ≠ .p) (s : Same H H') (n : H a = none) (r : Cel K (hid (a :: (F.A ++ own c.O σ)) H') H' k a d) :
    EnvR K c.O F (ρ.set i (some d)) (σ.set i (some (.ref a))) H' := by
  have hl : i < ρ.length := by
    rcases E.cel i k hi with ⟨_, _, q, _⟩ | ⟨q, _⟩
    · exact (List.getElem?_eq_some_iff.mp q).1
    · exact (List.getElem?_eq_some_iff.mp q).1
  have hl' : i < σ.length := by rw [← E.len]; exact hl
  have sub : ∀ b ∈ own c.O (σ.set i (some (.ref a))), b = a ∨ b ∈ own c.O σ := fun b hb => by
    rcases mem_own_set hb with z | ⟨j, k', _, h1, h2⟩
    · exact .inl z
    · exact .inr (mem_own.mpr ⟨j, k', h1, h2⟩)
  have up1 : Same (hid (F.A ++ own c.O σ) H) (hid (F.A ++ own c.O (σ.set i (some (.ref a)))) H') := fun b o q => by
    obtain ⟨h1, h2⟩ := hid_some q
    refine hid_of (fun z => ?_) (s _ _ h2)
    rcases List.mem_append.mp z with z | z
    · exact h1 (List.mem_append_left _ z)
    · rcases sub b z with z | z
      · rw [z, n] at h2
        cases h2
      · exact h1 (List.mem_append_right _ z)
  have up2 : Same (hid (a :: (F.A ++ own c.O σ)) H') (hid (F.A ++ own c.O (σ.set i (some (.ref a)))) H') := hid_le fun b hb => .inl (by
    rcases List.mem_append.mp hb with z | z
    · exact List.mem_cons_of_mem _ (List.mem_append_left _ z)
    · rcases sub b z with z | z
      · rw [z]; exact List.mem_cons_self
      · exact List.mem_cons_of_mem _ (List.mem_append_right _ z))
  have na : a ∉ F.A := Dom.free E.adom n
  have nold : ∀ j k', j ≠ i → (j, k') ∈ c.O → σ[j]? = some (some (.ref a)) → False := fun j k' _ h1 h2 => Dom.free E.odom n (mem_own.mpr ⟨j, k', h1, h2⟩)
  refine ⟨by rw [List.length_set, List.length_set, E.len], fun j e h nj => ?_, fun j k' h => ?_, fun j kj j' kj' b h h' e e' => ?_, Dom.up E.adom s, fun q hq => ?_, E.fxO⟩
  · have hij : i ≠ j := fun z => nj k (by rw [← z]; exact hi)
    rw [List.getElem?_set_ne hij] at h ⊢
    obtain ⟨v, h1, h2⟩ := E.val j e h nj
    exact ⟨v, h1, h2.up up1⟩
  · by_cases hij : i = j
    · subst hij
      obtain rfl := onlyK_of hu h
      exact .inl ⟨d, a, List.getElem?_set_self hl, List.getElem?_set_self hl', na, r.up up2 rfl⟩
    · rw [List.getElem?_set_ne hij, List.getElem?_set_ne hij]
      rcases E.cel j k' h with ⟨d', b, q1, q2, q3, q4⟩ | q
      · refine .inl ⟨d', b, q1, q2, q3, q4.up up1 ?_⟩
        obtain ⟨o, e, _⟩ := q4.some
        rw [e, s _ _ e]
      · exact .inr q
  · by_cases hij : i = j
    · by_cases hij' : i = j'
      · rw [← hij, ← hij']
      · exfalso
        rw [← hij, List.getElem?_set_self hl'] at e
        cases e
        rw [List.getElem?_set_ne hij'] at e'
        exact nold j' kj' (fun z => hij' z.symm) h' e'
    · by_cases hij' : i = j'
      · exfalso
        rw [← hij', List.getElem?_set_self hl'] at e'
        cases e'
        rw [List.getElem?_set_ne hij] at e
        exact nold j kj (fun z => hij z.symm) h e
      · rw [List.getElem?_set_ne hij] at e
        rw [List.getElem?_set_ne hij'] at e'
        exact E.dis j kj j' kj' b h h' e e'
  · have hq' : i ≠ q.1 := fun z => hk (onlyK_of hu (by rw [z]; exact E.fxO q hq)).symm
    rw [List.getElem?_set_ne hq']
    exact E.fix q hq
theorem stp_setO {i : Nat} {a : Addr} {H' : Hp} (s : Same H H') (n : H a = none) : Stp c.O σ H (σ.set i (some (.ref a))) H' := ⟨fun b o _ e => s b o e, fun b hb => by
  rcases mem_own_set hb with z | ⟨j, k, _, h1, h2⟩
  · exact .inr (by rw [z]; exact n)
  · exact .inl (mem_own.mpr ⟨j, k, h1, h2⟩)⟩
theorem ps_asgO (i : Nat) (k : Kd) {x : Str} {e : Expr} {f : DE} {pos' : Pos} (hN : X.N.Nodup) (h : PF X c k e f) (ho : isOw c.O i k = true := by rfl) (hu : onlyK c.O i k = true := by rfl) (hk : k ≠ .p := by decide) (hi : X.N[i]? = some x := by rfl) (hx : Loc X.env.scope x := by first | exact Or.inl rfl | exact Or.inr rfl)
    (hs : swapsWith e (some (.Name x pos')) pos.line X.env = pure false := by rfl) (hf : X.fn x = true ∨ X.env.scope.names.lookup x = some .local := by first | exact .inl rfl | exact .inr rfl) : PSD X c (.Assign [.Name x pos'] e pos) (dAsg i f) :=
  PS.imp (ps_set hN hi hx h hs hf) fun Dn σ H ⟨F, ρ, E, w⟩ => fr_wp E w fun d a H' s n E' r w' => w' _ H' (E.setO (isOw_of ho) hu hk s n r) (stp_setO s n)
/-- an owned cell changes -/
theorem EnvR.cell {i : Nat} {k : Kd} {a : Addr} {d : D} {o : HO} (E : EnvR K c.O F ρ σ H) (hi : (i, k) ∈ c.O) (hu : onlyK c.O i k = true) (ha : σ[i]? = some (some (.ref a))) (r : Cel K (hid (F.A ++ own c.O σ) H) (upd H a o) k a d) :
    EnvR K c.O F (ρ.set i (some d)) σ (upd H a o) := by
  have am : a ∈ own c.O σ := mem_own.mpr ⟨i, k, hi, ha⟩
  have hh : hid (F.A ++ own c.O σ) (upd H a o) = hid (F.A ++ own c.O σ) H := hid_upd (List.mem_append_right _ am)
  have hl : i < ρ.length := by rw [E.len]; exact (List.getElem?_eq_some_iff.mp ha).1
  have na : a ∉ F.A := by
    rcases E.cel i k hi with ⟨_, b, _, q, q', _⟩ | ⟨_, q⟩
    · rw [ha] at q
      cases q
      exact q'
    · rw [ha] at q
      cases q
  refine ⟨by rw [List.length_set, E.len], fun j e h nj => ?_, fun j k' h => ?_, E.dis, fun b hb => ?_, E.fix, E.fxO⟩
  · have hij : i ≠ j := fun z => nj k (by rw [← z]; exact hi)
    rw [List.getElem?_set_ne hij] at h
    rw [hh]
    exact E.val j e h nj
  · rw [hh]
    by_cases hij : i = j
    · subst hij
      obtain rfl := onlyK_of hu h
      exact .inl ⟨d, a, List.getElem?_set_self hl, ha, na, r⟩
    · rw [List.getElem?_set_ne hij]
      rcases E.cel j k' h with ⟨d', b, q1, q2, q3, q4⟩ | q
      · refine .inl ⟨d', b, q1, q2, q3, q4.up (Same.refl _) (upd_ne fun z => ?_)⟩
        subst z
        exact hij (E.dis i k j k' b hi h ha q2)
      · exact .inr q
  · rw [upd_ne fun z => na (by rw [← z]; exact hb)]
    exact E.adom b hb
theorem stp_cell {i : Nat} {k : Kd} {a : Addr} {o : HO} (hi : (i, k) ∈ c.O) (ha : σ[i]? = some (some (.ref a))) (nf : ∃ u, H a = some u ∧ frzO u = false) : Stp c.O σ H σ (upd H a o) where
  keep := fun b o' nb e => by
    have hb : b ≠ a := fun z => by
      rcases nb with nb | nb
      · exact nb (by rw [z]; exact mem_own.mpr ⟨i, k, hi, ha⟩)
      · obtain ⟨u, h1, h2⟩ := nf
        rw [z, h1] at e
        cases e
        rw [h2] at nb
        cases nb
    rw [upd_ne hb]
    exact e
  new := fun b hb => .inl hb
/-- the list at an owned slot -/
theorem EnvR.lst {i : Nat} {k : Kd} {d : D} (E : EnvR K c.O F ρ σ H) (hi : (i, k) ∈ c.O) (hk : k = .l ∨ k = .p) (e : ρ[i]? = some (some d)) : ∃ a xs ds, d = .list ds ∧ σ[i]? = some (some (.ref a)) ∧ H a = some (.lst xs) ∧ xs.length ≤ sizeLine ∧ RpA K (hid (F.A ++ own c.O σ) H) xs ds := by
  rcases E.cel i k hi with ⟨d', a, q1, q2, _, q4⟩ | ⟨q, _⟩
  · rw [e] at q1
    cases q1
    rcases hk with rfl | rfl
    · obtain ⟨xs, ds, h1, h2, h3, h4⟩ := q4
      exact ⟨a, xs, ds, h1, q2, h2, h3, h4⟩
    · obtain ⟨xs, ds, h1, h2, h3, h4⟩ := q4
      exact ⟨a, xs, ds, h1, q2, h2, h3, h4⟩
  · rw [e] at q
    cases q
theorem cel_l {k : Kd} {a : Addr} {Hh H : Hp} {xs : List V} {ds : List D} (hk : k = .l ∨ k = .p) (h : H a = some (.lst xs)) (z : xs.length ≤ sizeLine) (r : RpA K Hh xs ds) : Cel K Hh H k a (.list ds) := by
  rcases hk with rfl | rfl
  · exact ⟨xs, ds, rfl, h, z, r⟩
  · exact ⟨xs, ds, rfl, h, z, r⟩
/-- the list at slot i -/
def atL (ρ : Env) (i : Nat) (k : List D → SO) : SO := match ρ[i]? with
  | some (some (.list l)) => k l
  | _ => .bad
theorem atL_wp {i : Nat} {k : List D → SO} {P B C : Env → Prop} {R : D → Env → Prop} {E : Nat → Env → Prop} (h : (atL ρ i k).wp P B C R E) : ∃ l, ρ[i]? = some (some (.list l)) ∧ (k l).wp P B C R E := by
  unfold atL at h
  split at h
  · rename_i l e
    exact ⟨l, e, h⟩
  · exact h.elim
theorem ifS_wp {P : Prop} [Decidable P] {o : SO} {Pn B C : Env → Prop} {R : D → Env → Prop} {E : Nat → Env → Prop} (h : (if P then o else .bad).wp Pn B C R E) : P ∧ o.wp Pn B C R E := by
  split at h
  · exact ⟨by assumption, h⟩
  · exact h.elim
/-- x.append(e) -/
def dApp (i : Nat) (f : DE) : DS := fun ρ => atL ρ i fun l => lift (f ρ) ρ fun d => if l.length ≤ 100000 then .nx (ρ.set i (some (.list (l ++ [d])))) else .bad
theorem ps_app (i : Nat) (k : Kd) {x : Str} {e : Expr} {f : DE} {p1 p2 p3 : Pos} (h : PD X c true e f) (ho : isOw c.O i k = true := by rfl) (hu : onlyK c.O i k = true := by rfl) (hk : k = .l ∨ k = .p := by first | exact .inl rfl | exact .inr rfl) (hN : X.N[i]? = some x := by rfl)
    (hv : Vis X.env.scope x := by first | exact Or.inl rfl | exact Or.inr (Or.inl rfl) | exact Or.inr (Or.inr rfl)) (hd : (x == ("__debug__" : Str)) = false := by decide) (hcd : (x == ("__classdict__" : Str)) = false := by decide)
    (hs : swapsWith (.Call (.Attribute (.Name x p1) "append" p2) [e] [] p3) none pos.line X.env = pure false := by rfl)
    (pe : ∀ {t : TE}, PE X e t → PE X (.Call (.Attribute (.Name x p1) "append" p2) [e] [] p3) (tBM X.K "list" rAppend (tVar i) (tCons t tNil)) := by exact fun h => (pe_bm PySem.F.plainAttrs_list PySem.F.slot_list_append PySem.F.type_list_append mt_append (pv _) (pa_cons h pa_nil))) : PSD X c (.Expr (.Call (.Attribute (.Name x p1) "append" p2) [e] [] p3) pos) (dApp i f) :=
  PS.imp (ps_expr (pe h) hs) fun Dn σ H ⟨F, ρ, E, w⟩ => by
    have hi := isOw_of ho
    obtain ⟨l, e1, w1⟩ := atL_wp w
    obtain ⟨a, xs, ds, z, h2, h3, h4, h5⟩ := E.lst hi hk e1
    cases z
    refine ⟨_, h2, .inl ⟨rfl, _, SqL.of h3⟩, ex_wp E w1 fun d v H' s E' r w2 => ?_⟩
    obtain ⟨hl, w3⟩ := ifS_wp w2
    have hz : xs.length < sizeLine := by
      rw [h5.len]
      exact Nat.lt_of_le_of_lt hl (by decide)
    refine ⟨a, xs, v, rfl, rfl, s _ _ h3, hz, ?_⟩
    refine w3 σ _ (E'.cell hi hu h2 (cel_l hk upd_same ?_ ((h5.up (hid_mono s)).append (.cons r .nil)))) (stp_cell hi h2 ⟨_, s _ _ h3, rfl⟩)
    rw [List.length_append, List.length_singleton]
    omega
/-- x = y.pop() -/
def dPop (j i : Nat) : DS := fun ρ => atL ρ i fun l => match l.getLast? with
  | some d => .nx ((ρ.set i (some (.list l.dropLast))).set j (some d))
  | none => .bad
theorem ps_pop (j i : Nat) (k : Kd) {x y : Str} {p0 p1 p2 p3 : Pos} (hNd : X.N.Nodup) (hj : noOw c.O j = true := by rfl) (ho : isOw c.O i k = true := by rfl) (hu : onlyK c.O i k = true := by rfl) (hk : k = .l ∨ k = .p := by first | exact .inl rfl | exact .inr rfl)
    (hy : X.N[j]? = some y := by rfl) (hx : Loc X.env.scope y := by first | exact Or.inl rfl | exact Or.inr rfl) (hs : swapsWith (.Call (.Attribute (.Name x p1) "pop" p2) [] [] p3) (some (.Name y p0)) pos.line X.env = pure false := by rfl) (hf : X.fn y = true ∨ X.env.scope.names.lookup y = some .local := by first | exact .inl rfl | exact .inr rfl)
    (pe : PE X (.Call (.Attribute (.Name x p1) "pop" p2) [] [] p3) (tBM0 X.K "list" rPop (tVar i)) := by exact (pe_bm0 PySem.F.plainAttrs_list PySem.F.slot_list_pop PySem.F.type_list_pop mt_pop (pv _))) : PSD X c (.Assign [.Name y p0] (.Call (.Attribute (.Name x p1) "pop" p2) [] [] p3) pos) (dPop j i) :=
  PS.imp (ps_set hNd hy hx pe hs hf) fun Dn σ H ⟨F, ρ, E, w⟩ => by
    have hi := isOw_of ho
    obtain ⟨l, e1, w1⟩ := atL_wp w
    obtain ⟨a, xs, ds, z, h2, h3, h4, h5⟩ := E.lst hi hk e1
    cases z
    cases hl : l.getLast? with
    | none => rw [hl] at w1; exact w1.elim
    | some d =>
      rw [hl] at w1
      have hd : l[l.length - 1]? = some d := by rw [← List.getLast?_eq_getElem?]; exact hl
      obtain ⟨v, g1, g2⟩ := h5.get hd
      refine ⟨_, h2, .inl ⟨rfl, _, SqL.of h3⟩, a, xs, v, rfl, rfl, h3, by rw [h5.len]; exact g1, ?_⟩
      have dl : RpA X.K (hid (F.A ++ own c.O σ) H) xs.dropLast l.dropLast := by
        rw [List.dropLast_eq_take, List.dropLast_eq_take, h5.len]
        exact h5.take _
      have E1 := E.cell hi hu h2 (cel_l (H := upd H a (.lst xs.dropLast)) hk upd_same (by rw [List.length_dropLast]; omega) dl)
      have am : a ∈ own c.O σ := mem_own.mpr ⟨i, k, hi, h2⟩
      have hh : hid (F.A ++ own c.O σ) (upd H a (.lst xs.dropLast)) = hid (F.A ++ own c.O σ) H := hid_upd (List.mem_append_right _ am)
      exact w1 _ _ (E1.set (noOw_of hj) (by rw [hh]; exact g2)) ((stp_cell hi h2 ⟨_, h3, rfl⟩).trans (stp_set (noOw_of hj)))
/-- x[i] = e, x a list of the def's -/
def dSet (i : Nat) (f g : DE) : DS := fun ρ => atL ρ i fun l => lift (f ρ) ρ fun d => lift (g ρ) ρ fun z => match z with
  | .int n => match ixN l.length n with
    | some j => .nx (ρ.set i (some (.list (l.set j d))))
    | none => .bad
  | _ => .bad
theorem ps_setL (i : Nat) (k : Kd) {x : Str} {e o : Expr} {f g : DE} {p1 p2 : Pos} (h : PD X c true e f) (hg : PD X c true o g) (ho : isOw c.O i k = true := by rfl) (hu : onlyK c.O i k = true := by rfl) (hk : k = .l ∨ k = .p := by first | exact .inl rfl | exact .inr rfl)
    (ps : ∀ {t u : TE}, PE X e t → PE X o u → PS X (.Assign [.Subscript (.Name x p1) o p2] e pos) (tAsg t (gSub (tVar i) u rSetL)) := by exact fun h h' => ps_asg h (pg_sub (pv _) h' set_list)) : PSD X c (.Assign [.Subscript (.Name x p1) o p2] e pos) (dSet i f g) :=
  PS.imp (ps h hg) fun Dn σ H ⟨F, ρ, E, w⟩ => by
    have hi := isOw_of ho
    obtain ⟨l, e1, w1⟩ := atL_wp w
    obtain ⟨a, xs, ds, z, h2, h3, h4, h5⟩ := E.lst hi hk e1
    cases z
    refine ex_wp E w1 fun d v H' s E' r w2 => ⟨_, h2, ex_wp E' w2 fun dz vz H2 s2 E2 r2 w3 => ?_⟩
    have s12 := s.trans s2
    cases dz <;> try exact w3.elim
    rename_i n
    cases r2
    cases hj : ixN l.length n with
    | none => simp only [hj] at w3; exact w3.elim
    | some j =>
      simp only [hj] at w3
      refine ⟨a, xs, n, j, rfl, rfl, s12 _ _ h3, by rw [h5.len]; exact hj, ?_⟩
      refine w3 σ _ (E2.cell hi hu h2 (cel_l hk upd_same ?_ ((h5.up (hid_mono s12)).set (r.up (hid_mono s2)) j))) (stp_cell hi h2 ⟨_, s12 _ _ h3, rfl⟩)
      rw [List.length_set]
      exact h4

/-! ### targets -/
def rdG (K : PySem.W.Frag) (c : Pc) (is : List Nat) (b : D → Env → Option Env) : TG := fun v σ H Q => ∃ F ρ d, EnvR K c.O F ρ σ H ∧ Rp K (hid (F.A ++ own c.O σ) H) v d ∧ ∃ ρ', b d ρ = some ρ' ∧
  ∀ σ', EnvR K c.O F ρ' σ' H → own c.O σ' = own c.O σ → (∀ j, j ∉ is → σ'[j]? = σ[j]?) → σ'.length = σ.length → Q σ' H
def rdGs (K : PySem.W.Frag) (c : Pc) (is : List Nat) (b : List D → Env → Option Env) : TGs := fun vs σ H Q => ∃ F ρ ds, EnvR K c.O F ρ σ H ∧ RpA K (hid (F.A ++ own c.O σ) H) vs ds ∧ ∃ ρ', b ds ρ = some ρ' ∧
  ∀ σ', EnvR K c.O F ρ' σ' H → own c.O σ' = own c.O σ → (∀ j, j ∉ is → σ'[j]? = σ[j]?) → σ'.length = σ.length → Q σ' H
abbrev PGD (X : Cx) (c : Pc) (e : Expr) (is : List Nat) (b : D → Env → Option Env) : Prop := PG X e (rdG X.K c is b)
abbrev PGsD (X : Cx) (c : Pc) (es : List Expr) (is : List Nat) (b : List D → Env → Option Env) : Prop := PGs X es (rdGs X.K c is b)
theorem PG.imp {e : Expr} {t t' : TG} (h : PG X e t) (f : ∀ v σ H Q, t' v σ H Q → t v σ H Q) : PG X e t' := ⟨fun pins s σ H x u Q I r q => h.run pins s σ H x u Q I r (f x σ H Q q)⟩
theorem PGs.imp {e : List Expr} {t t' : TGs} (h : PGs X e t) (f : ∀ v σ H Q, t' v σ H Q → t v σ H Q) : PGs X e t' := ⟨fun pins s σ H x u Q I r q => h.run pins s σ H x u Q I r (f x σ H Q q)⟩
def b1 (i : Nat) : D → Env → Option Env := fun d ρ => some (ρ.set i (some d))
def bs : List Nat → List D → Env → Option Env
  | [], [], ρ => some ρ
  | i :: is, d :: ds, ρ => bs is ds (ρ.set i (some d))
  | _, _, _ => none
def bT (is : List Nat) : D → Env → Option Env := fun d ρ => match d with
  | .tuple ds => bs is ds ρ
  | _ => none
theorem pg_nameD (i : Nat) {x : Str} (hN : X.N.Nodup) (ho : noOw c.O i = true := by rfl) (hi : X.N[i]? = some x := by rfl) (hx : Loc X.env.scope x := by first | exact Or.inl rfl | exact Or.inr rfl) (hf : X.fn x = true ∨ X.env.scope.names.lookup x = some .local := by first | exact .inl rfl | exact .inr rfl) : PGD X c (.Name x pos) [i] (b1 i) :=
  PG.imp (pg_name hN hi hx hf) fun v σ H Q ⟨F, ρ, d, E, r, ρ', e, q⟩ => by
    cases e
    exact q _ (E.set (noOw_of ho) r) (own_set (noOw_of ho)) (fun j hj => List.getElem?_set_ne fun z => hj (by rw [z]; exact List.mem_singleton_self _)) (List.length_set ..)
theorem pgs_nilD : PGsD X c [] [] (bs []) := PGs.imp pgs_nil fun v σ H Q ⟨F, ρ, ds, E, r, ρ', e, q⟩ => by
  cases r with
  | nil =>
    cases e
    exact ⟨rfl, q σ E rfl (fun _ _ => rfl) rfl⟩
  | cons _ _ => cases e
theorem pgs_consD (i : Nat) {x : Str} {es : List Expr} {is : List Nat} (hN : X.N.Nodup) (h : PGsD X c es is (bs is)) (ho : noOw c.O i = true := by rfl) (hi : X.N[i]? = some x := by rfl) (hx : Loc X.env.scope x := by first | exact Or.inl rfl | exact Or.inr rfl) (hf : X.fn x = true ∨ X.env.scope.names.lookup x = some .local := by first | exact .inl rfl | exact .inr rfl) :
    PGsD X c (.Name x pos :: es) (i :: is) (bs (i :: is)) :=
  PGs.imp (pgs_cons (pg_name hN hi hx hf) h) fun vs σ H Q ⟨F, ρ, ds, E, r, ρ', e, q⟩ => by
    cases r with
    | nil => cases e
    | @cons v vs' d ds' r1 r2 =>
      refine ⟨v, vs', rfl, F, _, ds', E.set (noOw_of ho) r1, by rw [own_set (noOw_of ho)]; exact r2, ρ', e, fun σ' E' o' k' l' => q σ' E' (by rw [o', own_set (noOw_of ho)]) (fun j hj => ?_) (by rw [l', List.length_set])⟩
      rw [k' j fun z => hj (List.mem_cons_of_mem _ z)]
      exact List.getElem?_set_ne fun z => hj (by rw [z]; exact List.mem_cons_self)
theorem bs_len : ∀ {is : List Nat} {ds : List D} {ρ ρ' : Env}, bs is ds ρ = some ρ' → ds.length = is.length
  | [], [], _, _, _ => rfl
  | i :: is, d :: ds, ρ, ρ', h => by
    rw [List.length_cons, List.length_cons, bs_len (is := is) (ds := ds) h]
  | [], _ :: _, _, _, h => by cases h
  | _ :: _, [], _, _, h => by cases h
theorem pg_tupD {es : List Expr} {is : List Nat} {k : Nat} {n : Nat} (hc : X.calm = true) (h : PGsD X c es is (bs is)) (hl : is.length = n := by rfl)
    (pg : ∀ {t : TGs}, PGs X es t → PG X (.Tuple es k pos) (gTup X.K n t) := by exact fun h => pg_tup (by first | assumption | rfl) h) : PGD X c (.Tuple es k pos) is (bT is) :=
  PG.imp (pg h) fun v σ H Q ⟨F, ρ, d, E, r, ρ', e, q⟩ => by
    cases d <;> try (cases e)
    rename_i ds
    cases r with
    | @tuple a xs _ h1 h2 h3 =>
      exact ⟨a, xs, rfl, SqT.of (hid_sub _ _ h1), by rw [h3.len, bs_len e, hl], F, ρ, ds, E, h3, ρ', e, q⟩
/-- a, b = e -/
def dAsgG (b : D → Env → Option Env) (f : DE) : DS := fun ρ => lift (f ρ) ρ fun d => match b d ρ with
  | some ρ' => .nx ρ'
  | none => .bad
theorem ps_asgG {tg e : Expr} {f : DE} {is : List Nat} {b : D → Env → Option Env} (h : PD X c true e f) (hg : PGD X c tg is b) (ho : ∀ i ∈ is, noOw c.O i = true := by decide) (ps : ∀ {u : TE} {g : TG}, PE X e u → PG X tg g → PS X (.Assign [tg] e pos) (tAsg u g) := by exact fun h h' => ps_asg h h') : PSD X c (.Assign [tg] e pos) (dAsgG b f) :=
  PS.imp (ps h hg) fun Dn σ H ⟨F, ρ, E, w⟩ => ex_wp E w fun d v H' s E' r w' => by
    cases hb : b d ρ with
    | none => rw [hb] at w'; exact w'.elim
    | some ρ' =>
      rw [hb] at w'
      exact ⟨F, ρ, d, E', r, ρ', hb, fun σ' E2 o2 _ _ => w' σ' H' E2 ⟨fun _ _ _ q => q, fun z hz => .inl (by rw [← o2]; exact hz)⟩⟩

/-! ### what is walked -/
/-- an iterator that gives the data ds, from the heap H1 on; what is in B may change; what is in B' or is new stays hidden -/
def ItD (K : PySem.W.Frag) (B B' : List Addr) (J : It) (ds : List D) (H1 : Hp) : Prop := ∀ H2 N, (∀ b o, b ∉ B ∨ frzO o = true → H1 b = some o → H2 b = some o) → (∀ b ∈ N, b ∈ B' ∨ H1 b = none) → Dom N H2 →
  (∀ i, i < ds.length → J.go i H2) ∧ J.stop ds.length H2 ∧ ∀ i x H3 d, ds[i]? = some d → J.yld i H2 x H3 → Same H2 H3 ∧ Rp K (hid N H3) x d
/-- lp: the walk of a for (its body may change owned cells) -/
def bOf (lp : Bool) (c : Pc) (σ : St) : List Addr := if lp then own c.O σ else []
def rdI (K : PySem.W.Frag) (c : Pc) (lp : Bool) (f : DA) : TI := fun σ H R => ∃ F ρ, EnvR K c.O F ρ σ H ∧ (f ρ).wp (fun ds => ∀ J H', Same H H' → ds.length ≤ sizeLine → ItD K (bOf lp c σ) (F.A ++ own c.O σ) J ds H' → R J H') (erW c σ H)
abbrev PID (X : Cx) (c : Pc) (lp : Bool) (tg it : Expr) (f : DA) : Prop := PI X tg it (rdI X.K c lp f)
def loopR (o : SO) (k : Env → SO) : SO := match o with
  | .nx ρ => k ρ
  | .ct ρ => k ρ
  | .bk ρ => .nx ρ
  | .rt d ρ => .rt d ρ
  | .err x ρ => .err x ρ
  | .bad => .bad
def obS (o : Option Env) (k : Env → SO) : SO := match o with
  | some ρ => k ρ
  | none => .bad
theorem obS_wp {o : Option Env} {k : Env → SO} {P B C : Env → Prop} {R : D → Env → Prop} {E : Nat → Env → Prop} (h : (obS o k).wp P B C R E) : ∃ ρ, o = some ρ ∧ (k ρ).wp P B C R E := by
  cases o with
  | none => exact h.elim
  | some ρ => exact ⟨ρ, rfl, h⟩
theorem loopR_wp {o : SO} {k : Env → SO} {P B C : Env → Prop} {R : D → Env → Prop} {E : Nat → Env → Prop} (h : (loopR o k).wp P B C R E) : o.wp (fun ρ => (k ρ).wp P B C R E) P (fun ρ => (k ρ).wp P B C R E) R E := by
  cases o <;> exact h
theorem SO.imp {o : SO} {P B C P' B' C' : Env → Prop} {R R' : D → Env → Prop} {E E' : Nat → Env → Prop} (h : o.wp P B C R E) (h1 : ∀ ρ, P ρ → P' ρ) (h2 : ∀ ρ, B ρ → B' ρ) (h3 : ∀ ρ, C ρ → C' ρ) (h4 : ∀ d ρ, R d ρ → R' d ρ) (h5 : ∀ x ρ, E x ρ → E' x ρ) : o.wp P' B' C' R' E' := by
  cases o with
  | nx ρ => exact h1 ρ h
  | bk ρ => exact h2 ρ h
  | ct ρ => exact h3 ρ h
  | rt d ρ => exact h4 d ρ h
  | err x ρ => exact h5 x ρ h
  | bad => exact h
def dForL (b : D → Env → Option Env) (body : DS) : List D → Env → SO
  | [], ρ => .nx ρ
  | d :: ds, ρ => obS (b d ρ) fun ρ1 => loopR (body ρ1) (dForL b body ds)
def dFor (it : DA) (b : D → Env → Option Env) (body : DS) : DS := fun ρ => lift (it ρ) ρ fun ds => dForL b body ds ρ
theorem ps_forD {tg it : Expr} {body : List Stmt} {f : DA} {is : List Nat} {b : D → Env → Option Env} {t : DS} (hp : PassesOwn (model X.prog X.w) X.A X.env X.xe) (hc : X.calm = true) (hi : PID X c true tg it f) (hg : PGD X c tg is b) (hb : PSsD X c body t)
    (hs : ∀ x, foldedSetIterable it X.env x = pure x := by intro _; rfl) : PSD X c (.For tg it body [] pos) (dFor f b t) :=
  PS.imp (ps_for hp hc hi hg hb hs) fun Dn σ H ⟨F, ρ, E, w⟩ => by
    refine ⟨F, ρ, E, (lift_wp w).imp (fun ds k J H1 s1 hl it => ?_) fun x z => erW_of E z⟩
    have E1 := E.up s1
    have k1 := SO.up (c := c) (F := F) (Dn := Dn) (.same s1) k
    refine ⟨fun i n σ2 H2 => n = ds.length - i ∧ i ≤ ds.length ∧ ∃ ρ2, EnvR X.K c.O F ρ2 σ2 H2 ∧ Stp c.O σ H1 σ2 H2 ∧ (dForL b t (ds.drop i) ρ2).wp (nxW X.K c F σ2 H2 Dn.nx) (nxW X.K c F σ2 H2 Dn.bk) (nxW X.K c F σ2 H2 Dn.ct) (rtW X.K c F σ2 H2 Dn.rt) (xW X.K c F σ2 H2),
      ⟨ds.length, by simp, Nat.zero_le _, ρ, E1, .refl, k1⟩, ?_⟩
    rintro i n σ2 H2 ⟨rfl, hi, ρ2, E2, st2, w2⟩
    obtain ⟨g1, g2, g3⟩ := it H2 (F.A ++ own c.O σ2) st2.keep (fun z hz => by
      rcases List.mem_append.mp hz with q | q
      · exact .inl (List.mem_append_left _ q)
      · rcases st2.new z q with q | q
        · exact .inl (List.mem_append_right _ q)
        · exact .inr q) (E2.hdom true)
    by_cases hlt : i < ds.length
    · have hd : ds.drop i = ds[i] :: ds.drop (i + 1) := List.drop_eq_getElem_cons hlt
      rw [hd] at w2
      obtain ⟨ρ3, hbd, w3⟩ := obS_wp w2
      refine .inr ⟨g1 i hlt, fun σ' H' => ∃ ρ', EnvR X.K c.O F ρ' σ' H' ∧ Stp c.O σ H1 σ' H' ∧ (dForL b t (ds.drop (i + 1)) ρ').wp (nxW X.K c F σ' H' Dn.nx) (nxW X.K c F σ' H' Dn.bk) (nxW X.K c F σ' H' Dn.ct) (rtW X.K c F σ' H' Dn.rt) (xW X.K c F σ' H'),
        fun σ' H' q => ⟨ds.length - (i + 1), by omega, rfl, hlt, q⟩, fun x H3 y => ?_⟩
      obtain ⟨s3, r3⟩ := g3 i x H3 ds[i] (List.getElem?_eq_getElem hlt) y
      refine ⟨F, ρ2, ds[i], E2.up s3, r3, ρ3, hbd, fun σ3 E3 o3 _ _ => ⟨F, ρ3, E3, ?_⟩⟩
      have st3 : Stp c.O σ2 H2 σ3 H3 := ⟨fun z o _ e => s3 z o e, fun z hz => .inl (by rw [← o3]; exact hz)⟩
      exact SO.imp (loopR_wp w3) (fun ρ4 q σ4 H4 E4 st4 => ⟨ρ4, E4, (st2.trans st3).trans st4, SO.up (st3.trans st4) q⟩) (fun ρ4 q => nxW.up q st3) (fun ρ4 q σ4 H4 E4 st4 => ⟨ρ4, E4, (st2.trans st3).trans st4, SO.up (st3.trans st4) q⟩) (fun d ρ4 q => rtW.up q st3) (fun x ρ4 q => xW.up q st3)
    · have e : i = ds.length := by omega
      subst e
      rw [List.drop_length] at w2
      exact .inl ⟨g2, w2 σ2 H2 E2 .refl⟩
/-- while -/
def dWh (b : DT) (t : DS) : Nat → Env → SO
  | 0, _ => .bad
  | n + 1, ρ => lift (b ρ) ρ fun k => if k = true then loopR (t ρ) (dWh b t n) else .nx ρ
theorem ps_whileD (n : Nat) {e : Expr} {body : List Stmt} {b : DT} {t : DS} (hp : PassesOwn (model X.prog X.w) X.A X.env X.xe) (hc : PTD X c e b) (hb : PSsD X c body t) : PSD X c (.While e body [] pos) (dWh b t n) :=
  PS.imp (ps_while hp hc hb) fun Dn σ H ⟨F, ρ, E, w⟩ => by
    refine ⟨fun n σ2 H2 => ∃ ρ2, EnvR X.K c.O F ρ2 σ2 H2 ∧ (dWh b t n ρ2).wp (nxW X.K c F σ2 H2 Dn.nx) (nxW X.K c F σ2 H2 Dn.bk) (nxW X.K c F σ2 H2 Dn.ct) (rtW X.K c F σ2 H2 Dn.rt) (xW X.K c F σ2 H2), ⟨n, ρ, E, w⟩, ?_⟩
    rintro n σ2 H2 ⟨ρ2, E2, w2⟩
    cases n with
    | zero => exact w2.elim
    | succ n =>
      refine ts_wp E2 w2 fun k H3 s3 E3 w3 => ?_
      cases k with
      | false =>
        rw [if_neg Bool.false_ne_true] at w3 ⊢
        exact w3 σ2 H3 E3 .refl
      | true =>
        rw [if_pos rfl] at w3 ⊢
        refine ⟨fun σ' H' => ∃ ρ', EnvR X.K c.O F ρ' σ' H' ∧ (dWh b t n ρ').wp (nxW X.K c F σ' H' Dn.nx) (nxW X.K c F σ' H' Dn.bk) (nxW X.K c F σ' H' Dn.ct) (rtW X.K c F σ' H' Dn.rt) (xW X.K c F σ' H'), fun σ' H' q => ⟨n, Nat.lt_succ_self n, q⟩, F, ρ2, E3, ?_⟩
        exact SO.imp (loopR_wp w3) (fun ρ4 q σ4 H4 E4 st4 => ⟨ρ4, E4, SO.up st4 q⟩) (fun ρ4 q => q) (fun ρ4 q σ4 H4 E4 st4 => ⟨ρ4, E4, SO.up st4 q⟩) (fun d ρ4 q => q) (fun x ρ4 q => q)
end
end Pd

/-! Pd3: comprehensions, plain iterators, defs. -/
namespace Pd
open PySem L2
theorem wipe_get (σ : St) (vs : List Nat) (j : Nat) : (wipe σ vs)[j]? = if j ∈ vs then (if j < σ.length then some none else none) else σ[j]? := by
  induction vs with
  | nil => simp [wipe]
  | cons v vs ih =>
    unfold wipe
    by_cases hv : v = j
    · subst hv
      rw [if_pos List.mem_cons_self]
      by_cases hl : v < σ.length
      · rw [List.getElem?_set_self (by rw [wipe_length]; exact hl), if_pos hl]
      · rw [List.getElem?_eq_none (by rw [List.length_set, wipe_length]; omega), if_neg hl]
    · rw [List.getElem?_set_ne hv, ih]
      have : (j ∈ v :: vs) ↔ j ∈ vs := by simp [Ne.symm hv]
      simp only [this]
theorem wipe_eq {σ σ2 : St} {vs : List Nat} (h : ∀ j, j ∉ vs → σ2[j]? = (wipe σ vs)[j]?) (hl : σ2.length = σ.length) : wipe σ2 vs = wipe σ vs := by
  refine List.ext_getElem? fun j => ?_
  rw [wipe_get, wipe_get]
  split
  · rw [hl]
  · rename_i hj
    rw [h j hj, wipe_get, if_neg hj]
def wipeE (ρ : Env) : List Nat → Env
  | [] => ρ
  | v :: vs => (wipeE ρ vs).set v none
def Out.ne {α : Type} (o : Out α) : Out α := match o with
  | .ok a => .ok a
  | _ => .bad
@[simp] theorem ne_ok {α : Type} (a : α) : (Out.ok a).ne = .ok a := rfl
theorem ne_bind_ok {α β : Type} {o : Out α} {f : α → Out β} {b : β} (h : (o.ne.bind f) = .ok b) : ∃ a, o = .ok a ∧ f a = .ok b := by
  cases o with
  | ok a => exact ⟨a, rfl, h⟩
  | err _ => cases h
  | bad => cases h
theorem bind_ok {α β : Type} {o : Out α} {f : α → Out β} {b : β} (h : o.bind f = .ok b) : ∃ a, o = .ok a ∧ f a = .ok b := by
  cases o with
  | ok a => exact ⟨a, rfl, h⟩
  | err _ => cases h
  | bad => cases h
def obO {α : Type} (o : Option Env) (k : Env → Out α) : Out α := match o with
  | some ρ => k ρ
  | none => .bad
@[simp] theorem obO_some {α : Type} (ρ : Env) (k : Env → Out α) : obO (some ρ) k = k ρ := rfl
/-- the items of a comprehension -/
def dLcL (b : D → Env → Option Env) (tst : DT) (elt : DE) (ρ0 : Env) : List D → Out (List D)
  | [] => .ok []
  | d :: ds => obO (b d ρ0) fun ρ1 => (tst ρ1).ne.bind fun k => if k = true then (elt ρ1).ne.bind fun y => (dLcL b tst elt ρ0 ds).bind fun r => .ok (y :: r) else dLcL b tst elt ρ0 ds
theorem dLcL_ok {b : D → Env → Option Env} {tst : DT} {elt : DE} {ρ0 : Env} {d : D} {ds r : List D} (h : dLcL b tst elt ρ0 (d :: ds) = .ok r) :
    ∃ ρ1 k, b d ρ0 = some ρ1 ∧ tst ρ1 = .ok k ∧ (k = true → ∃ y r', elt ρ1 = .ok y ∧ dLcL b tst elt ρ0 ds = .ok r' ∧ r = y :: r') ∧ (k = false → dLcL b tst elt ρ0 ds = .ok r) := by
  unfold dLcL at h
  cases e : b d ρ0 with
  | none => rw [e] at h; cases h
  | some ρ1 =>
    rw [e] at h
    obtain ⟨k, e2, h2⟩ := ne_bind_ok h
    refine ⟨ρ1, k, rfl, e2, fun hk => ?_, fun hk => ?_⟩
    · rw [if_pos hk] at h2
      obtain ⟨y, e3, h3⟩ := ne_bind_ok h2
      obtain ⟨r', e4, h4⟩ := bind_ok h3
      cases h4
      exact ⟨y, r', e3, e4, rfl⟩
    · rw [if_neg (by rw [hk]; exact Bool.false_ne_true)] at h2
      exact h2
theorem dLcL_noerr {b : D → Env → Option Env} {tst : DT} {elt : DE} {ρ0 : Env} {x : Nat} : ∀ {ds : List D}, dLcL b tst elt ρ0 ds ≠ .err x
  | [], h => by cases h
  | d :: ds, h => by
    unfold dLcL at h
    cases e : b d ρ0 with
    | none => rw [e] at h; cases h
    | some ρ1 =>
      rw [e] at h
      simp only [obO_some] at h
      cases e2 : tst ρ1 with
      | err _ => rw [e2] at h; cases h
      | bad => rw [e2] at h; cases h
      | ok k =>
        rw [e2] at h
        simp only [ne_ok, Out.ok_bind] at h
        cases k with
        | false => exact dLcL_noerr (ds := ds) h
        | true =>
          rw [if_pos rfl] at h
          cases e3 : elt ρ1 with
          | err _ => rw [e3] at h; cases h
          | bad => rw [e3] at h; cases h
          | ok y =>
            rw [e3] at h
            simp only [ne_ok, Out.ok_bind] at h
            cases e4 : dLcL b tst elt ρ0 ds with
            | err x' => exact dLcL_noerr (ds := ds) e4
            | bad => rw [e4] at h; cases h
            | ok r => rw [e4] at h; cases h
def dLc (it : DA) (b : D → Env → Option Env) (tst : DT) (elt : DE) (vs : List Nat) : DE := fun ρ => (it ρ).bind fun ds => (dLcL b tst elt (wipeE ρ vs) ds).bind fun r => .ok (.list r)
def dYes : DT := fun _ => .ok true

section
variable {K : PySem.W.Frag} {O : Ow} {F : Fm} {ρ : Env} {σ : St} {H H' : Hp}
abbrev Fm.more (F : Fm) (a : Addr) : Fm := { F with A := a :: F.A }
theorem EnvR.hide {a : Addr} {o : HO} (E : EnvR K O F ρ σ H) (n : H a = none) (s : Same H H') (h : H' a = some o) (hc : celO o = true) : EnvR K O (F.more a) ρ σ H' := by
  have E' := E.up s
  have up : Same (hid (F.A ++ own O σ) H) (hid ((F.more a).A ++ own O σ) H') := fun b o q => by
    obtain ⟨h1, h2⟩ := hid_some q
    refine hid_of (fun z => ?_) (s _ _ h2)
    rcases List.mem_cons.mp (show b ∈ a :: (F.A ++ own O σ) from z) with z | z
    · rw [z, n] at h2
      cases h2
    · exact h1 z
  refine ⟨E.len, fun i d hd nj => ?_, fun i k hi => ?_, E.dis, fun b hb => ?_, E.fix, E.fxO⟩
  · obtain ⟨v, h1, h2⟩ := E.val i d hd nj
    exact ⟨v, h1, h2.up up⟩
  · rcases E.cel i k hi with ⟨d, b, q1, q2, q3, q4⟩ | q
    · obtain ⟨ob, e, _⟩ := q4.some
      refine .inl ⟨d, b, q1, q2, fun z => ?_, q4.up up (by rw [e, s _ _ e])⟩
      rcases List.mem_cons.mp z with z | z
      · rw [z, n] at e
        cases e
      · exact q3 z
    · exact .inr q
  · rcases List.mem_cons.mp hb with z | z
    · exact ⟨o, by rw [z]; exact h, hc⟩
    · exact E'.adom b z
theorem EnvR.wipe {vs : List Nat} (E : EnvR K O F ρ σ H) (hv : ∀ i ∈ vs, ∀ k, (i, k) ∉ O) : EnvR K O F (wipeE ρ vs) (L2.wipe σ vs) H ∧ own O (L2.wipe σ vs) = own O σ := by
  induction vs with
  | nil => exact ⟨E, rfl⟩
  | cons v vs ih =>
    obtain ⟨E1, o1⟩ := ih fun i hi => hv i (List.mem_cons_of_mem _ hi)
    have n := hv v List.mem_cons_self
    exact ⟨E1.forget n, (own_set n).trans o1⟩
end
def allNo (O : Ow) (vs : List Nat) : Bool := vs.all fun i => noOw O i
theorem allNo_of {O : Ow} {vs : List Nat} (h : allNo O vs = true) : ∀ i ∈ vs, ∀ k, (i, k) ∉ O := fun i hi => noOw_of (List.all_eq_true.mp h i hi)
section
variable {X : Cx} {c : Pc} {m : Bool}
theorem lc_wp {it : DA} {b : D → Env → Option Env} {tst : DT} {elt : DE} {is vs : List Nat} {F : Fm} {ρ : Env} {σ : St} {H : Hp} {Q : VK} (hv : ∀ i ∈ is, i ∈ vs) (hvo : ∀ i ∈ vs, ∀ k, (i, k) ∉ c.O) (E : EnvR X.K c.O F ρ σ H)
    (w : (dLc it b tst elt vs ρ).wp (fun d => ∀ r a xs H', d = .list r → Same H H' → H a = none → H' a = some (.lst xs) → xs.length ≤ sizeLine → RpA X.K (hid (a :: hs m F c.O σ) H') xs r → Q (.ref a) H') (erW c σ H)) :
    tLc (rdI X.K c false it) (rdG X.K c is b) (rdT X.K c.w0 tst) (rdE X.K c.w0 m elt) vs σ H Q := by
  refine ⟨F, ρ, E, (Out.wp_bind w).imp (fun ds k J H1 s1 hl itd a na => ?_) fun _ z => z⟩
  cases hr : dLcL b tst elt (wipeE ρ vs) ds with
  | bad => rw [hr] at k; exact k.elim
  | err x => exact absurd hr dLcL_noerr
  | ok rf =>
    rw [hr] at k
    replace k : ∀ r a xs H', D.list rf = .list r → Same H H' → H a = none → H' a = some (.lst xs) → xs.length ≤ sizeLine → RpA X.K (hid (a :: hs m F c.O σ) H') xs r → Q (.ref a) H' := k
    have E1 := E.up s1
    have nH : H a = none := Same.free s1 na
    obtain ⟨Ew, ow⟩ := E1.wipe hvo
    refine ⟨fun i n H2 => n = ds.length - i ∧ i ≤ ds.length ∧ Same H1 H2 ∧ ∃ acc accD r, H2 a = some (.lst acc) ∧ acc.length ≤ i ∧ RpA X.K (hid (a :: hs m F c.O σ) H2) acc accD ∧ dLcL b tst elt (wipeE ρ vs) (ds.drop i) = .ok r ∧ rf = accD ++ r,
      ⟨ds.length, by simp, Nat.zero_le _, same_upd na, [], [], rf, upd_same, Nat.le_refl _, .nil, hr, rfl⟩, ?_⟩
    rintro i n H2 ⟨rfl, hi, s2, acc, accD, r, ha, hacc, racc, hrr, hrf⟩
    have E2 : EnvR X.K c.O (F.more a) (wipeE ρ vs) (wipe σ vs) H2 := Ew.hide na s2 ha rfl
    obtain ⟨g1, g2, g3⟩ := itd H2 ((F.more a).A ++ own c.O (wipe σ vs)) (fun b o _ e => s2 b o e) (fun z hz => by
      rw [ow] at hz
      rcases List.mem_cons.mp (show z ∈ a :: (F.A ++ own c.O σ) from hz) with q | q
      · exact .inr (by rw [q]; exact na)
      · exact .inl q) (E2.hdom true)
    by_cases hlt : i < ds.length
    · have hd : ds.drop i = ds[i] :: ds.drop (i + 1) := List.drop_eq_getElem_cons hlt
      rw [hd] at hrr
      obtain ⟨ρ1, kb, e1, e2, hy, hn⟩ := dLcL_ok hrr
      refine .inr ⟨g1 i hlt, fun H3 => Same H1 H3 ∧ ∃ acc accD r, H3 a = some (.lst acc) ∧ acc.length ≤ i + 1 ∧ RpA X.K (hid (a :: hs m F c.O σ) H3) acc accD ∧ dLcL b tst elt (wipeE ρ vs) (ds.drop (i + 1)) = .ok r ∧ rf = accD ++ r,
        fun H3 q => ⟨ds.length - (i + 1), by omega, rfl, hlt, q⟩, fun x H3 y => ?_⟩
      obtain ⟨s3, r3⟩ := g3 i x H3 ds[i] (List.getElem?_eq_getElem hlt) y
      refine ⟨F.more a, wipeE ρ vs, ds[i], E2.up s3, r3, ρ1, e1, fun σ2 E3 o3 ke le => ⟨?_, ?_⟩⟩
      · refine wipe_eq (fun j hj => ?_) (by rw [le, wipe_length])
        exact ke j fun z => hj (hv j z)
      · refine ⟨F.more a, ρ1, E3, ?_⟩
        rw [e2]
        intro H4 s4
        have s24 := s3.trans s4
        cases kb with
        | false =>
          rw [if_neg Bool.false_ne_true]
          refine ⟨s2.trans s24, acc, accD, r, s24 _ _ ha, Nat.le_succ_of_le hacc, racc.up (hid_mono s24), hn rfl, hrf⟩
        | true =>
          rw [if_pos rfl]
          obtain ⟨yv, r', e5, e6, e7⟩ := hy rfl
          refine ⟨F.more a, ρ1, E3.up s4, ?_⟩
          rw [e5]
          intro v H5 s5 r5
          have s25 := s24.trans s5
          have hs5 : hs m (F.more a) c.O σ2 = a :: hs m F c.O σ := by
            unfold hs
            rw [o3, ow]
            cases m <;> rfl
          have r5' : Rp X.K (hid (a :: hs m F c.O σ) H5) v yv := by
            rw [← hs5]
            exact r5
          refine ⟨acc, s25 _ _ ha, Nat.lt_of_le_of_lt hacc (Nat.lt_of_lt_of_le hlt hl), ?_, acc ++ [v], accD ++ [yv], r', upd_same, ?_, ?_, e6, ?_⟩
          · intro b o e
            by_cases hb : b = a
            · rw [hb, na] at e
              cases e
            · rw [upd_ne hb]
              exact s25 _ _ (s2 _ _ e)
          · rw [List.length_append, List.length_singleton]
            omega
          · rw [hid_upd List.mem_cons_self]
            exact (racc.up (hid_mono s25)).append (.cons r5' .nil)
          · rw [hrf, e7, List.append_assoc]
            rfl
    · have e : i = ds.length := by omega
      subst e
      rw [List.drop_length] at hrr
      cases hrr
      rw [List.append_nil] at hrf
      subst hrf
      exact .inl ⟨g2, k _ a acc H2 rfl (s1.trans s2) nH ha (Nat.le_trans hacc hl) racc⟩
end

section
variable {X : Cx} {c : Pc} {m : Bool} {elt tg iter : Expr} {ifs : List Expr} {scope : Scope} {own' : List (Str × Nat)} {pos : Pos} {it : DA} {b : D → Env → Option Env} {tst : DT} {fe : DE} {is : List Nat}
abbrev PTsD (X : Cx) (c : Pc) (ifs : List Expr) (t : DT) : Prop := PTs X ifs (rdT X.K c t)
theorem pts_nilD : PTsD X c [] dYes := ⟨fun pins s σ H Q I ⟨F, ρ, E, w⟩ => pts_nil.run pins s σ H Q I (w H (Same.refl H))⟩
theorem pts_oneD {e : Expr} {t : DT} (h : PTD X c e t) : PTsD X c [e] t := pts_one h
abbrev LcP (X : Cx) (scope : Scope) (P : Cx → Prop) : Prop := ∀ (s : Shared) (H : Hp) (C : Addr) (cl : List (Str × Addr)) (fp : List Addr), P (X.blk s H scope (compEnvC scope cl C X.env) fp)
def subs (is vs : List Nat) : Bool := is.all fun i => vs.contains i
theorem subs_of {is vs : List Nat} (h : subs is vs = true) : ∀ i ∈ is, i ∈ vs := fun i hi => by
  have := List.all_eq_true.mp h i hi
  simpa using this
theorem pd_lc (hc : X.calm = true) (hN : X.N.Nodup) (hi : PID X c false tg iter it) (ok : BlkOk X.N X.env.scope scope own')
    (hg : LcP X scope fun Y => PGD Y c tg is b) (ht : LcP X scope fun Y => PTsD Y c.w0 ifs tst) (he : LcP X scope fun Y => PD Y c.w0 m elt fe) (hv : subs is (own'.map (·.2)) = true := by rfl) (hvo : allNo c.O (own'.map (·.2)) = true := by rfl) (hs : ∀ x, foldedSetIterable iter X.env x = pure x := by intro _; rfl) :
    PD X c m (.ListComp elt [⟨tg, iter, ifs, 0⟩] scope pos) (dLc it b tst fe (own'.map (·.2))) :=
  PE.imp (pe_lc hc hN hi ok hg ht he hs) fun σ H Q ⟨F, ρ, E, w⟩ => lc_wp (m := m) (subs_of hv) (allNo_of hvo) E (w.imp (fun d k r a xs H' e s n h z rr => by
    subst e
    refine k _ H' s (.list (hid_of (Dom.free (E.hdom m) n) h) z (rr.up (hid_le fun b hb => .inl (List.mem_cons_of_mem _ hb))))) fun _ z => z)
theorem pf_lc (hc : X.calm = true) (hN : X.N.Nodup) (hi : PID X c false tg iter it) (ok : BlkOk X.N X.env.scope scope own')
    (hg : LcP X scope fun Y => PGD Y c tg is b) (ht : LcP X scope fun Y => PTsD Y c.w0 ifs tst) (he : LcP X scope fun Y => PD Y c.w0 true elt fe) (hv : subs is (own'.map (·.2)) = true := by rfl) (hvo : allNo c.O (own'.map (·.2)) = true := by rfl) (hs : ∀ x, foldedSetIterable iter X.env x = pure x := by intro _; rfl) :
    PF X c .l (.ListComp elt [⟨tg, iter, ifs, 0⟩] scope pos) (dLc it b tst fe (own'.map (·.2))) :=
  PE.imp (pe_lc hc hN hi ok hg ht he hs) fun σ H Q ⟨F, ρ, E, w⟩ => lc_wp (m := true) (subs_of hv) (allNo_of hvo) E (w.imp (fun d k r a xs H' e s n h z rr => by
    subst e
    exact k a H' s n ⟨xs, r, rfl, h, z, rr⟩) fun _ z => z)
/-- y = [..], y a local on the same row -/
theorem ps_lcD (i : Nat) {y : Str} {py spos : Pos} (hc : X.calm = true) (hN : X.N.Nodup) (hi : PID X c false tg iter it) (ok : BlkOk X.N X.env.scope scope own')
    (hg : LcP X scope fun Y => PGD Y c tg is b) (ht : LcP X scope fun Y => PTsD Y c.w0 ifs tst) (he : LcP X scope fun Y => PD Y c.w0 true elt fe) (ho : noOw c.O i = true := by rfl) (hv : subs is (own'.map (·.2)) = true := by rfl) (hvo : allNo c.O (own'.map (·.2)) = true := by rfl)
    (ps : ∀ {wi : TI} {g : TG} {tt : TT} {te : TE}, PI X tg iter wi → LcP X scope (fun Y => PG Y tg g) → LcP X scope (fun Y => PTs Y ifs tt) → LcP X scope (fun Y => PE Y elt te) → PS X (.Assign [.Name y py] (.ListComp elt [⟨tg, iter, ifs, 0⟩] scope pos) spos) (tAsg (tLc wi g tt te (own'.map (·.2))) (gName i)) := by
      exact fun h1 h2 h3 h4 => ps_setLc (by assumption) (by assumption) rfl rfl (sw_true rfl rfl rfl (by decide +kernel)) h1 (by assumption) h2 h3 h4) :
    PSD X c (.Assign [.Name y py] (.ListComp elt [⟨tg, iter, ifs, 0⟩] scope pos) spos) (dAsg i (dLc it b tst fe (own'.map (·.2)))) :=
  PS.imp (ps hi hg ht he) fun Dn σ H ⟨F, ρ, E, w⟩ => lc_wp (m := true) (subs_of hv) (allNo_of hvo) E ((lift_wp w).imp (fun d k r a xs H' e s n h z rr => by
    subst e
    have E' := E.up s
    exact asg_wp (k := fun _ => ρ) E' (noOw_of ho) (.list (hid_of (Dom.free (E.hdom true) n) h) z (rr.up (hid_le fun b hb => .inl (List.mem_cons_of_mem _ hb)))) (SO.up (o := .nx _) (Dn := Dn) (.same s) k)) fun x z => erW_of E z)
theorem ps_lcO (i : Nat) {y : Str} {py spos : Pos} (hc : X.calm = true) (hN : X.N.Nodup) (hi : PID X c false tg iter it) (ok : BlkOk X.N X.env.scope scope own')
    (hg : LcP X scope fun Y => PGD Y c tg is b) (ht : LcP X scope fun Y => PTsD Y c.w0 ifs tst) (he : LcP X scope fun Y => PD Y c.w0 true elt fe) (ho : isOw c.O i .l = true := by rfl) (hu : onlyK c.O i .l = true := by rfl) (hv : subs is (own'.map (·.2)) = true := by rfl) (hvo : allNo c.O (own'.map (·.2)) = true := by rfl)
    (ps : ∀ {wi : TI} {g : TG} {tt : TT} {te : TE}, PI X tg iter wi → LcP X scope (fun Y => PG Y tg g) → LcP X scope (fun Y => PTs Y ifs tt) → LcP X scope (fun Y => PE Y elt te) → PS X (.Assign [.Name y py] (.ListComp elt [⟨tg, iter, ifs, 0⟩] scope pos) spos) (tAsg (tLc wi g tt te (own'.map (·.2))) (gName i)) := by
      exact fun h1 h2 h3 h4 => ps_setLc (by assumption) (by assumption) rfl rfl (sw_true rfl rfl rfl (by decide +kernel)) h1 (by assumption) h2 h3 h4) :
    PSD X c (.Assign [.Name y py] (.ListComp elt [⟨tg, iter, ifs, 0⟩] scope pos) spos) (dAsg i (dLc it b tst fe (own'.map (·.2)))) :=
  PS.imp (ps hi hg ht he) fun Dn σ H ⟨F, ρ, E, w⟩ => lc_wp (m := true) (subs_of hv) (allNo_of hvo) E ((lift_wp w).imp (fun d k r a xs H' e s n h z rr => by
    subst e
    exact k _ H' (E.setO (isOw_of ho) hu (by decide) s n ⟨xs, r, rfl, h, z, rr⟩) (stp_setO s n)) fun x z => erW_of E z)
end

/-! ### plain iterators -/
section
variable {X : Cx} {c : Pc} {m lp : Bool} {tg e : Expr} {pos p : Pos} {f : DE}
def keyD : Key → D
  | .inl i => .int i
  | .inr s => .str s
def keyT (kvs : List (List Key × V)) : List D := kvs.map fun p => .tuple (p.1.map keyD)
/-- a dict with tuples as keys, small enough -/
def smallT (kvs : List (List Key × V)) : Bool := decide (kvs.length ≤ 100000) && kvs.all fun p => decide (p.1.length ≤ 1000)
def dSeqI (f : DE) : DA := fun ρ => (f ρ).bind fun d => match d with
  | .list l => .ok l
  | .tuple l => .ok l
  | .ftup l => .ok l
  | .fdt kvs => if smallT kvs = true then .ok (keyT kvs) else .bad
  | _ => .bad
theorem key_R {K : PySem.W.Frag} {H : Hp} (k : Key) : Rp K H (kV k) (keyD k) := by
  cases k with
  | inl i => exact .int i
  | inr s => exact .str s
theorem keysA_R {K : PySem.W.Frag} {H : Hp} : ∀ ks : List Key, RpA K H (ks.map kV) (ks.map keyD)
  | [] => .nil
  | k :: ks => .cons (key_R k) (keysA_R ks)
theorem itd_keyT {K : PySem.W.Frag} {B B' : List Addr} {d : Addr} {o : Obj} {kvs : List (List Key × V)} {H1 : Hp} (h : H1 d = some (.frz o (.dT kvs))) (hk : smallT kvs = true) : ItD K B B' (Itkt d o kvs) (keyT kvs) H1 := fun H2 N k n dm => by
  have h2 := k d _ (.inr rfl) h
  unfold smallT at hk
  rw [Bool.and_eq_true] at hk
  have hl : (keyT kvs).length = kvs.length := by simp [keyT]
  rw [hl]
  refine ⟨fun i hi => ⟨h2, hi⟩, ⟨h2, Nat.le_refl _⟩, fun i x H3 e he y => ?_⟩
  obtain ⟨rfl, ks, v, q, e1, rfl, e2⟩ := y
  have e3 : e = .tuple (ks.map keyD) := by
    unfold keyT at he
    rw [List.getElem?_map, e1] at he
    cases he
    rfl
  subst e3
  have hs : ks.length ≤ 1000 := by
    have := List.all_eq_true.mp hk.2 _ (List.mem_of_getElem? e1)
    simpa using this
  refine ⟨Same.refl _, .tuple (hid_of (fun z => ?_) e2) (small_sz (by rw [List.length_map]; exact hs)) (keysA_R ks)⟩
  obtain ⟨u, e4, e5⟩ := dm q z
  rw [e2] at e4
  cases e4
  cases e5
theorem bOf_sub {lp : Bool} {c : Pc} {σ : St} {F : Fm} : ∀ b, b ∈ bOf lp c σ → b ∈ F.A ++ own c.O σ := fun b hb => by
  unfold bOf at hb
  cases lp
  · cases hb
  · exact List.mem_append_right _ hb
/-- items that stand in the heap -/
theorem itd_of {K : PySem.W.Frag} {B B' : List Addr} {J : It} {xs : List V} {ds : List D} {H1 : Hp} (hB : ∀ b ∈ B, b ∈ B') (r : RpA K (hid B' H1) xs ds) (h : ∀ H2, (∀ b o, b ∉ B ∨ frzO o = true → H1 b = some o → H2 b = some o) → (∀ i, i < xs.length → J.go i H2) ∧ J.stop xs.length H2 ∧ ∀ i x H3, J.yld i H2 x H3 → H3 = H2 ∧ xs[i]? = some x) :
    ItD K B B' J ds H1 := fun H2 N k n d => by
  obtain ⟨h1, h2, h3⟩ := h H2 k
  rw [r.len] at h1 h2
  refine ⟨h1, h2, fun i x H3 d hd y => ?_⟩
  obtain ⟨rfl, hx⟩ := h3 i x H3 y
  refine ⟨Same.refl _, ?_⟩
  obtain ⟨v, hv, rv⟩ := r.get hd
  rw [hx] at hv
  cases hv
  refine rv.up fun b o q => ?_
  obtain ⟨q1, q2⟩ := hid_some q
  refine hid_of (fun z => ?_) (k b o (.inl fun z => q1 (hB b z)) q2)
  rcases n b z with z | z
  · exact q1 z
  · rw [q2] at z
    cases z
theorem pid_seq (h : PD X c true e f) : PID X c lp tg e (dSeqI f) := by
  refine ⟨fun pins s σ H R I hw => ?_⟩
  obtain ⟨F, ρ, E, w⟩ := hw
  have base : ∀ {a : Addr} {H' : Hp} {xs : List V}, SqL X.K (hid (F.A ++ own c.O σ) H') a xs ∨ SqT X.K (hid (F.A ++ own c.O σ) H') a xs → True := fun _ => trivial
  have keepL : ∀ {a : Addr} {H1 H2 : Hp} {xs : List V}, SqL X.K (hid (F.A ++ own c.O σ) H1) a xs → (∀ b o, b ∉ bOf lp c σ ∨ frzO o = true → H1 b = some o → H2 b = some o) → SqL X.K H2 a xs := fun {a H1 H2 xs} h k =>
    Same.seq (fun b o q => by
      obtain ⟨q1, q2⟩ := hid_some q
      exact k b o (.inl fun z => q1 (bOf_sub b z)) q2) h
  have keepT : ∀ {a : Addr} {H1 H2 : Hp} {xs : List V}, SqT X.K (hid (F.A ++ own c.O σ) H1) a xs → (∀ b o, b ∉ bOf lp c σ ∨ frzO o = true → H1 b = some o → H2 b = some o) → SqT X.K H2 a xs := fun {a H1 H2 xs} h k =>
    Same.seqT (fun b o q => by
      obtain ⟨q1, q2⟩ := hid_some q
      exact k b o (.inl fun z => q1 (bOf_sub b z)) q2) h
  cases hf : f ρ with
  | bad =>
    unfold dSeqI at w
    rw [hf] at w
    exact w.elim
  | err x =>
    unfold dSeqI at w
    rw [hf] at w
    exact (pi_list (tg := tg) h).run pins s σ H R I ⟨F, ρ, E, by rw [hf]; exact w⟩
  | ok d =>
    unfold dSeqI at w
    rw [hf] at w
    cases d with
    | list l =>
      refine (pi_list (tg := tg) h).run pins s σ H R I ⟨F, ρ, E, ?_⟩
      rw [hf]
      intro v H1 s1 r
      cases r with
      | @list a xs _ h1 h2 h3 =>
        refine ⟨a, rfl, ⟨xs, SqL.of (hid_sub _ _ h1)⟩, w _ H1 s1 (by rw [← h3.len]; exact h2) (itd_of bOf_sub h3 fun H2 k => ?_)⟩
        have q := keepL (SqL.of h1) k
        exact ⟨fun i hi => walk_list.goes i H2 hi q, walk_list.stops H2 q, fun i x H3 y => ⟨y.1, y.2 xs q⟩⟩
    | tuple l =>
      refine (pi_tup (tg := tg) h).run pins s σ H R I ⟨F, ρ, E, ?_⟩
      rw [hf]
      intro v H1 s1 r
      cases r with
      | @tuple a xs _ h1 h2 h3 =>
        refine ⟨a, rfl, ⟨xs, SqT.of (hid_sub _ _ h1)⟩, w _ H1 s1 (by rw [← h3.len]; exact h2) (itd_of bOf_sub h3 fun H2 k => ?_)⟩
        have q := keepT (SqT.of h1) k
        exact ⟨fun i hi => walk_tup.goes i H2 hi q, walk_tup.stops H2 q, fun i x H3 y => ⟨y.1, y.2 xs q⟩⟩
    | ftup l =>
      refine (pi_tup (tg := tg) h).run pins s σ H R I ⟨F, ρ, E, ?_⟩
      rw [hf]
      intro v H1 s1 r
      cases r with
      | @ftup a o xs _ h1 h0 h2 h3 =>
        have hq : SqT X.K (hid (F.A ++ own c.O σ) H1) a xs := .inl (.inr ⟨o, h1⟩)
        refine ⟨a, rfl, ⟨xs, Same.seqT hid_sub hq⟩, w _ H1 s1 (by rw [← h3.len]; exact h2) (itd_of bOf_sub h3 fun H2 k => ?_)⟩
        have q := keepT hq k
        exact ⟨fun i hi => walk_tup.goes i H2 hi q, walk_tup.stops H2 q, fun i x H3 y => ⟨y.1, y.2 xs q⟩⟩
    | fdt kvs =>
      refine (pi_keys (tg := tg) h).run pins s σ H R I ⟨F, ρ, E, ?_⟩
      rw [hf]
      intro v H1 s1 r
      obtain ⟨hk, w1⟩ := if_wp w
      cases r with
      | @fdt a o _ h1 h2 =>
        refine ⟨a, o, rfl, .inr ⟨kvs, hid_sub _ _ h1, w1 _ H1 s1 ?_ (itd_keyT (hid_sub _ _ h1) hk)⟩⟩
        unfold smallT at hk
        rw [Bool.and_eq_true] at hk
        have := of_decide_eq_true hk.1
        simp only [keyT, List.length_map]
        exact Nat.le_trans this (by decide)
    | none => exact w.elim
    | bool _ => exact w.elim
    | int _ => exact w.elim
    | str _ => exact w.elim
    | dk _ => exact w.elim
    | dt _ => exact w.elim
    | scr _ => exact w.elim
    | ktup _ => exact w.elim
/-- a comprehension over a list that is owned -/
theorem pid_own (i : Nat) (k : Kd) {x : Str} (ho : isOw c.O i k = true := by rfl) (hk : k = .l ∨ k = .p := by first | exact .inl rfl | exact .inr rfl) (hN : X.N[i]? = some x := by rfl) (hv : Vis X.env.scope x := by first | exact Or.inl rfl | exact Or.inr (Or.inl rfl) | exact Or.inr (Or.inr rfl))
    (hd : (x == ("__debug__" : Str)) = false := by decide) (hcd : (x == ("__classdict__" : Str)) = false := by decide) : PID X c false tg (.Name x pos) (dSeqI (dVar i)) :=
  PI.imp (pi_list (pe_var hN hv hd hcd)) fun σ H R ⟨F, ρ, E, w⟩ => by
    obtain ⟨d, e1, w1⟩ := dVar_wp (Out.wp_bind w)
    rcases E.cel i k (isOw_of ho) with ⟨d', a, q1, q2, q3, q4⟩ | ⟨q, _⟩
    · rw [e1] at q1
      cases q1
      obtain ⟨a', xs, ds, rfl, h2, h3, h4, h5⟩ := E.lst (isOw_of ho) hk e1
      rw [q2] at h2
      cases h2
      refine ⟨_, q2, a, rfl, ⟨xs, SqL.of h3⟩, w1 _ H (Same.refl H) (by rw [← h5.len]; exact h4) (itd_of (fun b hb => by cases hb) h5 fun H2 k => ?_)⟩
      have q : SqL X.K H2 a xs := SqL.of (k a _ (.inl fun z => by cases z) h3)
      exact ⟨fun i hi => walk_list.goes i H2 hi q, walk_list.stops H2 q, fun i x H3 y => ⟨y.1, y.2 xs q⟩⟩
    · rw [e1] at q
      cases q
/-- a walk over an owned dict that is known to the object -/
theorem pid_ownT (i : Nat) {x : Str} (ho : isOw c.O i .t = true := by rfl) (hN : X.N[i]? = some x := by rfl) (hv : Vis X.env.scope x := by first | exact Or.inl rfl | exact Or.inr (Or.inl rfl) | exact Or.inr (Or.inr rfl))
    (hd : (x == ("__debug__" : Str)) = false := by decide) (hcd : (x == ("__classdict__" : Str)) = false := by decide) : PID X c lp tg (.Name x pos) (dSeqI (dVar i)) :=
  PI.imp (pi_keys (pe_var hN hv hd hcd)) fun σ H R ⟨F, ρ, E, w⟩ => by
    obtain ⟨d, e1, w1⟩ := dVar_wp (Out.wp_bind w)
    rcases E.cel i .t (isOw_of ho) with ⟨d', a, q1, q2, q3, q4⟩ | ⟨q, _⟩
    · rw [e1] at q1
      cases q1
      rcases q4 with ⟨kvs, rfl, _⟩ | ⟨o, kvs, rfl, h1, h2⟩
      · exact w1.elim
      · obtain ⟨hk, w2⟩ := if_wp w1
        refine ⟨_, q2, a, o, rfl, .inr ⟨kvs, h1, w2 _ H (Same.refl H) ?_ (itd_keyT h1 hk)⟩⟩
        unfold smallT at hk
        rw [Bool.and_eq_true] at hk
        have := of_decide_eq_true hk.1
        simp only [keyT, List.length_map]
        exact Nat.le_trans this (by decide)
    · rw [e1] at q
      cases q
/-- range -/
def dInt1 (d : D) (k : Int → Out (List D)) : Out (List D) := match d with
  | .int i => k i
  | _ => .bad
def rngD (lo : Int) (n : Nat) : List D := (List.range n).map fun i => .int (lo + (i : Nat))
def dRng1 (f : DE) : DA := fun ρ => (f ρ).bind fun d => dInt1 d fun n => if -100000 ≤ n ∧ n ≤ 100000 then .ok (rngD 0 n.toNat) else .bad
theorem itd_rng {K : PySem.W.Frag} {B B' : List Addr} {lo : Int} {n : Nat} {H1 : Hp} : ItD K B B' (Itr lo n) (rngD lo n) H1 := fun H2 N _ _ _ => by
  have hl : (rngD lo n).length = n := by simp [rngD]
  rw [hl]
  refine ⟨fun i hi => hi, Nat.le_refl n, fun i x H3 d hd y => ?_⟩
  obtain ⟨rfl, rfl⟩ := y
  refine ⟨Same.refl _, ?_⟩
  have hi : i < n := by
    have := (List.getElem?_eq_some_iff.mp hd).1
    rw [hl] at this
    exact this
  have e : (rngD lo n)[i]? = some (.int (lo + (i : Nat))) := by simp [rngD, hi]
  rw [e] at hd
  cases hd
  exact .int _
theorem pid_rng1 (hm : X.mg "range" = none) (h : PD X c true e f) (hg : Gl X "range" := by rfl) (hs : starEach [e] X.env = (false, eval e X.env) :: starEach [] X.env := by rfl) (hs2 : starEach [] X.env = [] := by rfl) : PID X c lp tg (.Call (.Name "range" p) [e] [] pos) (dRng1 f) :=
  PI.imp (pi_range1 hg hm (pa_cons h pa_nil hs) (by rw [hs, hs2])) fun σ H R ⟨F, ρ, E, w⟩ => ⟨F, ρ, E, (Out.wp_bind w).imp (fun d k v H1 s1 r => by
    cases d with
    | int i =>
      cases r
      replace k : (if -100000 ≤ i ∧ i ≤ 100000 then Out.ok (rngD 0 i.toNat) else .bad).wp _ _ := k
      obtain ⟨hl, q⟩ := if_wp k
      refine ⟨i, rfl, by omega, by omega, q _ H1 s1 ?_ itd_rng⟩
      have : (rngD 0 i.toNat).length = i.toNat := by simp [rngD]
      rw [this]
      exact Nat.le_trans (show i.toNat ≤ 100000 by omega) (by decide)
    | none => exact k.elim
    | bool _ => exact k.elim
    | str _ => exact k.elim
    | list _ => exact k.elim
    | tuple _ => exact k.elim
    | dk _ => exact k.elim
    | dt _ => exact k.elim
    | scr _ => exact k.elim
    | ktup _ => exact k.elim
    | ftup _ => exact k.elim
    | fdt _ => exact k.elim) fun _ z => z⟩
def dRng2 (f g : DE) : DA := fun ρ => (f ρ).bind fun d => (g ρ).bind fun e => dInt1 d fun i => dInt1 e fun j => if -100000 ≤ i ∧ i ≤ 100000 ∧ -100000 ≤ j ∧ j ≤ 100000 then .ok (rngD i (j - i).toNat) else .bad
theorem dInt1_wp {d : D} {k : Int → Out (List D)} {P : List D → Prop} {E : Nat → Prop} (h : (dInt1 d k).wp P E) : ∃ i, d = .int i ∧ (k i).wp P E := by
  cases d <;> first | exact ⟨_, rfl, h⟩ | exact h.elim
theorem pid_rng2 {e2 : Expr} {g : DE} (hm : X.mg "range" = none) (h : PD X c true e f) (h2 : PD X c true e2 g) (hg : Gl X "range" := by rfl) (hs : starEach [e, e2] X.env = (false, eval e X.env) :: starEach [e2] X.env := by rfl) (hs2 : starEach [e2] X.env = (false, eval e2 X.env) :: starEach [] X.env := by rfl)
    (hs3 : starEach [] X.env = [] := by rfl) : PID X c lp tg (.Call (.Name "range" p) [e, e2] [] pos) (dRng2 f g) :=
  PI.imp (pi_range2 hg hm (pa_cons h (pa_cons h2 pa_nil hs2) hs) (by rw [hs, hs2, hs3]) (by rw [hs2, hs3])) fun σ H R ⟨F, ρ, E, w⟩ => ⟨F, ρ, E, (Out.wp_bind w).imp (fun d k v H1 s1 r => ⟨F, ρ, E.up s1, (Out.wp_bind k).imp (fun d2 k2 v2 H2 s2 r2 => by
    obtain ⟨i, rfl, k3⟩ := dInt1_wp k2
    obtain ⟨j, rfl, k4⟩ := dInt1_wp k3
    obtain ⟨hl, q⟩ := if_wp k4
    cases r
    cases r2
    refine ⟨i, j, rfl, by omega, q _ H2 (s1.trans s2) ?_ itd_rng⟩
    have : (rngD i (j - i).toNat).length = (j - i).toNat := by simp [rngD]
    rw [this]
    exact Nat.le_trans (show (j - i).toNat ≤ 200000 by omega) (by decide)) fun _ z => z.up s1⟩) fun _ z => z⟩
end

/-! ### defs -/
def startE (N : Nat) (ds : List D) : Env := ds.map some ++ List.replicate (N - ds.length) none
def SO.fin (o : SO) : Out D := match o with
  | .rt d _ => .ok d
  | .nx _ => .ok .none
  | .err x _ => .err x
  | _ => .bad
/-- a def: N names, its body's worth -/
def dDef (N : Nat) (t : DS) : List D → Out D := fun ds => (t (startE N ds)).fin
section
variable {P : Program} {w : World} {K : PySem.W.Frag} {mg : Str → Option Value} {base : Heap}
theorem own_start {O : Ow} {N : List Str} {vs : List V} {n : Nat} (hn : vs.length = n) (hO : (O.all fun p => decide (n ≤ p.1)) = true) : own O (L2.start N vs) = [] := by
  refine List.eq_nil_iff_forall_not_mem.mpr fun a ha => ?_
  obtain ⟨i, k, h1, h2⟩ := mem_own.mp ha
  have z := List.all_eq_true.mp hO _ h1
  simp only [decide_eq_true_eq] at z
  unfold L2.start at h2
  rw [List.getElem?_append_right (by rw [List.length_map, hn]; exact z)] at h2
  rw [List.getElem?_replicate] at h2
  split at h2 <;> cases h2
theorem start_env {O : Ow} {N : List Str} {vs : List V} {ds : List D} {A : List Addr} {H : Hp} {n : Nat} (hn : vs.length = n) (hN : n ≤ N.length) (hO : (O.all fun p => decide (n ≤ p.1) && decide (p.1 < N.length)) = true) (hA : Dom A H) (r : RpA K (hid A H) vs ds) :
    EnvR K O ⟨A, []⟩ (startE N.length ds) (L2.start N vs) H := by
  have hd : ds.length = n := by rw [← r.len, hn]
  have hO' : (O.all fun p => decide (n ≤ p.1)) = true := List.all_eq_true.mpr fun p hp => by
    have z := List.all_eq_true.mp hO p hp
    simp only [Bool.and_eq_true] at z
    exact z.1
  have o0 := own_start (N := N) hn hO'
  refine ⟨?_, fun i d h nj => ?_, fun i k h => ?_, fun i k j k' a h _ e _ => ?_, hA, fun p hp => (by cases hp), fun p hp => (by cases hp)⟩
  · unfold startE L2.start
    simp only [List.length_append, List.length_map, List.length_replicate]
    omega
  · rw [o0]
    unfold startE at h
    by_cases hi : i < ds.length
    · rw [List.getElem?_append_left (by rw [List.length_map]; exact hi), List.getElem?_map, List.getElem?_eq_getElem hi] at h
      cases h
      obtain ⟨v, h1, h2⟩ := r.get (List.getElem?_eq_getElem hi)
      refine ⟨v, ?_, ?_⟩
      · unfold L2.start
        rw [List.getElem?_append_left (by rw [List.length_map, hn, ← hd]; exact hi), List.getElem?_map, h1]
        rfl
      · show Rp K (hid (A ++ []) H) v _
        rw [List.append_nil]
        exact h2
    · rw [List.getElem?_append_right (by rw [List.length_map]; omega), List.getElem?_replicate] at h
      split at h <;> cases h
  · have z := List.all_eq_true.mp hO _ h
    simp only [Bool.and_eq_true, decide_eq_true_eq] at z
    refine .inr ⟨?_, ?_⟩
    · unfold startE
      rw [List.getElem?_append_right (by rw [List.length_map]; omega), List.getElem?_replicate, if_pos (by rw [List.length_map]; omega)]
    · unfold L2.start
      rw [List.getElem?_append_right (by rw [List.length_map]; omega), List.getElem?_replicate, if_pos (by rw [List.length_map]; omega)]
  · exfalso
    have : a ∈ own O (L2.start N vs) := mem_own.mpr ⟨i, k, h, e⟩
    rw [o0] at this
    cases this
/-- THE RULE for a def -/
theorem def_ok {x qual : Str} {st : Stmt} {f : Addr} {fd : FuncData} {N ps : List Str} {k : Nat} {cl : Nat → Addr} {t : DS} (O : Ow) (F : Fun K x qual st f fd) (S : FnScope N ps (defScope st)) (hO : (O.all fun p => decide (ps.length ≤ p.1) && decide (p.1 < N.length)) = true) (hl : ps.length ≤ N.length)
    (hbody : ∀ (cdv : Value) (A : Around) (outer : List PySem.Env) (s : Shared) (H : Hp) (E : XK), Room k (A.deeper (PyProof.Rows.envOfC qual (defScope st) s.heap.objs.size f cdv)) → N.Nodup →
      Takes (cxOf (L2.CX P w) P w K mg base N qual (defScope st) f cdv A outer s H E) (fun cls d _ H' => E cls d H') →
      PSsD (cxOf (L2.CX P w) P w K mg base N qual (defScope st) f cdv A outer s H E) ⟨cl, O, fun cls d _ H' => E cls d H'⟩ (defBody st) t) :
    FnOk P w K mg base (L2.CX P w) (k + 1) f fd ps (spD K cl ps.length (dDef N.length t)) := by
  refine F.okX S (fun vs H Q E h => h.1) fun cdv A outer s H vs Q E hr h => ?_
  obtain ⟨hn, A', ds, hA, r, wp⟩ := h
  refine ⟨_, hbody cdv A outer s H E hr S.nd (takes_of rfl rfl rfl rfl), ?_⟩
  have hO' : (O.all fun p => decide (ps.length ≤ p.1)) = true := List.all_eq_true.mpr fun p hp => by
    have z := List.all_eq_true.mp hO p hp
    simp only [Bool.and_eq_true] at z
    exact z.1
  have o0 : own O (L2.start N vs) = [] := own_start hn hO'
  have sm : ∀ {σ' : St} {H' : Hp}, Stp O (L2.start N vs) H σ' H' → Same H H' := fun st b o e => st.keep b o (.inl (by rw [o0]; intro z; cases z)) e
  refine ⟨⟨A', []⟩, startE N.length ds, start_env hn hl hO hA r, ?_⟩
  unfold dDef SO.fin at wp
  cases ht : t (startE N.length ds) with
  | nx ρ' => rw [ht] at wp; exact fun σ' H' E' st => wp .non H' (sm st) .none
  | rt d ρ' => rw [ht] at wp; exact fun v σ' H' E' st rr => wp v H' (sm st) rr
  | err x ρ' => rw [ht] at wp; exact fun σ' H' E' st => wp H' (sm st)
  | bk _ => rw [ht] at wp; exact wp.elim
  | ct _ => rw [ht] at wp; exact wp.elim
  | bad => rw [ht] at wp; exact wp.elim
end
end Pd

/-! Pd4: operators by data. -/
namespace L2
open PySem PySem.Spec PyProof.Rows
theorem tuple_mul1W (l : Addr) (items : Array Value) (n : Nat) (dd : Option Addr) (sl : Array (Option Value)) (x : Int) (u : Tok) (c0 : (decide (x < -(2 ^ 63)) || decide (x ≥ 2 ^ 63)) = false) (c1 : (items.isEmpty || x == 1) = true) :
    Meets (Builtin.«tuple.__mul__» ⟨[.ref l, .int x u], []⟩) (fun _ R s => s.heap.get? l = some { cls := .type "tuple", dict := dd, data := .seq items n, slots := sl } ∧ R (.ok (.ret (.ref l))) s) :=
  .of_wp fun prog w A R s h => by
    obtain ⟨hp, g, d, tk, os⟩ := s
    obtain ⟨hl, h⟩ := h
    have f1 := AutoSeq1.idx_int
    wp_walk using wpAny_loadPart' hl
    repeat (first
      | (refine wpAny_ite_false (decide_eq_false (by rw [c0]; exact Bool.false_ne_true)) ?_; wp_walk using wpAny_loadPart' hl)
      | (refine wpAny_ite_true (decide_eq_true c1) ?_; wp_walk using wpAny_loadPart' hl))
    exact ⟨_, rfl, h⟩
section
variable {X : Cx}
theorem op_rep1 : OpR X (binaryOp .Mult) (fun x y H Q => ∃ l xs k, x = .ref l ∧ y = .int k ∧ SqT X.K H l xs ∧ (k = 1 ∨ xs = []) ∧ -1000 ≤ k ∧ k ≤ 1000 ∧ Q (.ref l) H) := by
  intro pins s σ H x y v u Q I rx ry h
  obtain ⟨l, xs, k, rfl, rfl, hT, hk, k1, k2, q⟩ := h
  cases rx
  obtain ⟨t, rfl⟩ := ry
  obtain ⟨its, r, ⟨⟨cls, dd, data, sl⟩, ho, hc, n, hd⟩, hs⟩ := I.tuple hT
  simp only at hc hd
  subst hc hd
  have c0 : (decide (k < -(2 ^ 63)) || decide (k ≥ 2 ^ 63)) = false := by
    rw [decide_eq_false (by omega), decide_eq_false (by omega)] <;> rfl
  have c1 : (its.toArray.isEmpty || k == 1) = true := by
    rcases hk with h | h
    · rw [h]; simp
    · have hle : its.length = xs.length := r.length.symm
      rw [h] at hle
      have : its = [] := List.eq_nil_of_length_eq_zero hle
      rw [this]; rfl
  refine wpAny_binaryOp_repeat_ref (T := "tuple") (U := "int") (by decide) ⟨_, ho, rfl⟩ (fun s' => typeIs_int s' k t) noFill_tuple_mul F.fills_int_mul F.slot_int_rmul repeat_tuple F.slot_int_index.lookup
    (call_meets F.slot_int_rmul (typeIs_int s k t) F.entry_int_rmul (F.args_int_rmul_2 _ _) (int_rmul_tuple k t l its.toArray n dd sl)
      ⟨ho, rfl, ⟨_, ho, rfl⟩, call_meets F.slot_tuple_mul ⟨_, ho, rfl⟩ F.entry_tuple_mul (F.args_tuple_mul_2 _ _) (tuple_mul1W l its.toArray n dd sl k t c0 c1) ⟨ho, ?_⟩⟩)
  exact ⟨.ref l, H, I, rfl, q⟩
end
end L2
namespace Pd
open PySem L2 PyProof.Rows

/-! ### ints, texts, lists, tuples: + - * // % and so on -/
def mulOk (i j : Int) : Prop := (-(2 ^ 64) < i ∧ i < 2 ^ 64) ∨ (-(2 ^ 64) < j ∧ j < 2 ^ 64)
instance (i j : Int) : Decidable (mulOk i j) := inferInstanceAs (Decidable (_ ∨ _))
def addD : D → D → Option D
  | .int i, .int j => some (.int (i + j))
  | .str a, .str b => if a.length + b.length ≤ 1000000 then some (.str (a ++ b)) else none
  | .list a, .list b => if a.length + b.length ≤ 100000 then some (.list (a ++ b)) else none
  | .tuple a, .tuple b => if a.length + b.length ≤ 100000 then some (.tuple (a ++ b)) else none
  | _, _ => none
def subD : D → D → Option D
  | .int i, .int j => some (.int (i - j))
  | _, _ => none
def mulD : D → D → Option D
  | .int i, .int j => if mulOk i j then some (.int (i * j)) else none
  | .list a, .int k => if k ≤ 1000 ∧ -1000 ≤ k ∧ a.length ≤ 1000 then some (.list (List.replicate k.toNat a).flatten) else none
  | .tuple a, .int k => if 2 ≤ k ∧ k ≤ 1000 ∧ a.length ≤ 1000 ∧ a ≠ [] then some (.tuple (List.replicate k.toNat a).flatten) else if (k = 1 ∨ a = []) ∧ -1000 ≤ k ∧ k ≤ 1000 then some (.tuple a) else none
  | _, _ => none
def fdivD : D → D → Option D
  | .int i, .int j => if 0 < j ∧ j < 1073741824 then some (.int (i / j)) else none
  | _, _ => none
def modD : D → D → Option D
  | .int i, .int j => if 0 < j then some (.int (i % j)) else none
  | _, _ => none
def powD : D → D → Option D
  | .int i, .int j => if 0 ≤ j ∧ j ≤ 1000 ∧ i.natAbs < 2 ^ 64 then some (.int (i ^ j.toNat)) else none
  | _, _ => none
def negD : D → Option D
  | .int i => some (.int (-i))
  | _ => none
section
variable {X : Cx}
theorem if_some {α : Type} {P : Prop} [Decidable P] {a b : α} (h : (if P then some a else none) = some b) : P ∧ a = b := by
  split at h
  · cases h
    exact ⟨by assumption, rfl⟩
  · cases h
theorem hidL {K : PySem.W.Frag} {A : List Addr} {H : Hp} {a : Addr} {xs : List V} (h : SqL K (hid A H) a xs) : SqL K H a xs := Same.seq hid_sub h
theorem hidT {K : PySem.W.Frag} {A : List Addr} {H : Hp} {a : Addr} {xs : List V} (h : SqT K (hid A H) a xs) : SqT K H a xs := Same.seqT hid_sub h
/-- a list, a tuple laid anew -/
theorem new_list {K : PySem.W.Frag} {A : List Addr} {H : Hp} {p : Addr} {xs : List V} {ds : List D} (hA : Dom A H) (hp : H p = none) (hz : xs.length ≤ sizeLine) (r : RpA K (hid A H) xs ds) : Same H (upd H p (.lst xs)) ∧ Rp K (hid A (upd H p (.lst xs))) (.ref p) (.list ds) := by
  have s := same_upd (o := .lst xs) hp
  exact ⟨s, .list (hid_new (Dom.free hA hp)) hz (r.up (hid_mono s))⟩
theorem new_tup {K : PySem.W.Frag} {A : List Addr} {H : Hp} {p : Addr} {xs : List V} {ds : List D} (hA : Dom A H) (hp : H p = none) (hz : xs.length ≤ sizeLine) (r : RpA K (hid A H) xs ds) : Same H (upd H p (.tup xs)) ∧ Rp K (hid A (upd H p (.tup xs))) (.ref p) (.tuple ds) := by
  have s := same_upd (o := .tup xs) hp
  exact ⟨s, .tuple (hid_new (Dom.free hA hp)) hz (r.up (hid_mono s))⟩
variable {X : Cx}
theorem cap_ok {n : Nat} (h : n ≤ 100000) : n ≤ sizeLine := Nat.le_trans h (by decide)
theorem capS_ok {n : Nat} (h : n ≤ 1000000) : n ≤ sizeLine := Nat.le_trans h (by decide)
theorem op_addD : OpR X (binaryOp .Add) (rdO X.K addD) := by
  intro pins s σ H x y v u Q I rx ry h
  obtain ⟨A, dx, dy, hA, r1, r2, d, e, q⟩ := h
  cases r1 with
  | int i =>
    cases r2 with
    | int j =>
      cases e
      exact op_add pins s σ H _ _ v u Q I rx ry ⟨i, j, rfl, rfl, q _ H (Same.refl H) (.int _)⟩
    | _ => cases e
  | str a =>
    cases r2 with
    | str b =>
      obtain ⟨hl, rfl⟩ := if_some e
      exact op_add_str pins s σ H _ _ v u Q I rx ry ⟨a, b, rfl, rfl, capS_ok hl, q _ H (Same.refl H) (.str _)⟩
    | _ => cases e
  | @list a xs ds h1 h2 h3 =>
    cases r2 with
    | @list b ys es g1 g2 g3 =>
      obtain ⟨hl, rfl⟩ := if_some e
      have hz : xs.length + ys.length ≤ sizeLine := cap_ok (by rw [h3.len, g3.len]; exact hl)
      refine op_cat pins s σ H _ _ v u Q I rx ry ⟨a, b, xs, ys, rfl, rfl, hid_sub _ _ h1, hid_sub _ _ g1, hz, fun p hp => ?_⟩
      obtain ⟨s1, r⟩ := new_list hA hp (by rw [List.length_append]; exact hz) (h3.append g3)
      exact q _ _ s1 r
    | _ => cases e
  | @tuple a xs ds h1 h2 h3 =>
    cases r2 with
    | @tuple b ys es g1 g2 g3 =>
      obtain ⟨hl, rfl⟩ := if_some e
      have hz : xs.length + ys.length ≤ sizeLine := cap_ok (by rw [h3.len, g3.len]; exact hl)
      refine op_catA pins s σ H _ _ v u Q I rx ry ⟨a, b, xs, ys, rfl, rfl, SqT.of (hid_sub _ _ h1), SqT.of (hid_sub _ _ g1), hz, fun z => ?_, fun _ z => ?_, fun _ _ p hp => ?_⟩
      · subst z
        cases h3
        exact q _ H (Same.refl H) (.tuple g1 g2 g3)
      · subst z
        cases g3
        rw [List.append_nil] at q
        exact q _ H (Same.refl H) (.tuple h1 h2 h3)
      · obtain ⟨s1, r⟩ := new_tup hA hp (by rw [List.length_append]; exact hz) (h3.append g3)
        exact q _ _ s1 r
    | _ => cases e
  | none => cases e
  | bool _ => cases e
  | dk _ _ => cases e
  | dt _ _ => cases e
  | scr _ _ => cases e
  | ktup _ _ => cases e
  | ftup _ _ _ _ => cases e
  | fdt _ _ => cases e
theorem op_subD : OpR X (binaryOp .Sub) (rdO X.K subD) := by
  intro pins s σ H x y v u Q I rx ry h
  obtain ⟨A, dx, dy, hA, r1, r2, d, e, q⟩ := h
  cases r1 <;> cases r2 <;> cases e
  exact op_sub pins s σ H _ _ v u Q I rx ry ⟨_, _, rfl, rfl, q _ H (Same.refl H) (.int _)⟩
theorem op_mulD : OpR X (binaryOp .Mult) (rdO X.K mulD) := by
  intro pins s σ H x y v u Q I rx ry h
  obtain ⟨A, dx, dy, hA, r1, r2, d, e, q⟩ := h
  cases r2 with
  | int j =>
    cases r1 with
    | int i =>
      obtain ⟨hl, rfl⟩ := if_some e
      exact op_mul pins s σ H _ _ v u Q I rx ry ⟨i, j, rfl, rfl, hl, q _ H (Same.refl H) (.int _)⟩
    | @list a xs ds h1 h2 h3 =>
      obtain ⟨⟨k1, k2, k3⟩, rfl⟩ := if_some e
      have hz : xs.length * j.toNat ≤ sizeLine := by
        have hx : xs.length ≤ 1000 := by rw [h3.len]; exact k3
        exact Nat.le_trans (Nat.mul_le_mul hx (show j.toNat ≤ 1000 by omega)) (by decide)
      refine op_rep pins s σ H _ _ v u Q I rx ry ⟨a, j, xs, rfl, rfl, hid_sub _ _ h1, by omega, by omega, hz, fun p hp => ?_⟩
      obtain ⟨s1, r⟩ := new_list hA hp (by rw [PyProof.Rows.lm_len_rep_flat, Nat.mul_comm]; exact hz) (h3.rep j.toNat)
      exact q _ _ s1 r
    | @tuple a xs ds h1 h2 h3 =>
      by_cases hj1 : 2 ≤ j ∧ j ≤ 1000 ∧ ds.length ≤ 1000 ∧ ds ≠ []
      · have e1 : (if 2 ≤ j ∧ j ≤ 1000 ∧ ds.length ≤ 1000 ∧ ds ≠ [] then some (D.tuple (List.replicate j.toNat ds).flatten) else if (j = 1 ∨ ds = []) ∧ -1000 ≤ j ∧ j ≤ 1000 then some (.tuple ds) else none) = some d := e
        rw [if_pos hj1] at e1
        cases e1
        obtain ⟨k1, k2, k3, k4⟩ := hj1
        have hx : xs.length ≤ 1000 := by rw [h3.len]; exact k3
        have hz : xs.length * j.toNat ≤ sizeLine := Nat.le_trans (Nat.mul_le_mul hx (show j.toNat ≤ 1000 by omega)) (by decide)
        refine op_repT pins s σ H _ _ v u Q I rx ry ⟨a, j, xs, rfl, rfl, SqT.of (hid_sub _ _ h1), fun z => k4 (h3.nil_iff.mp z), k1, k2, hx, fun p hp => ?_⟩
        obtain ⟨s1, r⟩ := new_tup hA hp (by rw [PyProof.Rows.lm_len_rep_flat, Nat.mul_comm]; exact hz) (h3.rep j.toNat)
        exact q _ _ s1 r
      · have e1 : (if 2 ≤ j ∧ j ≤ 1000 ∧ ds.length ≤ 1000 ∧ ds ≠ [] then some (D.tuple (List.replicate j.toNat ds).flatten) else if (j = 1 ∨ ds = []) ∧ -1000 ≤ j ∧ j ≤ 1000 then some (.tuple ds) else none) = some d := e
        rw [if_neg hj1] at e1
        obtain ⟨⟨k1, k2, k3⟩, rfl⟩ := if_some e1
        exact op_rep1 pins s σ H _ _ v u Q I rx ry ⟨a, xs, j, rfl, rfl, SqT.of (hid_sub _ _ h1), k1.imp id fun z => h3.nil_iff.mpr z, k2, k3, q _ H (Same.refl H) (.tuple h1 h2 h3)⟩
    | none => cases e
    | bool _ => cases e
    | str _ => cases e
    | dk _ _ => cases e
    | dt _ _ => cases e
    | scr _ _ => cases e
    | ktup _ _ => cases e
    | ftup _ _ _ _ => cases e
    | fdt _ _ => cases e
  | _ => cases r1 <;> cases e
theorem op_fdivD : OpR X (binaryOp .FloorDiv) (rdO X.K fdivD) := by
  intro pins s σ H x y v u Q I rx ry h
  obtain ⟨A, dx, dy, hA, r1, r2, d, e, q⟩ := h
  cases r1 <;> cases r2 <;> first | cases e | skip
  obtain ⟨hl, rfl⟩ := if_some e
  exact op_fdiv pins s σ H _ _ v u Q I rx ry ⟨_, _, rfl, rfl, hl, q _ H (Same.refl H) (.int _)⟩
theorem op_modD : OpR X (binaryOp .Mod) (rdO X.K modD) := by
  intro pins s σ H x y v u Q I rx ry h
  obtain ⟨A, dx, dy, hA, r1, r2, d, e, q⟩ := h
  cases r1 <;> cases r2 <;> first | cases e | skip
  obtain ⟨hl, rfl⟩ := if_some e
  exact op_mod pins s σ H _ _ v u Q I rx ry ⟨_, _, rfl, rfl, hl, q _ H (Same.refl H) (.int _)⟩
theorem op_powD : OpR X (binaryOp .Pow) (rdO X.K powD) := by
  intro pins s σ H x y v u Q I rx ry h
  obtain ⟨A, dx, dy, hA, r1, r2, d, e, q⟩ := h
  cases r1 <;> cases r2 <;> first | cases e | skip
  obtain ⟨⟨h1, h2, h3⟩, rfl⟩ := if_some e
  exact op_pow pins s σ H _ _ v u Q I rx ry ⟨_, _, rfl, rfl, ⟨h1, by omega, h3⟩, q _ H (Same.refl H) (.int _)⟩
theorem un_negD : UnR X (unaryOp .USub) (rdU X.K negD) := by
  intro pins s σ H x v Q I rx h
  obtain ⟨A, dx, hA, r1, d, e, q⟩ := h
  cases r1 <;> cases e
  exact un_neg pins s σ H _ v Q I rx ⟨_, rfl, q _ H (Same.refl H) (.int _)⟩

/-! ### comparisons -/
def ltD : D → D → Option Bool
  | .int i, .int j => some (decide (i < j))
  | _, _ => none
def leD : D → D → Option Bool
  | .int i, .int j => some (decide (i ≤ j))
  | _, _ => none
def geD : D → D → Option Bool
  | .int i, .int j => some (decide (j ≤ i))
  | _, _ => none
def intsOf : List D → Option (List Int)
  | [] => some []
  | .int i :: l => (intsOf l).map (i :: ·)
  | _ :: _ => none
theorem intsOf_some : ∀ {l : List D} {ns : List Int}, intsOf l = some ns → l = ns.map .int
  | [], ns, h => by cases h; rfl
  | .int i :: l, ns, h => by
    unfold intsOf at h
    cases e : intsOf l with
    | none => rw [e] at h; cases h
    | some ms =>
      rw [e] at h
      cases h
      rw [intsOf_some (l := l) e]
      rfl
  | .none :: _, _, h => by cases h
  | .bool _ :: _, _, h => by cases h
  | .str _ :: _, _, h => by cases h
  | .list _ :: _, _, h => by cases h
  | .tuple _ :: _, _, h => by cases h
  | .dk _ :: _, _, h => by cases h
  | .dt _ :: _, _, h => by cases h
  | .scr _ :: _, _, h => by cases h
  | .ktup _ :: _, _, h => by cases h
  | .ftup _ :: _, _, h => by cases h
  | .fdt _ :: _, _, h => by cases h
@[simp] theorem intsOf_map (ns : List Int) : intsOf (ns.map .int) = some ns := by
  induction ns with
  | nil => rfl
  | cons n ns ih =>
    rw [List.map_cons]
    unfold intsOf
    rw [ih]
    rfl
theorem RpA.ints {K : PySem.W.Frag} {H : Hp} : ∀ {ns : List Int} {vs : List V}, RpA K H vs (ns.map .int) → vs = ns.map V.int
  | [], _, h => by cases h; rfl
  | n :: ns, _, h => by
    cases h with
    | cons r t =>
      cases r
      rw [RpA.ints t]
      rfl
theorem RpA.of_ints {K : PySem.W.Frag} {H : Hp} : ∀ (ns : List Int), RpA K H (ns.map V.int) (ns.map .int)
  | [] => .nil
  | n :: ns => .cons (.int n) (RpA.of_ints ns)
theorem op_ltD : OpR X (compareOp .Lt) (rdC X.K ltD) := by
  intro pins s σ H x y v u Q I rx ry h
  obtain ⟨A, dx, dy, hA, r1, r2, d, e, q⟩ := h
  cases r1 <;> cases r2 <;> cases e
  exact op_lt pins s σ H _ _ v u Q I rx ry ⟨_, _, rfl, rfl, q⟩
theorem op_leD : OpR X (compareOp .LtE) (rdC X.K leD) := by
  intro pins s σ H x y v u Q I rx ry h
  obtain ⟨A, dx, dy, hA, r1, r2, d, e, q⟩ := h
  cases r1 <;> cases r2 <;> cases e
  exact op_le pins s σ H _ _ v u Q I rx ry ⟨_, _, rfl, rfl, q⟩
theorem op_geD : OpR X (compareOp .GtE) (rdC X.K geD) := by
  intro pins s σ H x y v u Q I rx ry h
  obtain ⟨A, dx, dy, hA, r1, r2, d, e, q⟩ := h
  cases r1 <;> cases r2 <;> cases e
  exact op_ge pins s σ H _ _ v u Q I rx ry ⟨_, _, rfl, rfl, q⟩

/-! ### == -/
mutual
def D.py : D → PyData
  | .none => .none
  | .bool b => .bool b
  | .int i => .int i
  | .str s => .str s
  | .list l => .list (D.pyA l)
  | .tuple l => .tuple (D.pyA l)
  | .ktup l => .tuple (l.map .int)
  | .ftup l => .tuple (D.pyA l)
  | _ => .none
def D.pyA : List D → List PyData
  | [] => []
  | d :: l => D.py d :: D.pyA l
end
mutual
/-- no dict, no script within -/
def D.pl : D → Bool
  | .none => true
  | .bool _ => true
  | .int _ => true
  | .str _ => true
  | .list l => D.plA l
  | .tuple l => D.plA l
  | .dk _ => false
  | .dt _ => false
  | .scr _ => false
  | .ktup _ => true
  | .ftup l => D.plA l
  | .fdt _ => false
def D.plA : List D → Bool
  | [] => true
  | d :: l => D.pl d && D.plA l
end
theorem plain_ints : ∀ l : List Int, PyData.plainAll (l.map PyData.int) = true
  | [] => rfl
  | _ :: l => by
    simp only [List.map_cons, PyData.plainAll, PyData.plain, Bool.true_and]
    exact plain_ints l
theorem dp_ints {K : PySem.W.Frag} {H : Hp} : ∀ l : List Int, DpAll K H (l.map V.int) (l.map PyData.int)
  | [] => .nil
  | n :: l => .cons (.int n) (dp_ints l)
mutual
theorem D.py_plain : ∀ d : D, (D.py d).plain = true
  | .none => rfl
  | .bool _ => rfl
  | .int _ => rfl
  | .str _ => rfl
  | .list l => by simp only [D.py, PyData.plain]; exact D.pyA_plain l
  | .tuple l => by simp only [D.py, PyData.plain]; exact D.pyA_plain l
  | .dk _ => rfl
  | .dt _ => rfl
  | .scr _ => rfl
  | .ktup l => by simp only [D.py, PyData.plain]; exact plain_ints l
  | .ftup l => by simp only [D.py, PyData.plain]; exact D.pyA_plain l
  | .fdt _ => rfl
theorem D.pyA_plain : ∀ l : List D, PyData.plainAll (D.pyA l) = true
  | [] => rfl
  | d :: l => by
    simp only [D.pyA, PyData.plainAll, Bool.and_eq_true]
    exact ⟨D.py_plain d, D.pyA_plain l⟩
end
mutual
theorem Rp.dp {K : PySem.W.Frag} {H : Hp} : ∀ (d : D) (v : V), d.pl = true → Rp K H v d → Dp K H v d.py
  | .none, _, _, h => by cases h; exact .non
  | .bool _, _, _, h => by cases h; exact .bl _
  | .int _, _, _, h => by cases h; exact .int _
  | .str _, _, _, h => by cases h; exact .str _
  | .list l, _, z, h => by
    cases h with
    | list h1 h2 h3 =>
      simp only [D.py]
      exact .lst (SqL.of h1) (RpA.dp l _ (by simpa only [D.pl] using z) h3)
  | .tuple l, _, z, h => by
    cases h with
    | tuple h1 h2 h3 =>
      simp only [D.py]
      exact .tup (SqT.of h1) (RpA.dp l _ (by simpa only [D.pl] using z) h3)
  | .dk _, _, z, _ => by cases z
  | .dt _, _, z, _ => by cases z
  | .scr _, _, z, _ => by cases z
  | .ktup l, _, z, h => by
    cases h with
    | ktup h1 h2 =>
      simp only [D.py]
      exact .tup (.inr h1) (dp_ints l)
  | .fdt _, _, z, _ => by cases z
  | .ftup l, _, z, h => by
    cases h with
    | @ftup a o xs _ h1 h0 h2 h3 =>
      simp only [D.py]
      exact .tup (.inl (.inr ⟨o, h1⟩)) (RpA.dp l _ (by simpa only [D.pl] using z) h3)
theorem RpA.dp {K : PySem.W.Frag} {H : Hp} : ∀ (l : List D) (vs : List V), D.plA l = true → RpA K H vs l → DpAll K H vs (D.pyA l)
  | [], _, _, h => by cases h; exact .nil
  | d :: l, _, z, h => by
    simp only [D.plA, Bool.and_eq_true] at z
    cases h with
    | cons h1 h2 =>
      simp only [D.pyA]
      exact .cons (Rp.dp d _ z.1 h1) (RpA.dp l _ z.2 h2)
end
def eqv (a b : D) : Bool := PyData.eqv a.py b.py
def dep (a : D) : Nat := a.py.depth
def eqD (a b : D) : Option Bool := if a.pl = true ∧ b.pl = true ∧ min (dep a) (dep b) ≤ 50 then some (eqv a b) else none
def neD (a b : D) : Option Bool := (eqD a b).map fun k => !k
theorem op_eqDD {k : Nat} (hr : Room k X.A) : OpR X (compareOp .Eq) (rdC X.K eqD) := by
  intro pins s σ H x y v u Q I rx ry h
  obtain ⟨A, dx, dy, hA, r1, r2, b, e, q⟩ := h
  obtain ⟨⟨h1, h2, h3⟩, rfl⟩ := if_some e
  obtain ⟨as, q1⟩ := Dp.reads I _ x v (Rp.dp dx x h1 (r1.up hid_sub)) rx
  obtain ⟨bs, q2⟩ := Dp.reads I _ y u (Rp.dp dy y h2 (r2.up hid_sub)) ry
  have hu := hr.units
  refine SeqAt.eq_plain q1 q2 (D.py_plain _) (D.py_plain _) ?_ ⟨.bl _, H, I, rfl, q⟩
  unfold dep at h3
  omega
theorem op_neDD {k : Nat} (hr : Room k X.A) : OpR X (compareOp .NotEq) (rdC X.K neD) := by
  intro pins s σ H x y v u Q I rx ry h
  obtain ⟨A, dx, dy, hA, r1, r2, b, e, q⟩ := h
  unfold neD at e
  obtain ⟨b', e', rfl⟩ := Option.map_eq_some_iff.mp e
  obtain ⟨⟨h1, h2, h3⟩, rfl⟩ := if_some e'
  obtain ⟨as, q1⟩ := Dp.reads I _ x v (Rp.dp dx x h1 (r1.up hid_sub)) rx
  obtain ⟨bs, q2⟩ := Dp.reads I _ y u (Rp.dp dy y h2 (r2.up hid_sub)) ry
  have hu := hr.units
  refine SeqAt.ne_plain q1 q2 (D.py_plain _) (D.py_plain _) ?_ ⟨.bl _, H, I, rfl, q⟩
  unfold dep at h3
  omega
/-! ### is None -/
def isND : D → D → Option Bool
  | .none, .none => some true
  | _, .none => some false
  | _, _ => none
def notND : D → D → Option Bool
  | .none, .none => some false
  | _, .none => some true
  | _, _ => none
theorem op_isND : OpR X (compareOp .Is) (rdC X.K isND) := by
  intro pins s σ H x y v u Q I rx ry h
  obtain ⟨A, dx, dy, hA, r1, r2, d, e, q⟩ := h
  cases r2 <;> first | (cases r1 <;> cases e; done) | skip
  refine op_isN pins s σ H _ _ v u Q I rx ry ⟨rfl, ?_⟩
  cases r1 <;> cases e <;> exact q
theorem op_notND : OpR X (compareOp .IsNot) (rdC X.K notND) := by
  intro pins s σ H x y v u Q I rx ry h
  obtain ⟨A, dx, dy, hA, r1, r2, d, e, q⟩ := h
  cases r2 <;> first | (cases r1 <;> cases e; done) | skip
  refine op_notN pins s σ H _ _ v u Q I rx ry ⟨rfl, ?_⟩
  cases r1 <;> cases e <;> exact q
end
end Pd

/-! Pd5: in, subscripts, slices by data. -/
namespace Pd
open PySem L2 PyProof.Rows
def dkey : D → Option Key
  | .int i => some (.inl i)
  | .str s => some (.inr s)
  | _ => none
def dkeys : List D → Option (List Key)
  | [] => some []
  | d :: l => (dkey d).bind fun k => (dkeys l).map (k :: ·)
theorem dkey_V {K : PySem.W.Frag} {H : Hp} {v : V} {d : D} {k : Key} (r : Rp K H v d) (e : dkey d = some k) : v = kV k := by
  cases r <;> cases e <;> rfl
theorem dkeys_V {K : PySem.W.Frag} {H : Hp} : ∀ {l : List D} {vs : List V} {ks : List Key}, RpA K H vs l → dkeys l = some ks → vs = ks.map kV
  | [], _, _, h, e => by cases h; cases e; rfl
  | d :: l, _, ks, h, e => by
    cases h with
    | cons r t =>
      unfold dkeys at e
      obtain ⟨k, e1, e2⟩ := Option.bind_eq_some_iff.mp e
      obtain ⟨ks', e3, rfl⟩ := Option.map_eq_some_iff.mp e2
      rw [dkey_V r e1, dkeys_V t e3]
      rfl
def depA (l : List D) : Nat := PyData.depthAll (D.pyA l)
/-- x in c -/
def inD (x c : D) : Option Bool := match c with
  | .list l => if x.pl = true ∧ D.plA l = true ∧ min (depA l) (dep x) ≤ 50 then some (l.any fun y => eqv y x) else none
  | .tuple l => if x.pl = true ∧ D.plA l = true ∧ min (depA l) (dep x) ≤ 50 then some (l.any fun y => eqv y x) else none
  | .ftup l => if x.pl = true ∧ D.plA l = true ∧ min (depA l) (dep x) ≤ 50 then some (l.any fun y => eqv y x) else none
  | .fdt kvs => (match x with
    | .tuple l => (dkeys l).map fun k => (valV kvs k).isSome
    | _ => none)
  | .dk kvs => (dkey x).map fun k => (valV kvs k).isSome
  | .dt kvs => match x with
    | .tuple l => (dkeys l).map fun k => (valV kvs k).isSome
    | _ => none
  | .str z => match x with
    | .str s => if s.cps.size = 1 then some (decide (s.cps.getD 0 0 ∈ z.cps.toList)) else none
    | _ => none
  | _ => none
def ninD (x c : D) : Option Bool := (inD x c).map fun k => !k
theorem pyA_any (x : D) : ∀ l : List D, ((D.pyA l).any fun y => PyData.eqv y x.py) = l.any fun y => eqv y x
  | [] => rfl
  | d :: l => by
    simp only [D.pyA, List.any_cons]
    rw [pyA_any x l]
    rfl
theorem one_sign {s : Str} (h : s.cps.size = 1) : s = ⟨#[s.cps.getD 0 0]⟩ := by
  obtain ⟨⟨l⟩⟩ := s
  match l, h with
  | [c], _ => rfl
section
variable {X : Cx}
theorem op_inDD {k : Nat} (hr : Room k X.A) : OpR X (compareOp .In) (rdC X.K inD) := by
  intro pins s σ H x y v u Q I rx ry h
  obtain ⟨A, dx, dy, hA, r1, r2, b, e, q⟩ := h
  have hu := hr.units
  cases r2 with
  | @list a xs l h1 h2 h3 =>
    obtain ⟨⟨p1, p2, p3⟩, rfl⟩ := if_some e
    obtain ⟨as, q1⟩ := Dp.reads I _ x v (Rp.dp dx x p1 (r1.up hid_sub)) rx
    obtain ⟨bs, q2⟩ := Dp.reads I (D.py (.list l)) (.ref a) u (Rp.dp (.list l) _ (by simp only [D.pl]; exact p2) ((Rp.list h1 h2 h3).up hid_sub)) ry
    simp only [D.py] at q2
    refine SeqAt.in_list_data q2 q1 (D.pyA_plain l) (D.py_plain _) ?_ ⟨.bl _, H, I, rfl, ?_⟩
    · unfold dep depA at p3
      omega
    · rw [pyA_any]
      exact q
  | @tuple a xs l h1 h2 h3 =>
    obtain ⟨⟨p1, p2, p3⟩, rfl⟩ := if_some e
    obtain ⟨as, q1⟩ := Dp.reads I _ x v (Rp.dp dx x p1 (r1.up hid_sub)) rx
    obtain ⟨bs, q2⟩ := Dp.reads I (D.py (.tuple l)) (.ref a) u (Rp.dp (.tuple l) _ (by simp only [D.pl]; exact p2) ((Rp.tuple h1 h2 h3).up hid_sub)) ry
    simp only [D.py] at q2
    refine SeqAt.in_tuple_data q2 q1 (D.pyA_plain l) (D.py_plain _) ?_ ⟨.bl _, H, I, rfl, ?_⟩
    · unfold dep depA at p3
      omega
    · rw [pyA_any]
      exact q
  | @dk a kvs h1 h2 =>
    obtain ⟨k, e1, rfl⟩ := Option.map_eq_some_iff.mp (show (dkey dx).map (fun k => (valV kvs k).isSome) = some b from e)
    cases ry
    have ex := dkey_V r1 e1
    subst ex
    exact d_in (by omega) I (DGet.k (hid_sub _ _ h1)) rx fun s3 I3 => ⟨.bl _, H, I3, rfl, q⟩
  | @dt a kvs h1 h2 =>
    cases r1 with
    | @tuple b' xs l g1 g2 g3 =>
      obtain ⟨k, e1, rfl⟩ := Option.map_eq_some_iff.mp (show (dkeys l).map (fun k => (valV kvs k).isSome) = some b from e)
      cases ry
      have ex := dkeys_V g3 e1
      subst ex
      exact d_in (by omega) I (DGet.t (hid_sub _ _ h1) (hid_sub _ _ g1)) rx fun s3 I3 => ⟨.bl _, H, I3, rfl, q⟩
    | _ => cases e
  | @fdt a o kvs h1 h2 =>
    cases r1 with
    | @tuple b' xs l g1 g2 g3 =>
      obtain ⟨k, e1, rfl⟩ := Option.map_eq_some_iff.mp (show (dkeys l).map (fun k => (valV kvs k).isSome) = some b from e)
      cases ry
      have ex := dkeys_V g3 e1
      subst ex
      exact d_in (by omega) I (.inr ⟨kvs, k, b', .inr ⟨o, hid_sub _ _ h1⟩, rfl, hid_sub _ _ g1, rfl⟩) rx fun s3 I3 => ⟨.bl _, H, I3, rfl, q⟩
    | _ => cases e
  | @ftup a o xs l h1 h0 h2 h3 =>
    obtain ⟨⟨p1, p2, p3⟩, rfl⟩ := if_some e
    obtain ⟨as, q1⟩ := Dp.reads I _ x v (Rp.dp dx x p1 (r1.up hid_sub)) rx
    obtain ⟨bs, q2⟩ := Dp.reads I (D.py (.ftup l)) (.ref a) u (Rp.dp (.ftup l) _ (by simp only [D.pl]; exact p2) ((Rp.ftup h1 h0 h2 h3).up hid_sub)) ry
    simp only [D.py] at q2
    refine SeqAt.in_tuple_data q2 q1 (D.pyA_plain l) (D.py_plain _) ?_ ⟨.bl _, H, I, rfl, ?_⟩
    · unfold dep depA at p3
      omega
    · rw [pyA_any]
      exact q
  | str z =>
    cases r1 with
    | str c =>
      obtain ⟨h1, rfl⟩ := if_some e
      have hc := one_sign h1
      refine op_in_sign pins s σ H _ _ v u Q I rx ry ⟨c.cps.getD 0 0, z, ?_, rfl, q⟩
      rw [← hc]
    | _ => cases e
  | _ => cases e
theorem op_ninDD {k : Nat} (hr : Room k X.A) : OpR X (compareOp .NotIn) (rdC X.K ninD) := by
  intro pins s σ H x y v u Q I rx ry h
  obtain ⟨A, dx, dy, hA, r1, r2, b0, e0, q⟩ := h
  have hu := hr.units
  obtain ⟨b, e, rfl⟩ := Option.map_eq_some_iff.mp e0
  cases r2 with
  | @list a xs l h1 h2 h3 =>
    obtain ⟨⟨p1, p2, p3⟩, rfl⟩ := if_some e
    obtain ⟨as, q1⟩ := Dp.reads I _ x v (Rp.dp dx x p1 (r1.up hid_sub)) rx
    obtain ⟨bs, q2⟩ := Dp.reads I (D.py (.list l)) (.ref a) u (Rp.dp (.list l) _ (by simp only [D.pl]; exact p2) ((Rp.list h1 h2 h3).up hid_sub)) ry
    simp only [D.py] at q2
    refine SeqAt.notIn_list_data q2 q1 (D.pyA_plain l) (D.py_plain _) ?_ ⟨.bl _, H, I, rfl, ?_⟩
    · unfold dep depA at p3
      omega
    · rw [pyA_any]
      exact q
  | @tuple a xs l h1 h2 h3 =>
    obtain ⟨⟨p1, p2, p3⟩, rfl⟩ := if_some e
    obtain ⟨as, q1⟩ := Dp.reads I _ x v (Rp.dp dx x p1 (r1.up hid_sub)) rx
    obtain ⟨bs, q2⟩ := Dp.reads I (D.py (.tuple l)) (.ref a) u (Rp.dp (.tuple l) _ (by simp only [D.pl]; exact p2) ((Rp.tuple h1 h2 h3).up hid_sub)) ry
    simp only [D.py] at q2
    refine SeqAt.notIn_tuple_data q2 q1 (D.pyA_plain l) (D.py_plain _) ?_ ⟨.bl _, H, I, rfl, ?_⟩
    · unfold dep depA at p3
      omega
    · rw [pyA_any]
      exact q
  | @dk a kvs h1 h2 =>
    obtain ⟨k, e1, rfl⟩ := Option.map_eq_some_iff.mp (show (dkey dx).map (fun k => (valV kvs k).isSome) = some b from e)
    cases ry
    have ex := dkey_V r1 e1
    subst ex
    exact d_notIn (by omega) I (DGet.k (hid_sub _ _ h1)) rx fun s3 I3 => ⟨.bl _, H, I3, rfl, q⟩
  | @dt a kvs h1 h2 =>
    cases r1 with
    | @tuple b' xs l g1 g2 g3 =>
      obtain ⟨k, e1, rfl⟩ := Option.map_eq_some_iff.mp (show (dkeys l).map (fun k => (valV kvs k).isSome) = some b from e)
      cases ry
      have ex := dkeys_V g3 e1
      subst ex
      exact d_notIn (by omega) I (DGet.t (hid_sub _ _ h1) (hid_sub _ _ g1)) rx fun s3 I3 => ⟨.bl _, H, I3, rfl, q⟩
    | _ => cases e
  | @fdt a o kvs h1 h2 =>
    cases r1 with
    | @tuple b' xs l g1 g2 g3 =>
      obtain ⟨k, e1, rfl⟩ := Option.map_eq_some_iff.mp (show (dkeys l).map (fun k => (valV kvs k).isSome) = some b from e)
      cases ry
      have ex := dkeys_V g3 e1
      subst ex
      exact d_notIn (by omega) I (.inr ⟨kvs, k, b', .inr ⟨o, hid_sub _ _ h1⟩, rfl, hid_sub _ _ g1, rfl⟩) rx fun s3 I3 => ⟨.bl _, H, I3, rfl, q⟩
    | _ => cases e
  | @ftup a o xs l h1 h0 h2 h3 =>
    obtain ⟨⟨p1, p2, p3⟩, rfl⟩ := if_some e
    obtain ⟨as, q1⟩ := Dp.reads I _ x v (Rp.dp dx x p1 (r1.up hid_sub)) rx
    obtain ⟨bs, q2⟩ := Dp.reads I (D.py (.ftup l)) (.ref a) u (Rp.dp (.ftup l) _ (by simp only [D.pl]; exact p2) ((Rp.ftup h1 h0 h2 h3).up hid_sub)) ry
    simp only [D.py] at q2
    refine SeqAt.notIn_tuple_data q2 q1 (D.pyA_plain l) (D.py_plain _) ?_ ⟨.bl _, H, I, rfl, ?_⟩
    · unfold dep depA at p3
      omega
    · rw [pyA_any]
      exact q
  | str z =>
    cases r1 with
    | str c =>
      obtain ⟨h1, rfl⟩ := if_some e
      have hc := one_sign h1
      refine op_notIn_sign pins s σ H _ _ v u Q I rx ry ⟨c.cps.getD 0 0, z, ?_, rfl, q⟩
      rw [← hc]
    | _ => cases e
  | _ => cases e

/-! ### subscripts -/
def getD : D → D → Option D
  | .list l, .int i => atI l i
  | .tuple l, .int i => atI l i
  | .ftup l, .int i => atI l i
  | .scr l, .int i => (atI l i).map .int
  | .str z, .int i => if z.length ≤ 1000000 then (atI z.cps.toList i).map fun c => .str ⟨#[c]⟩ else none
  | .dk kvs, d => (dkey d).bind fun k => (valV kvs k).map dv
  | _, _ => none
theorem atI_R {K : PySem.W.Frag} {H : Hp} {ds : List D} {vs : List V} {i : Int} {d : D} (r : RpA K H vs ds) (h : atI ds i = some d) : ∃ v, atI vs i = some v ∧ Rp K H v d := by
  unfold atI at h ⊢
  rw [r.len]
  obtain ⟨j, e1, e2⟩ := Option.bind_eq_some_iff.mp h
  obtain ⟨v, h1, h2⟩ := r.get e2
  exact ⟨v, by rw [e1]; exact h1, h2⟩
theorem atI_map {α β : Type} (f : α → β) (l : List α) (i : Int) : atI (l.map f) i = (atI l i).map f := by
  unfold atI
  rw [List.length_map]
  cases ixN l.length i with
  | none => rfl
  | some j => simp
theorem ix_getD : IxR X (rdO X.K fun a b => match a with | .dk _ => none | _ => getD a b) := by
  intro value slice pins s σ H x y v u Q I rx ry h hs
  obtain ⟨A, dx, dy, hA, r1, r2, d, e, q⟩ := h
  cases r1 with
  | @list a xs l h1 h2 h3 =>
    cases r2 with
    | int i =>
      obtain ⟨z, e1, e2⟩ := atI_R h3 e
      exact ix_list value slice pins s σ H _ _ v u Q I rx ry ⟨a, xs, i, z, rfl, rfl, SqL.of (hid_sub _ _ h1), e1, q _ H (Same.refl H) e2⟩ hs
    | _ => cases e
  | @tuple a xs l h1 h2 h3 =>
    cases r2 with
    | int i =>
      obtain ⟨z, e1, e2⟩ := atI_R h3 e
      exact ix_tup value slice pins s σ H _ _ v u Q I rx ry ⟨a, xs, i, z, rfl, rfl, SqT.of (hid_sub _ _ h1), e1, q _ H (Same.refl H) e2⟩ hs
    | _ => cases e
  | @ftup a o xs l h1 h0 h2 h3 =>
    cases r2 with
    | int i =>
      obtain ⟨z, e1, e2⟩ := atI_R h3 e
      exact ix_tup value slice pins s σ H _ _ v u Q I rx ry ⟨a, xs, i, z, rfl, rfl, .inl (.inr ⟨o, hid_sub _ _ h1⟩), e1, q _ H (Same.refl H) e2⟩ hs
    | _ => cases e
  | @scr a ns h1 h2 =>
    cases r2 with
    | int i =>
      obtain ⟨n, e1, rfl⟩ := Option.map_eq_some_iff.mp (show (atI ns i).map D.int = some d from e)
      refine ix_list value slice pins s σ H _ _ v u Q I rx ry ⟨a, _, i, .int n, rfl, rfl, hidL h1, ?_, q _ H (Same.refl H) (.int n)⟩ hs
      rw [atI_map, e1]
      rfl
    | _ => cases e
  | str z =>
    cases r2 with
    | int i =>
      replace e : (if z.length ≤ 1000000 then (atI z.cps.toList i).map fun c => D.str ⟨#[c]⟩ else none) = some d := e
      split at e
      · rename_i hl
        obtain ⟨c, e1, rfl⟩ := Option.map_eq_some_iff.mp e
        exact ix_str value slice pins s σ H _ _ v u Q I rx ry ⟨z, i, c, rfl, rfl, capS_ok hl, e1, q _ H (Same.refl H) (.str _)⟩ hs
      · cases e
    | _ => cases e
  | _ => cases e
variable {c : Pc} {m : Bool} {a b : Expr} {f1 f2 : DE} {pos : Pos}
theorem pd_sub {k : Nat} (hr : Room k X.A) (ha : PD X c m a f1) (hb : PD X c m b f2) (hs : PlainIx b := by exact fun _ _ => rfl) : PD X c m (.Subscript a b pos) (dOp getD f1 f2) := by
  refine ⟨fun pins s σ H Q I hw => ?_⟩
  obtain ⟨F, ρ, E, w⟩ := hw
  have hu := hr.units
  by_cases hk : ∃ kvs, f1 ρ = .ok (.dk kvs)
  · obtain ⟨kvs, hk⟩ := hk
    refine (pe_dget (by omega) ha hb hs).run pins s σ H Q I ⟨F, ρ, E, ?_⟩
    unfold dOp at w
    rw [hk] at w ⊢
    intro v1 H1 s1 r1
    refine ⟨F, ρ, E.up s1, (Out.wp_bind (o := f2 ρ) (f := fun y => Out.of (getD (.dk kvs) y)) w).imp (fun y k2 v2 H2 s2 r2 => ?_) fun _ z => z.up s1⟩
    obtain ⟨d, e, q⟩ := of_wp k2
    cases r1 with
    | @dk ad _ h1 h2 =>
      obtain ⟨ky, e1, e2⟩ := Option.bind_eq_some_iff.mp (show (dkey y).bind (fun k => (valV kvs k).map dv) = some d from e)
      obtain ⟨v0, e3, rfl⟩ := Option.map_eq_some_iff.mp e2
      have ex := dkey_V r2 e1
      subst ex
      have hsc : scV v0 = true := by
        unfold valV at e3
        obtain ⟨p, hp, rfl⟩ := Option.map_eq_some_iff.mp e3
        exact List.all_eq_true.mp h2 p (List.mem_of_find?_eq_some hp)
      refine ⟨ad, v0, rfl, ?_, q _ H2 (s1.trans s2) (Rp.of_scV hsc)⟩
      have := DGet.k (k := ky) (s2 _ _ (hid_sub _ _ h1))
      rw [e3] at this
      exact this
  · refine (pe_ix ix_getD ha hb hs).run pins s σ H Q I (two (m := m) (P := fun _ _ _ _ _ => True) E ?_)
    cases hf : f1 ρ with
    | bad => unfold dOp at w; rw [hf] at w; exact w
    | err x => unfold dOp at w; rw [hf] at w; exact w
    | ok d1 =>
      unfold dOp at w
      rw [hf] at w
      exact (Out.wp_bind (o := f2 ρ) (f := fun y => Out.of (getD d1 y)) w).imp (fun y k2 v u H' s r1 r2 => by
        obtain ⟨d, e, q⟩ := of_wp k2
        refine ⟨_, d1, y, (E.up s).hdom m, r1, r2, d, ?_, fun v' H2 s2 r => q v' H2 (s.trans s2) r⟩
        cases d1 <;> first | exact e | exact absurd hf (fun z => hk ⟨_, z⟩)) fun _ z => z
/-- x[i], x a list that is owned -/
theorem pd_subO (i : Nat) (k : Kd) {x : Str} {p1 : Pos} (hb : PD X c true b f2) (ho : isOw c.O i k = true := by rfl) (hk : k = .l ∨ k = .p := by first | exact .inl rfl | exact .inr rfl) (hs : PlainIx b := by exact fun _ _ => rfl)
    (pe : PE X (.Name x p1) (tVar i) := by exact pv _) : PD X c m (.Subscript (.Name x p1) b pos) (dOp getD (dVar i) f2) :=
  PD.weak (PE.imp (pe_ix ix_list pe hb hs) fun σ H Q ⟨F, ρ, E, w⟩ => by
    obtain ⟨d, e1, w1⟩ := dVar_wp (Out.wp_bind w)
    obtain ⟨a, xs, ds, z, h2, h3, h4, h5⟩ := E.lst (isOw_of ho) hk e1
    subst z
    refine ⟨_, h2, F, ρ, E, (Out.wp_bind w1).imp (fun y k2 v H1 s1 r => ?_) fun _ z => z⟩
    obtain ⟨d, e, q⟩ := of_wp k2
    cases r <;> try (cases e)
    rename_i n
    obtain ⟨z, e3, e4⟩ := atI_R h5 e
    exact ⟨a, xs, n, z, rfl, rfl, SqL.of (s1 _ _ h3), e3, q _ H1 s1 (e4.up (hid_mono s1))⟩)

/-! ### slices -/
def cutD (l : List D) (lo hi : Option Int) : List D := (l.drop (HT.sIx l.length 0 lo)).take (HT.sIx l.length l.length hi - HT.sIx l.length 0 lo)
def sliceD (d : D) (lo hi : Option Int) : Option D := match d with
  | .list l => some (.list (cutD l lo hi))
  | .tuple l => some (.tuple (cutD l lo hi))
  | .scr l => some (.list ((l.drop (HT.sIx l.length 0 lo)).take (HT.sIx l.length l.length hi - HT.sIx l.length 0 lo) |>.map .int))
  | .str z => if z.length ≤ 1000000 then some (.str (cutS z lo hi)) else none
  | _ => none
theorem cut_R {K : PySem.W.Frag} {H : Hp} {ds : List D} {vs : List V} (r : RpA K H vs ds) (lo hi : Option Int) : RpA K H (cutV vs lo hi) (cutD ds lo hi) := by
  unfold cutV cutD
  rw [r.len]
  exact (r.drop _).take _
abbrev DOI := Env → Out (Option Int)
def rdPO (K : PySem.W.Frag) (c : Pc) (f : DOI) : TO := fun σ H Q => ∃ F ρ, EnvR K c.O F ρ σ H ∧ (f ρ).wp (fun o => ∀ H', Same H H' → Q o H') (erW c σ H)
def dNoP : DOI := fun _ => .ok none
def dPart (f : DE) : DOI := fun ρ => (f ρ).bind fun d => match d with
  | .int i => .ok (some i)
  | _ => .bad
abbrev POD (X : Cx) (c : Pc) (e : Option Expr) (f : DOI) : Prop := PO X e (rdPO X.K c f)
theorem PO.imp {e : Option Expr} {t t' : TO} (h : PO X e t) (f : ∀ σ H Q, t' σ H Q → t σ H Q) : PO X e t' := ⟨fun pins s σ H Q I q => h.run pins s σ H Q I (f σ H Q q)⟩
theorem po_noneD : POD X c none dNoP := PO.imp po_none fun σ H Q ⟨F, ρ, E, w⟩ => w H (Same.refl H)
theorem po_someD {e : Expr} {f : DE} (h : PD X c false e f) : POD X c (some e) (dPart f) := PO.imp (po_some h) fun σ H Q ⟨F, ρ, E, w⟩ => ⟨F, ρ, E, (Out.wp_bind w).imp (fun d k v H1 s r => by
  cases r <;> try (exact k.elim)
  exact ⟨_, rfl, k H1 s⟩) fun _ z => z⟩
def dSlice (f : DE) (lo hi : DOI) : DE := fun ρ => (f ρ).bind fun d => (lo ρ).bind fun l => (hi ρ).bind fun h => .of (sliceD d l h)
def rdSl (K : PySem.W.Frag) : V → Option Int → Option Int → Hp → VK → Prop := fun x lo hi H Q => ∃ A dx, Dom A H ∧ Rp K (hid A H) x dx ∧ ∃ d, sliceD dx lo hi = some d ∧ ∀ v H', Same H H' → Rp K (hid A H') v d → Q v H'
theorem sl_D : SlR X (rdSl X.K) := by
  intro pins s σ H x v vl vu lo hi sl Q I rx hsl pl pu h
  obtain ⟨A, dx, hA, r1, d, e, q⟩ := h
  cases r1 with
  | @list a xs l h1 h2 h3 =>
    cases e
    refine sl_list pins s σ H _ v vl vu lo hi sl Q I rx hsl pl pu ⟨a, xs, rfl, SqL.of (hid_sub _ _ h1), fun p hp => ?_⟩
    obtain ⟨s1, r⟩ := new_list hA hp (Nat.le_trans (cutV_length _ _ _) h2) (cut_R h3 lo hi)
    exact q _ _ s1 r
  | @tuple a xs l h1 h2 h3 =>
    cases e
    refine sl_tupA pins s σ H _ v vl vu lo hi sl Q I rx hsl pl pu ⟨a, xs, rfl, SqT.of (hid_sub _ _ h1), fun z => ?_, fun _ p hp => ?_⟩
    · have e2 : cutD l lo hi = l := by
        unfold cutD
        rw [h3.len] at z
        rw [z.1, z.2, Nat.sub_zero, List.drop_zero, List.take_length]
      rw [e2] at q
      exact q _ H (Same.refl H) (.tuple h1 h2 h3)
    · obtain ⟨s1, r⟩ := new_tup hA hp (Nat.le_trans (cutV_length _ _ _) h2) (cut_R h3 lo hi)
      exact q _ _ s1 r
  | @scr a ns h1 h2 =>
    cases e
    refine sl_list pins s σ H _ v vl vu lo hi sl Q I rx hsl pl pu ⟨a, _, rfl, hidL h1, fun p hp => ?_⟩
    have ec : cutV (ns.map V.int) lo hi = ((ns.drop (HT.sIx ns.length 0 lo)).take (HT.sIx ns.length ns.length hi - HT.sIx ns.length 0 lo)).map V.int := by
      unfold cutV
      rw [List.length_map, List.map_take, List.map_drop]
    rw [ec]
    obtain ⟨s1, r⟩ := new_list (K := X.K) hA hp (by rw [← ec]; exact Nat.le_trans (cutV_length _ _ _) (by rw [List.length_map]; exact h2)) (RpA.of_ints ((ns.drop (HT.sIx ns.length 0 lo)).take (HT.sIx ns.length ns.length hi - HT.sIx ns.length 0 lo)))
    exact q _ _ s1 r
  | str z =>
    obtain ⟨hl, rfl⟩ := if_some e
    exact sl_str pins s σ H _ v vl vu lo hi sl Q I rx hsl pl pu ⟨z, rfl, capS_ok hl, q _ H (Same.refl H) (.str _)⟩
  | _ => cases e
theorem pd_slice {e : Expr} {lo hi : Option Expr} {f : DE} {fl fh : DOI} {p2 : Pos} (he : PD X c m e f) (hl : POD X c lo fl) (hh : POD X c hi fh) : PD X c m (.Subscript e (.Slice lo hi none p2) pos) (dSlice f fl fh) :=
  PE.imp (pe_slice sl_D he hl hh) fun σ H Q ⟨F, ρ, E, w⟩ => ⟨F, ρ, E, (Out.wp_bind w).imp (fun d k v H1 s1 r => ⟨F, ρ, E.up s1, (Out.wp_bind k).imp (fun l k2 H2 s2 => ⟨F, ρ, E.up (s1.trans s2), (Out.wp_bind k2).imp (fun h k3 H3 s3 => by
    obtain ⟨d', e', q⟩ := of_wp k3
    have s13 := (s1.trans s2).trans s3
    exact ⟨_, d, (E.up s13).hdom m, (r.up (hid_mono s2)).up (hid_mono s3), d', e', fun v' H' s r' => q v' H' (s13.trans s) r'⟩) fun _ z => z.up (s1.trans s2)⟩) fun _ z => z.up s1⟩) fun _ z => z⟩
end
end Pd

/-! Pd6: built-ins by data. -/
namespace Pd
open PySem L2 PyProof.Rows
def lenD : List D → Option D
  | [.list l] => some (.int l.length)
  | [.tuple l] => some (.int l.length)
  | [.scr l] => some (.int l.length)
  | [.str z] => if z.length ≤ 1000000 then some (.int z.length) else none
  | [.dt kvs] => some (.int kvs.length)
  | [.ftup l] => some (.int l.length)
  | [.fdt kvs] => some (.int kvs.length)
  | _ => none
def intC : List D → Option D
  | [.int i] => some (.int i)
  | [.bool b] => some (.int (if b then 1 else 0))
  | _ => none
def strC : List D → Option D
  | [.int i] => if i.natAbs < 2 ^ 1900 then some (.str (toString i)) else none
  | _ => none
def boolsOf : List D → Option (List Bool)
  | [] => some []
  | .bool b :: l => (boolsOf l).map (b :: ·)
  | _ :: _ => none
theorem boolsOf_some : ∀ {l : List D} {ns : List Bool}, boolsOf l = some ns → l = ns.map .bool
  | [], ns, h => by cases h; rfl
  | d :: l, ns, h => by
    cases d <;> try (cases h; done)
    unfold boolsOf at h
    obtain ⟨ms, e, rfl⟩ := Option.map_eq_some_iff.mp h
    rw [boolsOf_some (l := l) e]
    rfl
@[simp] theorem boolsOf_map (ns : List Bool) : boolsOf (ns.map .bool) = some ns := by
  induction ns with
  | nil => rfl
  | cons n ns ih =>
    rw [List.map_cons]
    unfold boolsOf
    rw [ih]
    rfl
theorem RpA.bools {K : PySem.W.Frag} {H : Hp} : ∀ {ns : List Bool} {vs : List V}, RpA K H vs (ns.map .bool) → vs = ns.map V.bl
  | [], _, h => by cases h; rfl
  | n :: ns, _, h => by
    cases h with
    | cons r t =>
      cases r
      rw [RpA.bools t]
      rfl
def maxC : List D → Option D
  | [.list l] => (intsOf l).bind fun ns => ns.max?.map .int
  | [.int i, .int j] => some (.int (if j > i then j else i))
  | _ => none
def minC : List D → Option D
  | [.list l] => (intsOf l).bind fun ns => ns.min?.map .int
  | [.int i, .int j] => some (.int (if j < i then j else i))
  | _ => none
def sumC : List D → Option D
  | [.list l] => (intsOf l).map fun ns => .int ns.sum
  | _ => none
def allC : List D → Option D
  | [.list l] => (boolsOf l).map fun bs => .bool (bs.all id)
  | _ => none
def anyC : List D → Option D
  | [.list l] => (boolsOf l).map fun bs => .bool (bs.any id)
  | _ => none
/-- the rising list -/
def sortI (ns : List Int) : List Int := ns.mergeSort fun a b => decide (a ≤ b)
theorem sortI_unique {ns ms : List Int} (p : ms.Perm ns) (s : ms.Pairwise (· ≤ ·)) : ms = sortI ns := by
  have h1 : (sortI ns).Pairwise (· ≤ ·) := by
    have := List.pairwise_mergeSort (le := fun a b : Int => decide (a ≤ b)) (fun a b c h1 h2 => by simp at h1 h2 ⊢; omega) (fun a b => by simp; omega) ns
    exact this.imp fun h => by simpa using h
  exact List.Perm.eq_of_pairwise (fun a b _ _ h1 h2 => by omega) s h1 (p.trans (List.mergeSort_perm ns _).symm)
def keysI : List (Key × V) → Option (List Int)
  | [] => some []
  | (.inl i, _) :: l => (keysI l).map (i :: ·)
  | _ :: _ => none
theorem keysI_some : ∀ {l : List (Key × V)} {ns : List Int}, keysI l = some ns → l.map (·.1) = ns.map Sum.inl
  | [], ns, h => by cases h; rfl
  | (.inl i, _) :: l, ns, h => by
    unfold keysI at h
    obtain ⟨ms, e, rfl⟩ := Option.map_eq_some_iff.mp h
    rw [List.map_cons, keysI_some (l := l) e]
    rfl
  | (.inr _, _) :: _, _, h => by cases h
def sortC : List D → Option D
  | [.list l] => (intsOf l).map fun ns => .list ((sortI ns).map .int)
  | [.dk kvs] => (keysI kvs).bind fun ns => if ns.length < 64 then some (.list ((sortI ns).map .int)) else none
  | _ => none
def listC : List D → Option D
  | [.list l] => some (.list l)
  | [.tuple l] => some (.list l)
  | [.dk kvs] => if kvs.length ≤ 100000 then some (.list (kvs.map fun p => keyD p.1)) else none
  | _ => none
def tupC : List D → Option D
  | [.list l] => some (.tuple l)
  | [.tuple l] => some (.tuple l)
  | _ => none
section
variable {X : Cx}
theorem rp1 {K : PySem.W.Frag} {H : Hp} {vs : List V} {d : D} (r : RpA K H vs [d]) : ∃ v, vs = [v] ∧ Rp K H v d := by
  cases r with
  | cons r1 r2 => cases r2; exact ⟨_, rfl, r1⟩
theorem rp2 {K : PySem.W.Frag} {H : Hp} {vs : List V} {d e : D} (r : RpA K H vs [d, e]) : ∃ v u, vs = [v, u] ∧ Rp K H v d ∧ Rp K H u e := by
  cases r with
  | cons r1 r2 =>
    obtain ⟨u, rfl, r3⟩ := rp1 r2
    exact ⟨_, u, rfl, r1, r3⟩
/-- len(d), d a dict with tuples as keys that is known to the object -/
theorem call_len_fT : CallR X (.builtin "len") (fun xs H Q => ∃ (p : Addr) (o : Obj) (kvs : List (List Key × V)), xs = [.ref p] ∧ H p = some (.frz o (.dT kvs)) ∧ Q (.int (kvs.length : Nat)) H) := by
  intro pins s σ H xs us Q I r h
  obtain ⟨p, o, kvs, rfl, hp, q⟩ := h
  rw [Vals.ref1 r]
  obtain ⟨z, hd, ys, rel, dd⟩ := dt_rd I.hok (.inr ⟨o, hp⟩)
  have hl : kvs.length = ys.length := Paired.length rel
  refine call_len_dictH hd dd (by rw [← hl]; have := sizeLine_eq; omega) ?_
  rw [← hl]
  exact ⟨.int (kvs.length : Nat), H, I.tok _, ⟨_, rfl⟩, q⟩
theorem cr_lenD : CallR X (.builtin "len") (rdL X.K lenD) := by
  intro pins s σ H xs us Q I r h
  obtain ⟨A, ds, hA, ra, d, e, q⟩ := h
  unfold lenD at e
  split at e
  · cases e
    obtain ⟨v, rfl, rv⟩ := rp1 ra
    cases rv with
    | list h1 h2 h3 => exact call_len pins s σ H _ us Q I r ⟨_, _, rfl, .inl ⟨_, SqL.of (hid_sub _ _ h1), rfl⟩, by rw [h3.len]; exact q _ H (Same.refl H) (.int _)⟩
  · cases e
    obtain ⟨v, rfl, rv⟩ := rp1 ra
    cases rv with
    | tuple h1 h2 h3 => exact call_len pins s σ H _ us Q I r ⟨_, _, rfl, .inr ⟨_, SqT.of (hid_sub _ _ h1), rfl⟩, by rw [h3.len]; exact q _ H (Same.refl H) (.int _)⟩
  · cases e
    obtain ⟨v, rfl, rv⟩ := rp1 ra
    cases rv with
    | scr h1 h2 => exact call_len pins s σ H _ us Q I r ⟨_, _, rfl, .inl ⟨_, hidL h1, rfl⟩, by rw [List.length_map]; exact q _ H (Same.refl H) (.int _)⟩
  · obtain ⟨hl, rfl⟩ := if_some e
    obtain ⟨v, rfl, rv⟩ := rp1 ra
    cases rv
    exact call_len pins s σ H _ us Q I r ⟨_, _, rfl, ⟨capS_ok hl, rfl⟩, q _ H (Same.refl H) (.int _)⟩
  · cases e
    obtain ⟨v, rfl, rv⟩ := rp1 ra
    cases rv with
    | dt h1 h2 => exact call_len_dT pins s σ H _ us Q I r ⟨_, _, rfl, hid_sub _ _ h1, q _ H (Same.refl H) (.int _)⟩
  · cases e
    obtain ⟨v, rfl, rv⟩ := rp1 ra
    cases rv with
    | @ftup a o xs _ h1 h0 h2 h3 => exact call_len pins s σ H _ us Q I r ⟨_, _, rfl, .inr ⟨_, .inl (.inr ⟨o, hid_sub _ _ h1⟩), rfl⟩, by rw [h3.len]; exact q _ H (Same.refl H) (.int _)⟩
  · cases e
    obtain ⟨v, rfl, rv⟩ := rp1 ra
    cases rv with
    | fdt h1 h2 => exact call_len_fT pins s σ H _ us Q I r ⟨_, _, _, rfl, hid_sub _ _ h1, q _ H (Same.refl H) (.int _)⟩
  · cases e
theorem cr_intD : CallR X (.type "int") (rdL X.K intC) := by
  intro pins s σ H xs us Q I r h
  obtain ⟨A, ds, hA, ra, d, e, q⟩ := h
  unfold intC at e
  split at e
  · cases e
    obtain ⟨v, rfl, rv⟩ := rp1 ra
    cases rv
    exact call_int1 pins s σ H _ us Q I r (.inl ⟨_, rfl, q _ H (Same.refl H) (.int _)⟩)
  · cases e
    obtain ⟨v, rfl, rv⟩ := rp1 ra
    cases rv
    exact call_int1 pins s σ H _ us Q I r (.inr ⟨_, rfl, q _ H (Same.refl H) (.int _)⟩)
  · cases e
theorem cr_strD : CallR X (.type "str") (rdL X.K strC) := by
  intro pins s σ H xs us Q I r h
  obtain ⟨A, ds, hA, ra, d, e, q⟩ := h
  unfold strC at e
  split at e
  · obtain ⟨hl, rfl⟩ := if_some e
    obtain ⟨v, rfl, rv⟩ := rp1 ra
    cases rv
    rename_i i
    refine call_str_int pins s σ H _ us Q I r ⟨i, rfl, ?_, q _ H (Same.refl H) (.str _)⟩
    by_cases h0 : i.natAbs = 0
    · rw [h0]
      decide
    · have := (Nat.log2_lt h0).mpr hl
      omega
  · cases e
theorem cr_maxD (hc : X.calm = true) : CallR X (.builtin "max") (rdL X.K maxC) := by
  intro pins s σ H xs us Q I r h
  obtain ⟨A, ds, hA, ra, d, e, q⟩ := h
  unfold maxC at e
  split at e
  · obtain ⟨v, rfl, rv⟩ := rp1 ra
    obtain ⟨ns, e1, e2⟩ := Option.bind_eq_some_iff.mp e
    obtain ⟨m, e3, rfl⟩ := Option.map_eq_some_iff.mp e2
    have el := intsOf_some e1
    subst el
    cases rv with
    | list h1 h2 h3 =>
      have ex := h3.ints
      subst ex
      obtain ⟨m1, m2⟩ := List.max?_eq_some_iff.mp e3
      refine cr_max hc pins s σ H _ us Q I r ⟨_, ns, rfl, SqL.of (hid_sub _ _ h1), ?_, fun m' k1 k2 => ?_⟩
      · cases ns with
        | nil => cases m1
        | cons _ _ => exact Nat.succ_pos _
      · have : m' = m := Int.le_antisymm (m2 m' k1) (k2 m m1)
        rw [this]
        exact q _ H (Same.refl H) (.int _)
  · cases e
    obtain ⟨v, u, rfl, rv, ru⟩ := rp2 ra
    cases rv
    cases ru
    exact call_max2 hc pins s σ H _ us Q I r ⟨_, _, rfl, q _ H (Same.refl H) (.int _)⟩
  · cases e
theorem cr_minD (hc : X.calm = true) : CallR X (.builtin "min") (rdL X.K minC) := by
  intro pins s σ H xs us Q I r h
  obtain ⟨A, ds, hA, ra, d, e, q⟩ := h
  unfold minC at e
  split at e
  · obtain ⟨v, rfl, rv⟩ := rp1 ra
    obtain ⟨ns, e1, e2⟩ := Option.bind_eq_some_iff.mp e
    obtain ⟨m, e3, rfl⟩ := Option.map_eq_some_iff.mp e2
    have el := intsOf_some e1
    subst el
    cases rv with
    | list h1 h2 h3 =>
      have ex := h3.ints
      subst ex
      obtain ⟨m1, m2⟩ := List.min?_eq_some_iff.mp e3
      refine cr_min hc pins s σ H _ us Q I r ⟨_, ns, rfl, SqL.of (hid_sub _ _ h1), ?_, fun m' k1 k2 => ?_⟩
      · cases ns with
        | nil => cases m1
        | cons _ _ => exact Nat.succ_pos _
      · have : m' = m := Int.le_antisymm (k2 m m1) (m2 m' k1)
        rw [this]
        exact q _ H (Same.refl H) (.int _)
  · cases e
    obtain ⟨v, u, rfl, rv, ru⟩ := rp2 ra
    cases rv
    cases ru
    exact call_min2 hc pins s σ H _ us Q I r ⟨_, _, rfl, q _ H (Same.refl H) (.int _)⟩
  · cases e
theorem cr_sumD (hc : X.calm = true) : CallR X (.builtin "sum") (rdL X.K sumC) := by
  intro pins s σ H xs us Q I r h
  obtain ⟨A, ds, hA, ra, d, e, q⟩ := h
  unfold sumC at e
  split at e
  · obtain ⟨v, rfl, rv⟩ := rp1 ra
    obtain ⟨ns, e1, rfl⟩ := Option.map_eq_some_iff.mp e
    have el := intsOf_some e1
    subst el
    cases rv with
    | list h1 h2 h3 =>
      have ex := h3.ints
      subst ex
      exact cr_sum hc pins s σ H _ us Q I r ⟨_, ns, rfl, SqL.of (hid_sub _ _ h1), q _ H (Same.refl H) (.int _)⟩
  · cases e
theorem cr_allD (hc : X.calm = true) : CallR X (.builtin "all") (rdL X.K allC) := by
  intro pins s σ H xs us Q I r h
  obtain ⟨A, ds, hA, ra, d, e, q⟩ := h
  unfold allC at e
  split at e
  · obtain ⟨v, rfl, rv⟩ := rp1 ra
    obtain ⟨ns, e1, rfl⟩ := Option.map_eq_some_iff.mp e
    have el := boolsOf_some e1
    subst el
    cases rv with
    | list h1 h2 h3 =>
      have ex := h3.bools
      subst ex
      exact cr_all hc pins s σ H _ us Q I r ⟨_, ns, rfl, SqL.of (hid_sub _ _ h1), q _ H (Same.refl H) (.bool _)⟩
  · cases e
theorem cr_anyD (hc : X.calm = true) : CallR X (.builtin "any") (rdL X.K anyC) := by
  intro pins s σ H xs us Q I r h
  obtain ⟨A, ds, hA, ra, d, e, q⟩ := h
  unfold anyC at e
  split at e
  · obtain ⟨v, rfl, rv⟩ := rp1 ra
    obtain ⟨ns, e1, rfl⟩ := Option.map_eq_some_iff.mp e
    have el := boolsOf_some e1
    subst el
    cases rv with
    | list h1 h2 h3 =>
      have ex := h3.bools
      subst ex
      exact cr_any hc pins s σ H _ us Q I r ⟨_, ns, rfl, SqL.of (hid_sub _ _ h1), q _ H (Same.refl H) (.bool _)⟩
  · cases e
theorem cr_sortD (hc : X.calm = true) : CallR X (.builtin "sorted") (rdL X.K sortC) := by
  intro pins s σ H xs us Q I r h
  obtain ⟨A, ds, hA, ra, d, e, q⟩ := h
  unfold sortC at e
  split at e
  · obtain ⟨v, rfl, rv⟩ := rp1 ra
    obtain ⟨ns, e1, rfl⟩ := Option.map_eq_some_iff.mp e
    have el := intsOf_some e1
    subst el
    cases rv with
    | list h1 h2 h3 =>
      have ex := h3.ints
      subst ex
      refine cr_sortedI pins s σ H _ us Q I r ⟨_, ns, rfl, SqL.of (hid_sub _ _ h1), fun ns' p k1 k2 hp => ?_⟩
      have := sortI_unique k1 k2
      subst this
      obtain ⟨s1, r1⟩ := new_list (K := X.K) hA hp (by rw [List.length_map, k1.length_eq, ← List.length_map (as := ns) (f := V.int)]; exact h2) (RpA.of_ints (sortI ns))
      exact q _ _ s1 r1
  · obtain ⟨v, rfl, rv⟩ := rp1 ra
    obtain ⟨ns, e1, e2⟩ := Option.bind_eq_some_iff.mp e
    obtain ⟨hl, rfl⟩ := if_some e2
    cases rv with
    | dk h1 h2 =>
      refine call_sortedDI hc pins s σ H _ us Q I r ⟨_, _, ns, rfl, .inl (hid_sub _ _ h1), keysI_some e1, hl, fun ns' p k1 k2 hp => ?_⟩
      have := sortI_unique k1 k2
      subst this
      obtain ⟨s1, r1⟩ := new_list (K := X.K) hA hp (by rw [List.length_map, k1.length_eq]; exact cap_ok (by omega)) (RpA.of_ints (sortI ns))
      exact q _ _ s1 r1
  · cases e
theorem kV_R {K : PySem.W.Frag} {H : Hp} (k : Key) : Rp K H (kV k) (keyD k) := by
  cases k with
  | inl i => exact .int i
  | inr s => exact .str s
theorem kVs_R {K : PySem.W.Frag} {H : Hp} : ∀ ks : List Key, RpA K H (ks.map kV) (ks.map keyD)
  | [] => .nil
  | k :: ks => .cons (kV_R k) (kVs_R ks)
theorem keys_R {K : PySem.W.Frag} {H : Hp} : ∀ kvs : List (Key × V), RpA K H (kvs.map fun kv => kV kv.1) (kvs.map fun p => keyD p.1)
  | [] => .nil
  | p :: kvs => .cons (kV_R p.1) (keys_R kvs)
theorem isKeys_R {K : PySem.W.Frag} {A : List Addr} {H : Hp} (hA : ∀ b ∈ A, ∀ xs, H b ≠ some (.tup xs)) : ∀ {kvs : List (List Key × V)} {bs : List Addr}, IsKeys H kvs bs → (∀ p ∈ kvs, p.1.length ≤ sizeLine) → RpA K (hid A H) (bs.map V.ref) (kvs.map fun p => .tuple (p.1.map keyD))
  | [], _, .nil, _ => .nil
  | p :: kvs, b :: bs, .cons h t, hz => .cons (.tuple (hid_of (fun z => hA b z _ h) h) (by rw [List.length_map]; exact hz p List.mem_cons_self) (kVs_R p.1)) (isKeys_R hA t fun q hq => hz q (List.mem_cons_of_mem _ hq))
theorem cr_listD (hc : X.calm = true) : CallR X (.type "list") (rdL X.K listC) := by
  intro pins s σ H xs us Q I r h
  obtain ⟨A, ds, hA, ra, d, e, q⟩ := h
  unfold listC at e
  split at e
  · cases e
    obtain ⟨v, rfl, rv⟩ := rp1 ra
    cases rv with
    | list h1 h2 h3 =>
      refine call_list_of pins s σ H _ us Q I r ⟨_, _, rfl, .inl (SqL.of (hid_sub _ _ h1)), fun p hp => ?_⟩
      obtain ⟨s1, r1⟩ := new_list (K := X.K) hA hp h2 h3
      exact q _ _ s1 r1
  · cases e
    obtain ⟨v, rfl, rv⟩ := rp1 ra
    cases rv with
    | tuple h1 h2 h3 =>
      refine call_list_of pins s σ H _ us Q I r ⟨_, _, rfl, .inr (SqT.of (hid_sub _ _ h1)), fun p hp => ?_⟩
      obtain ⟨s1, r1⟩ := new_list (K := X.K) hA hp h2 h3
      exact q _ _ s1 r1
  · obtain ⟨hl, rfl⟩ := if_some e
    obtain ⟨v, rfl, rv⟩ := rp1 ra
    cases rv with
    | dk h1 h2 =>
      refine call_list_dK hc pins s σ H _ us Q I r ⟨_, _, rfl, hid_sub _ _ h1, fun p hp => ?_⟩
      obtain ⟨s1, r1⟩ := new_list (K := X.K) hA hp (by rw [List.length_map]; exact cap_ok hl) (keys_R _)
      exact q _ _ s1 r1
  · cases e
theorem cr_tupD : CallR X (.type "tuple") (rdL X.K tupC) := by
  intro pins s σ H xs us Q I r h
  obtain ⟨A, ds, hA, ra, d, e, q⟩ := h
  unfold tupC at e
  split at e
  · cases e
    obtain ⟨v, rfl, rv⟩ := rp1 ra
    cases rv with
    | list h1 h2 h3 =>
      refine call_tuple_of pins s σ H _ us Q I r ⟨_, _, rfl, .inl ⟨SqL.of (hid_sub _ _ h1), fun p hp => ?_⟩⟩
      obtain ⟨s1, r1⟩ := new_tup (K := X.K) hA hp h2 h3
      exact q _ _ s1 r1
  · cases e
    obtain ⟨v, rfl, rv⟩ := rp1 ra
    cases rv with
    | tuple h1 h2 h3 => exact call_tuple_of pins s σ H _ us Q I r ⟨_, _, rfl, .inr ⟨SqT.of (hid_sub _ _ h1), q _ H (Same.refl H) (.tuple h1 h2 h3)⟩⟩
  · cases e

/-! ### isinstance -/
def tyD : D → String
  | .none => "NoneType"
  | .bool _ => "bool"
  | .int _ => "int"
  | .str _ => "str"
  | .list _ => "list"
  | .tuple _ => "tuple"
  | .dk _ => "dict"
  | .dt _ => "dict"
  | .scr _ => "list"
  | .ktup _ => "tuple"
  | .ftup _ => "tuple"
  | .fdt _ => "dict"
/-- the type of a value, known dicts as well -/
def TyY (K : PySem.W.Frag) (H : Hp) (x : V) (t : Value) : Prop := TyX K H x t ∨ ∃ a o kvs, x = .ref a ∧ t = .type "dict" ∧ H a = some (.frz o (.dT kvs))
theorem kit_ofY {pins : List (Addr × Obj)} {σ : L2.St} {H : Hp} {s : Shared} {x : V} {u t : Value} (I : Inv X pins σ H s) (rx : RelV x u) (ty : TyY X.K H x t) : ∃ P : Heap → Prop, PySem.W.KitX X.K u t P ∧ P s.heap ∧ u ≠ .builtin "__main__.__loader__#opaque" := by
  rcases ty with ty | ⟨a, o, kvs, rfl, rfl, h⟩
  · exact kit_of I rx ty
  · cases (show u = Value.ref a from rx)
    obtain ⟨_, _, _, xs, _, o2, es, ep, h1, h2, _⟩ := (show ObjOk X.prog X.w H s.heap a (.frz o (.dT kvs)) from I.hok a _ h)
    exact ⟨_, PySem.W.kitx_dict, ⟨o2, h1, h2.1⟩, fun z => nomatch z⟩
theorem call_isiY : CallR X (.builtin "isinstance") (fun xs H Q => ∃ (x c : V) (t u : Value) (b : Bool), xs = [x, c] ∧ ClsV c u ∧ TyY X.K H x t ∧ PySem.W.kitOne X.K t u = some b ∧ Q (.bl b) H) := by
  intro pins s σ H xs us Q I r h
  obtain ⟨x, c, t, u, b, rfl, k, ty, e, q⟩ := h
  obtain ⟨u1, u2, rfl, r1, r2⟩ := vals2 r
  cases k.eq r2
  obtain ⟨P, Z, p, hx⟩ := kit_ofY I r1 ty
  exact PySem.W.kia_one Z I.kIn p e hx fun tk => ⟨.bl b, H, I.tok tk, rfl, q⟩
theorem Rp.ty {K : PySem.W.Frag} {A : List Addr} {H : Hp} {v : V} {d : D} (r : Rp K (hid A H) v d) : TyY K H v (.type (tyD d)) := by
  cases r with
  | none => exact .inl (.base .non)
  | bool b => exact .inl (.base (.bl b))
  | int i => exact .inl (.base (.int i))
  | str s => exact .inl (.base (.str s))
  | list h1 _ _ => exact .inl (.base (.lst (hid_sub _ _ h1)))
  | tuple h1 _ _ => exact .inl (.base (.tup (hid_sub _ _ h1)))
  | dk h1 _ => exact .inl (.base (.dK (hid_sub _ _ h1)))
  | dt h1 _ => exact .inl (.base (.dT (hid_sub _ _ h1)))
  | ftup h1 _ _ _ => exact .inl (.fTuple (hid_sub _ _ h1))
  | fdt h1 _ => exact .inr ⟨_, _, _, rfl, rfl, hid_sub _ _ h1⟩
  | scr h1 _ =>
    rcases h1 with (h | ⟨o, h⟩) | ⟨o, its, n, h, c, _⟩
    · exact .inl (.base (.lst (hid_sub _ _ h)))
    · exact .inl (.base (.frz (hid_sub _ _ h)))
    · exact .inl (.kList h c)
  | ktup h1 _ =>
    obtain ⟨o, its, n, h, c, _⟩ := h1
    exact .inl (.kTuple h c)
/-- the answers for the types that stand in the texts -/
def isiD (T : String) (d : D) : Option Bool := kitB (tyD d) T
variable {c : Pc} {m : Bool} {e : Expr} {f : DE} {p p2 pos : Pos}
def dIsI (T : String) (f : DE) : DE := fun ρ => (f ρ).bind fun d => Out.of ((isiD T d).map .bool)
theorem pd_isi (T : String) {x y : Str} (hm : X.mg "isinstance" = none) (hm2 : X.mg y = none) (hv2 : bootBuiltins y = some (.type T)) (h : PD X c false e f) (hx : x = "isinstance" := by rfl) (hg : Gl X x := by rfl) (hg2 : Gl X y := by rfl) (hn2 : y ≠ "__name__" := by decide) (hd2 : (y == ("__debug__" : Str)) = false := by decide)
    (he : starEach [e, .Name y p2] X.env = (false, eval e X.env) :: starEach [.Name y p2] X.env := by rfl) (he2 : starEach [.Name y p2] X.env = (false, eval (.Name y p2) X.env) :: starEach [] X.env := by rfl) (hpl : (backTo pos (starEach [.Name y p2] X.env)).any (·.1) = false := by rfl) : PD X c m (.Call (.Name x p) [e, .Name y p2] [] pos) (dIsI T f) := by
  subst hx
  have hb : PE X (.Name y p2) (tC (.ty T)) := pe_bltn hg2 hm2 hv2 rfl hn2 hd2
  exact PE.imp (pe_callB call_isiY hg hm (by decide +kernel) (pa_cons h (pa_cons hb pa_nil he2) he) (by decide) (by decide) he hpl) fun σ H Q ⟨F, ρ, E, w⟩ => ⟨F, ρ, E, (Out.wp_bind w).imp (fun d k v H1 s r => by
    obtain ⟨d', e', q⟩ := of_wp k
    obtain ⟨b, e1, rfl⟩ := Option.map_eq_some_iff.mp e'
    exact ⟨v, .ty T, _, _, b, rfl, .ty T, r.ty, kit_ty e1, q _ H1 s (.bool b)⟩) fun _ z => z⟩
end
end Pd

/-! Pd7: t[::-1], dicts. -/
namespace Pd
open PySem L2 PyProof.Rows HT
/-! ### t[::-1] of a tuple -/
section
variable {prog : Program} {w : World} {A : Around} {E : Value → Shared → Prop} {s : Shared}
theorem sliceApplied_back {sl : Addr} {t : Tok} {n : Nat} {Q : Int × Int × Nat → Shared → Prop} (hs : s.heap.IsSliceOf sl .none .none (.int (-1) t)) (h : Q ((n : Int) - 1, -1, n) s) : wpAny (model prog w) A (Builtin.Slice.sliceApplied (.ref sl) (pure (n : Int))) Q E s := by
  obtain ⟨os, hos, hcs, hds⟩ := id hs
  unfold Builtin.Slice.sliceApplied Builtin.Slice.sliceFields
  refine wpAny_bind (wpAny_bind (wpAny_field hos hds (x := .none) rfl (wpAny_bind (wpAny_field hos hds (x := .none) rfl (wpAny_bind (wpAny_field hos hds (x := .int (-1) t) rfl (wpAny_pure ?_)))))))
  refine wpAny_bind (slicePart_int ?_)
  show wpAny _ _ (if ((-1 : Int) == 0) = true then _ else _) _ _ s
  rw [if_neg (by decide)]
  refine wpAny_bind (slicePart_none (wpAny_bind (slicePart_none (wpAny_bind (wpAny_pure ?_)))))
  show wpAny _ _ (pure ((n : Int) - 1, (-1 : Int), Builtin.Slice.slicePlaces ((n : Int) - 1) (-1) (-1))) _ _ s
  have e : Builtin.Slice.slicePlaces ((n : Int) - 1) (-1) (-1) = n := by
    unfold Builtin.Slice.slicePlaces
    rw [if_neg (by omega)]
    by_cases hn : n = 0
    · subst hn
      decide
    · rw [if_pos (by omega), show (- -1 : Int) = 1 by decide, Int.ediv_one]
      omega
  rw [e]
  exact wpAny_pure h
theorem pick_back (xs : Array Value) : ((List.range xs.size).filterMap fun (m : Nat) => xs[(((xs.size : Int) - 1) + (m : Int) * (-1)).toNat]?).toArray = xs.toList.reverse.toArray := by
  have e : (List.range xs.size).filterMap (fun (m : Nat) => xs[(((xs.size : Int) - 1) + (m : Int) * (-1)).toNat]?) = ((List.range xs.size).map fun k => xs.size - 1 - k).filterMap (xs[·]?) := by
    rw [List.filterMap_map]
    refine filterMap_eq fun m hm => ?_
    have hm' := List.mem_range.mp hm
    have : (((xs.size : Int) - 1) + (m : Int) * (-1)).toNat = xs.size - 1 - m := by omega
    rw [this]
    rfl
  rw [e, PySem.W.krv_range, List.filterMap_reverse, PySem.W.krv_all]
theorem getItem_tuple_back {t sl : Addr} {items : Array Value} {tk : Tok} {Q : Value → Shared → Prop} (ht : IsTup s.heap t items) (hs : s.heap.IsSliceOf sl .none .none (.int (-1) tk))
    (h : Q (.ref s.heap.objs.size) { s with heap := s.heap.push { cls := .type "tuple", data := .seq items.toList.reverse.toArray } }) (hsz : items.size ≤ sizeLine) : wpAny (model prog w) A (getItem (.ref t) (.ref sl)) Q E s := by
  have htake : sizeOk (.seq items.toList.reverse.toArray) := by
    show items.toList.reverse.toArray.size ≤ sizeLine
    rw [List.size_toArray, List.length_reverse, Array.length_toList]
    exact hsz
  obtain ⟨os, hos, hcs, hds⟩ := id hs
  have hTs : s.TypeIs (.ref sl) "slice" := ⟨os, hos, hcs⟩
  unfold getItem
  try with_reducible refine wpAny_holding ?_
  first | refine wpAny_bind (wpAny_pure ?_) | skip
  refine wpAny_bind (wpAny_sequenceKey ht.typeIs (by decide) ?_)
  refine wpAny_bind (wpAny_callSpecial?_slot (name := Str.ofString "__getitem__") ht.typeIs PyProof.Rows.slot_tuple_getitem
    (wpAny_call_entry PyProof.Rows.slot_tuple_getitem ht.typeIs entry_tuple_getitem ?_ (args_tuple_getitem _ _)))
  show wpAny _ _ (Builtin.Tuple.tupleItemsOf (.ref t) >>= _) _ _ s
  refine wpAny_bind (tupleItemsOf_ ht ?_)
  refine wpAny_bind (wpAny_typeOf hTs ?_)
  rw [if_pos (by decide)]
  refine wpAny_bind (sliceApplied_back hs ?_)
  have hno : ¬ ((((items.size : Int) - 1) == 0 && (-1 : Int) == 1 && items.size == items.size) = true) := by
    intro q
    rw [Bool.and_eq_true, Bool.and_eq_true] at q
    exact absurd q.1.2 (by decide)
  show wpAny _ _ (if (((items.size : Int) - 1) == 0 && (-1 : Int) == 1 && items.size == items.size) = true then _ else _) _ _ s
  rw [if_neg hno, pick_back]
  first
    | exact wpAny_bind (m := Builtin.Tuple.tupleExact _) (wpAny_newObj_type (wpAny_pure ⟨_, rfl, wpAny_pure h⟩) htake)
    | exact wpAny_bind (m := Builtin.Tuple.tupleExact _) (wpAny_newObj_type (wpAny_bind (wpAny_pure (wpAny_pure ⟨_, rfl, wpAny_pure h⟩))) htake)
    | exact wpAny_bind (wpAny_bind (m := Builtin.Tuple.tupleExact _) (wpAny_newObj_type (wpAny_pure (wpAny_pure ⟨_, rfl, wpAny_pure h⟩)) htake))
    | exact wpAny_bind (wpAny_bind (m := Builtin.Tuple.tupleExact _) (wpAny_newObj_type (wpAny_pure ⟨_, rfl, wpAny_pure h⟩) htake))
end
section
variable {X : Cx} {c : Pc} {m : Bool}
def tRevT (K : PySem.W.Frag) (te : TE) : TE := fun σ H Q => te σ H fun x H1 => ∃ a xs, x = .ref a ∧ SqT K H1 a xs ∧ ∀ p, H1 p = none → Q (.ref p) (upd H1 p (.tup xs.reverse))
theorem pe_revT {e : Expr} {te : TE} {k : Nat} {p1 p2 p3 pos : Pos} (he : PE X e te) : PE X (.Subscript e (.Slice none none (some (.UnaryOp .USub (.Constant (.int 1) k p1) p2)) p3) pos) (tRevT X.K te) := by
  refine ⟨fun pins s σ H Q I h => ?_⟩
  refine Subscript_ (thn (he.run pins s σ H _ I h) fun v s1 ⟨x, H1, I1, r1, q1⟩ => ?_)
  obtain ⟨a, xs, ex, hx, q⟩ := q1
  subst ex
  cases r1
  have hst : PO X (some (.UnaryOp .USub (.Constant (.int 1) k p1) p2)) (tPart (tUn (rU fun i => .int (-i)) (tC (.int 1)))) := po_some (pe_un un_neg pe_int)
  refine wpAny_Slice (thn (po_none.run pins s1 σ H1 (fun o H2 => o = none ∧ H2 = H1) I1 ⟨rfl, rfl⟩) fun vl s2 ⟨l, H2, I2, pl, el, e2⟩ => ?_)
  subst el e2
  refine thn (po_none.run pins s2 σ H2 (fun o H3 => o = none ∧ H3 = H2) I2 ⟨rfl, rfl⟩) fun vu s3 ⟨u, H3, I3, pu, eu, e3⟩ => ?_
  subst eu e3
  refine thn (hst.run pins s3 σ H3 (fun o H4 => o = some (-1) ∧ H4 = H3) I3 ⟨1, rfl, -1, rfl, rfl, rfl⟩) fun vs s4 ⟨o, H4, I4, ps, eo, e4⟩ => ?_
  subst eo e4
  cases pl
  cases pu
  cases ps with
  | int _ tk =>
  have I5 : Inv X pins σ H4 { s4 with heap := s4.heap.push { cls := .type "slice", data := .fields #[.none, .none, .int (-1) tk] } } := I4.kept (t' := s4.toks) fun b ob q => Heap.get?_push_of_some _ q
  obtain ⟨its, r, ht, hz⟩ := I5.tuple hx
  have hlen := r.length
  show wpAny (model X.prog X.w) X.A (subscriptTail e (.Slice none none (some (.UnaryOp .USub (.Constant (.int 1) k p1) p2)) p3) (.ref a) (.ref s4.heap.objs.size)) (EP X pins σ Q) X.xe { s4 with heap := s4.heap.push { cls := .type "slice", data := .fields #[.none, .none, .int (-1) tk] } }
  refine tail_any (ops := [.ref a, .ref s4.heap.objs.size]) ht.typeIs (PyProof.Rows.slot_tuple_getitem.lookup) ?_ (by with_unfolding_all rfl)
  refine getItem_tuple_back ht (Heap.IsSliceOf.new _ _ _ _) ?_ (by rw [List.size_toArray]; omega)
  refine ⟨.ref _, _, I5.laid (t' := s4.toks) (o := .tup xs.reverse) (fun b ob q => Heap.get?_push_of_some _ q) (Nat.le_refl _) ?_, rfl, q _ (I5.hok.fresh (Nat.le_refl _))⟩
  exact ⟨by rw [List.length_reverse]; exact hz, _, r.reverse, ⟨_, Heap.get?_push_size _ rfl, rfl, _, rfl⟩⟩
def revD : D → Option D
  | .tuple l => some (.tuple l.reverse)
  | .list l => some (.list l.reverse)
  | _ => none
/-- t[::-1], t a tuple or a list -/
theorem pd_rev {e : Expr} {f : DE} {k : Nat} {p1 p2 p3 pos : Pos} (h : PD X c m e f) : PD X c m (.Subscript e (.Slice none none (some (.UnaryOp .USub (.Constant (.int 1) k p1) p2)) p3) pos) (dUn revD f) := by
  refine ⟨fun pins s σ H Q I hw => ?_⟩
  obtain ⟨F, ρ, E, w⟩ := hw
  unfold dUn at w
  by_cases hk : ∃ l, f ρ = .ok (.list l)
  · obtain ⟨l, hk⟩ := hk
    refine (pe_revL h).run pins s σ H Q I ⟨F, ρ, E, ?_⟩
    rw [hk] at w ⊢
    intro v H1 s1 r
    cases r with
    | list h1 h2 h3 =>
      refine ⟨_, _, rfl, SqL.of (hid_sub _ _ h1), fun p hp => ?_⟩
      obtain ⟨s2, r2⟩ := new_list (K := X.K) ((E.up s1).hdom m) hp (by rw [List.length_reverse]; exact h2) h3.rev
      exact w _ _ (s1.trans s2) r2
  · refine (pe_revT h).run pins s σ H Q I ⟨F, ρ, E, ?_⟩
    cases hf : f ρ with
    | bad => rw [hf] at w; exact w
    | err x => rw [hf] at w; exact w
    | ok d =>
      rw [hf] at w
      intro v H1 s1 r
      obtain ⟨d', e', q⟩ := of_wp (show (Out.of (revD d)).wp _ _ from w)
      cases r with
      | @tuple a xs l h1 h2 h3 =>
        cases e'
        refine ⟨a, xs, rfl, SqT.of (hid_sub _ _ h1), fun p hp => ?_⟩
        obtain ⟨s2, r2⟩ := new_tup (K := X.K) ((E.up s1).hdom m) hp (by rw [List.length_reverse]; exact h2) h3.rev
        exact q _ _ (s1.trans s2) r2
      | list h1 h2 h3 => exact absurd hf fun z => hk ⟨_, z⟩
      | _ => cases e'

/-! ### dicts -/
def dNew (k : Kd) : DE := fun _ => .ok (match k with | .t => .dt [] | _ => .dk [])
theorem pf_dictK {pos : Pos} : PF X c .k (.Dict [] [] pos) (dNew .k) := PE.imp pe_dnewK fun σ H Q ⟨F, ρ, E, w⟩ p hp => w p _ (same_upd hp) hp ⟨[], rfl, upd_same, rfl⟩
theorem pf_dictT {pos : Pos} : PF X c .t (.Dict [] [] pos) (dNew .t) := PE.imp pe_dnewT fun σ H Q ⟨F, ρ, E, w⟩ p hp => w p _ (same_upd hp) hp (.inl ⟨[], rfl, upd_same, rfl⟩)
def atK (ρ : Env) (i : Nat) (k : List (Key × V) → SO) : SO := match ρ[i]? with
  | some (some (.dk l)) => k l
  | _ => .bad
def atT (ρ : Env) (i : Nat) (k : List (List Key × V) → SO) : SO := match ρ[i]? with
  | some (some (.dt l)) => k l
  | _ => .bad
theorem atK_wp {i : Nat} {ρ : Env} {k : List (Key × V) → SO} {P B C : Env → Prop} {R : D → Env → Prop} {E : Nat → Env → Prop} (h : (atK ρ i k).wp P B C R E) : ∃ l, ρ[i]? = some (some (.dk l)) ∧ (k l).wp P B C R E := by
  unfold atK at h
  split at h
  · rename_i l e
    exact ⟨l, e, h⟩
  · exact h.elim
theorem atT_wp {i : Nat} {ρ : Env} {k : List (List Key × V) → SO} {P B C : Env → Prop} {R : D → Env → Prop} {E : Nat → Env → Prop} (h : (atT ρ i k).wp P B C R E) : ∃ l, ρ[i]? = some (some (.dt l)) ∧ (k l).wp P B C R E := by
  unfold atT at h
  split at h
  · rename_i l e
    exact ⟨l, e, h⟩
  · exact h.elim
/-- d[k] = v, d a dict of the def's -/
def dPutK (i : Nat) (fv fk : DE) : DS := fun ρ => atK ρ i fun l => lift (fv ρ) ρ fun d => lift (fk ρ) ρ fun z => match d.sc, dkey z with
  | some v, some k => if l.length ≤ 100000 then .nx (ρ.set i (some (.dk (putK l k v)))) else .bad
  | _, _ => .bad
def dPutT (i : Nat) (fv fk : DE) : DS := fun ρ => atT ρ i fun l => lift (fv ρ) ρ fun d => lift (fk ρ) ρ fun z => match d.sc, z with
  | some v, .tuple ks => (match dkeys ks with
    | some k => if l.length ≤ 100000 then .nx (ρ.set i (some (.dt (putK l k v)))) else .bad
    | none => .bad)
  | _, _ => .bad
theorem all_putK {κ : Type} [DecidableEq κ] {l : List (κ × V)} {k : κ} {v : V} (h : (l.all fun p => scV p.2) = true) (hv : scV v = true) : ((putK l k v).all fun p => scV p.2) = true := by
  unfold putK
  split
  · refine List.all_eq_true.mpr fun p hp => ?_
    obtain ⟨q, hq, rfl⟩ := List.mem_map.mp hp
    split
    · exact hv
    · exact List.all_eq_true.mp h q hq
  · rw [List.all_append, h]
    simp [hv]
theorem ps_putK (i : Nat) {kk : Nat} (hr : Room kk X.A) {x : Str} {e o : Expr} {f g : DE} {p1 p2 pos : Pos} (h : PD X c true e f) (hg : PD X c true o g) (ho : isOw c.O i .k = true := by rfl) (hu : onlyK c.O i .k = true := by rfl)
    (hs : swapsWith e (some (.Subscript (.Name x p1) o p2)) pos.line X.env = pure false := by rfl) (pe : PE X (.Name x p1) (tVar i) := by exact pv _) : PSD X c (.Assign [.Subscript (.Name x p1) o p2] e pos) (dPutK i f g) :=
  have hur := hr.units
  PS.imp (ps_dput (by omega) pe hg h hs) fun Dn σ H ⟨F, ρ, E, w⟩ => by
    have hi := isOw_of ho
    obtain ⟨l, e1, w1⟩ := atK_wp w
    rcases E.cel i .k hi with ⟨d, a, q1, q2, q3, q4⟩ | ⟨q, _⟩
    · rw [e1] at q1
      cases q1
      obtain ⟨kvs, z, h3, h4⟩ := q4
      cases z
      refine ex_wp E w1 fun d v H' s E' r w2 => ⟨_, q2, ex_wp E' w2 fun dz vz H2 s2 E2 r2 w3 => ?_⟩
      have s12 := s.trans s2
      cases hd : d.sc with
      | none => rw [hd] at w3; exact w3.elim
      | some v0 =>
        cases hk : dkey dz with
        | none => rw [hd, hk] at w3; exact w3.elim
        | some k =>
          rw [hd, hk] at w3
          obtain ⟨hl, w4⟩ := ifS_wp w3
          have ev := r.sc hd
          subst ev
          have ek := dkey_V r2 hk
          subst ek
          refine ⟨a, _, rfl, DPut.k (s12 _ _ h3) (Nat.lt_of_le_of_lt hl (by decide)), w4 σ _ (E2.cell hi hu q2 ⟨_, rfl, upd_same, all_putK h4 (scV_of_sc hd)⟩) (stp_cell hi q2 ⟨_, s12 _ _ h3, rfl⟩)⟩
    · rw [e1] at q
      cases q
theorem ps_putT (i : Nat) {kk : Nat} (hr : Room kk X.A) {x : Str} {e o : Expr} {f g : DE} {p1 p2 pos : Pos} (h : PD X c true e f) (hg : PD X c true o g) (ho : isOw c.O i .t = true := by rfl) (hu : onlyK c.O i .t = true := by rfl)
    (hs : swapsWith e (some (.Subscript (.Name x p1) o p2)) pos.line X.env = pure false := by rfl) (pe : PE X (.Name x p1) (tVar i) := by exact pv _) : PSD X c (.Assign [.Subscript (.Name x p1) o p2] e pos) (dPutT i f g) :=
  have hur := hr.units
  PS.imp (ps_dput (by omega) pe hg h hs) fun Dn σ H ⟨F, ρ, E, w⟩ => by
    have hi := isOw_of ho
    obtain ⟨l, e1, w1⟩ := atT_wp w
    rcases E.cel i .t hi with ⟨d, a, q1, q2, q3, q4⟩ | ⟨q, _⟩
    · rw [e1] at q1
      cases q1
      rcases q4 with ⟨kvs, z, h3, h4⟩ | ⟨_, _, z, _⟩
      rotate_left
      · cases z
      cases z
      refine ex_wp E w1 fun d v H' s E' r w2 => ⟨_, q2, ex_wp E' w2 fun dz vz H2 s2 E2 r2 w3 => ?_⟩
      have s12 := s.trans s2
      cases hd : d.sc with
      | none => rw [hd] at w3; exact w3.elim
      | some v0 =>
        rw [hd] at w3
        cases r2 <;> try (exact w3.elim)
        rename_i b xs ks g1 g2 g3
        replace w3 := w3
        cases hk : dkeys ks with
        | none => simp only [hk] at w3; exact w3.elim
        | some k =>
          simp only [hk] at w3
          obtain ⟨hl, w4⟩ := ifS_wp w3
          have ev := r.sc hd
          subst ev
          have ek := dkeys_V g3 hk
          subst ek
          refine ⟨a, _, rfl, DPut.t (s12 _ _ h3) (hid_sub _ _ g1) (Nat.lt_of_le_of_lt hl (by decide)), w4 σ _ (E2.cell hi hu q2 (.inl ⟨_, rfl, upd_same, all_putK h4 (scV_of_sc hd)⟩)) (stp_cell hi q2 ⟨_, s12 _ _ h3, rfl⟩)⟩
    · rw [e1] at q
      cases q
end
end Pd

/-! Pd8: new lists for owned slots; a slot's list given away; defs, once more with what loops want; the law's end. -/
namespace Pd
open PySem L2 PyProof.Rows
section
variable {X : Cx} {c : Pc} {m : Bool} {e a b : Expr} {f g : DE} {p pos : Pos}
/-- [..] * n -/
theorem pf_mul (ha : PD X c true a f) (hb : PD X c true b g) : PF X c .l (.BinOp a .Mult b pos) (fun ρ => (dOp mulD f g ρ).bind fun d => match d with | .list l => .ok (.list l) | _ => .bad) := by
  refine ⟨fun pins s σ H Q I hw => ?_⟩
  obtain ⟨F, ρ, E, w⟩ := hw
  refine (pe_op (r := fun x y H Q => rRep x y H Q ∨ False) (fun pins s σ H x y v u Q I rx ry h => op_rep pins s σ H x y v u Q I rx ry (h.elim id False.elim)) ha hb).run pins s σ H Q I ?_
  refine two (m := true) (P := fun _ _ _ _ _ => True) E ((Out.wp_bind (Out.wp_bind w)).imp (fun x k => (Out.wp_bind k).imp (fun y k2 v u H' s r1 r2 => .inl ?_) fun _ z => z) fun _ z => z)
  obtain ⟨d, e, q⟩ := of_wp k2
  cases d <;> try (exact q.elim)
  rename_i l
  cases r2 <;> try (cases r1 <;> cases e; done)
  rename_i j
  cases r1 <;> try (cases e; done)
  · exfalso
    obtain ⟨_, z⟩ := if_some e
    cases z
  · rename_i a' xs ds h1 h2 h3
    obtain ⟨⟨k1, k2, k3⟩, z⟩ := if_some e
    cases z
    have hz : xs.length * j.toNat ≤ sizeLine := by
      have hx : xs.length ≤ 1000 := by rw [h3.len]; exact k3
      exact Nat.le_trans (Nat.mul_le_mul hx (show j.toNat ≤ 1000 by omega)) (by decide)
    refine ⟨a', j, xs, rfl, rfl, hid_sub _ _ h1, by omega, by omega, hz, fun p hp => ?_⟩
    refine q p _ (s.trans (same_upd hp)) (Same.free s hp) ⟨_, _, rfl, upd_same, by rw [PyProof.Rows.lm_len_rep_flat, Nat.mul_comm]; exact hz, ?_⟩
    rw [hid_upd List.mem_cons_self]
    refine (h3.rep j.toNat).up (hid_le fun b hb => ?_)
    rcases List.mem_cons.mp hb with z | z
    · exact .inr (by rw [z]; exact hp)
    · exact .inl z
  · exfalso
    rename_i ds _ _ _
    have e' : (if 2 ≤ j ∧ j ≤ 1000 ∧ ds.length ≤ 1000 ∧ ds ≠ [] then some (D.tuple (List.replicate j.toNat ds).flatten) else if (j = 1 ∨ ds = []) ∧ -1000 ≤ j ∧ j ≤ 1000 then some (.tuple ds) else none) = some (.list l) := e
    split at e'
    · cases e'
    · split at e' <;> cases e'
/-- list(e), e a list or a tuple -/
def dListF (f : DE) : DE := fun ρ => (f ρ).bind fun d => match d with
  | .list l => .ok (.list l)
  | .tuple l => .ok (.list l)
  | _ => .bad
theorem pf_list (hm : X.mg "list" = none) (ha : PD X c true e f) {x : Str} (hx : x = "list" := by rfl) (hg : Gl X x := by rfl) (he : starEach [e] X.env = (false, eval e X.env) :: starEach [] X.env := by rfl) (hpl : (backTo pos (starEach [] X.env)).any (·.1) = false := by rfl) : PF X c .l (.Call (.Name x p) [e] [] pos) (dListF f) := by
  subst hx
  exact PE.imp (pe_callTy call_list_of hg hm (by decide +kernel) (pa_cons ha pa_nil he) (by decide) (by decide) he hpl) fun σ H Q ⟨F, ρ, E, w⟩ => ⟨F, ρ, E, (Out.wp_bind w).imp (fun d k v H1 s r => by
    have fin : ∀ {xs : List V} {l : List D}, xs.length ≤ sizeLine → RpA X.K (hid (Pd.hs true F c.O σ) H1) xs l → (∀ a H', Same H H' → H a = none → Cel X.K (hid (a :: (F.A ++ own c.O σ)) H') H' .l a (.list l) → Q (.ref a) H') → ∀ l', H1 l' = none → Q (.ref l') (upd H1 l' (.lst xs)) := fun {xs l} hz r q l' hp => by
      refine q l' _ (s.trans (same_upd hp)) (Same.free s hp) ⟨_, _, rfl, upd_same, hz, ?_⟩
      rw [hid_upd List.mem_cons_self]
      refine r.up (hid_le fun b hb => ?_)
      rcases List.mem_cons.mp hb with z | z
      · exact .inr (by rw [z]; exact hp)
      · exact .inl z
    cases r with
    | list h1 h2 h3 => exact ⟨_, _, rfl, .inl (SqL.of (hid_sub _ _ h1)), fin h2 h3 k⟩
    | tuple h1 h2 h3 => exact ⟨_, _, rfl, .inr (SqT.of (hid_sub _ _ h1)), fin h2 h3 k⟩
    | _ => exact k.elim) fun _ z => z⟩

/-! ### a list is given from an owned slot to a plain one -/
theorem PS.weakN {st : Stmt} {t : TS} (h : PS X st t) (j : Nat) : PS X st (fun Dn σ H => t { Dn with nx := fun σ' H' => Dn.nx (σ'.set j none) H' } σ H) := by
  refine ⟨fun pins s σ H Dn I q => thn (h.run pins s σ H _ I q) fun f s' z => ?_⟩
  cases f with
  | next =>
    obtain ⟨σ', H', I', q'⟩ := z
    refine ⟨σ'.set j none, H', I'.weak (List.length_set ..) (fun i v hv => ?_), q'⟩
    by_cases hij : j = i
    · subst hij
      by_cases hl : j < σ'.length
      · rw [List.getElem?_set_self hl] at hv; cases hv
      · rw [List.getElem?_eq_none (by rw [List.length_set]; omega)] at hv; cases hv
    · rw [List.getElem?_set_ne hij] at hv
      exact hv
  | brk => exact z
  | cont => exact z
  | ret u => exact z
theorem own_drop {O : Ow} {σ : L2.St} {j : Nat} : ∀ b ∈ own O (σ.set j none), b ∈ own O σ ∧ σ[j]? ≠ some (some (.ref b)) ∨ (b ∈ own O σ ∧ ∃ i k, i ≠ j ∧ (i, k) ∈ O ∧ σ[i]? = some (some (.ref b))) := fun b hb => by
  obtain ⟨i, k, h1, h2⟩ := mem_own.mp hb
  by_cases hij : j = i
  · subst hij
    by_cases hl : j < σ.length
    · rw [List.getElem?_set_self hl] at h2; cases h2
    · rw [List.getElem?_eq_none (by rw [List.length_set]; omega)] at h2; cases h2
  · rw [List.getElem?_set_ne hij] at h2
    exact .inr ⟨mem_own.mpr ⟨i, k, h1, h2⟩, i, k, fun z => hij z.symm, h1, h2⟩
theorem EnvR.drop {K : PySem.W.Frag} {O : Ow} {F : Fm} {ρ : Env} {σ : L2.St} {H : Hp} {j : Nat} {k : Kd} (E : EnvR K O F ρ σ H) (hj : (j, k) ∈ O) (hu : onlyK O j k = true) (hk : k ≠ .p) : EnvR K O F (ρ.set j none) (σ.set j none) H := by
  have hl : j < ρ.length := by
    rcases E.cel j k hj with ⟨_, _, q, _⟩ | ⟨q, _⟩
    · exact (List.getElem?_eq_some_iff.mp q).1
    · exact (List.getElem?_eq_some_iff.mp q).1
  have up : Same (hid (F.A ++ own O σ) H) (hid (F.A ++ own O (σ.set j none)) H) := hid_le fun b hb => .inl (by
    rcases List.mem_append.mp hb with z | z
    · exact List.mem_append_left _ z
    · rcases own_drop b z with q | q
      · exact List.mem_append_right _ q.1
      · exact List.mem_append_right _ q.1)
  refine ⟨by rw [List.length_set, List.length_set, E.len], fun i d h n => ?_, fun i k' h => ?_, fun i ki i' ki' b h h' e e' => ?_, E.adom, fun q hq => ?_, E.fxO⟩
  · have hij : j ≠ i := fun z => n k (by rw [← z]; exact hj)
    rw [List.getElem?_set_ne hij] at h ⊢
    obtain ⟨v, h1, h2⟩ := E.val i d h n
    exact ⟨v, h1, h2.up up⟩
  · by_cases hij : j = i
    · subst hij
      exact .inr ⟨List.getElem?_set_self hl, List.getElem?_set_self (by rw [← E.len]; exact hl)⟩
    · rw [List.getElem?_set_ne hij, List.getElem?_set_ne hij]
      rcases E.cel i k' h with ⟨d, b, q1, q2, q3, q4⟩ | q
      · exact .inl ⟨d, b, q1, q2, q3, q4.up up rfl⟩
      · exact .inr q
  · have ne : ∀ {x : Nat} {z : Addr}, (σ.set j none)[x]? = some (some (.ref z)) → σ[x]? = some (some (.ref z)) := fun {x z} h => by
      by_cases hx : j = x
      · subst hx
        by_cases hl' : j < σ.length
        · rw [List.getElem?_set_self hl'] at h; cases h
        · rw [List.getElem?_eq_none (by rw [List.length_set]; omega)] at h; cases h
      · rw [List.getElem?_set_ne hx] at h
        exact h
    exact E.dis i ki i' ki' b h h' (ne e) (ne e')
  · have hq' : j ≠ q.1 := fun z => hk (onlyK_of hu (by rw [z]; exact E.fxO q hq)).symm
    rw [List.getElem?_set_ne hq']
    exact E.fix q hq
/-- y = x, x's list from now on y's and never changed again -/
def dFrz (i j : Nat) : DS := fun ρ => match ρ[j]? with
  | some (some d) => .nx ((ρ.set j none).set i (some d))
  | _ => .bad
theorem ps_frz (i j : Nat) (k : Kd) {x y : Str} {py : Pos} (hN : X.N.Nodup) (hi : noOw c.O i = true := by rfl) (hj : isOw c.O j k = true := by rfl) (hu : onlyK c.O j k = true := by rfl) (hk : k ≠ .p := by decide)
    (ps : PS X (.Assign [.Name y py] (.Name x p) pos) (tAsg (tVar j) (gName i)) := by exact ps_set (by assumption) rfl (by first | exact Or.inl rfl | exact Or.inr rfl) (pv _)) : PSD X c (.Assign [.Name y py] (.Name x p) pos) (dFrz i j) :=
  PS.imp (PS.weakN ps j) fun Dn σ H ⟨F, ρ, E, w⟩ => by
    unfold dFrz at w
    split at w
    · rename_i d e
      have hj' := isOw_of hj
      rcases E.cel j k hj' with ⟨d', a, q1, q2, q3, q4⟩ | ⟨q, _⟩
      · rw [e] at q1
        cases q1
        have hij : i ≠ j := fun z => noOw_of hi k (by rw [z]; exact hj')
        have E1 := E.drop hj' hu hk
        have na : a ∉ own c.O (σ.set j none) := fun z => by
          rcases own_drop a z with q | q
          · exact q.2 q2
          · obtain ⟨_, i', k', h1, h2, h3⟩ := q
            exact h1 (E.dis i' k' j k a h2 hj' h3 q2)
        refine ⟨_, q2, ?_⟩
        show Dn.nx ((σ.set i (some (.ref a))).set j none) H
        rw [List.set_comm _ _ (by exact hij)]
        refine w _ H (E1.set (noOw_of hi) (q4.rp ?_ ?_)) ⟨fun _ _ _ q => q, fun b hb => ?_⟩
        · exact hid_le fun b hb => .inl (by
            rcases List.mem_append.mp hb with z | z
            · exact List.mem_append_left _ z
            · rcases own_drop b z with q | q
              · exact List.mem_append_right _ q.1
              · exact List.mem_append_right _ q.1)
        · obtain ⟨o, e, _⟩ := q4.some
          rw [e]
          exact hid_of (fun z => by
            rcases List.mem_append.mp z with z | z
            · exact q3 z
            · exact na z) e
        · rw [own_set (noOw_of hi)] at hb
          rcases own_drop b hb with q | q
          · exact .inl q.1
          · exact .inl q.1
      · rw [e] at q
        cases q
    · exact w.elim

/-! ### tuple(range(..)) -/
def dRngT (f : DE) : DE := fun ρ => (f ρ).bind fun d => match d with
  | .int n => if -100000 ≤ n ∧ n ≤ 100000 then .ok (.tuple (rngD 0 n.toNat)) else .bad
  | _ => .bad
theorem rng_R {K : PySem.W.Frag} {H : Hp} (a b : Int) : RpA K H (rgV a b) (rngD a (b - a).toNat) := by
  unfold rgV rngD
  generalize (b - a).toNat = n
  induction n with
  | zero => exact .nil
  | succ n ih =>
    rw [List.range_succ, List.map_append, List.map_append]
    exact ih.append (.cons (.int _) .nil)
theorem pd_tupRng {e : Expr} {p2 pos2 : Pos} (hc : X.calm = true) (hm : X.mg "tuple" = none) (hm2 : X.mg "range" = none) (h : PD X c true e f) {x y : Str} (hx : x = "tuple" := by rfl) (hy : y = "range" := by rfl) (hg : Gl X x := by rfl) (hg2 : Gl X y := by rfl)
    (he : starEach [e] X.env = (false, eval e X.env) :: starEach [] X.env := by rfl) (he2 : starEach [.Call (.Name y p2) [e] [] pos2] X.env = (false, eval (.Call (.Name y p2) [e] [] pos2) X.env) :: starEach [] X.env := by rfl) : PD X c m (.Call (.Name x p) [.Call (.Name y p2) [e] [] pos2] [] pos) (dRngT f) := by
  subst hx
  subst hy
  exact PD.weak (PE.imp (pe_tupRg hc hg hm (prg_1 hg2 hm2 h he) he2) fun σ H Q ⟨F, ρ, E, w⟩ => ⟨F, ρ, E, (Out.wp_bind w).imp (fun d k v H1 s r => by
    cases r <;> try (exact k.elim)
    rename_i n
    obtain ⟨hl, q⟩ := if_wp (show (if -100000 ≤ n ∧ n ≤ 100000 then Out.ok (D.tuple (rngD 0 n.toNat)) else .bad).wp _ _ from k)
    refine ⟨n, rfl, ⟨by omega, by omega, by omega, by omega, by omega⟩, fun p hp => ?_⟩
    have hz : (rgV 0 n).length ≤ sizeLine := by rw [rgV_length]; exact cap_ok (by omega)
    have rr := rng_R (K := X.K) (H := hid (Pd.hs true F c.O σ) H1) 0 n
    rw [Int.sub_zero] at rr
    obtain ⟨s1, r1⟩ := new_tup ((E.up s).hdom true) hp hz rr
    exact q _ _ (s.trans s1) r1) fun _ z => z⟩)
end

section
variable {P : Program} {w : World} {K : PySem.W.Frag} {mg : Str → Option Value} {base : Heap}
theorem law_end {l : PySem.W.OpenLaw} {w : World} {H : Hp} {e : Value} {s s' : Shared} (h : L2.CX l.prog w [] H s (fun _ _ _ => False) e s') : False := by
  obtain ⟨_, _, _, _, _, _, _, _, _, _, _, _, z⟩ := h
  exact z.elim
/-- the law's own promise -/
theorem law_sp {cl : Nat → Addr} {g : List D → Out D} {H : Hp} {a : Addr} {ns : List Int} (hl : ns.length ≤ 63) (hS : SqL K H a (ns.map V.int)) (h : g [.scr ns] = .ok (.bool true)) : spD K cl 1 g [.ref a] H (fun v _ => v = .bl true) fun _ _ _ => False := by
  refine ⟨rfl, [], [.scr ns], fun _ z => (by cases z), .cons (.scr ?_ (Nat.le_trans hl (by decide))) .nil, ?_⟩
  · have : hid [] H = H := by funext b; unfold hid; rw [if_neg (by intro z; cases z)]
    rw [this]
    exact hS
  · rw [h]
    intro v H' s r
    cases r
    rfl
end
end Pd

/-! Pd9: a def as the text writes it; promises of calls. -/
namespace Pd
open PySem L2 PyProof.Rows
def gtD : D → D → Option Bool
  | .int i, .int j => some (decide (j < i))
  | _, _ => none
theorem op_gtD {X : Cx} : OpR X (compareOp .Gt) (rdC X.K gtD) := by
  intro pins s σ H x y v u Q I rx ry h
  obtain ⟨A, dx, dy, hA, r1, r2, d, e, q⟩ := h
  cases r1 <;> cases r2 <;> cases e
  exact op_gt pins s σ H _ _ v u Q I rx ry ⟨_, _, rfl, rfl, q⟩
/-- a module's constants -/
def KC (K : PySem.W.Frag) (mg : Str → Option Value) (x : Str) (d : D) : Prop := ∃ (v : V) (u : Value), mg x = some u ∧ RelV v u ∧ ∀ H, Rp K H v d
theorem pd_globK {X : Cx} {c : Pc} {m : Bool} {pos : Pos} {x : Str} {d : D} (h : KC X.K X.mg x d) (hg : Gl X x := by rfl) (hd : (x == ("__debug__" : Str)) = false := by decide) : PD X c m (.Name x pos) (dC d) := by
  obtain ⟨v, u, h1, h2, h3⟩ := h
  exact pd_glob h1 h2 h3 hg hd
theorem kc_int {K : PySem.W.Frag} {h : Heap} {mg : Str → Option Value} {x : Str} {n : Int} {t : Tok} (X : K.In h) (G : h.Ns mainGlobals mg) (e : PySem.W.nsIn K mainGlobals x = some (some (.int n t))) : KC K mg x (.int n) := ⟨.int n, _, PySem.W.mg_of X G e, ⟨_, rfl⟩, fun _ => .int _⟩
theorem takes0 {X : Cx} : Takes X W0 := fun u s' ⟨_, _, _, _, _, _, _, _, _, _, _, _, _, _, _, _, w⟩ => w.elim
section
variable {P : Program} {w : World} {K : PySem.W.Frag} {mg : Str → Option Value} {base : Heap}
/-- a def that the top has written -/
structure Fd (K : PySem.W.Frag) (mg : Str → Option Value) (x : Str) (st : Stmt) (ps : List Str) where
  a : Addr
  fd : FuncData
  F : Fun K x x st a fd
  b : Binds K fd ps []
  m : mg x = some (.ref a)
abbrev OkD (P : Program) (w : World) (base : Heap) (cl : Nat → Addr) (k : Nat) {x : Str} {st : Stmt} {ps : List Str} (f : Fd K mg x st ps) (g : List D → Out D) : Prop := FnOk P w K mg base (L2.CX P w) k f.a f.fd ps (spD K cl ps.length g)
theorem fn_bad {cl : Nat → Addr} {k : Nat} {x : Str} {st : Stmt} {ps : List Str} {f : Fd K mg x st ps} : OkD P w base cl k f (fun _ => .bad) :=
  ⟨fun vs H Q E h => h.1, fun A outer s H args us vs Q E hr he hb hv hs => by
    obtain ⟨_, _, _, _, _, z⟩ := hs
    exact z.elim⟩
theorem okD {x : Str} {st : Stmt} {N ps : List Str} {k n : Nat} {cl : Nat → Addr} {t : DS} (O : Ow) (f : Fd K mg x st ps) (S : FnScope N ps (defScope st)) (hO : (O.all fun p => decide (ps.length ≤ p.1) && decide (p.1 < N.length)) = true) (hl : ps.length ≤ N.length) (hn : N.length = n)
    (hbody : ∀ (cdv : Value) (A : Around) (outer : List PySem.Env) (s : Shared) (H : Hp) (E : XK), Room k (A.deeper (PyProof.Rows.envOfC x (defScope st) s.heap.objs.size f.a cdv)) → N.Nodup →
      Takes (cxOf (L2.CX P w) P w K mg base N x (defScope st) f.a cdv A outer s H E) (fun cls d _ H' => E cls d H') →
      PSsD (cxOf (L2.CX P w) P w K mg base N x (defScope st) f.a cdv A outer s H E) ⟨cl, O, fun cls d _ H' => E cls d H'⟩ (defBody st) t) :
    OkD P w base cl (k + 1) f (dDef n t) := by
  subst hn
  exact def_ok O f.F S hO hl hbody
end
section
variable {X : Cx} {c : Pc} {m : Bool} {e : Expr} {pos p : Pos}
theorem pd_callF {x : Str} {st : Stmt} {j k n : Nat} {ps : List Str} {g : List D → Out D} {es : List Expr} {ga : DA} (f : Fd X.K X.mg x st ps) (F : OkD X.prog X.w X.base c.cl j f g) (hr : Room k X.A) (hj : j ≤ k) (hn : ps.length = n)
    (tk : Takes X c.W) (ha : PAD X c m (e :: es) ga) (hg : Gl X x) (hdb : (x == ("__debug__" : Str)) = false)
    (he : starEach (e :: es) X.env = (false, eval e X.env) :: starEach es X.env) (hpl : (backTo pos (starEach es X.env)).any (·.1) = false) :
    PD X c m (.Call (.Name x p) (e :: es) [] pos) (dUse n g ga) := by
  subst hn
  exact pd_call (F.mono hj) hr f.m f.F.kp f.b tk ha hg hdb he hpl
end
section
variable {X : Cx} {c : Pc} {m : Bool} {elt tg iter : Expr} {ifs : List Expr} {scope : Scope} {pos : Pos} {it : DA} {b : D → Env → Option Env} {tst : DT} {fe : DE} {is vs : List Nat}
theorem pd_lcV (own' : List (Str × Nat)) (hc : X.calm = true) (hN : X.N.Nodup) (hi : PID X c false tg iter it) (ok : BlkOk X.N X.env.scope scope own') (hvs : own'.map (·.2) = vs)
    (hg : LcP X scope fun Y => PGD Y c tg is b) (ht : LcP X scope fun Y => PTsD Y c.w0 ifs tst) (he : LcP X scope fun Y => PD Y c.w0 m elt fe) (hv : subs is vs = true) (hvo : allNo c.O vs = true) (hs : ∀ x, foldedSetIterable iter X.env x = pure x) :
    PD X c m (.ListComp elt [⟨tg, iter, ifs, 0⟩] scope pos) (dLc it b tst fe vs) := by
  subst hvs
  exact pd_lc hc hN hi ok hg ht he hv hvo hs
theorem pf_lcV (own' : List (Str × Nat)) (hc : X.calm = true) (hN : X.N.Nodup) (hi : PID X c false tg iter it) (ok : BlkOk X.N X.env.scope scope own') (hvs : own'.map (·.2) = vs)
    (hg : LcP X scope fun Y => PGD Y c tg is b) (ht : LcP X scope fun Y => PTsD Y c.w0 ifs tst) (he : LcP X scope fun Y => PD Y c.w0 true elt fe) (hv : subs is vs = true) (hvo : allNo c.O vs = true) (hs : ∀ x, foldedSetIterable iter X.env x = pure x) :
    PF X c .l (.ListComp elt [⟨tg, iter, ifs, 0⟩] scope pos) (dLc it b tst fe vs) := by
  subst hvs
  exact pf_lc hc hN hi ok hg ht he hv hvo hs
theorem ps_lcDV (i : Nat) {y : Str} {py spos : Pos} (own' : List (Str × Nat)) (hc : X.calm = true) (hN : X.N.Nodup) (hi : PID X c false tg iter it) (ok : BlkOk X.N X.env.scope scope own') (hvs : own'.map (·.2) = vs)
    (hg : LcP X scope fun Y => PGD Y c tg is b) (ht : LcP X scope fun Y => PTsD Y c.w0 ifs tst) (he : LcP X scope fun Y => PD Y c.w0 true elt fe) (hv : subs is vs = true) (hvo : allNo c.O vs = true) (hs : ∀ x, foldedSetIterable iter X.env x = pure x) (ho : noOw c.O i = true)
    (ps : ∀ {wi : TI} {g : TG} {tt : TT} {te : TE}, PI X tg iter wi → LcP X scope (fun Y => PG Y tg g) → LcP X scope (fun Y => PTs Y ifs tt) → LcP X scope (fun Y => PE Y elt te) → PS X (.Assign [.Name y py] (.ListComp elt [⟨tg, iter, ifs, 0⟩] scope pos) spos) (tAsg (tLc wi g tt te (own'.map (·.2))) (gName i))) :
    PSD X c (.Assign [.Name y py] (.ListComp elt [⟨tg, iter, ifs, 0⟩] scope pos) spos) (dAsg i (dLc it b tst fe vs)) := by
  subst hvs
  exact ps_lcD i hc hN hi ok hg ht he ho hv hvo ps
theorem ps_lcOV (i : Nat) {y : Str} {py spos : Pos} (own' : List (Str × Nat)) (hc : X.calm = true) (hN : X.N.Nodup) (hi : PID X c false tg iter it) (ok : BlkOk X.N X.env.scope scope own') (hvs : own'.map (·.2) = vs)
    (hg : LcP X scope fun Y => PGD Y c tg is b) (ht : LcP X scope fun Y => PTsD Y c.w0 ifs tst) (he : LcP X scope fun Y => PD Y c.w0 true elt fe) (hv : subs is vs = true) (hvo : allNo c.O vs = true) (hs : ∀ x, foldedSetIterable iter X.env x = pure x) (ho : isOw c.O i .l = true) (hu : onlyK c.O i .l = true)
    (ps : ∀ {wi : TI} {g : TG} {tt : TT} {te : TE}, PI X tg iter wi → LcP X scope (fun Y => PG Y tg g) → LcP X scope (fun Y => PTs Y ifs tt) → LcP X scope (fun Y => PE Y elt te) → PS X (.Assign [.Name y py] (.ListComp elt [⟨tg, iter, ifs, 0⟩] scope pos) spos) (tAsg (tLc wi g tt te (own'.map (·.2))) (gName i))) :
    PSD X c (.Assign [.Name y py] (.ListComp elt [⟨tg, iter, ifs, 0⟩] scope pos) spos) (dAsg i (dLc it b tst fe vs)) := by
  subst hvs
  exact ps_lcO i hc hN hi ok hg ht he ho hu hv hvo ps
end
section
variable {K : PySem.W.Frag} {h : Heap} {mg : Str → Option Value} {x : Str} {st : Stmt} {ps : List Str} {f : Addr} {oc : Value} {od an : Option Addr} {osl : Array (Option Value)} {kV doc pm cdv ct : Value}
theorem fd_ne (X : K.In h) (G : h.Ns mainGlobals mg)
    (a : PySem.W.nsIn K mainGlobals x = some (some (.ref f))) (l : K.lookup f = some ⟨oc, od, .func (PySem.W.fnOf x x (defArgs st) (defBody st) (defScope st) .none kV doc pm an cdv ct), osl⟩) (c : PySem.W.codeIn K cdv x = true) (k : PySem.W.keepIn K (.ref f) = true)
    (hb : ∀ (kV doc pm : Value) (an : Option Addr) (cdv ct : Value) (us : List Value), us.length = ps.length → bindArgs (PySem.W.fnOf x x (defArgs st) (defBody st) (defScope st) .none kV doc pm an cdv ct) ⟨us, []⟩ = pure (ps.zip us)) : Nonempty (Fd K mg x st ps) :=
  ⟨⟨f, _, fun_mk l c k, (fun_mk l c k).binds hb, PySem.W.mg_of X G a⟩⟩
theorem fd_law {p : Str} {fa : Addr} (X : K.In h) (G : h.Ns mainGlobals mg) (hfa : mg x = some (.ref fa))
    (a : PySem.W.nsIn K mainGlobals x = some (some (.ref f))) (l : K.lookup f = some ⟨oc, od, .func (PySem.W.fnOf x x (defArgs st) (defBody st) (defScope st) .none kV doc pm an cdv ct), osl⟩) (c : PySem.W.codeIn K cdv x = true) (k : PySem.W.keepIn K (.ref f) = true)
    (hb : ∀ (kV doc pm : Value) (an : Option Addr) (cdv ct : Value) (us : List Value), us.length = [p].length → bindArgs (PySem.W.fnOf x x (defArgs st) (defBody st) (defScope st) .none kV doc pm an cdv ct) ⟨us, []⟩ = pure ([p].zip us)) : ∃ F : Fd K mg x st [p], F.a = fa ∧ ∀ (s : Shared) (v : Value), BindsTo s F.fd ⟨[v], []⟩ [(p, v)] :=
  ⟨⟨f, _, fun_mk l c k, (fun_mk l c k).binds hb, PySem.W.mg_of X G a⟩, by have z := hfa.symm.trans (PySem.W.mg_of X G a); cases z; rfl, fun s v => .of_eq (hb kV doc pm an cdv ct [v] rfl)⟩
end
end Pd

/-! Pe: enumerate and zip over lists and tuples. -/
namespace Pd
open PySem PySem.Spec PyProof.Rows L2
open PySem.Sem (wp)
def SqK (K : PySem.W.Frag) (k : Bool) (H : Hp) (a : Addr) (xs : List V) : Prop := match k with
  | true => SqL K H a xs
  | false => SqT K H a xs
def itK (k : Bool) (h : Heap) (it a : Addr) (i : Nat) : Prop := match k with
  | true => h.IsListIter it a i
  | false => h.IsTupleIter it a i
def sqH (k : Bool) (h : Heap) (a : Addr) (items : Array Value) : Prop := match k with
  | true => h.IsList a items
  | false => h.IsTuple a items
def itO (k : Bool) (a : Addr) : Obj := match k with
  | true => { cls := .type "list_iterator", data := .fields #[.ref a, .int 0 0] }
  | false => { cls := .type "tuple_iterator", data := .fields #[.ref a, .int 0 0] }
theorem draws_K {prog : Program} {w : World} {A : Around} (hh : A.handled = none) (k : Bool) (it a : Addr) (hne : a ≠ it) (items : Array Value) :
    Draws prog w A it [it, a] items.size (fun i v => items[i]? = some v) (fun i h => itK k h it a i ∧ sqH k h a items) := by
  cases k
  · exact Draws.tuple hh it a hne items
  · exact Draws.list hh it a hne items
theorem begins_K (k : Bool) (a : Addr) (items : Array Value) : Begins (.ref a) (itO k a) (fun h => sqH k h a items) := by
  cases k
  · exact begins_tuple a items
  · exact begins_list a items
theorem itK_obj {k : Bool} {h : Heap} {it a : Addr} {i : Nat} (st : itK k h it a i) : ∃ o, h.get? it = some o ∧ ∀ v, o.data ≠ .cell v := by
  cases k <;> obtain ⟨o, e, _, d⟩ := st <;> exact ⟨o, e, fun v q => by rw [d] at q; cases q⟩
theorem itK_at {k : Bool} {h h' : Heap} {it a : Addr} {i : Nat} (st : itK k h it a i) (kp : ∀ o, h.get? it = some o → h'.get? it = some o) : itK k h' it a i := by
  cases k <;> obtain ⟨o, e, q⟩ := st <;> exact ⟨o, kp o e, q⟩
theorem itK_new {k : Bool} {h : Heap} {it a : Addr} (e : h.get? it = some (itO k a)) : itK k h it a 0 := by
  cases k <;> exact ⟨_, e, rfl, rfl⟩
section
variable {X : Cx} {pins : List (Addr × Obj)} {σ : L2.St} {H : Hp} {s : Shared}
theorem inv_K {k : Bool} {a : Addr} {xs : List V} (I : Inv X pins σ H s) (h : SqK X.K k H a xs) : ∃ its : List Value, Vals xs its ∧ sqH k s.heap a its.toArray ∧ a < s.heap.objs.size := by
  cases k
  · obtain ⟨its, r, p, _⟩ := I.tuple h
    obtain ⟨o, ho, _⟩ := id p
    exact ⟨its, r, p, Heap.lt_size ho⟩
  · obtain ⟨its, r, p, _⟩ := I.list h
    exact ⟨its, r, p.isList, p.lt⟩
theorem inv_inj {k : Bool} {a : Addr} {xs ys : List V} (I : Inv X pins σ H s) (h : SqK X.K k H a xs) (h' : SqK X.K k H a ys) : xs = ys := by
  cases k
  · exact I.tuple_inj h h'
  · exact I.list_inj h h'
variable {I : Addr} {fp wr cells : List Addr} {n i : Nat} {Pt : Nat → Array Value → Prop} {Sx : Nat → Heap → Prop} {Mid : Nat → Addr → Heap → Prop} {elts : List Expr} {kk : Nat} {tpos : Pos} {J : It} {tn : Nat → Heap → Prop} {E : Value → Shared → Prop}
theorem item_W (W : WalksT X.prog X.w X.A I fp wr n Pt Sx Mid) (In : Inv X pins σ H s) (hw : ∀ b ∈ wr, b ∈ cells) (hf : ∀ b ∈ cells, FpOk X pins H b) (hc : ∀ b ∈ cells, ∃ o, s.heap.get? b = some o)
    (hi : i < n) (st : Sx i s.heap) (htn : ∀ h', Sx (i + 1) h' → tn (i + 1) h')
    (hy : ∀ vals, Pt i vals → ∃ xs : List V, Vals xs vals.toList ∧ xs.length ≤ sizeLine ∧ ∀ T, H T = none → J.yld i H (.ref T) (upd H T (.tup xs))) :
    wpAny (model X.prog X.w) X.A (pyNext (.ref I)) (fun r s1 => ∃ u, r = some u ∧
      wpAny (model X.prog X.w) X.A (letOwnedTupleGo (.Tuple elts kk tpos) (.ref I) u) (fun _ s2 => ∃ x H', Inv X pins σ H' s2 ∧ RelV x u ∧ J.yld i H x H' ∧ tn (i + 1) s2.heap ∧ ∀ b ∈ cells, H' b = none) E s1) E s := by
  refine W.item i s _ _ hi st fun T vals h' tk hP hT hIs hm hk => ⟨.ref T, rfl, W.go elts kk tpos i T _ _ _ hm fun h'' st' hk2 => ?_⟩
  obtain ⟨xs, rv, hz, hy⟩ := hy vals hP
  have hIs2 : h''.IsTuple T vals := hIs.at fun o e => hk2 T o (W.apart i T h' hm) e
  have new : ObjOk X.prog X.w (upd H T (.tup xs)) h'' T (.tup xs) := ⟨hz, vals.toList, rv, by rw [show vals.toList.toArray = vals by simp]; exact hIs2⟩
  have I1 := In.turnedNew (t' := tk) (ch := wr) (h' := h'') (fun c o hb q => hk2 c o hb (hk c o hb q)) (fun b hb => hf b (hw b hb)) hT new
  exact ⟨.ref T, _, I1, rfl, hy T (In.hok.fresh hT), htn h'' st', fun b hb => by
    obtain ⟨o, e⟩ := hc b hb
    rw [upd_ne (Nat.ne_of_lt (Nat.lt_of_lt_of_le (Heap.lt_size e) hT))]
    exact (hf b hb).1⟩
theorem done_W (W : WalksT X.prog X.w X.A I fp wr n Pt Sx Mid) (In : Inv X pins σ H s) (hw : ∀ b ∈ wr, b ∈ cells) (hf : ∀ b ∈ cells, FpOk X pins H b) (st : Sx n s.heap) :
    wpAny (model X.prog X.w) X.A (pyNext (.ref I)) (fun r s1 => r = none ∧ Inv X pins σ H s1) E s :=
  W.done s _ _ st fun h' tk hk => ⟨rfl, In.turnedL (t' := tk) (ch := wr) hk (fun b hb => hf b (hw b hb))⟩
end

/-! ### enumerate -/
def ItE (K : PySem.W.Frag) (k : Bool) (a : Addr) : It :=
  ⟨fun i H => ∃ (xs : List V) (x : V), SqK K k H a xs ∧ xs[i]? = some x, fun i H v H' => ∃ T x, v = .ref T ∧ H T = none ∧ H' = upd H T (.tup [.int (i : Nat), x]) ∧ ∀ xs, SqK K k H a xs → xs[i]? = some x, fun i H => ∃ xs : List V, SqK K k H a xs ∧ xs.length = i⟩
theorem turn_enumK {P : Program} {w : World} {K : PySem.W.Frag} {elts : List Expr} {kk : Nat} {tpos : Pos} (k : Bool) (a e it : Addr) (hei : e ≠ it) (hea : e ≠ a) (hia : a ≠ it) :
    Turn P w K (.Tuple elts kk tpos) (ItE K k a) [e, it] e (fun i h => (∃ old, IsEnum h e it (0 + ((i : Nat) : Int)) old) ∧ itK k h it a i) where
  mem := by simp
  obj := fun i h st b hb => by
    obtain ⟨⟨old, he⟩, hi⟩ := st
    have e' : b = e ∨ b = it := by simpa using hb
    rcases e' with z | z
    · rw [z]; exact ⟨_, he, fun v q => nomatch q⟩
    · rw [z]; exact itK_obj hi
  keep := fun i h h' st kp => let ⟨⟨old, he⟩, hi⟩ := st; ⟨⟨old, kp e (by simp) _ he⟩, itK_at hi fun o q => kp it (by simp) o q⟩
  item := by
    intro X hP hw hK hc i pins s σ H E I hf st hg
    subst hP hw hK
    obtain ⟨⟨old, he⟩, hit⟩ := st
    obtain ⟨xs, x, hq, hx⟩ := hg
    obtain ⟨its, rv, p, _⟩ := inv_K I hq
    obtain ⟨u, hu, ru⟩ := rv.get hx
    have hh : X.A.in1.handled = none := I.ok.hd hc
    refine item_W (n := its.toArray.size) (J := ItE X.K k a) (tn := fun i h => (∃ old, IsEnum h e it (0 + ((i : Nat) : Int)) old) ∧ itK k h it a i) (WalksT.enumFrom 0 (draws_K hh k it a hia its.toArray) e hei (by simp [hei, hea]) (by simp)) I (fun b hb => hb) hf (fun b hb => ?_) ?_ ⟨⟨old, he⟩, hit, p⟩ (fun h' q => ⟨q.1, q.2.1⟩) (fun vals q => ?_)
    · have e' : b = e ∨ b = it := by simpa using hb
      rcases e' with z | z
      · rw [z]; exact ⟨_, he⟩
      · rw [z]; obtain ⟨o, e, _⟩ := itK_obj hit; exact ⟨o, e⟩
    · rw [List.size_toArray]
      exact (List.getElem?_eq_some_iff.mp hu).1
    · obtain ⟨t, y, hy, rfl⟩ := q
      have ey : y = u := by
        rw [List.getElem?_toArray] at hy
        rw [hu] at hy
        exact (Option.some.inj hy).symm
      subst ey
      refine ⟨[.int (i : Nat), x], .cons ⟨t, by rw [Int.zero_add]⟩ (.cons ru .nil), by show 2 ≤ sizeLine; decide, fun T hT => ⟨T, x, rfl, hT, rfl, fun ys hy => by rw [inv_inj I hy hq]; exact hx⟩⟩
  done := by
    intro X hP hw hK hc i pins s σ H E I hf st hg
    subst hP hw hK
    obtain ⟨⟨old, he⟩, hit⟩ := st
    obtain ⟨xs, hq, hx⟩ := hg
    obtain ⟨its, rv, p, _⟩ := inv_K I hq
    have hh : X.A.in1.handled = none := I.ok.hd hc
    have hl : i = its.toArray.size := by rw [List.size_toArray, ← rv.length, hx]
    subst hl
    exact done_W (WalksT.enumFrom 0 (draws_K hh k it a hia its.toArray) e hei (by simp [hei, hea]) (by simp)) I (fun b hb => hb) hf ⟨⟨old, he⟩, hit, p⟩
  self := fun A i s Q E st h => let ⟨⟨_, he⟩, _⟩ := st; wpAny_pyIter_enum he h
set_option maxHeartbeats 8000000 in
theorem meets_enumB1 {v : Value} {o : Obj} {H : Heap → Prop} (B : Begins v o H) :
    Meets (Builtin.«enumerate.__new__» ⟨[.type "enumerate", v], []⟩) (fun _ R s => H s.heap ∧
      R (.ok (.ret (.ref (s.heap.push o).objs.size))) { s with heap := (s.heap.push o).push { cls := .type "enumerate", data := .fields #[.none, .bool false, .ref s.heap.objs.size, rawInt 0, .none, .none] } }) :=
  .of_wp fun prog w A R s h => by
    obtain ⟨hp, g, d, tk, os⟩ := s; obtain ⟨h1, h⟩ := h
    have hsub := sub_enumerate
    have q1 : ∀ {A' : Around} {E : Value → Shared → Prop} {Q : Value → Shared → Prop}, Q (.ref hp.objs.size) ⟨hp.push o, g, d, tk, os⟩ → wpAny (model prog w) A' (pyIter v) Q E ⟨hp, g, d, tk, os⟩ :=
      fun q => B.iter prog w _ _ ⟨hp, g, d, tk, os⟩ _ h1 q
    wp_walk using q1
    refine wpAny_stack_any fun st => wpAny_pure ?_
    split
    · rename_i c _ _ _ _ _
      cases (c == Value.type "enumerate")
      · wp_walk using q1
        exact ⟨_, rfl, h⟩
      · wp_walk using q1
        exact ⟨_, rfl, h⟩
    · wp_walk using q1
      exact ⟨_, rfl, h⟩
theorem enum_begins1 {prog : Program} {w : World} {A : Around} {E : Value → Shared → Prop} {s : Shared} {v : Value} {o : Obj} {H : Heap → Prop} {Q : Value → Shared → Prop} (B : Begins v o H) (h1 : H s.heap)
    (h : ∀ h', IsEnum h' (s.heap.objs.size + 1) s.heap.objs.size 0 .none → h'.get? s.heap.objs.size = some o →
      (∀ b o, s.heap.get? b = some o → h'.get? b = some o) → Q (.ref (s.heap.objs.size + 1)) { s with heap := h' }) :
    wpAny (model prog w) A (call (.type "enumerate") [v]) Q E s := by
  refine callType_new F.called_enumerate (by decide) (F.typeCall_enumerate_1 _) (F.newCall_enumerate_1 _) (fun obj => F.args_object_init_2 obj _) F.entry_enumerate_new
    (meets_enumB1 B) ⟨h1, ?_⟩
  have hz : (s.heap.push o).objs.size = s.heap.objs.size + 1 := Heap.size_push ..
  show _ ∧ _
  rw [hz]
  have he : IsEnum ((s.heap.push o).push { cls := .type "enumerate", data := .fields #[.none, .bool false, .ref s.heap.objs.size, rawInt 0, .none, .none] }) (s.heap.objs.size + 1) s.heap.objs.size 0 .none := by
    have := Heap.get?_push_size (s.heap.push o) (o := { cls := .type "enumerate", data := .fields #[.none, .bool false, .ref s.heap.objs.size, rawInt 0, .none, .none] }) rfl
    rw [hz] at this; exact this
  exact ⟨⟨_, he, rfl⟩, h _ he (Heap.get?_push_of_some _ (Heap.get?_push_size _ B.free)) fun b o x => Heap.get?_push_of_some _ (Heap.get?_push_of_some _ x)⟩
def iEnumK (K : PySem.W.Frag) (ta : TA) : TI := fun σ H R => ta σ H fun vs H1 => ∃ k a xs, vs = [.ref a] ∧ SqK K k H1 a xs ∧ R (ItE K k a) H1
theorem pi_enumK {X : Cx} {e : Expr} {ta : TA} {p pos tpos : Pos} {elts : List Expr} {kk : Nat} (hg : Gl X "enumerate") (hm : X.mg "enumerate" = none) (ha : PA X [e] ta) (hs : starEach [e] X.env = [(false, eval e X.env)] := by rfl) :
    PI X (.Tuple elts kk tpos) (.Call (.Name "enumerate" p) [e] [] pos) (iEnumK X.K ta) := by
  refine ⟨fun pins s σ H R I h => ?_⟩
  refine Call_ (ld_blt I hg hm boot_enumerate (PyProof.Rows.callWith_type1 (thn (ha.run pos pins s σ H _ I h) fun us s1 ⟨vs, H1, I1, r1, q1⟩ => ?_) hs rfl))
  obtain ⟨k, a, xs, ex, hq, q⟩ := q1
  subst ex
  cases r1 with
  | cons r rr =>
    cases rr
    cases r
    obtain ⟨its, rv, p', hlt⟩ := inv_K I1 hq
    refine enum_begins1 (begins_K k a its.toArray) p' fun h' he hit hk => wpAny_pyIter_enum he ?_
    have I2 : Inv X pins σ H1 { s1 with heap := h' } := I1.kept (t' := s1.toks) hk
    refine ⟨s1.heap.objs.size + 1, [s1.heap.objs.size + 1, s1.heap.objs.size], _, _, H1, rfl, I2, turn_enumK k a (s1.heap.objs.size + 1) s1.heap.objs.size (Nat.succ_ne_self _) (Nat.ne_of_gt (Nat.lt_succ_of_lt hlt)) (Nat.ne_of_lt hlt), ⟨⟨.none, by rw [show (0 + ((0 : Nat) : Int)) = 0 from rfl]; exact he⟩, itK_new hit⟩, fun b hb => ?_, q⟩
    have e' : b = s1.heap.objs.size + 1 ∨ b = s1.heap.objs.size := by simpa using hb
    have hle : s1.heap.objs.size ≤ b := by
      rcases e' with z | z
      · rw [z]; exact Nat.le_add_right _ _
      · rw [z]; exact Nat.le_refl _
    exact I1.fpOk hle (I1.hok.fresh hle)

/-! ### zip -/
def ItZ2 (K : PySem.W.Frag) (k1 k2 : Bool) (a1 a2 : Addr) : It :=
  ⟨fun i H => ∃ (x1 x2 : List V) (y1 y2 : V), SqK K k1 H a1 x1 ∧ SqK K k2 H a2 x2 ∧ x1[i]? = some y1 ∧ x2[i]? = some y2,
   fun i H v H' => ∃ (T : Addr) (y1 y2 : V), v = .ref T ∧ H T = none ∧ H' = upd H T (.tup [y1, y2]) ∧ (∀ x1, SqK K k1 H a1 x1 → x1[i]? = some y1) ∧ (∀ x2, SqK K k2 H a2 x2 → x2[i]? = some y2),
   fun i H => ∃ x1 x2 : List V, SqK K k1 H a1 x1 ∧ SqK K k2 H a2 x2 ∧ i = min x1.length x2.length⟩
theorem turn_z2 {P : Program} {w : World} {K : PySem.W.Frag} {elts : List Expr} {kk : Nat} {tpos : Pos} (k1 k2 : Bool) {a1 a2 z TI TO i1 i2 : Addr} (D : ZipSep2 z TI TO i1 i2 [i1, a1] [i2, a2]) (hn : a1 ≠ i1 ∧ a2 ≠ i2) :
    Turn P w K (.Tuple elts kk tpos) (ItZ2 K k1 k2 a1 a2) [z, TI, TO, i1, i2] z (fun i h => IsZip h z TI TO .none ∧ IsTupOf2 h TI (.ref i1) (.ref i2) ∧ (∃ u1 u2, IsTupOf2 h TO u1 u2) ∧ itK k1 h i1 a1 i ∧ itK k2 h i2 a2 i) where
  mem := by simp
  obj := fun i h st b hb => by
    obtain ⟨hz, hTI, ⟨w1, w2, hTO⟩, h1, h2⟩ := st
    have e' : b = z ∨ b = TI ∨ b = TO ∨ b = i1 ∨ b = i2 := by simpa using hb
    rcases e' with q | q | q | q | q
    · rw [q]; exact ⟨_, hz, fun v q => nomatch q⟩
    · rw [q]; exact ⟨_, hTI, fun v q => nomatch q⟩
    · rw [q]; exact ⟨_, hTO, fun v q => nomatch q⟩
    · rw [q]; exact itK_obj h1
    · rw [q]; exact itK_obj h2
  keep := fun i h h' st kp => by
    obtain ⟨hz, hTI, ⟨w1, w2, hTO⟩, h1, h2⟩ := st
    exact ⟨kp z (by simp) _ hz, kp TI (by simp) _ hTI, ⟨w1, w2, kp TO (by simp) _ hTO⟩, itK_at h1 fun o q => kp i1 (by simp) o q, itK_at h2 fun o q => kp i2 (by simp) o q⟩
  item := by
    intro X hP hw hK hc i pins s σ H E I hf st hg
    subst hP hw hK
    obtain ⟨hz, hTI, ⟨w1, w2, hTO⟩, h1, h2⟩ := st
    obtain ⟨x1, x2, y1, y2, hq1, hq2, hx1, hx2⟩ := hg
    obtain ⟨t1, rv1, p1, _⟩ := inv_K I hq1
    obtain ⟨u1, hu1, ru1⟩ := rv1.get hx1
    obtain ⟨t2, rv2, p2, _⟩ := inv_K I hq2
    obtain ⟨u2, hu2, ru2⟩ := rv2.get hx2
    have hh : X.A.in1.handled = none := I.ok.hd hc
    refine item_W (J := ItZ2 X.K k1 k2 a1 a2) (tn := fun i h => IsZip h z TI TO .none ∧ IsTupOf2 h TI (.ref i1) (.ref i2) ∧ (∃ u1 u2, IsTupOf2 h TO u1 u2) ∧ itK k1 h i1 a1 i ∧ itK k2 h i2 a2 i) (WalksT.zipD2 D (draws_K hh k1 i1 a1 hn.1 t1.toArray) (draws_K hh k2 i2 a2 hn.2 t2.toArray)) I (fun b hb => ?_) hf (fun b hb => ?_) ?_ ⟨hz, hTI, ⟨w1, w2, hTO⟩, ⟨h1, p1⟩, ⟨h2, p2⟩⟩ (fun h' q => ?_) (fun vals q => ?_)
    · simp only [List.mem_cons, List.not_mem_nil, or_false] at hb ⊢
      rcases hb with q | q | q | q <;> simp [q]
    · have e' : b = z ∨ b = TI ∨ b = TO ∨ b = i1 ∨ b = i2 := by simpa using hb
      rcases e' with q | q | q | q | q
      · rw [q]; exact ⟨_, hz⟩
      · rw [q]; exact ⟨_, hTI⟩
      · rw [q]; exact ⟨_, hTO⟩
      · rw [q]; obtain ⟨o, e, _⟩ := itK_obj h1; exact ⟨o, e⟩
      · rw [q]; obtain ⟨o, e, _⟩ := itK_obj h2; exact ⟨o, e⟩
    · have l1 := (List.getElem?_eq_some_iff.mp hu1).1
      have l2 := (List.getElem?_eq_some_iff.mp hu2).1
      simp only [List.size_toArray]
      omega
    · obtain ⟨q1, q2, q3, q4, q5⟩ := q
      exact ⟨q1, q2, q3, q4.1, q5.1⟩
    · obtain ⟨v1, v2, hv1, hv2, rfl⟩ := q
      have ev1 : v1 = u1 := by
        rw [List.getElem?_toArray, hu1] at hv1
        exact (Option.some.inj hv1).symm
      subst ev1
      have ev2 : v2 = u2 := by
        rw [List.getElem?_toArray, hu2] at hv2
        exact (Option.some.inj hv2).symm
      subst ev2
      exact ⟨[y1, y2], (.cons ru1 (.cons ru2 .nil)), by show 2 ≤ sizeLine; decide, fun T hT => ⟨T, y1, y2, rfl, hT, rfl, fun ys hy => by rw [inv_inj I hy hq1]; exact hx1, fun ys hy => by rw [inv_inj I hy hq2]; exact hx2⟩⟩
  done := by
    intro X hP hw hK hc i pins s σ H E I hf st hg
    subst hP hw hK
    obtain ⟨hz, hTI, ⟨w1, w2, hTO⟩, h1, h2⟩ := st
    obtain ⟨x1, x2, hq1, hq2, hi⟩ := hg
    obtain ⟨t1, rv1, p1, _⟩ := inv_K I hq1
    have l1 := rv1.length
    obtain ⟨t2, rv2, p2, _⟩ := inv_K I hq2
    have l2 := rv2.length
    have hh : X.A.in1.handled = none := I.ok.hd hc
    have ei : i = min t1.toArray.size t2.toArray.size := by simp only [List.size_toArray]; omega
    subst ei
    refine done_W (WalksT.zipD2 D (draws_K hh k1 i1 a1 hn.1 t1.toArray) (draws_K hh k2 i2 a2 hn.2 t2.toArray)) I (fun b hb => ?_) hf ⟨hz, hTI, ⟨w1, w2, hTO⟩, ⟨h1, p1⟩, ⟨h2, p2⟩⟩
    simp only [List.mem_cons, List.not_mem_nil, or_false] at hb ⊢
    rcases hb with q | q | q | q <;> simp [q]
  self := fun A i s Q E st h => wpAny_pyIter_zip st.1 h
def iZ2 (K : PySem.W.Frag) (ta : TA) : TI := fun σ H R => ta σ H fun vs H1 => ∃ k1 k2 a1 a2 x1 x2, vs = [.ref a1, .ref a2] ∧ SqK K k1 H1 a1 x1 ∧ SqK K k2 H1 a2 x2 ∧ R (ItZ2 K k1 k2 a1 a2) H1
theorem pi_z2 {X : Cx} {e1 e2 : Expr} {ta : TA} {p pos tpos : Pos} {elts : List Expr} {kk : Nat} (hg : Gl X "zip") (hm : X.mg "zip" = none) (ha : PA X [e1, e2] ta)
    (hs : starEach [e1, e2] X.env = (false, eval e1 X.env) :: starEach [e2] X.env := by rfl) (hpl : (backTo pos (starEach [e2] X.env)).any (·.1) = false := by rfl) :
    PI X (.Tuple elts kk tpos) (.Call (.Name "zip" p) [e1, e2] [] pos) (iZ2 X.K ta) := by
  refine ⟨fun pins s σ H R I h => ?_⟩
  refine Call_ (ld_blt I hg hm PyProof.Rows.boot_zip (PyProof.Rows.callWith_type1 (thn (ha.run pos pins s σ H _ I h) fun us s1 ⟨vs, H1, I1, r1, q1⟩ => ?_) hs hpl))
  obtain ⟨k1, k2, a1, a2, x1, x2, ex, hq1, hq2, q⟩ := q1
  subst ex
  rcases r1 with _ | ⟨r1', r1⟩
  cases r1'
  rcases r1 with _ | ⟨r2', r1⟩
  cases r2'
  cases r1
  obtain ⟨t1, rv1, p1, lt1⟩ := inv_K I1 hq1
  obtain ⟨t2, rv2, p2, lt2⟩ := inv_K I1 hq2
  refine zip_begins2 (begins_K k1 a1 t1.toArray) (begins_K k2 a2 t2.toArray) p1 p2 fun h' hz hTI hTO g1 g2 hsz hk => wpAny_pyIter_zip hz ?_
  have I2 : Inv X pins σ H1 { s1 with heap := h' } := I1.kept (t' := s1.toks) hk
  refine ⟨s1.heap.objs.size + 4, [s1.heap.objs.size + 4, s1.heap.objs.size + 2, s1.heap.objs.size + 3, s1.heap.objs.size, s1.heap.objs.size + 1], _, _, H1, rfl, I2, turn_z2 k1 k2 (zip_sep2 (N := s1.heap.objs.size) (fp1 := [a1]) (fp2 := [a2]) (fun b hb => by rw [List.mem_singleton.mp hb]; exact lt1) (fun b hb => by rw [List.mem_singleton.mp hb]; exact lt2)) ⟨Nat.ne_of_lt (Nat.lt_of_lt_of_le lt1 (by omega)), Nat.ne_of_lt (Nat.lt_of_lt_of_le lt2 (by omega))⟩, ⟨hz, hTI, ⟨_, _,  hTO⟩, itK_new g1, itK_new g2⟩, fun c hcm => ?_, q⟩
  have hle : s1.heap.objs.size ≤ c := by
    simp only [List.mem_cons, List.not_mem_nil, or_false] at hcm
    rcases hcm with q | q | q | q | q <;> (rw [q]; first | exact Nat.le_add_right _ _ | exact Nat.le_refl _)
  exact I1.fpOk hle (I1.hok.fresh hle)
def ItZ3 (K : PySem.W.Frag) (k1 k2 k3 : Bool) (a1 a2 a3 : Addr) : It :=
  ⟨fun i H => ∃ (x1 x2 x3 : List V) (y1 y2 y3 : V), SqK K k1 H a1 x1 ∧ SqK K k2 H a2 x2 ∧ SqK K k3 H a3 x3 ∧ x1[i]? = some y1 ∧ x2[i]? = some y2 ∧ x3[i]? = some y3,
   fun i H v H' => ∃ (T : Addr) (y1 y2 y3 : V), v = .ref T ∧ H T = none ∧ H' = upd H T (.tup [y1, y2, y3]) ∧ (∀ x1, SqK K k1 H a1 x1 → x1[i]? = some y1) ∧ (∀ x2, SqK K k2 H a2 x2 → x2[i]? = some y2) ∧ (∀ x3, SqK K k3 H a3 x3 → x3[i]? = some y3),
   fun i H => ∃ x1 x2 x3 : List V, SqK K k1 H a1 x1 ∧ SqK K k2 H a2 x2 ∧ SqK K k3 H a3 x3 ∧ i = min (min x1.length x2.length) x3.length⟩
theorem turn_z3 {P : Program} {w : World} {K : PySem.W.Frag} {elts : List Expr} {kk : Nat} {tpos : Pos} (k1 k2 k3 : Bool) {a1 a2 a3 z TI TO i1 i2 i3 : Addr} (D : ZipSep3 z TI TO i1 i2 i3 [i1, a1] [i2, a2] [i3, a3]) (hn : a1 ≠ i1 ∧ a2 ≠ i2 ∧ a3 ≠ i3) :
    Turn P w K (.Tuple elts kk tpos) (ItZ3 K k1 k2 k3 a1 a2 a3) [z, TI, TO, i1, i2, i3] z (fun i h => IsZip h z TI TO .none ∧ IsTupOf3 h TI (.ref i1) (.ref i2) (.ref i3) ∧ (∃ u1 u2 u3, IsTupOf3 h TO u1 u2 u3) ∧ itK k1 h i1 a1 i ∧ itK k2 h i2 a2 i ∧ itK k3 h i3 a3 i) where
  mem := by simp
  obj := fun i h st b hb => by
    obtain ⟨hz, hTI, ⟨w1, w2, w3, hTO⟩, h1, h2, h3⟩ := st
    have e' : b = z ∨ b = TI ∨ b = TO ∨ b = i1 ∨ b = i2 ∨ b = i3 := by simpa using hb
    rcases e' with q | q | q | q | q | q
    · rw [q]; exact ⟨_, hz, fun v q => nomatch q⟩
    · rw [q]; exact ⟨_, hTI, fun v q => nomatch q⟩
    · rw [q]; exact ⟨_, hTO, fun v q => nomatch q⟩
    · rw [q]; exact itK_obj h1
    · rw [q]; exact itK_obj h2
    · rw [q]; exact itK_obj h3
  keep := fun i h h' st kp => by
    obtain ⟨hz, hTI, ⟨w1, w2, w3, hTO⟩, h1, h2, h3⟩ := st
    exact ⟨kp z (by simp) _ hz, kp TI (by simp) _ hTI, ⟨w1, w2, w3, kp TO (by simp) _ hTO⟩, itK_at h1 fun o q => kp i1 (by simp) o q, itK_at h2 fun o q => kp i2 (by simp) o q, itK_at h3 fun o q => kp i3 (by simp) o q⟩
  item := by
    intro X hP hw hK hc i pins s σ H E I hf st hg
    subst hP hw hK
    obtain ⟨hz, hTI, ⟨w1, w2, w3, hTO⟩, h1, h2, h3⟩ := st
    obtain ⟨x1, x2, x3, y1, y2, y3, hq1, hq2, hq3, hx1, hx2, hx3⟩ := hg
    obtain ⟨t1, rv1, p1, _⟩ := inv_K I hq1
    obtain ⟨u1, hu1, ru1⟩ := rv1.get hx1
    obtain ⟨t2, rv2, p2, _⟩ := inv_K I hq2
    obtain ⟨u2, hu2, ru2⟩ := rv2.get hx2
    obtain ⟨t3, rv3, p3, _⟩ := inv_K I hq3
    obtain ⟨u3, hu3, ru3⟩ := rv3.get hx3
    have hh : X.A.in1.handled = none := I.ok.hd hc
    refine item_W (J := ItZ3 X.K k1 k2 k3 a1 a2 a3) (tn := fun i h => IsZip h z TI TO .none ∧ IsTupOf3 h TI (.ref i1) (.ref i2) (.ref i3) ∧ (∃ u1 u2 u3, IsTupOf3 h TO u1 u2 u3) ∧ itK k1 h i1 a1 i ∧ itK k2 h i2 a2 i ∧ itK k3 h i3 a3 i) (WalksT.zipD3 D (draws_K hh k1 i1 a1 hn.1 t1.toArray) (draws_K hh k2 i2 a2 hn.2.1 t2.toArray) (draws_K hh k3 i3 a3 hn.2.2 t3.toArray)) I (fun b hb => ?_) hf (fun b hb => ?_) ?_ ⟨hz, hTI, ⟨w1, w2, w3, hTO⟩, ⟨h1, p1⟩, ⟨h2, p2⟩, ⟨h3, p3⟩⟩ (fun h' q => ?_) (fun vals q => ?_)
    · simp only [List.mem_cons, List.not_mem_nil, or_false] at hb ⊢
      rcases hb with q | q | q | q | q <;> simp [q]
    · have e' : b = z ∨ b = TI ∨ b = TO ∨ b = i1 ∨ b = i2 ∨ b = i3 := by simpa using hb
      rcases e' with q | q | q | q | q | q
      · rw [q]; exact ⟨_, hz⟩
      · rw [q]; exact ⟨_, hTI⟩
      · rw [q]; exact ⟨_, hTO⟩
      · rw [q]; obtain ⟨o, e, _⟩ := itK_obj h1; exact ⟨o, e⟩
      · rw [q]; obtain ⟨o, e, _⟩ := itK_obj h2; exact ⟨o, e⟩
      · rw [q]; obtain ⟨o, e, _⟩ := itK_obj h3; exact ⟨o, e⟩
    · have l1 := (List.getElem?_eq_some_iff.mp hu1).1
      have l2 := (List.getElem?_eq_some_iff.mp hu2).1
      have l3 := (List.getElem?_eq_some_iff.mp hu3).1
      simp only [List.size_toArray]
      omega
    · obtain ⟨q1, q2, q3, q4, q5, q6⟩ := q
      exact ⟨q1, q2, q3, q4.1, q5.1, q6.1⟩
    · obtain ⟨v1, v2, v3, hv1, hv2, hv3, rfl⟩ := q
      have ev1 : v1 = u1 := by
        rw [List.getElem?_toArray, hu1] at hv1
        exact (Option.some.inj hv1).symm
      subst ev1
      have ev2 : v2 = u2 := by
        rw [List.getElem?_toArray, hu2] at hv2
        exact (Option.some.inj hv2).symm
      subst ev2
      have ev3 : v3 = u3 := by
        rw [List.getElem?_toArray, hu3] at hv3
        exact (Option.some.inj hv3).symm
      subst ev3
      exact ⟨[y1, y2, y3], (.cons ru1 (.cons ru2 (.cons ru3 .nil))), by show 3 ≤ sizeLine; decide, fun T hT => ⟨T, y1, y2, y3, rfl, hT, rfl, fun ys hy => by rw [inv_inj I hy hq1]; exact hx1, fun ys hy => by rw [inv_inj I hy hq2]; exact hx2, fun ys hy => by rw [inv_inj I hy hq3]; exact hx3⟩⟩
  done := by
    intro X hP hw hK hc i pins s σ H E I hf st hg
    subst hP hw hK
    obtain ⟨hz, hTI, ⟨w1, w2, w3, hTO⟩, h1, h2, h3⟩ := st
    obtain ⟨x1, x2, x3, hq1, hq2, hq3, hi⟩ := hg
    obtain ⟨t1, rv1, p1, _⟩ := inv_K I hq1
    have l1 := rv1.length
    obtain ⟨t2, rv2, p2, _⟩ := inv_K I hq2
    have l2 := rv2.length
    obtain ⟨t3, rv3, p3, _⟩ := inv_K I hq3
    have l3 := rv3.length
    have hh : X.A.in1.handled = none := I.ok.hd hc
    have ei : i = min (min t1.toArray.size t2.toArray.size) t3.toArray.size := by simp only [List.size_toArray]; omega
    subst ei
    refine done_W (WalksT.zipD3 D (draws_K hh k1 i1 a1 hn.1 t1.toArray) (draws_K hh k2 i2 a2 hn.2.1 t2.toArray) (draws_K hh k3 i3 a3 hn.2.2 t3.toArray)) I (fun b hb => ?_) hf ⟨hz, hTI, ⟨w1, w2, w3, hTO⟩, ⟨h1, p1⟩, ⟨h2, p2⟩, ⟨h3, p3⟩⟩
    simp only [List.mem_cons, List.not_mem_nil, or_false] at hb ⊢
    rcases hb with q | q | q | q | q <;> simp [q]
  self := fun A i s Q E st h => wpAny_pyIter_zip st.1 h
def iZ3 (K : PySem.W.Frag) (ta : TA) : TI := fun σ H R => ta σ H fun vs H1 => ∃ k1 k2 k3 a1 a2 a3 x1 x2 x3, vs = [.ref a1, .ref a2, .ref a3] ∧ SqK K k1 H1 a1 x1 ∧ SqK K k2 H1 a2 x2 ∧ SqK K k3 H1 a3 x3 ∧ R (ItZ3 K k1 k2 k3 a1 a2 a3) H1
theorem pi_z3 {X : Cx} {e1 e2 e3 : Expr} {ta : TA} {p pos tpos : Pos} {elts : List Expr} {kk : Nat} (hg : Gl X "zip") (hm : X.mg "zip" = none) (ha : PA X [e1, e2, e3] ta)
    (hs : starEach [e1, e2, e3] X.env = (false, eval e1 X.env) :: starEach [e2, e3] X.env := by rfl) (hpl : (backTo pos (starEach [e2, e3] X.env)).any (·.1) = false := by rfl) :
    PI X (.Tuple elts kk tpos) (.Call (.Name "zip" p) [e1, e2, e3] [] pos) (iZ3 X.K ta) := by
  refine ⟨fun pins s σ H R I h => ?_⟩
  refine Call_ (ld_blt I hg hm PyProof.Rows.boot_zip (PyProof.Rows.callWith_type1 (thn (ha.run pos pins s σ H _ I h) fun us s1 ⟨vs, H1, I1, r1, q1⟩ => ?_) hs hpl))
  obtain ⟨k1, k2, k3, a1, a2, a3, x1, x2, x3, ex, hq1, hq2, hq3, q⟩ := q1
  subst ex
  rcases r1 with _ | ⟨r1', r1⟩
  cases r1'
  rcases r1 with _ | ⟨r2', r1⟩
  cases r2'
  rcases r1 with _ | ⟨r3', r1⟩
  cases r3'
  cases r1
  obtain ⟨t1, rv1, p1, lt1⟩ := inv_K I1 hq1
  obtain ⟨t2, rv2, p2, lt2⟩ := inv_K I1 hq2
  obtain ⟨t3, rv3, p3, lt3⟩ := inv_K I1 hq3
  refine zip_begins3 (begins_K k1 a1 t1.toArray) (begins_K k2 a2 t2.toArray) (begins_K k3 a3 t3.toArray) p1 p2 p3 fun h' hz hTI hTO g1 g2 g3 hsz hk => wpAny_pyIter_zip hz ?_
  have I2 : Inv X pins σ H1 { s1 with heap := h' } := I1.kept (t' := s1.toks) hk
  refine ⟨s1.heap.objs.size + 5, [s1.heap.objs.size + 5, s1.heap.objs.size + 3, s1.heap.objs.size + 4, s1.heap.objs.size, s1.heap.objs.size + 1, s1.heap.objs.size + 2], _, _, H1, rfl, I2, turn_z3 k1 k2 k3 (zip_sep3 (N := s1.heap.objs.size) (fp1 := [a1]) (fp2 := [a2]) (fp3 := [a3]) (fun b hb => by rw [List.mem_singleton.mp hb]; exact lt1) (fun b hb => by rw [List.mem_singleton.mp hb]; exact lt2) (fun b hb => by rw [List.mem_singleton.mp hb]; exact lt3)) ⟨Nat.ne_of_lt (Nat.lt_of_lt_of_le lt1 (by omega)), Nat.ne_of_lt (Nat.lt_of_lt_of_le lt2 (by omega)), Nat.ne_of_lt (Nat.lt_of_lt_of_le lt3 (by omega))⟩, ⟨hz, hTI, ⟨_, _, _,  hTO⟩, itK_new g1, itK_new g2, itK_new g3⟩, fun c hcm => ?_, q⟩
  have hle : s1.heap.objs.size ≤ c := by
    simp only [List.mem_cons, List.not_mem_nil, or_false] at hcm
    rcases hcm with q | q | q | q | q | q <;> (rw [q]; first | exact Nat.le_add_right _ _ | exact Nat.le_refl _)
  exact I1.fpOk hle (I1.hok.fresh hle)
end Pd

/-! Pi: enumerate and zip by data. -/
namespace Pd
open PySem L2 PyProof.Rows
def seqO : D → Option (List D)
  | .list l => some l
  | .tuple l => some l
  | .ftup l => some l
  | _ => none
def enumD : Nat → List D → List D
  | _, [] => []
  | i, d :: l => .tuple [.int (i : Nat), d] :: enumD (i + 1) l
def zipD2 : List D → List D → List D
  | a :: l, b :: m => .tuple [a, b] :: zipD2 l m
  | _, _ => []
def zipD3 : List D → List D → List D → List D
  | a :: l, b :: m, c :: n => .tuple [a, b, c] :: zipD3 l m n
  | _, _, _ => []
theorem enumD_len : ∀ (i : Nat) (l : List D), (enumD i l).length = l.length
  | _, [] => rfl
  | i, _ :: l => by simp only [enumD, List.length_cons, enumD_len (i + 1) l]
theorem zipD2_len : ∀ (l m : List D), (zipD2 l m).length = min l.length m.length
  | [], m => by simp [zipD2]
  | a :: l, [] => by simp [zipD2]
  | a :: l, b :: m => by simp only [zipD2, List.length_cons, zipD2_len l m]; omega
theorem zipD3_len : ∀ (l m n : List D), (zipD3 l m n).length = min (min l.length m.length) n.length
  | [], m, n => by simp [zipD3]
  | a :: l, [], n => by simp [zipD3]
  | a :: l, b :: m, [] => by simp [zipD3]
  | a :: l, b :: m, c :: n => by simp only [zipD3, List.length_cons, zipD3_len l m n]; omega
theorem enumD_get : ∀ {j i : Nat} {l : List D} {d : D}, (enumD j l)[i]? = some d → ∃ e, l[i]? = some e ∧ d = .tuple [.int (j + i : Nat), e]
  | j, i, [], d, h => by simp [enumD] at h
  | j, 0, e :: l, d, h => by simp [enumD] at h; exact ⟨e, rfl, h.symm⟩
  | j, i + 1, e :: l, d, h => by
    simp only [enumD, List.getElem?_cons_succ] at h ⊢
    obtain ⟨e', h1, h2⟩ := enumD_get h
    exact ⟨e', h1, by rw [h2, show j + 1 + i = j + (i + 1) by omega]⟩
theorem zipD2_get : ∀ {i : Nat} {l m : List D} {d : D}, (zipD2 l m)[i]? = some d → ∃ a b, l[i]? = some a ∧ m[i]? = some b ∧ d = .tuple [a, b]
  | i, [], m, d, h => by simp [zipD2] at h
  | i, a :: l, [], d, h => by simp [zipD2] at h
  | 0, a :: l, b :: m, d, h => by simp [zipD2] at h; exact ⟨a, b, rfl, rfl, h.symm⟩
  | i + 1, a :: l, b :: m, d, h => by
    simp only [zipD2, List.getElem?_cons_succ] at h ⊢
    exact zipD2_get h
theorem zipD3_get : ∀ {i : Nat} {l m n : List D} {d : D}, (zipD3 l m n)[i]? = some d → ∃ a b c, l[i]? = some a ∧ m[i]? = some b ∧ n[i]? = some c ∧ d = .tuple [a, b, c]
  | i, [], m, n, d, h => by simp [zipD3] at h
  | i, a :: l, [], n, d, h => by simp [zipD3] at h
  | i, a :: l, b :: m, [], d, h => by simp [zipD3] at h
  | 0, a :: l, b :: m, c :: n, d, h => by simp [zipD3] at h; exact ⟨a, b, c, rfl, rfl, rfl, h.symm⟩
  | i + 1, a :: l, b :: m, c :: n, d, h => by
    simp only [zipD3, List.getElem?_cons_succ] at h ⊢
    exact zipD3_get h
section
variable {K : PySem.W.Frag}
theorem rp_seq {Hh : Hp} {v : V} {d : D} {l : List D} (r : Rp K Hh v d) (hd : seqO d = some l) : ∃ k a xs, v = .ref a ∧ SqK K k Hh a xs ∧ RpA K Hh xs l ∧ xs.length ≤ sizeLine := by
  cases r <;> cases hd
  · rename_i a xs h1 h2 h3
    exact ⟨true, a, xs, rfl, SqL.of h1, h3, h2⟩
  · rename_i a xs h1 h2 h3
    exact ⟨false, a, xs, rfl, SqT.of h1, h3, h2⟩
  · rename_i a o xs h1 h0 h2 h3
    exact ⟨false, a, xs, rfl, .inl (.inr ⟨o, h1⟩), h3, h2⟩
theorem sqK_up {k : Bool} {H H' : Hp} {a : Addr} {xs : List V} (h : SqK K k H a xs) (s : Same H H') : SqK K k H' a xs := by
  cases k
  · exact Same.seqT s h
  · exact Same.seq s h
theorem sqK_keep {k : Bool} {B B' : List Addr} {H1 H2 : Hp} {a : Addr} {xs : List V} (hB : ∀ b ∈ B, b ∈ B') (h : SqK K k (hid B' H1) a xs) (kp : ∀ b o, b ∉ B ∨ frzO o = true → H1 b = some o → H2 b = some o) : SqK K k H2 a xs :=
  sqK_up h fun b o q => by
    obtain ⟨q1, q2⟩ := hid_some q
    exact kp b o (.inl fun z => q1 (hB b z)) q2
theorem itd_new {B B' : List Addr} {J : It} {ds : List D} {H1 : Hp} (hB : ∀ b ∈ B, b ∈ B')
    (h : ∀ H2, (∀ b o, b ∉ B ∨ frzO o = true → H1 b = some o → H2 b = some o) → (∀ i, i < ds.length → J.go i H2) ∧ J.stop ds.length H2 ∧ ∀ i x H3, J.yld i H2 x H3 → ∃ T ys, x = .ref T ∧ H2 T = none ∧ H3 = upd H2 T (.tup ys) ∧ ys.length ≤ sizeLine ∧ ∀ d, ds[i]? = some d → ∃ es, d = .tuple es ∧ RpA K (hid B' H1) ys es) :
    ItD K B B' J ds H1 := fun H2 N k n dm => by
  obtain ⟨h1, h2, h3⟩ := h H2 k
  refine ⟨h1, h2, fun i x H3 d hd y => ?_⟩
  obtain ⟨T, ys, rfl, hT, rfl, hz, q⟩ := h3 i x H3 y
  obtain ⟨es, rfl, r⟩ := q d hd
  refine ⟨same_upd hT, .tuple (hid_of (dm.free hT) upd_same) hz (r.up fun b o q => ?_)⟩
  obtain ⟨q1, q2⟩ := hid_some q
  have q3 := k b o (.inl fun z => q1 (hB b z)) q2
  refine hid_of (fun z => ?_) (same_upd hT b o q3)
  rcases n b z with z | z
  · exact q1 z
  · rw [q2] at z
    cases z
end
section
variable {X : Cx} {c : Pc} {lp : Bool} {e e1 e2 e3 : Expr} {elts : List Expr} {kk : Nat} {pos p tpos : Pos} {f f1 f2 f3 : DE}
def ofSeq (d : D) (k : List D → Out (List D)) : Out (List D) := match seqO d with
  | some l => k l
  | none => .bad
theorem ofSeq_wp {d : D} {k : List D → Out (List D)} {P : List D → Prop} {E : Nat → Prop} (h : (ofSeq d k).wp P E) : ∃ l, seqO d = some l ∧ (k l).wp P E := by
  unfold ofSeq at h
  cases e : seqO d with
  | none => rw [e] at h; exact h.elim
  | some l => rw [e] at h; exact ⟨l, rfl, h⟩
def dEnum (f : DE) : DA := fun ρ => (f ρ).bind fun d => ofSeq d fun l => .ok (enumD 0 l)
def dZip2 (f g : DE) : DA := fun ρ => (f ρ).bind fun d => (g ρ).bind fun e => ofSeq d fun l => ofSeq e fun m => .ok (zipD2 l m)
def dZip3 (f g h : DE) : DA := fun ρ => (f ρ).bind fun d => (g ρ).bind fun e => (h ρ).bind fun u => ofSeq d fun l => ofSeq e fun m => ofSeq u fun n => .ok (zipD3 l m n)
theorem pid_enum (hm : X.mg "enumerate" = none) (h : PD X c true e f) (hg : Gl X "enumerate" := by rfl) (hs : starEach [e] X.env = (false, eval e X.env) :: starEach [] X.env := by rfl) (hs2 : starEach [] X.env = [] := by rfl) : PID X c lp (.Tuple elts kk tpos) (.Call (.Name "enumerate" p) [e] [] pos) (dEnum f) :=
  PI.imp (pi_enumK hg hm (pa_cons h pa_nil hs) (by rw [hs, hs2])) fun σ H R ⟨F, ρ, E, w⟩ => ⟨F, ρ, E, (Out.wp_bind w).imp (fun d k v H1 s1 r => by
    obtain ⟨l, hd, q⟩ := ofSeq_wp k
    obtain ⟨kd, a, xs, rfl, hq, hr, hz⟩ := rp_seq r hd
    refine ⟨kd, a, xs, rfl, sqK_up hq hid_sub, q _ H1 s1 (by rw [enumD_len, ← hr.len]; exact hz) (itd_new bOf_sub fun H2 kp => ?_)⟩
    have hq2 := sqK_keep bOf_sub hq kp
    rw [enumD_len]
    refine ⟨fun i hi => ?_, ⟨xs, hq2, hr.len⟩, fun i x H3 y => ?_⟩
    · exact ⟨xs, xs[i]'(by rw [hr.len]; exact hi), hq2, List.getElem?_eq_getElem _⟩
    · obtain ⟨T, y1, rfl, hT, rfl, fx⟩ := y
      refine ⟨T, _, rfl, hT, rfl, by show 2 ≤ sizeLine; decide, fun d' hd' => ?_⟩
      obtain ⟨e', g1, rfl⟩ := enumD_get hd'
      obtain ⟨v', g2, g3⟩ := hr.get g1
      have := fx xs hq2
      rw [g2] at this
      cases this
      rw [Nat.zero_add]
      exact ⟨_, rfl, .cons (.int _) (.cons g3 .nil)⟩) fun _ z => z⟩
theorem pid_zip2 (hm : X.mg "zip" = none) (h1 : PD X c true e1 f1) (h2 : PD X c true e2 f2) (hg : Gl X "zip" := by rfl) (hs : starEach [e1, e2] X.env = (false, eval e1 X.env) :: starEach [e2] X.env := by rfl) (hs2 : starEach [e2] X.env = (false, eval e2 X.env) :: starEach [] X.env := by rfl)
    (hpl : (backTo pos (starEach [e2] X.env)).any (·.1) = false := by rfl) : PID X c lp (.Tuple elts kk tpos) (.Call (.Name "zip" p) [e1, e2] [] pos) (dZip2 f1 f2) :=
  PI.imp (pi_z2 hg hm (pa_cons h1 (pa_cons h2 pa_nil hs2) hs) hs hpl) fun σ H R ⟨F, ρ, E, w⟩ => ⟨F, ρ, E, (Out.wp_bind w).imp (fun d k v H1 s1 r => ⟨F, ρ, E.up s1, (Out.wp_bind k).imp (fun d2 k2 v2 H2 s2 r2 => by
    obtain ⟨l, hd, k3⟩ := ofSeq_wp k2
    obtain ⟨m, hd2, q⟩ := ofSeq_wp k3
    obtain ⟨ka, a, xs, rfl, hq, hr, hz⟩ := rp_seq (r.up (hid_mono s2)) hd
    obtain ⟨kb, b, ys, rfl, hq', hr', hz'⟩ := rp_seq r2 hd2
    refine ⟨ka, kb, a, b, xs, ys, rfl, sqK_up hq hid_sub, sqK_up hq' hid_sub, q _ H2 (s1.trans s2) (by rw [zipD2_len, ← hr.len]; omega) (itd_new bOf_sub fun H3 kp => ?_)⟩
    have g1 := sqK_keep bOf_sub hq kp
    have g2 := sqK_keep bOf_sub hq' kp
    rw [zipD2_len]
    refine ⟨fun i hi => ?_, ⟨xs, ys, g1, g2, by rw [hr.len, hr'.len]⟩, fun i x H4 y => ?_⟩
    · exact ⟨xs, ys, xs[i]'(by rw [hr.len]; omega), ys[i]'(by rw [hr'.len]; omega), g1, g2, List.getElem?_eq_getElem _, List.getElem?_eq_getElem _⟩
    · obtain ⟨T, y1, y2, rfl, hT, rfl, fx, fy⟩ := y
      refine ⟨T, _, rfl, hT, rfl, by show 2 ≤ sizeLine; decide, fun d' hd' => ?_⟩
      obtain ⟨a', b', u1, u2, rfl⟩ := zipD2_get hd'
      obtain ⟨v1, w1, w2⟩ := hr.get u1
      obtain ⟨v2, w3, w4⟩ := hr'.get u2
      have z1 := fx xs g1
      have z2 := fy ys g2
      rw [w1] at z1
      rw [w3] at z2
      cases z1
      cases z2
      exact ⟨_, rfl, .cons w2 (.cons w4 .nil)⟩) fun _ z => z.up s1⟩) fun _ z => z⟩
theorem pid_zip3 (hm : X.mg "zip" = none) (h1 : PD X c true e1 f1) (h2 : PD X c true e2 f2) (h3 : PD X c true e3 f3) (hg : Gl X "zip" := by rfl) (hs : starEach [e1, e2, e3] X.env = (false, eval e1 X.env) :: starEach [e2, e3] X.env := by rfl) (hs2 : starEach [e2, e3] X.env = (false, eval e2 X.env) :: starEach [e3] X.env := by rfl)
    (hs3 : starEach [e3] X.env = (false, eval e3 X.env) :: starEach [] X.env := by rfl) (hpl : (backTo pos (starEach [e2, e3] X.env)).any (·.1) = false := by rfl) : PID X c lp (.Tuple elts kk tpos) (.Call (.Name "zip" p) [e1, e2, e3] [] pos) (dZip3 f1 f2 f3) :=
  PI.imp (pi_z3 hg hm (pa_cons h1 (pa_cons h2 (pa_cons h3 pa_nil hs3) hs2) hs) hs hpl) fun σ H R ⟨F, ρ, E, w⟩ => ⟨F, ρ, E, (Out.wp_bind w).imp (fun d k v H1 s1 r => ⟨F, ρ, E.up s1, (Out.wp_bind k).imp (fun d2 k2 v2 H2 s2 r2 => ⟨F, ρ, E.up (s1.trans s2), (Out.wp_bind k2).imp (fun d3 k3 v3 H3 s3 r3 => by
    obtain ⟨l, hd, k4⟩ := ofSeq_wp k3
    obtain ⟨m, hd2, k5⟩ := ofSeq_wp k4
    obtain ⟨n, hd3, q⟩ := ofSeq_wp k5
    obtain ⟨ka, a, xs, rfl, hq, hr, hz⟩ := rp_seq (r.up (hid_mono (s2.trans s3))) hd
    obtain ⟨kb, b, ys, rfl, hq', hr', hz'⟩ := rp_seq (r2.up (hid_mono s3)) hd2
    obtain ⟨kc, b3, zs, rfl, hq3, hr3, hz3⟩ := rp_seq r3 hd3
    refine ⟨ka, kb, kc, a, b, b3, xs, ys, zs, rfl, sqK_up hq hid_sub, sqK_up hq' hid_sub, sqK_up hq3 hid_sub, q _ H3 ((s1.trans s2).trans s3) (by rw [zipD3_len, ← hr.len]; omega) (itd_new bOf_sub fun H4 kp => ?_)⟩
    have g1 := sqK_keep bOf_sub hq kp
    have g2 := sqK_keep bOf_sub hq' kp
    have g3 := sqK_keep bOf_sub hq3 kp
    rw [zipD3_len]
    refine ⟨fun i hi => ?_, ⟨xs, ys, zs, g1, g2, g3, by rw [hr.len, hr'.len, hr3.len]⟩, fun i x H5 y => ?_⟩
    · exact ⟨xs, ys, zs, xs[i]'(by rw [hr.len]; omega), ys[i]'(by rw [hr'.len]; omega), zs[i]'(by rw [hr3.len]; omega), g1, g2, g3, List.getElem?_eq_getElem _, List.getElem?_eq_getElem _, List.getElem?_eq_getElem _⟩
    · obtain ⟨T, y1, y2, y3, rfl, hT, rfl, fx, fy, fz⟩ := y
      refine ⟨T, _, rfl, hT, rfl, by show 3 ≤ sizeLine; decide, fun d' hd' => ?_⟩
      obtain ⟨a', b', c', u1, u2, u3, rfl⟩ := zipD3_get hd'
      obtain ⟨v1, w1, w2⟩ := hr.get u1
      obtain ⟨v2, w3, w4⟩ := hr'.get u2
      obtain ⟨v3, w5, w6⟩ := hr3.get u3
      have z1 := fx xs g1
      have z2 := fy ys g2
      have z3 := fz zs g3
      rw [w1] at z1
      rw [w3] at z2
      rw [w5] at z3
      cases z1
      cases z2
      cases z3
      exact ⟨_, rfl, .cons w2 (.cons w4 (.cons w6 .nil))⟩) fun _ z => z.up (s1.trans s2)⟩) fun _ z => z.up s1⟩) fun _ z => z⟩
end
end Pd

/-! Pj: d.get, list of a dict, what is never reached. -/
namespace Pd
open PySem L2 PyProof.Rows
section
variable {X : Cx} {c : Pc} {m : Bool} {e e1 e2 : Expr} {pos p apos cpos : Pos} {f g h : DE}
def dMulF (f g : DE) : DE := fun ρ => (dOp mulD f g ρ).bind fun d => match d with | .list l => .ok (.list l) | _ => .bad
theorem pf_mulF {a b : Expr} (ha : PD X c true a f) (hb : PD X c true b g) : PF X c .l (.BinOp a .Mult b pos) (dMulF f g) := pf_mul ha hb
def dBadS : DS := fun _ => .bad
def dBadE : DE := fun _ => .bad
theorem ps_asgGV {tg e' : Expr} {is : List Nat} {b : D → Env → Option Env} (h : PD X c true e' f) (hg : PGD X c tg is b) (ho : allNo c.O is = true) (ps : ∀ {u : TE} {g : TG}, PE X e' u → PG X tg g → PS X (.Assign [tg] e' pos) (tAsg u g)) : PSD X c (.Assign [tg] e' pos) (dAsgG b f) :=
  ps_asgG h hg (fun i hi => List.all_eq_true.mp ho i hi) ps
/-- a statement that is never come to -/
theorem ps_bad {st : Stmt} : PSD X c st dBadS := ⟨fun pins s σ H Dn I q => by
  obtain ⟨_, _, _, w⟩ := q
  exact w.elim⟩
theorem pd_bad : PD X c m e dBadE := ⟨fun pins s σ H Q I q => by
  obtain ⟨_, _, _, w⟩ := q
  exact w.elim⟩
def getO (d k x : D) : Option D := match d with
  | .dk kvs => (dkey k).map fun k => match valV kvs k with
    | some v => dv v
    | none => x
  | _ => none
def dGet1 (f g : DE) : DE := fun ρ => (f ρ).bind fun d => match d with
  | .dk kvs => (g ρ).bind fun k => .of (getO (.dk kvs) k .none)
  | _ => .bad
def dGet2 (f g h : DE) : DE := fun ρ => (f ρ).bind fun d => match d with
  | .dk kvs => (g ρ).bind fun k => (h ρ).bind fun x => if x.sc.isSome = true then .of (getO (.dk kvs) k x) else .bad
  | _ => .bad
theorem val_sc {kvs : List (Key × V)} {k : Key} {v : V} (h2 : (kvs.all fun p => scV p.2) = true) (e3 : valV kvs k = some v) : scV v = true := by
  unfold valV at e3
  obtain ⟨p, hp, rfl⟩ := Option.map_eq_some_iff.mp e3
  exact List.all_eq_true.mp h2 p (List.mem_of_find?_eq_some hp)
theorem rp_sc {K : PySem.W.Frag} {H H' : Hp} {v : V} {d : D} (r : Rp K H v d) (h : d.sc.isSome = true) : Rp K H' v d := by
  cases r <;> first | exact .none | exact .bool _ | exact .int _ | exact .str _ | cases h
theorem pd_get1 {k : Nat} (hr : Room k X.A) (ho : PD X c false e f) (he : PD X c false e1 g) (m1 : M1 X e "get" apos e1 cpos) : PD X c m (.Call (.Attribute e "get" apos) [e1] [] cpos) (dGet1 f g) := by
  have hu := hr.units
  exact PE.imp (pe_dget1 (by omega) ho he m1) fun σ H Q ⟨F, ρ, E, w⟩ => ⟨F, ρ, E, (Out.wp_bind w).imp (fun d k v H1 s1 r => by
    cases d with
    | dk kvs =>
      cases r with
      | @dk a _ h1 h2 =>
        refine ⟨a, rfl, .inl ⟨kvs, .inl (hid_sub _ _ h1)⟩, F, ρ, E.up s1, (Out.wp_bind k).imp (fun y k2 u H2 s2 r2 => ?_) fun _ z => z.up s1⟩
        obtain ⟨d', e', q⟩ := of_wp k2
        obtain ⟨ky, e1, rfl⟩ := Option.map_eq_some_iff.mp (show (dkey y).map _ = some d' from e')
        have ex := dkey_V r2 e1
        subst ex
        refine ⟨valV kvs ky, DGet.k (k := ky) (s2 _ _ (hid_sub _ _ h1)), ?_⟩
        cases hv : valV kvs ky with
        | none => rw [hv] at q; exact q _ H2 (s1.trans s2) .none
        | some v0 => rw [hv] at q; exact q _ H2 (s1.trans s2) (Rp.of_scV (val_sc h2 hv))
    | _ => exact k.elim) fun _ z => z⟩
theorem pd_get2 {k : Nat} (hr : Room k X.A) (ho : PD X c false e f) (he : PD X c false e1 g) (hf : PD X c false e2 h) (m2 : M2 X e "get" apos e1 e2 cpos) : PD X c m (.Call (.Attribute e "get" apos) [e1, e2] [] cpos) (dGet2 f g h) := by
  have hu := hr.units
  exact PE.imp (pe_dget2 (by omega) ho he hf m2) fun σ H Q ⟨F, ρ, E, w⟩ => ⟨F, ρ, E, (Out.wp_bind w).imp (fun d k v H1 s1 r => by
    cases d with
    | dk kvs =>
      cases r with
      | @dk a _ h1 h2 =>
        refine ⟨a, rfl, .inl ⟨kvs, .inl (hid_sub _ _ h1)⟩, F, ρ, E.up s1, (Out.wp_bind k).imp (fun y k2 u H2 s2 r2 => ⟨F, ρ, E.up (s1.trans s2), (Out.wp_bind k2).imp (fun x k3 u3 H3 s3 r3 => ?_) fun _ z => z.up (s1.trans s2)⟩) fun _ z => z.up s1⟩
        by_cases hx : x.sc.isSome = true
        · rw [if_pos hx] at k3
          obtain ⟨d', e', q⟩ := of_wp k3
          obtain ⟨ky, e1, rfl⟩ := Option.map_eq_some_iff.mp (show (dkey y).map _ = some d' from e')
          have ex := dkey_V r2 e1
          subst ex
          refine ⟨valV kvs ky, DGet.k (k := ky) (s3 _ _ (s2 _ _ (hid_sub _ _ h1))), ?_⟩
          cases hv : valV kvs ky with
          | none => rw [hv] at q; exact q _ H3 ((s1.trans s2).trans s3) (rp_sc r3 hx)
          | some v0 => rw [hv] at q; exact q _ H3 ((s1.trans s2).trans s3) (Rp.of_scV (val_sc h2 hv))
        · rw [if_neg hx] at k3
          exact k3.elim
    | _ => exact k.elim) fun _ z => z⟩
def dKeys (f : DE) : DE := fun ρ => (f ρ).bind fun d => match d with
  | .dk kvs => if kvs.length ≤ 100000 then .ok (.list (kvs.map fun p => keyD p.1)) else .bad
  | _ => .bad
/-- list(d), d a dict (owned or not) -/
theorem pd_keys (hc : X.calm = true) (hm : X.mg "list" = none) (ho : PD X c false e f) {x : Str} (hx : x = "list") (hg : Gl X x) (he : starEach [e] X.env = (false, eval e X.env) :: starEach [] X.env) (hpl : (backTo pos (starEach [] X.env)).any (·.1) = false) : PD X c m (.Call (.Name x p) [e] [] pos) (dKeys f) := by
  subst hx
  exact PD.weak (PE.imp (pe_callTy (call_list_dK hc) hg hm (by decide +kernel) (pa_cons ho pa_nil he) (by decide) (by decide) he hpl) fun σ H Q ⟨F, ρ, E, w⟩ => ⟨F, ρ, E, (Out.wp_bind w).imp (fun d k v H1 s1 r => by
    cases d with
    | dk kvs =>
      obtain ⟨hl, q⟩ := if_wp (show (if kvs.length ≤ 100000 then Out.ok (D.list (kvs.map fun p => keyD p.1)) else .bad).wp _ _ from k)
      cases r with
      | @dk a _ h1 h2 =>
        refine ⟨_, _, rfl, hid_sub _ _ h1, fun p hp => ?_⟩
        obtain ⟨s2, r2⟩ := new_list (K := X.K) ((E.up s1).hdom true) hp (by rw [List.length_map]; exact cap_ok hl) (keys_R kvs)
        exact q _ _ (s1.trans s2) r2
    | _ => exact k.elim) fun _ z => z⟩)
end
end Pd

/-! Pk0: list.index on ints. -/
namespace Pd
open PySem L2 PyProof.Rows
section
variable {X : Cx} {c : Pc} {m : Bool} {e e1 : Expr} {apos cpos : Pos} {f g : DE}
def idxD (d x : D) : Option D := match d, x with
  | .list l, .int i => (intsOf l).bind fun ns => if i ∈ ns then some (.int (ns.findIdx fun n => decide (n = i))) else none
  | _, _ => none
def dIndex (f g : DE) : DE := fun ρ => (f ρ).bind fun d => match d with
  | .list l => (g ρ).bind fun y => .of (idxD (.list l) y)
  | _ => .bad
theorem pd_index (ho : PD X c false e f) (he : PD X c false e1 g) (hb : attributeBase e "index" X.env (eval e X.env) = eval e X.env)
    (hfew : ((backTo cpos (starEach (e1 :: []) X.env)).all (fun x => !x.1) && (backToKw cpos (keywordEach [] X.env)).all (fun x => x.1.isSome)
      && decide ((e1 :: []).length + ([] : List Keyword).length + (if ([] : List Keyword).isEmpty then 0 else 1) < 30)) = true)
    (hline : (apos.endLine == cpos.line) = true) (hs : starEach (e1 :: []) X.env = (false, eval e1 X.env) :: starEach [] X.env) (hplain : (backTo cpos (starEach [] X.env)).any (·.1) = false) : PD X c m (.Call (.Attribute e "index" apos) [e1] [] cpos) (dIndex f g) :=
  PE.imp (pe_bm PySem.F.plainAttrs_list PySem.F.slot_list_index PySem.F.type_list_index mt_index ho (pa_cons he pa_nil hs) hb hfew hline hs hplain) fun σ H Q ⟨F, ρ, E, w⟩ => ⟨F, ρ, E, (Out.wp_bind w).imp (fun d k v H1 s1 r => by
    cases d with
    | list l =>
      cases r with
      | @list a xs _ h1 h2 h3 =>
        refine ⟨.inl ⟨rfl, _, SqL.of (hid_sub _ _ h1)⟩, F, ρ, E.up s1, (Out.wp_bind k).imp (fun y k2 u H2 s2 r2 => ?_) fun _ z => z.up s1⟩
        obtain ⟨d', e', q⟩ := of_wp k2
        cases y <;> try (cases e'; done)
        rename_i i
        cases r2
        obtain ⟨ns, en, e2⟩ := Option.bind_eq_some_iff.mp (show (intsOf l).bind (fun ns => if i ∈ ns then some (D.int (ns.findIdx fun n => decide (n = i))) else none) = some d' from e')
        obtain ⟨hi, rfl⟩ := if_some e2
        have el := intsOf_some en
        subst el
        have ex := RpA.ints h3
        subst ex
        have hlt : (ns.findIdx fun n => decide (n = i)) < ns.length := List.findIdx_lt_length_of_exists ⟨i, hi, by simp⟩
        refine ⟨a, _, .int i, _, .int i, rfl, rfl, SqL.of (s2 _ _ (hid_sub _ _ h1)), rfl, ?_, ?_, ?_, fun m z' hm hz => ?_, q _ H2 (s1.trans s2) (.int _)⟩
        · rw [List.all_map]
          exact List.all_eq_true.mpr fun _ _ => rfl
        · have := List.findIdx_getElem (w := hlt)
          rw [List.getElem?_map, List.getElem?_eq_getElem hlt]
          simpa using this
        · simp [eqV]
        · rw [List.getElem?_map] at hz
          obtain ⟨n, hn, rfl⟩ := Option.map_eq_some_iff.mp hz
          obtain ⟨hl, rfl⟩ := List.getElem?_eq_some_iff.mp hn
          have := List.not_of_lt_findIdx hm
          simp at this
          simp [eqV, this]
    | _ => exact k.elim) fun _ z => z⟩
end
end Pd

/-! Pl: raise, try by data. -/
namespace Pd
open PySem L2 PyProof.Rows
/-- what the text's head says of an own class of errors -/
structure ExF (K : PySem.W.Frag) (mg : Str → Option Value) (x : Str) (C : Addr) : Prop where
  q : PySem.W.excIn K C [.type "ValueError", .type "Exception", .type "BaseException", .type "object"] "ValueError.__new__" = true
  g : mg x = some (.ref C)
  k : PySem.W.keepIn K (.ref C) = true
  b : PySem.W.subIn K (.ref C) (.type "BaseException") = some true
  t : PySem.W.typeIn K (.ref C) = some (.type "type")
def dRaise (n : Nat) : DS := fun ρ => .err n ρ
section
variable {X : Cx} {c : Pc} {pos p p2 p3 : Pos}
theorem ps_raiseD (n : Nat) {x msg : Str} {j : Nat} (tk : Takes X c.W) (h : ExF X.K X.mg x (c.cl n)) (hc : X.calm = true) (hg : Gl X x) (hdb : (x == ("__debug__" : Str)) = false) : PSD X c (.Raise (some (.Call (.Name x p) [.Constant (.str msg) j p2] [] p3)) none pos) (dRaise n) :=
  PS.imp (ps_raise hc tk (pmk_own PySem.F.excBase_ValueError h.q h.g h.k (raises_own h.b h.t) hg hdb)) fun Dn σ H ⟨F, ρ, E, w⟩ => (show xW X.K c F σ H n ρ from w) σ H E .refl
/-! ### expressions of an except suite -/
def SE (X : Cx) (cl : Nat → Addr) (i : Nat) (e : Expr) (f : Nat → Option V) : Prop :=
  ∀ (n : Nat) (v : V) (a : Addr) (oe : Obj) (pn : List (Addr × Obj)), f n = some v → Zc (.ref (cl n)) none oe → (∃ vs, oe.data = .fields vs) → PE (X.suite a ((a, oe) :: pn)) e (fun σ H Q => σ[i]? = some (some (.ref a)) ∧ ∀ H', Same H H' → Q v H')
variable {cl : Nat → Addr} {i : Nat} {e e1 e2 : Expr} {f g : Nat → Option V}
theorem se_bl {b : Bool} {j : Nat} : SE X cl i (.Constant (.bool b) j pos) (fun _ => some (.bl b)) := fun n v a oe pn h _ _ => by
  cases h
  exact PE.imp pe_bl fun σ H Q q => q.2 H (Same.refl H)
theorem se_int {b : Int} {j : Nat} : SE X cl i (.Constant (.int b) j pos) (fun _ => some (.int b)) := fun n v a oe pn h _ _ => by
  cases h
  exact PE.imp pe_int fun σ H Q q => q.2 H (Same.refl H)
theorem se_str {b : Str} {j : Nat} : SE X cl i (.Constant (.str b) j pos) (fun _ => some (.str b)) := fun n v a oe pn h _ _ => by
  cases h
  exact PE.imp pe_str fun σ H Q q => q.2 H (Same.refl H)
theorem se_non {j : Nat} : SE X cl i (.Constant .none j pos) (fun _ => some .non) := fun n v a oe pn h _ _ => by
  cases h
  exact PE.imp pe_non fun σ H Q q => q.2 H (Same.refl H)
def blO : Option V → Option Bool
  | some (.bl b) => some b
  | _ => none
theorem blO_some {o : Option V} {b : Bool} (h : blO o = some b) : o = some (.bl b) := by
  unfold blO at h
  split at h
  · cases h; rfl
  · cases h
def seAnd (f g : Nat → Option V) : Nat → Option V := fun n => match blO (f n) with
  | some true => g n
  | some false => some (.bl false)
  | none => none
theorem se_one {op : BoolOp} (h : SE X cl i e f) : SE X cl i (.BoolOp op [e] pos) f := fun n v a oe pn q z d => pe_one (h n v a oe pn q z d)
theorem se_and {r : List Expr} (h : SE X cl i e f) (h2 : SE X cl i (.BoolOp .And (e1 :: r) pos) g) : SE X cl i (.BoolOp .And (e :: e1 :: r) pos) (seAnd f g) := fun n v a oe pn q z d => by
  unfold seAnd at q
  cases hb : blO (f n) with
  | none => rw [hb] at q; cases q
  | some b =>
    rw [hb] at q
    have h1 := h n _ a oe pn (blO_some hb) z d
    cases b with
    | false =>
      cases q
      exact PE.imp (pe_and (tb := fun _ _ _ => False) h1 ⟨fun _ _ _ _ _ _ z => z.elim⟩) fun σ H Q w => ⟨w.1, fun H' s => ⟨false, rfl, by rw [if_neg Bool.false_ne_true]; exact w.2 H' s⟩⟩
    | true => exact PE.imp (pe_and h1 (h2 n v a oe pn q z d)) fun σ H Q w => ⟨w.1, fun H' s => ⟨true, rfl, by rw [if_pos rfl]; exact ⟨w.1, fun H2 s2 => w.2 H2 (s.trans s2)⟩⟩⟩
def seNot (f : Nat → Option V) : Nat → Option V := fun n => (blO (f n)).map fun b => .bl (!b)
theorem se_not (h : SE X cl i e f) : SE X cl i (.UnaryOp .Not e pos) (seNot f) := fun n v a oe pn q z d => by
  obtain ⟨b, hb, rfl⟩ := Option.map_eq_some_iff.mp q
  exact PE.imp (pe_not (h n _ a oe pn (blO_some hb) z d)) fun σ H Q w => ⟨w.1, fun H' s => ⟨b, rfl, w.2 H' s⟩⟩
/-- 'text' * int(e), e a truth value -/
theorem op_mulS01 : OpR X (binaryOp .Mult) (fun x y H Q => ∃ z, x = .str z ∧ ∃ b : Bool, y = .int (if b then 1 else 0) ∧ Q (.str (if b then z else Str.empty)) H) := by
  intro pins s σ H x y v u Q I rx ry h
  obtain ⟨z, ex, b, ey, q⟩ := h
  subst ex
  subst ey
  obtain ⟨t, ev⟩ := rx
  obtain ⟨t', eu⟩ := ry
  subst ev
  subst eu
  have hm : Txt.mul z (if b then 1 else 0) = if b then z else Str.empty := by cases b <;> rfl
  refine SB.mul ?_ fun t2 k => ⟨.str _, H, I.tok k, ⟨t2, by rw [hm]⟩, q⟩
  cases b
  · exact ⟨by decide, fun h => absurd (by decide) h, fun h => absurd (by decide) h⟩
  · exact ⟨by decide, fun _ h => by simp at h, fun _ h => by simp at h⟩
def seMul (z : Str) (f : Nat → Option V) : Nat → Option V := fun n => (blO (f n)).map fun b => .str (if b then z else Str.empty)
theorem se_mul {z : Str} {j : Nat} {x : Str} (hm : X.mg "int" = none) (h : SE X cl i e f) (hx : x = "int") (hg : Gl X x) (he : starEach [e] X.env = (false, eval e X.env) :: starEach [] X.env) (hpl : (backTo p3 (starEach [] X.env)).any (·.1) = false) :
    SE X cl i (.BinOp (.Constant (.str z) j p) .Mult (.Call (.Name x p2) [e] [] p3) pos) (seMul z f) := fun n v a oe pn q hz d => by
  subst hx
  obtain ⟨b, hb, rfl⟩ := Option.map_eq_some_iff.mp q
  have pI : PE (X.suite a ((a, oe) :: pn)) (.Call (.Name "int" p2) [e] [] p3) _ := pe_callTy call_int1 hg hm (by decide +kernel) (pa_cons (h n _ a oe pn (blO_some hb) hz d) pa_nil he) (by decide) (by decide) he hpl
  exact PE.imp (pe_op op_mulS01 pe_str pI) fun σ H Q w => ⟨w.1, fun H' s => .inr ⟨b, rfl, z, rfl, b, rfl, w.2 H' s⟩⟩
/-- isinstance(e, B), by a table -/
def seIs (bs : List (Nat × Bool)) : Nat → Option V := fun n => (bs.lookup n).map .bl
theorem lookup_mem {α : Type} {bs : List (Nat × α)} {n : Nat} {b : α} (h : bs.lookup n = some b) : (n, b) ∈ bs := by
  induction bs with
  | nil => cases h
  | cons p bs ih =>
    obtain ⟨m, c⟩ := p
    rw [List.lookup_cons] at h
    by_cases hm : n = m
    · subst hm
      simp at h
      subst h
      exact List.mem_cons_self
    · have : (n == m) = false := by simpa using hm
      rw [this] at h
      exact List.mem_cons_of_mem _ (ih h)
/-- a class by its name -/
structure ClN (X : Cx) (y : Str) (cv : Value) : Prop where
  pe : ∀ (a : Addr) (oe : Obj) (pn : List (Addr × Obj)) (p : Pos), ∃ v, PE (X.suite a ((a, oe) :: pn)) (.Name y p) (tC v) ∧ ∀ u, RelV v u → u = cv
theorem cln_own {y : Str} {C : Addr} (hm : X.mg y = some (.ref C)) (hg : Gl X y) (hd : (y == ("__debug__" : Str)) = false) : ClN X y (.ref C) := ⟨fun a oe pn p => ⟨.ref C, pe_glob hg hm rfl hd, fun u r => r⟩⟩
theorem cln_bltn {y : Str} {T : String} (hm : X.mg y = none) (hv : bootBuiltins y = some (.type T)) (hg : Gl X y) (hn : y ≠ "__name__") (hd : (y == ("__debug__" : Str)) = false) : ClN X y (.type T) := ⟨fun a oe pn p => ⟨.ty T, pe_bltn hg hm hv rfl hn hd, fun u r => r⟩⟩
theorem se_isi {n y : Str} {cv : Value} (bs : List (Nat × Bool)) (hm : X.mg "isinstance" = none) (hy : ClN X y cv) (hN : X.N[i]? = some n) (hv : Vis X.env.scope n) (hd : (n == ("__debug__" : Str)) = false) (hcd : (n == ("__classdict__" : Str)) = false)
    (hE : ∀ p ∈ bs, ExcC X.K (cl p.1)) (hk : ∀ p ∈ bs, PySem.W.kitOne X.K (.ref (cl p.1)) cv = some p.2) {x : Str} (hx : x = "isinstance") (hg : Gl X x)
    (he : starEach [.Name n p2, .Name y p3] X.env = (false, eval (.Name n p2) X.env) :: starEach [.Name y p3] X.env) (he2 : starEach [.Name y p3] X.env = (false, eval (.Name y p3) X.env) :: starEach [] X.env) (hpl : (backTo pos (starEach [.Name y p3] X.env)).any (·.1) = false) :
    SE X cl i (.Call (.Name x p) [.Name n p2, .Name y p3] [] pos) (seIs bs) := fun k v a oe pn q z d => by
  subst hx
  obtain ⟨b, hb, rfl⟩ := Option.map_eq_some_iff.mp q
  have hmem := lookup_mem hb
  obtain ⟨u, pu, hu⟩ := hy.pe a oe pn p3
  have pe1 : PE (X.suite a ((a, oe) :: pn)) (.Name n p2) (tVar i) := pe_var hN hv hd hcd
  exact PE.imp (pe_callB (call_isE (hE _ hmem) z d) hg hm (by decide +kernel) (pa_cons pe1 (pa_cons pu pa_nil he2) he) (by decide) (by decide) he hpl) fun σ H Q w => ⟨_, w.1, u, cv, b, rfl, hu, hk _ hmem, w.2 H (Same.refl H)⟩
/-- isinstance(e, (B1, B2)) -/
theorem cr_isE2 {a D tp : Addr} {oe : Obj} {pn : List (Addr × Obj)} (C : ExcC X.K D) (hz : Zc (.ref D) none oe) (hf : ∃ vs, oe.data = .fields vs) : CallR (X.suite a ((a, oe) :: pn)) (.builtin "isinstance") (fun xs H Q => ∃ (t : Addr) (cs : List V) (ws : List Value) (b : Bool), xs = [.ref a, .ref t] ∧ H t = some (.tup cs) ∧ (∀ us, Vals cs us → us = ws) ∧ PySem.W.kitAny X.K (.ref D) ws = some b ∧ Q (.bl b) H) := by
  intro pins s σ H xs us Q I r h
  obtain ⟨t, cs, ws, b, exs, hT, hws, e, q⟩ := h
  subst exs
  obtain ⟨u1, u2, eu, r1, r2⟩ := vals2 r
  subst eu
  cases (show u1 = Value.ref a from r1)
  cases (show u2 = Value.ref t from r2)
  obtain ⟨hget, _⟩ := I.pin (a, oe) (List.mem_append.mpr (.inl List.mem_cons_self))
  obtain ⟨vs, hv⟩ := hf
  have J : PySem.W.InstAt s.heap a oe D none := by
    obtain ⟨oc, od, oda, osl⟩ := oe
    obtain ⟨h1, h2⟩ := hz
    dsimp only at h1 h2 hv
    subst h1 h2 hv
    exact ⟨hget, rfl, rfl, trivial⟩
  obtain ⟨_, its, rv, o, g1, g2, m, g3⟩ := (show ObjOk X.prog X.w H s.heap t (.tup cs) from I.hok t _ hT)
  have e3 := hws _ rv
  subst e3
  obtain ⟨oc, od, dt, sl⟩ := o
  simp only at g2 g3
  subst g2 g3
  exact PySem.W.kia_tup (PySem.W.handS_kitx_exc C.hg C.hk C.hs C.hd C.ha C.hn C.ht C.hm) I.kIn J g1 e (fun z => nomatch z) fun tk => ⟨.bl b, H, I.kept (t' := tk) fun _ _ z => z, rfl, q⟩
theorem se_isi2 {n y1 y2 : Str} {c1 c2 : Value} {p4 p5 : Pos} {kk : Nat} (bs : List (Nat × Bool)) (hm : X.mg "isinstance" = none) (hy1 : ClN X y1 c1) (hy2 : ClN X y2 c2) (hN : X.N[i]? = some n) (hv : Vis X.env.scope n) (hd : (n == ("__debug__" : Str)) = false) (hcd : (n == ("__classdict__" : Str)) = false)
    (hE : ∀ p ∈ bs, ExcC X.K (cl p.1)) (hk : ∀ p ∈ bs, PySem.W.kitAny X.K (.ref (cl p.1)) [c1, c2] = some p.2) {x : Str} (hx : x = "isinstance") (hg : Gl X x)
    (he : starEach [.Name n p2, .Tuple [.Name y1 p4, .Name y2 p5] kk p3] X.env = (false, eval (.Name n p2) X.env) :: starEach [.Tuple [.Name y1 p4, .Name y2 p5] kk p3] X.env) (he2 : starEach [.Tuple [.Name y1 p4, .Name y2 p5] kk p3] X.env = (false, eval (.Tuple [.Name y1 p4, .Name y2 p5] kk p3) X.env) :: starEach [] X.env)
    (he3 : starEach [.Name y1 p4, .Name y2 p5] X.env = (false, eval (.Name y1 p4) X.env) :: starEach [.Name y2 p5] X.env) (he4 : starEach [.Name y2 p5] X.env = (false, eval (.Name y2 p5) X.env) :: starEach [] X.env)
    (hpl : (backTo pos (starEach [.Tuple [.Name y1 p4, .Name y2 p5] kk p3] X.env)).any (·.1) = false) :
    SE X cl i (.Call (.Name x p) [.Name n p2, .Tuple [.Name y1 p4, .Name y2 p5] kk p3] [] pos) (seIs bs) := fun k v a oe pn q z d => by
  subst hx
  obtain ⟨b, hb, rfl⟩ := Option.map_eq_some_iff.mp q
  have hmem := lookup_mem hb
  obtain ⟨u1, pu1, hu1⟩ := hy1.pe a oe pn p4
  obtain ⟨u2, pu2, hu2⟩ := hy2.pe a oe pn p5
  have pe1 : PE (X.suite a ((a, oe) :: pn)) (.Name n p2) (tVar i) := pe_var hN hv hd hcd
  exact PE.imp (pe_callB (cr_isE2 (tp := 0) (hE _ hmem) z d) hg hm (by decide +kernel) (pa_cons pe1 (pa_cons (pe_tup (pa_cons pu1 (pa_cons pu2 pa_nil he4) he3)) pa_nil he2) he) (by decide) (by decide) he hpl) fun σ H Q w => ⟨_, w.1, by show 2 ≤ sizeLine; decide, fun t ht => ⟨t, [u1, u2], [c1, c2], b, rfl, upd_same, fun us r => by
    obtain ⟨v1, v2, ev, r1, r2⟩ := vals2 r
    subst ev
    rw [hu1 _ r1, hu2 _ r2], hk _ hmem, w.2 _ (same_upd ht)⟩⟩
/-! ### facts of classes -/
theorem al_nil {α : Type} {P : α → Prop} : ∀ p ∈ ([] : List α), P p := fun p hp => by cases hp
theorem al_cons {α : Type} {P : α → Prop} {a : α} {l : List α} (h : P a) (t : ∀ p ∈ l, P p) : ∀ p ∈ a :: l, P p := fun p hp => by
  rcases List.mem_cons.mp hp with e | e
  · rw [e]; exact h
  · exact t p e
theorem kit_self {K : PySem.W.Frag} {t : Value} : PySem.W.kitOne K t t = some true := by
  unfold PySem.W.kitOne
  rw [if_pos (by simp)]
theorem kit_own {K : PySem.W.Frag} {D C : Addr} {b : Bool} (hd : PySem.W.hasDictIn K C = true) (ht : PySem.W.typeIn K (.ref C) = some (.type "type")) (h : PySem.W.subIn K (.ref D) (.ref C) = some b) (hs : PySem.W.subIn K (.ref C) (.ref C) = some true) : PySem.W.kitOne K (.ref D) (.ref C) = some b := by
  obtain ⟨cd, hc, _⟩ := PySem.W.any_some hd
  unfold PySem.W.kitOne
  split
  · rename_i e
    have e2 : (Value.ref D) = .ref C := by simpa using e
    cases e2
    rw [hs] at h
    exact h
  · show (if ((PySem.W.clsIn K C).isSome && PySem.W.typeIn K (.ref C) == some (.type "type")) = true then PySem.W.subIn K (.ref D) (.ref C) else none) = some b
    rw [hc, ht, if_pos (by simp)]
    exact h
theorem kit_ty2 {K : PySem.W.Frag} {D : Addr} {T : String} {b : Bool} (hT : PySem.W.kitMeta T = true) (h : PySem.W.subIn K (.ref D) (.type T) = some b) : PySem.W.kitOne K (.ref D) (.type T) = some b := by
  unfold PySem.W.kitOne
  rw [if_neg (by simp)]
  show (if PySem.W.kitMeta T = true then PySem.W.subIn K (.ref D) (.type T) else none) = some b
  rw [if_pos hT]
  exact h
theorem kit_any2 {K : PySem.W.Frag} {t c1 c2 : Value} {x y b : Bool} (h1 : PySem.W.kitOne K t c1 = some x) (h2 : PySem.W.kitOne K t c2 = some y) (hb : (x || y) = b) : PySem.W.kitAny K t [c1, c2] = some b := by
  unfold PySem.W.kitAny
  rw [h1]
  cases x with
  | true => simp at hb; rw [hb]
  | false =>
    unfold PySem.W.kitAny
    rw [h2]
    cases y <;> simp at hb <;> rw [hb]
    rfl
/-! ### try: body, except C as n: return e -/
def dTry (i : Nat) (bs : List (Nat × Bool)) (f : Nat → Option V) (t : DS) : DS := fun ρ => match t ρ with
  | .err x ρ' => (match bs.lookup x with
    | some true => (match ρ'[i]?, f x with
      | some _, some v => if scV v = true then .rt (dv v) (ρ'.set i none) else .bad
      | _, _ => .bad)
    | some false => .err x ρ'
    | none => .bad)
  | o => o
theorem ps_tryD (i : Nat) {n y : Str} {C : Addr} {np pos' rp : Pos} {body : List Stmt} {t : DS} (bs : List (Nat × Bool)) (tk : Takes X c.W) (hNd : X.N.Nodup) (hm : X.mg y = some (.ref C)) (hx : ∀ p ∈ bs, PySem.W.exmOne X.K (.ref (c.cl p.1)) (.ref C) = some p.2)
    (hb : ∀ (W : WX) (pn : List (Addr × Obj)) (xe : Value → Shared → Prop), Takes (X.tr pn xe) W → PassesOwn (model X.prog X.w) X.A X.env xe → PSsD (X.tr pn xe) { c with W := W } body t)
    (hs : X.stack = X.env :: X.outer) (hf : X.env.frame = some X.env.locals) (hi : X.N[i]? = some n) (hln : X.env.kindOf n = some .local) (hg : Gl X y) (hdb : (y == ("__debug__" : Str)) = false) (ho : noOw c.O i = true)
    (se : SE X c.cl i e f) : PSD X c (.Try body [.ExceptHandler (some (.Name y np)) (some n) [.Return (some e) rp] pos'] [] [] pos) (dTry i bs f t) := by
  let ts : Addr → Value → Option Addr → TS := fun a cls d D σ H => σ[i]? = some (some (.ref a)) ∧ d = none ∧ ∃ k v, cls = .ref (c.cl k) ∧ f k = some v ∧ ∀ H', Same H H' → D.rt v H'
  refine PS.imp (ps_try_as (tb := fun W => rdS X.K { c with W := W } t) (ts := ts) hs hf hNd hi hln ⟨hg, hdb, .inl hm⟩ tk hb fun a oe cls d pn hz hf' => ⟨fun pins s σ H D I q => ?_⟩) fun Dn σ H ⟨F, ρ, E, w⟩ => ⟨F, ρ, E, ?_⟩
  · obtain ⟨h1, rfl, k, v, rfl, h2, h3⟩ := q
    exact (pss_one (ps_ret (se k v a oe pn h2 hz hf'))).run pins s σ H D I ⟨h1, h3⟩
  · unfold dTry at w
    cases ht : t ρ with
    | nx _ => rw [ht] at w; exact w
    | bk _ => rw [ht] at w; exact w
    | ct _ => rw [ht] at w; exact w
    | rt _ _ => rw [ht] at w; exact w
    | bad => rw [ht] at w; exact w
    | err x ρ' =>
      rw [ht] at w
      dsimp only at w
      intro σ' H' E' st
      cases hl : bs.lookup x with
      | none => rw [hl] at w; exact w.elim
      | some b =>
        rw [hl] at w
        refine ⟨b, hx _ (lookup_mem hl), fun hb' a ha => ?_, fun hb' => ?_⟩
        · subst hb'
          dsimp only at w
          cases hρ : ρ'[i]? with
          | none => rw [hρ] at w; exact w.elim
          | some o =>
            cases hv : f x with
            | none => rw [hρ, hv] at w; exact w.elim
            | some v =>
              rw [hρ, hv] at w
              obtain ⟨hsc, w2⟩ := ifS_wp w
              have hil : i < σ'.length := by rw [← E'.len]; exact (List.getElem?_eq_some_iff.mp hρ).1
              refine ⟨List.getElem?_set_self hil, rfl, x, v, rfl, hv, ?_⟩
              exact fun H2 s2 => w2 v (σ'.set i none) H2 ((E'.forget (noOw_of ho)).up s2) ((st.trans (stp_set (noOw_of ho))).trans (.same s2)) (Rp.of_scV hsc)
        · subst hb'
          exact (show xW X.K c F σ H x ρ' from w) σ' H' E' st
/-! ### try: body, except C: return a constant -/
def SE0 (X : Cx) (e : Expr) (v : V) : Prop := ∀ (a : Addr) (oe : Obj) (pn : List (Addr × Obj)), PE (X.suite a ((a, oe) :: pn)) e (fun σ H Q => Q v H)
theorem se0_bl {b : Bool} {j : Nat} : SE0 X (.Constant (.bool b) j pos) (.bl b) := fun a oe pn => pe_bl
theorem se0_non {j : Nat} : SE0 X (.Constant .none j pos) .non := fun a oe pn => pe_non
theorem se0_str {b : Str} {j : Nat} : SE0 X (.Constant (.str b) j pos) (.str b) := fun a oe pn => pe_str
def dTry0 (bs : List (Nat × Bool)) (v : V) (t : DS) : DS := fun ρ => match t ρ with
  | .err x ρ' => (match bs.lookup x with
    | some true => if scV v = true then .rt (dv v) ρ' else .bad
    | some false => .err x ρ'
    | none => .bad)
  | o => o
theorem ps_try0D {y : Str} {C : Addr} {np pos' rp : Pos} {body : List Stmt} {t : DS} {v : V} (bs : List (Nat × Bool)) (tk : Takes X c.W) (hm : X.mg y = some (.ref C)) (hx : ∀ p ∈ bs, PySem.W.exmOne X.K (.ref (c.cl p.1)) (.ref C) = some p.2)
    (hb : ∀ (W : WX) (pn : List (Addr × Obj)) (xe : Value → Shared → Prop), Takes (X.tr pn xe) W → PassesOwn (model X.prog X.w) X.A X.env xe → PSsD (X.tr pn xe) { c with W := W } body t)
    (hs : X.stack = X.env :: X.outer) (hf : X.env.frame = some X.env.locals) (hg : Gl X y) (hdb : (y == ("__debug__" : Str)) = false)
    (se : SE0 X e v) : PSD X c (.Try body [.ExceptHandler (some (.Name y np)) none [.Return (some e) rp] pos'] [] [] pos) (dTry0 bs v t) := by
  let ts : Addr → Value → Option Addr → TS := fun a cls d D σ H => D.rt v H
  refine PS.imp (ps_try_only (tb := fun W => rdS X.K { c with W := W } t) (ts := ts) hs hf ⟨hg, hdb, .inl hm⟩ tk hb fun a oe cls d pn hz hf' => ⟨fun pins s σ H D I q => ?_⟩) fun Dn σ H ⟨F, ρ, E, w⟩ => ⟨F, ρ, E, ?_⟩
  · exact (pss_one (ps_ret (se a oe pn))).run pins s σ H D I q
  · unfold dTry0 at w
    cases ht : t ρ with
    | nx _ => rw [ht] at w; exact w
    | bk _ => rw [ht] at w; exact w
    | ct _ => rw [ht] at w; exact w
    | rt _ _ => rw [ht] at w; exact w
    | bad => rw [ht] at w; exact w
    | err x ρ' =>
      rw [ht] at w
      dsimp only at w
      intro σ' H' E' st
      cases hl : bs.lookup x with
      | none => rw [hl] at w; exact w.elim
      | some b =>
        rw [hl] at w
        refine ⟨b, hx _ (lookup_mem hl), fun hb' a ha => ?_, fun hb' => ?_⟩
        · subst hb'
          obtain ⟨hsc, w2⟩ := ifS_wp w
          exact w2 v σ' H' E' st (Rp.of_scV hsc)
        · subst hb'
          exact (show xW X.K c F σ H x ρ' from w) σ' H' E' st
end
/-! ### the law's own promise without classes -/
def spL (K : PySem.W.Frag) (n : Nat) (g : List D → Out D) : Sp := fun vs H Q E => vs.length = n ∧ ∃ A ds, Dom A H ∧ RpA K (hid A H) vs ds ∧ ∃ d, g ds = .ok d ∧ ∀ v H', Same H H' → Rp K (hid A H') v d → Q v H'
theorem fn_spL {P : Program} {w : World} {K : PySem.W.Frag} {mg : Str → Option Value} {base : Heap} {CX : CXT} {k : Nat} {f : Addr} {fd : FuncData} {ps : List Str} {cl : Nat → Addr} {n : Nat} {g : List D → Out D} (F : FnOk P w K mg base CX k f fd ps (spD K cl n g)) : FnOk P w K mg base CX k f fd ps (spL K n g) :=
  have conv : ∀ {vs : List V} {H : Hp} {Q : VK} {E : XK}, spL K n g vs H Q E → spD K cl n g vs H Q E := fun ⟨h1, A, ds, h2, h3, d, h4, h5⟩ => ⟨h1, A, ds, h2, h3, by rw [h4]; exact h5⟩
  ⟨fun vs H Q E q => F.len vs H Q E (conv q), fun A outer s H args us vs Q E hr he hb hv hs => F.run A outer s H args us vs Q E hr he hb hv (conv hs)⟩
theorem law_spL {K : PySem.W.Frag} {g : List D → Out D} {H : Hp} {a : Addr} {ns : List Int} (hl : ns.length ≤ 63) (hS : SqL K H a (ns.map V.int)) (h : g [.scr ns] = .ok (.bool true)) : spL K 1 g [.ref a] H (fun v _ => v = .bl true) fun _ _ _ => False := by
  refine ⟨rfl, [], [.scr ns], fun _ z => (by cases z), .cons (.scr ?_ (Nat.le_trans hl (by decide))) .nil, _, h, fun v H' s r => by cases r; rfl⟩
  have : hid [] H = H := by funext b; unfold hid; rw [if_neg (by intro z; cases z)]
  rw [this]
  exact hS
end Pd

/-! Pm: try with two clauses that name what they catch. -/
namespace Pd
open PySem PySem.Spec L2 PyProof.Rows
/-- what two clauses 'except c as n' wish of what the body lets out -/
def wTwo (K : PySem.W.Frag) (i : Nat) (Wo : WX) (D : Ends) : List (Value × (Addr → Value → Option Addr → TS)) → WX
  | [] => Wo
  | (c, ts) :: r => fun k d σ H => ∃ b, PySem.W.exmOne K k c = some b ∧
      (b = true → ∀ a, H a = none → ts a k d { nx := fun σ' H' => D.nx (σ'.set i none) H', rt := D.rt, bk := fun σ' H' => D.bk (σ'.set i none) H', ct := fun σ' H' => D.ct (σ'.set i none) H' } (σ.set i (some (.ref a))) H) ∧
      (b = false → wTwo K i Wo D r k d σ H)
inductive ClsOk (X : Cx) (i : Nat) (n : Str) : List ExceptHandler → List (Value × (Addr → Value → Option Addr → TS)) → Prop
  | nil : ClsOk X i n [] []
  | cons {x : Str} {c : Value} {ts : Addr → Value → Option Addr → TS} {b0 : Stmt} {bl : List Stmt} {np p1 : Pos} {hds : List ExceptHandler} {l : List (Value × (Addr → Value → Option Addr → TS))} (hc : Names X x c)
      (su : ∀ (a : Addr) (oe : Obj) (k : Value) (d : Option Addr) (pn : List (Addr × Obj)), Zc k d oe → (∃ vs, oe.data = .fields vs) → PSs (X.suite a ((a, oe) :: pn)) (b0 :: bl) (ts a k d)) (r : ClsOk X i n hds l) :
      ClsOk X i n (.ExceptHandler (some (.Name x np)) (some n) (b0 :: bl) p1 :: hds) ((c, ts) :: l)
section
variable {X : Cx} {n : Str} {i : Nat} {body : List Stmt} {h0 : ExceptHandler} {hds : List ExceptHandler} {l : List (Value × (Addr → Value → Option Addr → TS))} {pos : Pos} {tb : WX → TS} {Wo : WX}
theorem ps_try_two (stk : X.stack = X.env :: X.outer) (fr : X.env.frame = some X.env.locals) (nd : X.N.Nodup) (hi : X.N[i]? = some n) (kl : X.env.kindOf n = some .local) (tk : Takes X Wo)
    (bd : ∀ (W : WX) (pn : List (Addr × Obj)) (xe : Value → Shared → Prop), Takes (X.tr pn xe) W → PassesOwn (model X.prog X.w) X.A X.env xe → PSs (X.tr pn xe) body (tb W))
    (cs : ClsOk X i n (h0 :: hds) l) : PS X (.Try body (h0 :: hds) [] [] pos) (fun D σ H => tb (wTwo X.K i Wo D l) D σ H) := by
  constructor
  intro pins s σ H D I hw
  have OK := I.ok
  have hA : X.A.frames = some (X.env :: X.outer) := by rw [OK.frames, stk]
  have lc : Loc X.env.scope n := .inl kl
  refine wpAny_Try_except ?_
  have run := (bd (wTwo X.K i Wo D l) (X.pn ++ pins) (fun e s1 => wpAny (model X.prog X.w) X.A (noteFrame e X.env) (fun _ s2 => wpAny (model X.prog X.w) X.A (setFlight e none) (fun _ s3 => wpAny (model X.prog X.w) X.A (handleBy e X.env (h0 :: hds)) (SP X pins D) X.xe s3) X.xe s2) X.xe s1)
    (by
      rintro u s' ⟨a, B, sI, pins', σ', H', k, d, rfl, J', nb, up, sky, na, os, ag, w⟩
      have J : Inv X pins σ' H' sI := J'.ofTry OK
      have sk : Sky B (X.env :: X.outer) a (Zc k d) X.env.locals s'.heap := stk ▸ sky
      refine Sky.land Zc.steady hA fr sk fun h3 fl3 up3 => ?_
      have J3 : Inv X pins σ' H' { s' with heap := h3 } := J.landed nb fl3.1 (up.trans up3) os ag
      obtain ⟨o3, v3, e3, z3, d3⟩ := fl3.there
      have nfr : a ∉ frs (X.env :: X.outer) := fun hm => by
        obtain ⟨_, o', q1, q2⟩ := fl3.2.2.1.mem hm
        have := e3.symm.trans q1
        cases this
        exact q2 _ d3
      have nL : a ≠ X.env.locals := fun z => nfr (List.mem_filterMap.mpr ⟨X.env, List.mem_cons_self, fr.trans (congrArg some z.symm)⟩)
      have nF : a ∉ X.fs := fun hm => by
        obtain ⟨e, q1, q2⟩ := List.mem_filterMap.mp hm
        exact nfr (List.mem_filterMap.mpr ⟨e, List.mem_cons_of_mem _ q1, q2⟩)
      have S3 := J3.suite e3 d3 na nL nF
      have go : ∀ {hs' : List ExceptHandler} {l' : List (Value × (Addr → Value → Option Addr → TS))}, ClsOk X i n hs' l' → wTwo X.K i Wo D l' k d σ' H' → wpAny (model X.prog X.w) X.A (handleBy (.ref a) X.env hs') (SP X pins D) X.xe { s' with heap := h3 } := by
        intro hs' l' ck
        induction ck with
        | nil =>
          intro w
          refine wpAny_handleBy_nil ?_
          obtain ⟨k1, k2, k3, oe, vs, T, oT, tsv, he, hz, hd, g1, hr⟩ := id fl3
          unfold PySem.passOn
          refine wpAny_bind (wpAny_field he hd g1 ?_)
          rw [if_neg (show ¬ ((Value.ref T == Value.none) = true) by simp)]
          have out : wpAny (model X.prog X.w) X.A (setFlight (.ref a) X.env.frame) (fun _ s4 => wpAny (model X.prog X.w) X.A (throw (.ref a) : Sem Flow) (SP X pins D) X.xe s4) X.xe { s' with heap := h3 } := by
            rw [fr]
            exact HandSPX.setFlight_upZ fl3 fun h4 q4 up4 => wpAny_throw (tk _ _ ⟨a, B, sI, pins, σ', H', k, d, rfl, J, nb, (up.trans up3).trans up4, .inr (.inr (stk ▸ q4)), na, os, ag, w⟩)
          first
            | exact wpAny_bind (wpAny_pure (wpAny_bind out))
            | exact wpAny_bind out
        | @cons x c ts b0 bl np p1 hds2 l2 hc su r ih =>
          rintro ⟨b, hb, yes, no⟩
          refine wpAny_handleBy_cons (codeAny_handlers_test ?_) (by intro q; cases q)
          have LT : PySem.W.Looks (model X.prog X.w) h3 (typeOf (.ref a)) k := fun A Q E s kk q => wpAny_typeOf_ref (kk _ _ e3) (by rw [z3.1]; exact q)
          have LM := PySem.W.exm_one (M := model X.prog X.w) (J3.kIn) LT hb
          have tst : ∀ {Q E : Value → Shared → Prop}, Q c { s' with heap := h3 } → wpAny (model X.prog X.w) (X.A.mark (some (.ref a))) (eval (.Name x np) X.env) Q E { s' with heap := h3 } := fun {Q E} q => by
            obtain ⟨g1, g2, g3 | ⟨g3, g4, g5⟩⟩ := hc
            · exact ld_glob (X := X.suite a ((a, o3) :: (X.pn ++ pins))) S3 g1 g3 q g2
            · exact ld_blt (X := X.suite a ((a, o3) :: (X.pn ++ pins))) S3 g1 g3 g4 q g5 g2
          refine tst (LM.here ?_)
          cases b with
          | false =>
            show wpAny _ X.A (handleBy (.ref a) X.env hds2) _ _ _
            exact ih (no rfl)
          | true =>
            refine codeAny_handlers_suite_as ?_
            refine HandSPX.lands_againZ fl3 fun h4 fl4 up4 => ?_
            have J4 : Inv X pins σ' H' { s' with heap := h4 } := J.landed nb fl4.1 ((up.trans up3).trans up4) os ag
            obtain ⟨o4, v4, e4, z4, d4⟩ := fl4.there
            have S4 := J4.suite e4 d4 na nL nF
            refine store_ok (X := X.suite a ((a, o4) :: (X.pn ++ pins))) (v := .ref a) S4 nd hi lc rfl (fun s5 S5 => ?_) (.inr kl)
            refine wpAny_mono ((su a o4 k d (X.pn ++ pins) z4 ⟨_, d4⟩).run [] s5 _ H' _ S5 (yes rfl a na)) (fun f s6 q => ?_) (fun _ _ z => z.elim)
            have fin : ∀ {σ6 : L2.St} {H6 : Hp} {Q : Shared → Prop}, Inv (X.suite a ((a, o4) :: (X.pn ++ pins))) [] σ6 H6 s6 → (∀ s7, Inv X pins (σ6.set i none) H6 s7 → Q s7) → wpAny (model X.prog X.w) X.A (do bindName X.env n .none; unbindBehindTheSuite X.env n p1) (fun _ s7 => Q s7) X.xe s6 := fun {σ6 H6 Q} S6 hq => gone_ok (S6.unsuite OK) nd hi kl hq
            cases f with
            | ret u =>
              obtain ⟨v6, σ6, H6, S6, r6, q6⟩ := q
              exact fin S6 fun s7 J7 => ⟨_, _, _, J7, r6, q6⟩
            | next => obtain ⟨σ6, H6, S6, q6⟩ := q; exact fin S6 fun s7 J7 => ⟨_, _, J7, q6⟩
            | brk => obtain ⟨σ6, H6, S6, q6⟩ := q; exact fin S6 fun s7 J7 => ⟨_, _, J7, q6⟩
            | cont => obtain ⟨σ6, H6, S6, q6⟩ := q; exact fin S6 fun s7 J7 => ⟨_, _, J7, q6⟩
      exact go cs w) PassesOwn.looking).run [] s σ H D (I.toTry _) hw
  refine wpAny_mono run (fun f s1 q => ?_) (fun e s1 he => he)
  cases f with
  | ret u =>
    obtain ⟨v, σ', H', J', r, q⟩ := q
    exact ⟨v, σ', H', J'.ofTry OK, r, q⟩
  | next =>
    obtain ⟨σ', H', J', q⟩ := q
    exact wpAny_execs_nil ⟨σ', H', J'.ofTry OK, q⟩
  | brk => obtain ⟨σ', H', J', q⟩ := q; exact ⟨σ', H', J'.ofTry OK, q⟩
  | cont => obtain ⟨σ', H', J', q⟩ := q; exact ⟨σ', H', J'.ofTry OK, q⟩
end
/-- try: body / except C1 as n: return e1 / except C2 as n: return e2 -/
def dTry2 (i : Nat) (bs1 bs2 : List (Nat × Bool)) (f1 f2 : Nat → Option V) (t : DS) : DS := fun ρ => match t ρ with
  | .err x ρ' => (match bs1.lookup x with
    | some true => (match ρ'[i]?, f1 x with
      | some _, some v => if scV v = true then .rt (dv v) (ρ'.set i none) else .bad
      | _, _ => .bad)
    | some false => (match bs2.lookup x with
      | some true => (match ρ'[i]?, f2 x with
        | some _, some v => if scV v = true then .rt (dv v) (ρ'.set i none) else .bad
        | _, _ => .bad)
      | some false => .err x ρ'
      | none => .bad)
    | none => .bad)
  | o => o
section
variable {X : Cx} {c : Pc} {pos : Pos} {e1 e2 : Expr} {f1 f2 : Nat → Option V}
theorem ps_try2D (i : Nat) {n y1 y2 : Str} {C1 C2 : Addr} {np1 np2 q1 q2 rp1 rp2 : Pos} {body : List Stmt} {t : DS} (bs1 bs2 : List (Nat × Bool)) (tk : Takes X c.W) (hNd : X.N.Nodup) (hm1 : X.mg y1 = some (.ref C1)) (hm2 : X.mg y2 = some (.ref C2))
    (hx1 : ∀ p ∈ bs1, PySem.W.exmOne X.K (.ref (c.cl p.1)) (.ref C1) = some p.2) (hx2 : ∀ p ∈ bs2, PySem.W.exmOne X.K (.ref (c.cl p.1)) (.ref C2) = some p.2)
    (hb : ∀ (W : WX) (pn : List (Addr × Obj)) (xe : Value → Shared → Prop), Takes (X.tr pn xe) W → PassesOwn (model X.prog X.w) X.A X.env xe → PSsD (X.tr pn xe) { c with W := W } body t)
    (hs : X.stack = X.env :: X.outer) (hf : X.env.frame = some X.env.locals) (hi : X.N[i]? = some n) (hln : X.env.kindOf n = some .local) (hg1 : Gl X y1) (hd1 : (y1 == ("__debug__" : Str)) = false) (hg2 : Gl X y2) (hd2 : (y2 == ("__debug__" : Str)) = false) (ho : noOw c.O i = true)
    (se1 : SE X c.cl i e1 f1) (se2 : SE X c.cl i e2 f2) : PSD X c (.Try body [.ExceptHandler (some (.Name y1 np1)) (some n) [.Return (some e1) rp1] q1, .ExceptHandler (some (.Name y2 np2)) (some n) [.Return (some e2) rp2] q2] [] [] pos) (dTry2 i bs1 bs2 f1 f2 t) := by
  let ts : (Nat → Option V) → Addr → Value → Option Addr → TS := fun f a cls d D σ H => σ[i]? = some (some (.ref a)) ∧ d = none ∧ ∃ k v, cls = .ref (c.cl k) ∧ f k = some v ∧ ∀ H', Same H H' → D.rt v H'
  have su : ∀ {e : Expr} {f : Nat → Option V} {rp : Pos}, SE X c.cl i e f → ∀ (a : Addr) (oe : Obj) (k : Value) (d : Option Addr) (pn : List (Addr × Obj)), Zc k d oe → (∃ vs, oe.data = .fields vs) → PSs (X.suite a ((a, oe) :: pn)) [.Return (some e) rp] (ts f a k d) := fun {e f rp} se a oe k d pn hz hf' => ⟨fun pins s σ H D I q => by
    obtain ⟨h1, rfl, k, v, rfl, h2, h3⟩ := q
    exact (pss_one (ps_ret (se k v a oe pn h2 hz hf'))).run pins s σ H D I ⟨h1, h3⟩⟩
  refine PS.imp (ps_try_two (tb := fun W => rdS X.K { c with W := W } t) hs hf hNd hi hln tk hb (.cons ⟨hg1, hd1, .inl hm1⟩ (su se1) (.cons ⟨hg2, hd2, .inl hm2⟩ (su se2) .nil))) fun Dn σ H ⟨F, ρ, E, w⟩ => ⟨F, ρ, E, ?_⟩
  unfold dTry2 at w
  cases ht : t ρ with
  | nx _ => rw [ht] at w; exact w
  | bk _ => rw [ht] at w; exact w
  | ct _ => rw [ht] at w; exact w
  | rt _ _ => rw [ht] at w; exact w
  | bad => rw [ht] at w; exact w
  | err x ρ' =>
    rw [ht] at w
    dsimp only at w
    intro σ' H' E' st
    have fin : ∀ {f : Nat → Option V}, (match ρ'[i]?, f x with
        | some _, some v => if scV v = true then SO.rt (dv v) (ρ'.set i none) else .bad
        | _, _ => .bad).wp (nxW X.K c F σ H Dn.nx) (nxW X.K c F σ H Dn.bk) (nxW X.K c F σ H Dn.ct) (rtW X.K c F σ H Dn.rt) (xW X.K c F σ H) → ∀ (a : Addr), ts f a (.ref (c.cl x)) none { nx := fun σ' H' => Dn.nx (σ'.set i none) H', rt := Dn.rt, bk := fun σ' H' => Dn.bk (σ'.set i none) H', ct := fun σ' H' => Dn.ct (σ'.set i none) H' } (σ'.set i (some (.ref a))) H' := fun {f} w a => by
      cases hρ : ρ'[i]? with
      | none => rw [hρ] at w; exact w.elim
      | some o =>
        cases hv : f x with
        | none => rw [hρ, hv] at w; exact w.elim
        | some v =>
          rw [hρ, hv] at w
          obtain ⟨hsc, w2⟩ := ifS_wp w
          have hil : i < σ'.length := by rw [← E'.len]; exact (List.getElem?_eq_some_iff.mp hρ).1
          exact ⟨List.getElem?_set_self hil, rfl, x, v, rfl, hv, fun H2 s2 => w2 v (σ'.set i none) H2 ((E'.forget (noOw_of ho)).up s2) ((st.trans (stp_set (noOw_of ho))).trans (.same s2)) (Rp.of_scV hsc)⟩
    cases hl : bs1.lookup x with
    | none => rw [hl] at w; exact w.elim
    | some b =>
      rw [hl] at w
      refine ⟨b, hx1 _ (lookup_mem hl), fun hb' a ha => ?_, fun hb' => ?_⟩
      · subst hb'
        exact fin w a
      · subst hb'
        dsimp only at w
        cases hl2 : bs2.lookup x with
        | none => rw [hl2] at w; exact w.elim
        | some b2 =>
          rw [hl2] at w
          refine ⟨b2, hx2 _ (lookup_mem hl2), fun hb2 a ha => ?_, fun hb2 => ?_⟩
          · subst hb2
            exact fin w a
          · subst hb2
            exact (show xW X.K c F σ H x ρ' from w) σ' H' E' st
end
end Pd

/-! Pn: defs that change two lists of their caller in place. -/
namespace Pd
open PySem L2 PyProof.Rows
/-- a list at a, as data -/
def LsA (K : PySem.W.Frag) (B : List Addr) (H : Hp) (a : Addr) (l : List D) : Prop := ∃ xs, H a = some (.lst xs) ∧ xs.length ≤ sizeLine ∧ RpA K (hid B H) xs l
/-- the promise: the lists at the places p and q are changed in place, nothing else; None is given back, nothing is raised -/
def spIO (K : PySem.W.Frag) (n p q : Nat) (g : List D → Out (List D × List D)) : Sp := fun vs H Q _ => vs.length = n ∧ ∃ (A : List Addr) (a b : Addr) (ds l m : List D),
  Dom A H ∧ a ≠ b ∧ a ∉ A ∧ b ∉ A ∧ vs[p]? = some (.ref a) ∧ vs[q]? = some (.ref b) ∧ ds.length = n ∧ ds[p]? = some (D.list l) ∧ ds[q]? = some (D.list m) ∧
  LsA K (A ++ [a, b]) H a l ∧ LsA K (A ++ [a, b]) H b m ∧ (∀ i d v, i ≠ p → i ≠ q → ds[i]? = some d → vs[i]? = some v → Rp K (hid (A ++ [a, b]) H) v d) ∧
  ∃ l' m', g ds = .ok (l', m') ∧ ∀ H', (∀ z o, z ≠ a → z ≠ b → H z = some o → H' z = some o) → LsA K (A ++ [a, b]) H' a l' → LsA K (A ++ [a, b]) H' b m' → Q .non H'
def ioOf (ρ : Env) (p q : Nat) : Out (List D × List D) := match ρ[p]?, ρ[q]? with
  | some (some (.list l)), some (some (.list m)) => .ok (l, m)
  | _, _ => .bad
theorem ioOf_ok {ρ : Env} {p q : Nat} {l m : List D} (h : ioOf ρ p q = .ok (l, m)) : ρ[p]? = some (some (.list l)) ∧ ρ[q]? = some (some (.list m)) := by
  unfold ioOf at h
  split at h
  · cases h
    exact ⟨by assumption, by assumption⟩
  · cases h
def SO.finIO (o : SO) (p q : Nat) : Out (List D × List D) := match o with
  | .nx ρ => ioOf ρ p q
  | .rt .none ρ => ioOf ρ p q
  | _ => .bad
def dDefIO (N p q : Nat) (t : DS) : List D → Out (List D × List D) := fun ds => (t (startE N ds)).finIO p q
def okIO (O : Ow) (n N p q : Nat) : Bool := O.all (fun e => (e.1 == p && e.2 == .p) || (e.1 == q && e.2 == .p) || (decide (n ≤ e.1) && decide (e.1 < N))) && decide (p < n) && decide (q < n) && p != q && isOw O p .p && isOw O q .p
section
variable {P : Program} {w : World} {K : PySem.W.Frag} {mg : Str → Option Value} {base : Heap}
theorem start_get {N : List Str} {vs : List V} {i : Nat} (h : i < vs.length) : (L2.start N vs)[i]? = vs[i]?.map some := by
  unfold L2.start
  rw [List.getElem?_append_left (by rw [List.length_map]; exact h), List.getElem?_map]
theorem start_none {N : List Str} {vs : List V} {i : Nat} (h : vs.length ≤ i) (h2 : i < N.length) : (L2.start N vs)[i]? = some none := by
  unfold L2.start
  rw [List.getElem?_append_right (by rw [List.length_map]; exact h), List.getElem?_replicate, if_pos (by rw [List.length_map]; omega)]
theorem startE_get {n : Nat} {ds : List D} {i : Nat} (h : i < ds.length) : (startE n ds)[i]? = ds[i]?.map some := by
  unfold startE
  rw [List.getElem?_append_left (by rw [List.length_map]; exact h), List.getElem?_map]
theorem startE_none {n : Nat} {ds : List D} {i : Nat} (h : ds.length ≤ i) (h2 : i < n) : (startE n ds)[i]? = some none := by
  unfold startE
  rw [List.getElem?_append_right (by rw [List.length_map]; exact h), List.getElem?_replicate, if_pos (by rw [List.length_map]; omega)]
theorem def_okIO {x qual : Str} {st : Stmt} {f : Addr} {fd : FuncData} {N ps : List Str} {k p q : Nat} {cl : Nat → Addr} {t : DS} (O : Ow) (F : Fun K x qual st f fd) (S : FnScope N ps (defScope st)) (hO : okIO O ps.length N.length p q = true) (hl : ps.length ≤ N.length)
    (hbody : ∀ (cdv : Value) (A : Around) (outer : List PySem.Env) (s : Shared) (H : Hp) (E : XK), Room k (A.deeper (PyProof.Rows.envOfC qual (defScope st) s.heap.objs.size f cdv)) → N.Nodup →
      Takes (cxOf (L2.CX P w) P w K mg base N qual (defScope st) f cdv A outer s H E) (fun cls d _ H' => E cls d H') →
      PSsD (cxOf (L2.CX P w) P w K mg base N qual (defScope st) f cdv A outer s H E) ⟨cl, O, fun cls d _ H' => E cls d H'⟩ (defBody st) t) :
    FnOk P w K mg base (L2.CX P w) (k + 1) f fd ps (spIO K ps.length p q (dDefIO N.length p q t)) := by
  refine F.okX S (fun vs H Q E h => h.1) fun cdv A0 outer s H vs Q E hr h => ?_
  obtain ⟨hn, A, a, b, ds, l, m, hA, hab, ha, hb, hvp, hvq, hdn, hdp, hdq, ⟨xs, x1, x2, x3⟩, ⟨ys, y1, y2, y3⟩, hv, l', m', hg, hQ⟩ := h
  refine ⟨_, hbody cdv A0 outer s H E hr S.nd (takes_of rfl rfl rfl rfl), ?_⟩
  unfold okIO at hO
  simp only [Bool.and_eq_true, decide_eq_true_eq, bne_iff_ne, ne_eq] at hO
  obtain ⟨⟨⟨⟨⟨hall, hp⟩, hq⟩, hpq⟩, hip⟩, hiq⟩ := hO
  have hip := isOw_of hip
  have hiq := isOw_of hiq
  have cls : ∀ i k', (i, k') ∈ O → (i = p ∧ k' = .p) ∨ (i = q ∧ k' = .p) ∨ (ps.length ≤ i ∧ i < N.length) := fun i k' hi => by
    have z := List.all_eq_true.mp hall _ hi
    simp only [Bool.or_eq_true, Bool.and_eq_true, beq_iff_eq, decide_eq_true_eq] at z
    rcases z with (z | z) | z
    · exact .inl z
    · exact .inr (.inl z)
    · exact .inr (.inr z)
  have sp : (L2.start N vs)[p]? = some (some (.ref a)) := by rw [start_get (by omega), hvp]; rfl
  have sq : (L2.start N vs)[q]? = some (some (.ref b)) := by rw [start_get (by omega), hvq]; rfl
  have own1 : ∀ z, z ∈ own O (L2.start N vs) → z = a ∨ z = b := fun z hz => by
    obtain ⟨i, k', h1, h2⟩ := mem_own.mp hz
    rcases cls i k' h1 with ⟨rfl, _⟩ | ⟨rfl, _⟩ | ⟨h3, h4⟩
    · rw [sp] at h2; cases h2; exact .inl rfl
    · rw [sq] at h2; cases h2; exact .inr rfl
    · rw [start_none (by omega) h4] at h2; cases h2
  have ain : a ∈ own O (L2.start N vs) := mem_own.mpr ⟨p, _, hip, sp⟩
  have bin : b ∈ own O (L2.start N vs) := mem_own.mpr ⟨q, _, hiq, sq⟩
  have hsame : Same (hid (A ++ [a, b]) H) (hid (A ++ own O (L2.start N vs)) H) := hid_le fun z hz => .inl (by
    rcases List.mem_append.mp hz with u | u
    · exact List.mem_append_left _ u
    · rcases own1 z u with e | e <;> (rw [e]; simp))
  have E0 : EnvR K O ⟨A, [(p, a), (q, b)]⟩ (startE N.length ds) (L2.start N vs) H := by
    refine ⟨?_, fun i d h nj => ?_, fun i k' hi => ?_, fun i ki j kj c hi hj e1 e2 => ?_, hA, fun u hu => ?_, fun u hu => ?_⟩
    · unfold startE L2.start
      simp only [List.length_append, List.length_map, List.length_replicate]
      omega
    · by_cases hi : i < ps.length
      · rw [startE_get (by omega)] at h
        obtain ⟨d', e1, e2⟩ := Option.map_eq_some_iff.mp h
        cases e2
        have hiv : i < vs.length := by omega
        refine ⟨vs[i], by rw [start_get hiv, List.getElem?_eq_getElem hiv]; rfl, ?_⟩
        exact (hv i d vs[i] (fun z => nj .p (by rw [z]; exact hip)) (fun z => nj .p (by rw [z]; exact hiq)) e1 (List.getElem?_eq_getElem hiv)).up hsame
      · by_cases hi2 : i < N.length
        · rw [startE_none (by omega) hi2] at h; cases h
        · rw [List.getElem?_eq_none (by unfold startE; simp only [List.length_append, List.length_map, List.length_replicate]; omega)] at h; cases h
    · rcases cls i k' hi with ⟨rfl, rfl⟩ | ⟨rfl, rfl⟩ | ⟨h3, h4⟩
      · exact .inl ⟨.list l, a, by rw [startE_get (by omega), hdp]; rfl, sp, ha, xs, l, rfl, x1, x2, x3.up hsame⟩
      · exact .inl ⟨.list m, b, by rw [startE_get (by omega), hdq]; rfl, sq, hb, ys, m, rfl, y1, y2, y3.up hsame⟩
      · exact .inr ⟨startE_none (by omega) h4, start_none (by omega) h4⟩
    · rcases cls i ki hi with ⟨rfl, _⟩ | ⟨rfl, _⟩ | ⟨h3, h4⟩
      · rcases cls j kj hj with ⟨rfl, _⟩ | ⟨rfl, _⟩ | ⟨h5, h6⟩
        · rfl
        · rw [sp] at e1; rw [sq] at e2; cases e1; cases e2; exact absurd rfl hab
        · rw [start_none (by omega) h6] at e2; cases e2
      · rcases cls j kj hj with ⟨rfl, _⟩ | ⟨rfl, _⟩ | ⟨h5, h6⟩
        · rw [sq] at e1; rw [sp] at e2; cases e1; cases e2; exact absurd rfl hab
        · rfl
        · rw [start_none (by omega) h6] at e2; cases e2
      · rw [start_none (by omega) h4] at e1; cases e1
    · rcases List.mem_cons.mp hu with e | hu
      · rw [e]; exact sp
      · rcases List.mem_cons.mp hu with e | hu
        · rw [e]; exact sq
        · cases hu
    · rcases List.mem_cons.mp hu with e | hu
      · rw [e]; exact hip
      · rcases List.mem_cons.mp hu with e | hu
        · rw [e]; exact hiq
        · cases hu
  have fin : ∀ {ρ' : Env} {σ' : L2.St} {H' : Hp}, ioOf ρ' p q = .ok (l', m') → EnvR K O ⟨A, [(p, a), (q, b)]⟩ ρ' σ' H' → Stp O (L2.start N vs) H σ' H' → Q .non H' := fun {ρ' σ' H'} hio E' st => by
    obtain ⟨r1, r2⟩ := ioOf_ok hio
    have fp : σ'[p]? = some (some (.ref a)) := E'.fix (p, a) List.mem_cons_self
    have fq : σ'[q]? = some (some (.ref b)) := E'.fix (q, b) (List.mem_cons_of_mem _ List.mem_cons_self)
    have up : Same (hid (A ++ own O σ') H') (hid (A ++ [a, b]) H') := hid_le fun z hz => .inl (by
      rcases List.mem_append.mp hz with u | u
      · exact List.mem_append_left _ u
      · refine List.mem_append_right _ ?_
        rcases List.mem_cons.mp u with e | u
        · rw [e]; exact mem_own.mpr ⟨p, _, hip, fp⟩
        · rcases List.mem_cons.mp u with e | u
          · rw [e]; exact mem_own.mpr ⟨q, _, hiq, fq⟩
          · cases u)
    refine hQ H' (fun z o h1 h2 e => st.keep z o (.inl fun hz => by rcases own1 z hz with e | e; exact h1 e; exact h2 e) e) ?_ ?_
    · obtain ⟨a', xs', ds', e0, e1, e2, e3, e4⟩ := EnvR.lst (c := ⟨cl, O, W0⟩) E' hip (.inr rfl) r1
      cases e0
      rw [fp] at e1
      cases e1
      exact ⟨xs', e2, e3, e4.up up⟩
    · obtain ⟨a', xs', ds', e0, e1, e2, e3, e4⟩ := EnvR.lst (c := ⟨cl, O, W0⟩) E' hiq (.inr rfl) r2
      cases e0
      rw [fq] at e1
      cases e1
      exact ⟨xs', e2, e3, e4.up up⟩
  refine ⟨⟨A, [(p, a), (q, b)]⟩, startE N.length ds, E0, ?_⟩
  unfold dDefIO SO.finIO at hg
  cases ht : t (startE N.length ds) with
  | nx ρ' => rw [ht] at hg; exact fun σ' H' E' st => fin hg E' st
  | rt d ρ' =>
    rw [ht] at hg
    cases d <;> try (cases hg; done)
    exact fun v σ' H' E' st r => by
      cases r
      exact fin hg E' st
  | err x ρ' => rw [ht] at hg; cases hg
  | bk _ => rw [ht] at hg; cases hg
  | ct _ => rw [ht] at hg; cases hg
  | bad => rw [ht] at hg; cases hg
abbrev OkIO (P : Program) (w : World) (base : Heap) (k p q : Nat) {x : Str} {st : Stmt} {ps : List Str} (f : Fd K mg x st ps) (g : List D → Out (List D × List D)) : Prop := FnOk P w K mg base (L2.CX P w) k f.a f.fd ps (spIO K ps.length p q g)
theorem fn_badIO {k p q : Nat} {x : Str} {st : Stmt} {ps : List Str} {f : Fd K mg x st ps} : OkIO P w base k p q f (fun _ => .bad) :=
  ⟨fun vs H Q E h => h.1, fun A outer s H args us vs Q E hr he hb hv hs => by
    obtain ⟨_, _, _, _, _, _, _, _, _, _, _, _, _, _, _, _, _, _, _, _, _, z, _⟩ := hs
    cases z⟩
theorem okIOD {x : Str} {st : Stmt} {N ps : List Str} {k n p q : Nat} {cl : Nat → Addr} {t : DS} (O : Ow) (f : Fd K mg x st ps) (S : FnScope N ps (defScope st)) (hO : okIO O ps.length N.length p q = true) (hl : ps.length ≤ N.length) (hn : N.length = n)
    (hbody : ∀ (cdv : Value) (A : Around) (outer : List PySem.Env) (s : Shared) (H : Hp) (E : XK), Room k (A.deeper (PyProof.Rows.envOfC x (defScope st) s.heap.objs.size f.a cdv)) → N.Nodup →
      Takes (cxOf (L2.CX P w) P w K mg base N x (defScope st) f.a cdv A outer s H E) (fun cls d _ H' => E cls d H') →
      PSsD (cxOf (L2.CX P w) P w K mg base N x (defScope st) f.a cdv A outer s H E) ⟨cl, O, fun cls d _ H' => E cls d H'⟩ (defBody st) t) :
    OkIO P w base (k + 1) p q f (dDefIO n p q t) := by
  subst hn
  exact def_okIO O f.F S hO hl hbody
end
/-! ### the call -/
/-- what arguments come to: a slot's own list, or a value -/
def RpX (K : PySem.W.Frag) (B : List Addr) (ρ : Env) (σ : L2.St) (H : Hp) : List (Option Nat) → List V → List D → Prop
  | [], [], [] => True
  | none :: xs, v :: vs, d :: ds => Rp K (hid B H) v d ∧ RpX K B ρ σ H xs vs ds
  | some j :: xs, v :: vs, d :: ds => (σ[j]? = some (some v) ∧ ρ[j]? = some (some d)) ∧ RpX K B ρ σ H xs vs ds
  | _, _, _ => False
def rdAX (K : PySem.W.Frag) (c : Pc) (xs : List (Option Nat)) (f : DA) : TA := fun σ H Q => ∃ F ρ, EnvR K c.O F ρ σ H ∧ (f ρ).wp (fun ds => ∀ vs H', Same H H' → RpX K (F.A ++ own c.O σ) ρ σ H' xs vs ds → Q vs H') (erW c σ H)
abbrev PAX (X : Cx) (c : Pc) (es : List Expr) (xs : List (Option Nat)) (f : DA) : Prop := PA X es (rdAX X.K c xs f)
section
variable {X : Cx} {c : Pc} {e : Expr} {es : List Expr} {f : DE} {g : DA} {xs : List (Option Nat)} {pos p : Pos}
theorem pax_nil : PAX X c [] [] dNil := PA.imp pa_nil fun σ H Q ⟨F, ρ, E, w⟩ => w [] H (Same.refl H) trivial
theorem pax_cons (ha : PD X c true e f) (hr : PAX X c es xs g) (hs : starEach (e :: es) X.env = (false, eval e X.env) :: starEach es X.env := by rfl) : PAX X c (e :: es) (none :: xs) (dCons f g) :=
  PA.imp (pa_cons ha hr hs) fun σ H Q ⟨F, ρ, E, w⟩ => ⟨F, ρ, E, (Out.wp_bind w).imp (fun d k v H1 s1 r1 => ⟨F, ρ, E.up s1, (Out.wp_bind k).imp (fun ds k2 vs H2 s2 r2 =>
    k2 (v :: vs) H2 (s1.trans s2) ⟨r1.up (hid_mono s2), r2⟩) fun x z => z.up s1⟩) fun x z => z⟩
theorem pax_slot (j : Nat) (k : Kd) {x : Str} (ho : isOw c.O j k = true) (pe : PE X (.Name x p) (tVar j)) (hr : PAX X c es xs g) (hs : starEach (.Name x p :: es) X.env = (false, eval (.Name x p) X.env) :: starEach es X.env) : PAX X c (.Name x p :: es) (some j :: xs) (dCons (dVar j) g) :=
  PA.imp (pa_cons pe hr hs) fun σ H Q ⟨F, ρ, E, w⟩ => by
    obtain ⟨d, e1, w1⟩ := dVar_wp (Out.wp_bind w)
    rcases E.cel j k (isOw_of ho) with ⟨d', a, q1, q2, q3, q4⟩ | ⟨q, _⟩
    · exact ⟨_, q2, F, ρ, E, (Out.wp_bind w1).imp (fun ds k2 vs H2 s2 r2 => k2 (_ :: vs) H2 s2 ⟨⟨q2, e1⟩, r2⟩) fun x z => z⟩
    · rw [e1] at q; cases q
theorem RpX.len {K : PySem.W.Frag} {B : List Addr} {ρ : Env} {σ : L2.St} {H : Hp} : ∀ {xs : List (Option Nat)} {vs : List V} {ds : List D}, RpX K B ρ σ H xs vs ds → vs.length = ds.length
  | [], [], [], _ => rfl
  | none :: xs, v :: vs, d :: ds, h => by rw [List.length_cons, List.length_cons, RpX.len (xs := xs) h.2]
  | some j :: xs, v :: vs, d :: ds, h => by rw [List.length_cons, List.length_cons, RpX.len (xs := xs) h.2]
theorem RpX.get {K : PySem.W.Frag} {B : List Addr} {ρ : Env} {σ : L2.St} {H : Hp} : ∀ {xs : List (Option Nat)} {vs : List V} {ds : List D} {i : Nat} {v : V} {d : D}, RpX K B ρ σ H xs vs ds → vs[i]? = some v → ds[i]? = some d →
    (xs[i]? = some none ∧ Rp K (hid B H) v d) ∨ ∃ j, xs[i]? = some (some j) ∧ σ[j]? = some (some v) ∧ ρ[j]? = some (some d)
  | [], [], [], i, v, d, _, h1, _ => by simp at h1
  | none :: xs, v0 :: vs, d0 :: ds, 0, v, d, h, h1, h2 => by
    simp at h1 h2; subst h1; subst h2
    exact .inl ⟨rfl, h.1⟩
  | some j :: xs, v0 :: vs, d0 :: ds, 0, v, d, h, h1, h2 => by
    simp at h1 h2; subst h1; subst h2
    exact .inr ⟨j, rfl, h.1.1, h.1.2⟩
  | none :: xs, v0 :: vs, d0 :: ds, i + 1, v, d, h, h1, h2 => by
    simp only [List.getElem?_cons_succ] at h1 h2 ⊢
    exact RpX.get (xs := xs) h.2 h1 h2
  | some j :: xs, v0 :: vs, d0 :: ds, i + 1, v, d, h, h1, h2 => by
    simp only [List.getElem?_cons_succ] at h1 h2 ⊢
    exact RpX.get (xs := xs) h.2 h1 h2
/-- two owned lists are changed by a call -/
theorem EnvR.two {K : PySem.W.Frag} {O : Ow} {F : Fm} {ρ : Env} {σ : L2.St} {H H' : Hp} {j1 j2 : Nat} {k1 k2 : Kd} {a1 a2 : Addr} {l m : List D} (E : EnvR K O F ρ σ H) (h1 : (j1, k1) ∈ O) (u1 : onlyK O j1 k1 = true) (q1 : k1 = .l ∨ k1 = .p) (h2 : (j2, k2) ∈ O) (u2 : onlyK O j2 k2 = true) (q2 : k2 = .l ∨ k2 = .p) (hj : j1 ≠ j2)
    (s1 : σ[j1]? = some (some (.ref a1))) (s2 : σ[j2]? = some (some (.ref a2))) (kp : ∀ z o, z ≠ a1 → z ≠ a2 → H z = some o → H' z = some o) (r1 : LsA K (F.A ++ own O σ) H' a1 l) (r2 : LsA K (F.A ++ own O σ) H' a2 m) :
    EnvR K O F ((ρ.set j1 (some (.list l))).set j2 (some (.list m))) σ H' ∧ Stp O σ H σ H' := by
  have m1 : a1 ∈ own O σ := mem_own.mpr ⟨j1, k1, h1, s1⟩
  have m2 : a2 ∈ own O σ := mem_own.mpr ⟨j2, k2, h2, s2⟩
  have n1 : a1 ∉ F.A := by
    rcases E.cel j1 k1 h1 with ⟨_, b, _, q, q', _⟩ | ⟨_, q⟩
    · rw [s1] at q; cases q; exact q'
    · rw [s1] at q; cases q
  have n2 : a2 ∉ F.A := by
    rcases E.cel j2 k2 h2 with ⟨_, b, _, q, q', _⟩ | ⟨_, q⟩
    · rw [s2] at q; cases q; exact q'
    · rw [s2] at q; cases q
  have nfz : ∀ {j k a}, (j, k) ∈ O → (k = .l ∨ k = .p) → σ[j]? = some (some (.ref a)) → ∀ o, H a = some o → frzO o = false := fun {j k a} hj hk hs o e => by
    rcases E.cel j k hj with ⟨d, b, _, q, _, q'⟩ | ⟨_, q⟩
    · rw [hs] at q
      cases q
      rcases hk with rfl | rfl
      · obtain ⟨_, _, _, e', _⟩ := q'
        rw [e] at e'
        cases e'
        rfl
      · obtain ⟨_, _, _, e', _⟩ := q'
        rw [e] at e'
        cases e'
        rfl
    · rw [hs] at q
      cases q
  have up : Same (hid (F.A ++ own O σ) H) (hid (F.A ++ own O σ) H') := fun z o q => by
    obtain ⟨g1, g2⟩ := hid_some q
    exact hid_of g1 (kp z o (fun e => g1 (by rw [e]; exact List.mem_append_right _ m1)) (fun e => g1 (by rw [e]; exact List.mem_append_right _ m2)) g2)
  have l1 : j1 < ρ.length := by rw [E.len]; exact (List.getElem?_eq_some_iff.mp s1).1
  have l2 : j2 < ρ.length := by rw [E.len]; exact (List.getElem?_eq_some_iff.mp s2).1
  refine ⟨⟨by rw [List.length_set, List.length_set, E.len], fun i d hd nj => ?_, fun i k hi => ?_, E.dis, fun z hz => ?_, E.fix, E.fxO⟩, ⟨fun z o nz e => kp z o (fun q => ?_) (fun q => ?_) e, fun z hz => .inl hz⟩⟩
  · have e1 : j1 ≠ i := fun z => nj k1 (by rw [← z]; exact h1)
    have e2 : j2 ≠ i := fun z => nj k2 (by rw [← z]; exact h2)
    rw [List.getElem?_set_ne e2, List.getElem?_set_ne e1] at hd
    obtain ⟨v, g1, g2⟩ := E.val i d hd nj
    exact ⟨v, g1, g2.up up⟩
  · by_cases e2 : j2 = i
    · subst e2
      obtain rfl := onlyK_of u2 hi
      obtain ⟨xs, g1, g2, g3⟩ := r2
      exact .inl ⟨_, a2, List.getElem?_set_self (by rw [List.length_set]; exact l2), s2, n2, cel_l q2 g1 g2 g3⟩
    · rw [List.getElem?_set_ne e2]
      by_cases e1 : j1 = i
      · subst e1
        obtain rfl := onlyK_of u1 hi
        obtain ⟨xs, g1, g2, g3⟩ := r1
        exact .inl ⟨_, a1, List.getElem?_set_self l1, s1, n1, cel_l q1 g1 g2 g3⟩
      · rw [List.getElem?_set_ne e1]
        rcases E.cel i k hi with ⟨d, z, g1, g2, g3, g4⟩ | g
        · refine .inl ⟨d, z, g1, g2, g3, g4.up up ?_⟩
          obtain ⟨o, eo, _⟩ := g4.some
          rw [eo]
          exact kp z o (fun e => e1 (E.dis j1 k1 i k a1 h1 hi s1 (by rw [← e]; exact g2))) (fun e => e2 (E.dis j2 k2 i k a2 h2 hi s2 (by rw [← e]; exact g2))) eo
        · exact .inr g
  · obtain ⟨o, q, t⟩ := E.adom z hz
    exact ⟨o, kp z o (fun u => n1 (by rw [← u]; exact hz)) (fun u => n2 (by rw [← u]; exact hz)) q, t⟩
  · rcases nz with nz | nz
    · exact nz (by rw [q]; exact m1)
    · rw [nfz h1 q1 s1 o (by rw [← q]; exact e)] at nz
      cases nz
  · rcases nz with nz | nz
    · exact nz (by rw [q]; exact m2)
    · rw [nfz h2 q2 s2 o (by rw [← q]; exact e)] at nz
      cases nz
def dCallIO (n j1 j2 : Nat) (g : List D → Out (List D × List D)) (ga : DA) : DS := fun ρ => lift (ga ρ) ρ fun ds => if ds.length = n then (match g ds with
  | .ok (l, m) => .nx ((ρ.set j1 (some (.list l))).set j2 (some (.list m)))
  | _ => .bad) else .bad
def slotsIO (xs : List (Option Nat)) (p q j1 j2 : Nat) : Bool := xs[p]? == some (some j1) && xs[q]? == some (some j2) && j1 != j2 && (List.range xs.length).all fun i => i == p || i == q || xs[i]? == some none
theorem ps_callIO {pos2 : Pos} {x : Str} {st : Stmt} {j k n p' q' j1 j2 : Nat} {k1 k2 : Kd} {ps : List Str} {gg : List D → Out (List D × List D)} {ga : DA} (f : Fd X.K X.mg x st ps) (F : OkIO X.prog X.w X.base j p' q' f gg) (hr : Room k X.A) (hjk : j ≤ k) (hn : ps.length = n) (tk : Takes X c.W)
    (ha : PAX X c (e :: es) xs ga) (hx : slotsIO xs p' q' j1 j2 = true) (hxl : xs.length = n) (o1 : isOw c.O j1 k1 = true) (u1 : onlyK c.O j1 k1 = true) (c1 : k1 = .l ∨ k1 = .p) (o2 : isOw c.O j2 k2 = true) (u2 : onlyK c.O j2 k2 = true) (c2 : k2 = .l ∨ k2 = .p)
    (hg : Gl X x) (hdb : (x == ("__debug__" : Str)) = false) (he : starEach (e :: es) X.env = (false, eval e X.env) :: starEach es X.env) (hpl : (backTo p (starEach es X.env)).any (·.1) = false)
    (hs : swapsWith (.Call (.Name x pos) (e :: es) [] p) none pos2.line X.env = pure false) :
    PSD X c (.Expr (.Call (.Name x pos) (e :: es) [] p) pos2) (dCallIO n j1 j2 gg ga) := by
  subst hn
  refine PS.imp (ps_expr (pe_callS (F.mono hjk) hr hg f.m f.F.kp f.b (fun σ => passAt tk σ) ha hdb he hpl) hs) fun Dn σ H ⟨Fm, ρ, E, w⟩ => ⟨Fm, ρ, E, (lift_wp w).imp (fun ds w1 vs H1 s1 r => ?_) fun x z => erW_of E z⟩
  obtain ⟨hl, w2⟩ := ifS_wp w1
  have E1 := E.up s1
  unfold slotsIO at hx
  simp only [Bool.and_eq_true, beq_iff_eq, bne_iff_ne, ne_eq, List.all_eq_true, List.mem_range, Bool.or_eq_true] at hx
  obtain ⟨⟨⟨hxp, hxq⟩, hj⟩, hrest⟩ := hx
  have hvl : vs.length = ps.length := by rw [r.len, hl]
  have pl : p' < ps.length := by rw [← hxl]; exact (List.getElem?_eq_some_iff.mp hxp).1
  have ql : q' < ps.length := by rw [← hxl]; exact (List.getElem?_eq_some_iff.mp hxq).1
  have at' : ∀ {i jj : Nat} {kk : Kd}, i < ps.length → xs[i]? = some (some jj) → (jj, kk) ∈ c.O → (kk = .l ∨ kk = .p) → ∃ a l, vs[i]? = some (.ref a) ∧ ds[i]? = some (.list l) ∧ σ[jj]? = some (some (.ref a)) ∧ a ∉ Fm.A ∧ LsA X.K (Fm.A ++ own c.O σ) H1 a l := fun {i jj kk} hi hxi ho hk => by
    have hi1 : i < vs.length := by omega
    have hi2 : i < ds.length := by omega
    rcases r.get (List.getElem?_eq_getElem hi1) (List.getElem?_eq_getElem hi2) with ⟨z, _⟩ | ⟨j', z, g1, g2⟩
    · rw [hxi] at z; cases z
    · rw [hxi] at z
      cases z
      obtain ⟨a, xs', l, e0, e1, e2, e3, e4⟩ := E1.lst ho hk g2
      rw [g1] at e1
      injection e1 with e1
      injection e1 with e1
      refine ⟨a, l, by rw [List.getElem?_eq_getElem hi1, e1], by rw [List.getElem?_eq_getElem hi2, e0], by rw [g1, e1], ?_, xs', e2, e3, e4⟩
      rcases E1.cel jj kk ho with ⟨_, b, _, q, q', _⟩ | ⟨_, q⟩
      · rw [g1, e1] at q; cases q; exact q'
      · rw [g1] at q; cases q
  obtain ⟨a1, l1, v1, d1, t1, n1, L1⟩ := at' pl hxp (isOw_of o1) c1
  obtain ⟨a2, l2, v2, d2, t2, n2, L2'⟩ := at' ql hxq (isOw_of o2) c2
  have hne : a1 ≠ a2 := fun z => hj (E1.dis j1 k1 j2 k2 a1 (isOw_of o1) (isOw_of o2) t1 (by rw [z]; exact t2))
  have m1 : a1 ∈ Fm.A ++ own c.O σ := List.mem_append_right _ (mem_own.mpr ⟨j1, k1, isOw_of o1, t1⟩)
  have m2 : a2 ∈ Fm.A ++ own c.O σ := List.mem_append_right _ (mem_own.mpr ⟨j2, k2, isOw_of o2, t2⟩)
  cases hgg : gg ds with
  | bad => rw [hgg] at w2; exact w2.elim
  | err _ => rw [hgg] at w2; exact w2.elim
  | ok lm =>
    obtain ⟨l', m'⟩ := lm
    rw [hgg] at w2
    let A := (Fm.A ++ own c.O σ).filter fun z => decide (z ≠ a1) && decide (z ≠ a2)
    have mA : ∀ z, z ∈ A ↔ z ∈ Fm.A ++ own c.O σ ∧ z ≠ a1 ∧ z ≠ a2 := fun z => by simp only [A, List.mem_filter, Bool.and_eq_true, decide_eq_true_eq]
    have le1 : ∀ {H : Hp}, Same (hid (Fm.A ++ own c.O σ) H) (hid (A ++ [a1, a2]) H) := fun {H} => hid_le fun z hz => .inl (by
      rcases List.mem_append.mp hz with u | u
      · exact ((mA z).mp u).1
      · rcases List.mem_cons.mp u with e | u
        · rw [e]; exact m1
        · rcases List.mem_cons.mp u with e | u
          · rw [e]; exact m2
          · cases u)
    have le2 : ∀ {H : Hp}, Same (hid (A ++ [a1, a2]) H) (hid (Fm.A ++ own c.O σ) H) := fun {H} => hid_le fun z hz => .inl (by
      by_cases e1 : z = a1
      · rw [e1]; simp
      · by_cases e2 : z = a2
        · rw [e2]; simp
        · exact List.mem_append_left _ ((mA z).mpr ⟨hz, e1, e2⟩))
    have lsu : ∀ {H : Hp} {a : Addr} {l : List D} {B B' : List Addr}, Same (hid B H) (hid B' H) → LsA X.K B H a l → LsA X.K B' H a l := fun s ⟨xs, g1, g2, g3⟩ => ⟨xs, g1, g2, g3.up s⟩
    refine ⟨hvl, A, a1, a2, ds, l1, l2, fun z hz => E1.hdom true z ((mA z).mp hz).1, hne, fun z => ((mA _).mp z).2.1 rfl, fun z => ((mA _).mp z).2.2 rfl, v1, v2, hl, d1, d2, lsu le1 L1, lsu le1 L2', fun i d v ip iq hd hv => ?_, l', m', hgg, fun H' kp r1 r2 => ?_⟩
    · rcases r.get hv hd with ⟨_, z⟩ | ⟨jj, z, _⟩
      · exact z.up le1
      · have hi : i < xs.length := (List.getElem?_eq_some_iff.mp z).1
        rcases hrest i hi with (u | u) | u
        · exact absurd u ip
        · exact absurd u iq
        · rw [u] at z; cases z
    · obtain ⟨E2, st2⟩ := E1.two (isOw_of o1) u1 c1 (isOw_of o2) u2 c2 hj t1 t2 kp (lsu le2 r1) (lsu le2 r2)
      exact (show nxW X.K c Fm σ H Dn.nx _ from w2) σ H' E2 ((Stp.same s1).trans st2)
end
end Pd

/-! Po: defs that give a new list; + of lists as a new one; extend; a dict or list handed from one owned slot to another. -/
namespace Pd
open PySem L2 PyProof.Rows

/-! ### defs that give a new list -/
def dSeqF (t u : DS) : DS := fun ρ => match t ρ with
  | .nx ρ' => u ρ'
  | .err x ρ' => .err x ρ'
  | _ => .bad
def SO.finF (o : SO) : Out D := match o with
  | .rt d _ => .ok d
  | .err x _ => .err x
  | _ => .bad
def dDefF (N : Nat) (t : DS) : List D → Out D := fun ds => (t (startE N ds)).finF
theorem hid_none {A : List Addr} {H : Hp} {a : Addr} (h : H a = none) : hid A H a = none := by
  unfold hid
  split
  · rfl
  · exact h
theorem fresh_back {O : Ow} {σ σ1 : L2.St} {H H1 : Hp} {a : Addr} (s : Stp O σ H σ1 H1) (h : hid (own O σ1) H1 a = none) : hid (own O σ) H a = none := by
  refine Classical.byContradiction fun z => ?_
  cases e : hid (own O σ) H a with
  | none => exact z e
  | some o =>
    obtain ⟨h1, h2⟩ := hid_some e
    have h3 := s.keep a o (.inl h1) h2
    have h4 : a ∈ own O σ1 := Classical.byContradiction fun q => by
      rw [hid_of q h3] at h
      cases h
    rcases s.new a h4 with q | q
    · exact h1 q
    · rw [h2] at q; cases q
section
variable (K : PySem.W.Frag) (c : Pc)
def rtF (F : Fm) (σ : L2.St) (H : Hp) (q : VK) : D → Env → Prop := fun d ρ' => ∀ a σ' H', EnvR K c.O F ρ' σ' H' → Stp c.O σ H σ' H' → hid (own c.O σ) H a = none → Cel K (hid (a :: F.A) H') H' .l a d → q (.ref a) H'
def rdSF (t : DS) : TS := fun Dn σ H => ∃ F ρ, EnvR K c.O F ρ σ H ∧ (t ρ).wp (nxW K c F σ H Dn.nx) (fun _ => False) (fun _ => False) (rtF K c F σ H Dn.rt) (xW K c F σ H)
end
section
variable {X : Cx} {c : Pc} {st : Stmt} {sts : List Stmt} {pos p : Pos} {m : Bool} {K : PySem.W.Frag} {F : Fm} {σ : L2.St} {H : Hp}
theorem rtF.up {q : VK} {d : D} {ρ' : Env} {σ1 : L2.St} {H1 : Hp} (h : rtF K c F σ H q d ρ') (s : Stp c.O σ H σ1 H1) : rtF K c F σ1 H1 q d ρ' := fun a σ' H' E t n r => h a σ' H' E (s.trans t) (fresh_back s n) r
theorem SO.upF {o : SO} {Dn : Ends} {σ1 : L2.St} {H1 : Hp} (s : Stp c.O σ H σ1 H1) (h : o.wp (nxW K c F σ H Dn.nx) (fun _ => False) (fun _ => False) (rtF K c F σ H Dn.rt) (xW K c F σ H)) :
    o.wp (nxW K c F σ1 H1 Dn.nx) (fun _ => False) (fun _ => False) (rtF K c F σ1 H1 Dn.rt) (xW K c F σ1 H1) := by
  cases o with
  | nx _ => exact nxW.up h s
  | bk _ => exact h
  | ct _ => exact h
  | rt _ _ => exact rtF.up h s
  | err _ _ => exact xW.up h s
  | bad => exact h
abbrev PSsF (X : Cx) (c : Pc) (sts : List Stmt) (t : DS) : Prop := PSs X sts (rdSF X.K c t)
theorem pss_retF {e : Expr} {f : DE} (h : PF X c .l e f) : PSsF X c [.Return (some e) pos] (dRet f) :=
  PSs.imp (pss_one (ps_ret h)) fun Dn σ H ⟨F, ρ, E, w⟩ => ⟨F, ρ, E, (lift_wp w).imp (fun d k a H' s n r => k a σ H' (E.up s) (.same s) (hid_none n) (r.up (hid_le fun b hb => .inl (by
    rcases List.mem_cons.mp hb with z | z
    · exact List.mem_cons.mpr (.inl z)
    · exact List.mem_cons_of_mem _ (List.mem_append_left _ z))) rfl)) fun x z => erW_of E z⟩
theorem pss_consF {t u : DS} (h1 : PSD X c st t) (h2 : PSsF X c sts u) : PSsF X c (st :: sts) (dSeqF t u) :=
  PSs.imp (pss_cons h1 h2) fun Dn σ H ⟨F, ρ, E, w⟩ => by
    refine ⟨F, ρ, E, ?_⟩
    unfold dSeqF at w
    cases e : t ρ with
    | nx ρ' =>
      rw [e] at w
      exact fun σ' H' E' s => ⟨F, ρ', E', SO.upF s w⟩
    | bk _ => rw [e] at w; exact w.elim
    | ct _ => rw [e] at w; exact w.elim
    | rt _ _ => rw [e] at w; exact w.elim
    | err _ _ => rw [e] at w; exact w
    | bad => rw [e] at w; exact w
end
/-- a def's promise: a new list -/
def spF (K : PySem.W.Frag) (cl : Nat → Addr) (n : Nat) (g : List D → Out D) : Sp := fun vs H Q E => vs.length = n ∧ ∃ A ds, Dom A H ∧ RpA K (hid A H) vs ds ∧
  (g ds).wp (fun d => ∀ a H', Same H H' → H a = none → Cel K (hid (a :: A) H') H' .l a d → Q (.ref a) H') fun x => ∀ H', Same H H' → E (.ref (cl x)) none H'
section
variable {P : Program} {w : World} {K : PySem.W.Frag} {mg : Str → Option Value} {base : Heap}
theorem def_okF {x qual : Str} {st : Stmt} {f : Addr} {fd : FuncData} {N ps : List Str} {k : Nat} {cl : Nat → Addr} {t : DS} (O : Ow) (F : Fun K x qual st f fd) (S : FnScope N ps (defScope st)) (hO : (O.all fun p => decide (ps.length ≤ p.1) && decide (p.1 < N.length)) = true) (hl : ps.length ≤ N.length)
    (hbody : ∀ (cdv : Value) (A : Around) (outer : List PySem.Env) (s : Shared) (H : Hp) (E : XK), Room k (A.deeper (PyProof.Rows.envOfC qual (defScope st) s.heap.objs.size f cdv)) → N.Nodup →
      Takes (cxOf (L2.CX P w) P w K mg base N qual (defScope st) f cdv A outer s H E) (fun cls d _ H' => E cls d H') →
      PSsF (cxOf (L2.CX P w) P w K mg base N qual (defScope st) f cdv A outer s H E) ⟨cl, O, fun cls d _ H' => E cls d H'⟩ (defBody st) t) :
    FnOk P w K mg base (L2.CX P w) (k + 1) f fd ps (spF K cl ps.length (dDefF N.length t)) := by
  refine F.okX S (fun vs H Q E h => h.1) fun cdv A outer s H vs Q E hr h => ?_
  obtain ⟨hn, A', ds, hA, r, wp⟩ := h
  refine ⟨_, hbody cdv A outer s H E hr S.nd (takes_of rfl rfl rfl rfl), ?_⟩
  have hO' : (O.all fun p => decide (ps.length ≤ p.1)) = true := List.all_eq_true.mpr fun p hp => by
    have z := List.all_eq_true.mp hO p hp
    simp only [Bool.and_eq_true] at z
    exact z.1
  have o0 : own O (L2.start N vs) = [] := own_start hn hO'
  have sm : ∀ {σ' : L2.St} {H' : Hp}, Stp O (L2.start N vs) H σ' H' → Same H H' := fun st b o e => st.keep b o (.inl (by rw [o0]; intro z; cases z)) e
  have fr : ∀ {a : Addr}, hid (own O (L2.start N vs)) H a = none → H a = none := fun {a} h => by
    rw [o0] at h
    unfold hid at h
    rw [if_neg (by intro z; cases z)] at h
    exact h
  refine ⟨⟨A', []⟩, startE N.length ds, start_env hn hl hO hA r, ?_⟩
  unfold dDefF SO.finF at wp
  cases ht : t (startE N.length ds) with
  | nx ρ' => rw [ht] at wp; exact wp.elim
  | rt d ρ' => rw [ht] at wp; exact fun a σ' H' E' st n rr => wp a H' (sm st) (fr n) rr
  | err x ρ' => rw [ht] at wp; exact fun σ' H' E' st => wp H' (sm st)
  | bk _ => rw [ht] at wp; exact wp.elim
  | ct _ => rw [ht] at wp; exact wp.elim
  | bad => rw [ht] at wp; exact wp.elim
abbrev OkF (P : Program) (w : World) (base : Heap) (cl : Nat → Addr) (k : Nat) {x : Str} {st : Stmt} {ps : List Str} (f : Fd K mg x st ps) (g : List D → Out D) : Prop := FnOk P w K mg base (L2.CX P w) k f.a f.fd ps (spF K cl ps.length g)
theorem okF {x : Str} {st : Stmt} {N ps : List Str} {k n : Nat} {cl : Nat → Addr} {t : DS} (O : Ow) (f : Fd K mg x st ps) (S : FnScope N ps (defScope st)) (hO : (O.all fun p => decide (ps.length ≤ p.1) && decide (p.1 < N.length)) = true) (hl : ps.length ≤ N.length) (hn : N.length = n)
    (hbody : ∀ (cdv : Value) (A : Around) (outer : List PySem.Env) (s : Shared) (H : Hp) (E : XK), Room k (A.deeper (PyProof.Rows.envOfC x (defScope st) s.heap.objs.size f.a cdv)) → N.Nodup →
      Takes (cxOf (L2.CX P w) P w K mg base N x (defScope st) f.a cdv A outer s H E) (fun cls d _ H' => E cls d H') →
      PSsF (cxOf (L2.CX P w) P w K mg base N x (defScope st) f.a cdv A outer s H E) ⟨cl, O, fun cls d _ H' => E cls d H'⟩ (defBody st) t) :
    OkF P w base cl (k + 1) f (dDefF n t) := by
  subst hn
  exact def_okF O f.F S hO hl hbody
end
section
variable {X : Cx} {c : Pc} {m : Bool} {e a b : Expr} {f g : DE} {pos p : Pos}
theorem pf_callF {x : Str} {st : Stmt} {j k n : Nat} {ps : List Str} {g : List D → Out D} {es : List Expr} {ga : DA} (f : Fd X.K X.mg x st ps) (F : OkF X.prog X.w X.base c.cl j f g) (hr : Room k X.A) (hj : j ≤ k) (hn : ps.length = n)
    (tk : Takes X c.W) (ha : PAD X c true (e :: es) ga) (hg : Gl X x) (hdb : (x == ("__debug__" : Str)) = false)
    (he : starEach (e :: es) X.env = (false, eval e X.env) :: starEach es X.env) (hpl : (backTo pos (starEach es X.env)).any (·.1) = false) :
    PF X c .l (.Call (.Name x p) (e :: es) [] pos) (dUse n g ga) := by
  subst hn
  exact PE.imp (pe_callS (F.mono hj) hr hg f.m f.F.kp f.b (fun σ => passAt tk σ) ha hdb he hpl) fun σ H Q ⟨Fm, ρ, E, w⟩ => ⟨Fm, ρ, E, (Out.wp_bind w).imp (fun ds k vs H1 s r => by
    by_cases hl : ds.length = ps.length
    · rw [if_pos hl] at k
      exact ⟨by rw [r.len, hl], _, ds, (E.up s).hdom true, r, k.imp (fun d q a H2 s2 n2 r2 => q a H2 (s.trans s2) (Same.free s n2) r2) fun x z H2 s2 => z H2 (s.trans s2)⟩
    · rw [if_neg hl] at k
      exact k.elim) fun _ z => z⟩
/-! ### + of lists as a new one -/
def lstFx (d : D) : Out D := match d with
  | .list l => if D.fixA l = true then .ok (.list l) else .bad
  | _ => .bad
def dAddF (f g : DE) : DE := fun ρ => (dOp addD f g ρ).bind lstFx
theorem pf_add (ha : PD X c false a f) (hb : PD X c false b g) : PF X c .l (.BinOp a .Add b pos) (dAddF f g) := by
  refine PE.imp (pe_op op_cat ha hb) fun σ H Q ⟨F, ρ, E, w⟩ => ?_
  refine two (m := false) (P := fun _ _ _ _ _ => True) E ((Out.wp_bind (Out.wp_bind w)).imp (fun x k => (Out.wp_bind k).imp (fun y k2 v u H' s r1 r2 => ?_) fun _ z => z) fun _ z => z)
  obtain ⟨d, e, q⟩ := of_wp k2
  cases d <;> try (exact q.elim)
  rename_i l
  obtain ⟨hf, q⟩ := if_wp (show (if D.fixA l = true then Out.ok (D.list l) else .bad).wp _ _ from q)
  cases r1 <;> cases r2 <;> first | (cases e; done) | (obtain ⟨_, z⟩ := if_some e; cases z; done) | skip
  rename_i a' xs ds h1 h2 h3 b' ys es g1 g2 g3
  obtain ⟨hl, z⟩ := if_some e
  cases z
  have hz : xs.length + ys.length ≤ sizeLine := cap_ok (by rw [h3.len, g3.len]; exact hl)
  refine ⟨a', b', xs, ys, rfl, rfl, hid_sub _ _ h1, hid_sub _ _ g1, hz, fun p hp => ?_⟩
  have rr := RpA.keep (E.up s).ocel _ _ hf (h3.append g3)
  refine q p _ (s.trans (same_upd hp)) (Same.free s hp) ⟨_, _, rfl, upd_same, by rw [List.length_append]; exact hz, ?_⟩
  rw [hid_upd List.mem_cons_self]
  refine rr.up (hid_le fun b hb => ?_)
  rcases List.mem_cons.mp hb with z | z
  · exact .inr (by rw [z]; exact hp)
  · exact .inl z
/-! ### x.extend(e), e a list or a tuple -/
theorem ext_tup (l b : Addr) (its its2 : Array Value) (n : Nat) (h1 : its.size + its2.size ≤ sizeLine) :
    Meets (Builtin.«list.extend» ⟨[.ref l, .ref b], []⟩) (fun _ R s => s.heap.get? l = some { cls := .type "list", data := .seq its n } ∧ s.heap.IsTuple b its2 ∧ R (.ok (.ret Value.none)) { s with heap := s.heap.update l (Obj.mapSeq (· ++ its2)) }) := by
  rintro prog w A R s ⟨hl, ⟨o, ho, hc, n2, hd⟩, hR⟩
  have hz : its.size ≤ sizeLine := by omega
  have hz2 : (its ++ its2).size ≤ sizeLine + 1 := by rw [Array.size_append]; omega
  have hlong : (!its.isEmpty && Builtin.List.listTooLong (its.size + its2.size)) = false := by rw [notLongL h1, Bool.and_false]
  show wpAny _ A.in1 (Builtin.List.listExtendWith (.ref l) (.ref b) .none) _ _ s
  have hT : (Builtin.List.listSameRef (.ref l) (.ref b) || Value.type "tuple" == Value.type "list" || Value.type "tuple" == Value.type "tuple") = true := by simp
  unfold Builtin.List.listExtendWith
  refine wpAny_bind (wpAny_typeOf ⟨o, ho, hc⟩ ?_)
  rw [if_pos hT]
  unfold Builtin.List.listItems Builtin.List.listUpdate
  refine wpAny_bind (wpAny_bind (wpAny_seqItems ho hd (wpAny_pure (wpAny_bind (wpAny_bind (wpAny_seqItems hl rfl (wpAny_pure ?_)))))))
  rw [if_neg (by rw [hlong]; exact Bool.false_ne_true)]
  refine wpAny_bind (wpAny_updateSeq hl rfl (hz := hz) (_hz' := hz2) ?_)
  exact wpAny_pure hR
def rExtA (K : PySem.W.Frag) : V → List V → Hp → VK → Prop := fun x vs H Q => ∃ l b xs zs, x = .ref l ∧ vs = [.ref b] ∧ H l = some (.lst xs) ∧ (H b = some (.lst zs) ∨ SqT K H b zs) ∧ xs.length + zs.length ≤ sizeLine ∧ Q .non (upd H l (.lst (xs ++ zs)))
theorem mt_extA : MtM X "list.extend" (rExtA X.K) := by
  intro pins s σ H x vs v us Q I rx rv h
  obtain ⟨l, b, xs, zs, rfl, rfl, hH, hB | hB, hz, q⟩ := h
  · exact mt_extend pins s σ H _ _ v us Q I rx rv ⟨l, b, xs, zs, rfl, rfl, hH, hB, hz, q⟩
  · cases rx
    obtain ⟨u, rfl, ru⟩ := rv.one
    cases ru
    obtain ⟨_, its, n, r, hl, e⟩ := I.lstM hH
    obtain ⟨its2, r2, t2, _⟩ := I.tuple hB
    refine call_meets PySem.F.slot_list_extend ⟨_, e, rfl⟩ PySem.F.entry_list_extend (PySem.F.args_list_extend_2 _ _) (ext_tup l b its.toArray its2.toArray n (by rw [List.size_toArray, List.size_toArray, ← hl, ← r2.length]; exact hz)) ⟨e, t2, ?_⟩
    exact ⟨.non, _, I.lset (its' := its ++ its2) hH e (by simp) (r.append r2) (by rw [List.length_append]; exact hz), rfl, q⟩
def ofSq (d : D) (k : List D → SO) : SO := match d with
  | .list l => k l
  | .tuple l => k l
  | _ => .bad
def dExt (i : Nat) (f : DE) : DS := fun ρ => atL ρ i fun l => lift (f ρ) ρ fun d => ofSq d fun m => if l.length + m.length ≤ 100000 then .nx (ρ.set i (some (.list (l ++ m)))) else .bad
theorem ps_ext (i : Nat) (k : Kd) {x : Str} {e : Expr} {f : DE} {p1 p2 p3 : Pos} (h : PD X c true e f) (ho : isOw c.O i k = true := by rfl) (hu : onlyK c.O i k = true := by rfl) (hk : k = .l ∨ k = .p := by first | exact .inl rfl | exact .inr rfl) (hN : X.N[i]? = some x := by rfl)
    (hv : Vis X.env.scope x := by first | exact Or.inl rfl | exact Or.inr (Or.inl rfl) | exact Or.inr (Or.inr rfl)) (hd : (x == ("__debug__" : Str)) = false := by decide) (hcd : (x == ("__classdict__" : Str)) = false := by decide)
    (hs : swapsWith (.Call (.Attribute (.Name x p1) "extend" p2) [e] [] p3) none pos.line X.env = pure false := by rfl)
    (pe : ∀ {t : TE}, PE X e t → PE X (.Call (.Attribute (.Name x p1) "extend" p2) [e] [] p3) (tBM X.K "list" (rExtA X.K) (tVar i) (tCons t tNil)) := by exact fun h => (pe_bm PySem.F.plainAttrs_list PySem.F.slot_list_extend PySem.F.type_list_extend mt_extA (pv _) (pa_cons h pa_nil))) : PSD X c (.Expr (.Call (.Attribute (.Name x p1) "extend" p2) [e] [] p3) pos) (dExt i f) :=
  PS.imp (ps_expr (pe h) hs) fun Dn σ H ⟨F, ρ, E, w⟩ => by
    have hi := isOw_of ho
    obtain ⟨l, e1, w1⟩ := atL_wp w
    obtain ⟨a, xs, ds, z, h2, h3, h4, h5⟩ := E.lst hi hk e1
    cases z
    refine ⟨_, h2, .inl ⟨rfl, _, SqL.of h3⟩, ex_wp E w1 fun d v H' s E' r w2 => ?_⟩
    have fin : ∀ {b : Addr} {zs : List V} {es : List D}, (H' b = some (.lst zs) ∨ SqT X.K H' b zs) → RpA X.K (hid (Pd.hs true F c.O σ) H') zs es → (if l.length + es.length ≤ 100000 then SO.nx (ρ.set i (some (.list (l ++ es)))) else .bad).wp (nxW X.K c F σ H' Dn.nx) (nxW X.K c F σ H' Dn.bk) (nxW X.K c F σ H' Dn.ct) (rtW X.K c F σ H' Dn.rt) (xW X.K c F σ H') →
        rExtA X.K (.ref a) [.ref b] H' fun _ H2 => Dn.nx σ H2 := fun {b zs es} hb rr w3 => by
      obtain ⟨hl, w4⟩ := ifS_wp w3
      have hz : xs.length + zs.length ≤ sizeLine := cap_ok (by rw [h5.len, rr.len]; exact hl)
      refine ⟨a, b, xs, zs, rfl, rfl, s _ _ h3, hb, hz, ?_⟩
      refine w4 σ _ (E'.cell hi hu h2 (cel_l hk upd_same (by rw [List.length_append]; exact hz) ((h5.up (hid_mono s)).append rr))) (stp_cell hi h2 ⟨_, s _ _ h3, rfl⟩)
    cases r with
    | list g1 g2 g3 => exact fin (.inl (hid_sub _ _ g1)) g3 w2
    | tuple g1 g2 g3 => exact fin (.inr (SqT.of (hid_sub _ _ g1))) g3 w2
    | _ => exact w2.elim
/-! ### a list or dict handed over -/
def dMov (i j : Nat) : DS := fun ρ => match ρ[j]? with
  | some (some d) => .nx ((ρ.set j none).set i (some d))
  | _ => .bad
theorem EnvR.give {K : PySem.W.Frag} {O : Ow} {F : Fm} {ρ : Env} {σ : L2.St} {H : Hp} {i j : Nat} {k : Kd} {d : D} {a : Addr} (E : EnvR K O F ρ σ H) (hi : (i, k) ∈ O) (hui : onlyK O i k = true) (hj : (j, k) ∈ O) (hu : onlyK O j k = true) (hk : k ≠ .p) (hij : i ≠ j) (e : ρ[j]? = some (some d)) (e2 : σ[j]? = some (some (.ref a))) :
    EnvR K O F ((ρ.set j none).set i (some d)) ((σ.set j none).set i (some (.ref a))) H := by
  obtain ⟨d', a', q1, q2, q3, q4⟩ : ∃ d' a', ρ[j]? = some (some d') ∧ σ[j]? = some (some (.ref a')) ∧ a' ∉ F.A ∧ Cel K (hid (F.A ++ own O σ) H) H k a' d' := by
    rcases E.cel j k hj with q | ⟨q, _⟩
    · exact q
    · rw [e] at q; cases q
  rw [e] at q1; cases q1
  rw [e2] at q2; cases q2
  have E1 := E.drop hj hu hk
  have li : i < ρ.length := by
    rcases E.cel i k hi with ⟨_, _, q, _⟩ | ⟨q, _⟩
    · exact (List.getElem?_eq_some_iff.mp q).1
    · exact (List.getElem?_eq_some_iff.mp q).1
  have li' : i < σ.length := by rw [← E.len]; exact li
  have na : a ∉ own O (σ.set j none) := fun z => by
    rcases own_drop a z with q | ⟨_, i', k', h1, h2, h3⟩
    · exact q.2 e2
    · exact h1 (E.dis i' k' j k a h2 hj h3 e2)
  have sub : ∀ b ∈ own O ((σ.set j none).set i (some (.ref a))), b ∈ own O σ := fun b hb => by
    rcases mem_own_set hb with z | ⟨x, kx, _, h1, h2⟩
    · rw [z]; exact mem_own.mpr ⟨j, k, hj, e2⟩
    · have : b ∈ own O (σ.set j none) := mem_own.mpr ⟨x, kx, h1, h2⟩
      rcases own_drop b this with q | q
      · exact q.1
      · exact q.1
  have up : Same (hid (F.A ++ own O σ) H) (hid (F.A ++ own O ((σ.set j none).set i (some (.ref a)))) H) := hid_le fun b hb => .inl (by
    rcases List.mem_append.mp hb with z | z
    · exact List.mem_append_left _ z
    · exact List.mem_append_right _ (sub b z))
  have ci := List.getElem?_set_self (a := (some d : Option D)) (l := ρ.set j none) (i := i) (by rw [List.length_set]; exact li)
  have si := List.getElem?_set_self (a := (some (V.ref a) : Option V)) (l := σ.set j none) (i := i) (by rw [List.length_set]; exact li')
  have ne : ∀ {x : Nat}, x ≠ i → ((σ.set j none).set i (some (V.ref a)))[x]? = (σ.set j none)[x]? := fun h => List.getElem?_set_ne (Ne.symm h)
  have neρ : ∀ {x : Nat}, x ≠ i → ((ρ.set j none).set i (some d))[x]? = (ρ.set j none)[x]? := fun h => List.getElem?_set_ne (Ne.symm h)
  have gone : ∀ {x : Nat} {b : Addr}, (σ.set j none)[x]? = some (some (.ref b)) → x ≠ j ∧ σ[x]? = some (some (.ref b)) := fun {x b} h => by
    by_cases hx : j = x
    · subst hx
      by_cases hl' : j < σ.length
      · rw [List.getElem?_set_self hl'] at h; cases h
      · rw [List.getElem?_eq_none (by rw [List.length_set]; omega)] at h; cases h
    · rw [List.getElem?_set_ne hx] at h
      exact ⟨fun z => hx z.symm, h⟩
  refine ⟨by simp only [List.length_set]; exact E.len, fun x dx h n => ?_, fun x kx h => ?_, fun x kx y ky b h h' ex ey => ?_, E.adom, fun q hq => ?_, E.fxO⟩
  · have hxi : x ≠ i := fun z => n k (by rw [z]; exact hi)
    have hxj : j ≠ x := fun z => n k (by rw [← z]; exact hj)
    rw [neρ hxi, List.getElem?_set_ne hxj] at h
    rw [ne hxi, List.getElem?_set_ne hxj]
    obtain ⟨v, h1, h2⟩ := E.val x dx h n
    exact ⟨v, h1, h2.up up⟩
  · by_cases hxi : x = i
    · subst hxi
      obtain rfl := onlyK_of hui h
      exact .inl ⟨d, a, ci, si, q3, q4.up up rfl⟩
    · rw [neρ hxi, ne hxi]
      rcases E1.cel x kx h with ⟨dx, b, p1, p2, p3, p4⟩ | q
      · obtain ⟨hxj, p2'⟩ := gone p2
        rcases E.cel x kx h with ⟨dy, b2, r1, r2, r3, r4⟩ | ⟨_, r⟩
        · rw [p2'] at r2; cases r2
          rw [List.getElem?_set_ne (Ne.symm hxj)] at p1
          rw [p1] at r1; cases r1
          exact .inl ⟨dx, b, by rw [List.getElem?_set_ne (Ne.symm hxj)]; exact p1, p2, p3, r4.up up rfl⟩
        · rw [p2'] at r; cases r
      · exact .inr q
  · by_cases hxi : x = i
    · by_cases hyi : y = i
      · rw [hxi, hyi]
      · exfalso
        rw [hxi, si] at ex; cases ex
        rw [ne hyi] at ey
        obtain ⟨h1, h2⟩ := gone ey
        exact h1 (E.dis y ky j k a h' hj h2 e2)
    · by_cases hyi : y = i
      · exfalso
        rw [hyi, si] at ey; cases ey
        rw [ne hxi] at ex
        obtain ⟨h1, h2⟩ := gone ex
        exact h1 (E.dis x kx j k a h hj h2 e2)
      · rw [ne hxi] at ex
        rw [ne hyi] at ey
        exact E.dis x kx y ky b h h' (gone ex).2 (gone ey).2
  · have h1 : q.1 ≠ i := fun z => hk (onlyK_of hui (by rw [← z]; exact E.fxO q hq)).symm
    have h2 : j ≠ q.1 := fun z => hk (onlyK_of hu (by rw [z]; exact E.fxO q hq)).symm
    rw [ne h1, List.getElem?_set_ne h2]
    exact E.fix q hq
theorem ps_mov (i j : Nat) (k : Kd) {x y : Str} {py : Pos} (hN : X.N.Nodup) (hi : isOw c.O i k = true := by rfl) (hui : onlyK c.O i k = true := by rfl) (hj : isOw c.O j k = true := by rfl) (hu : onlyK c.O j k = true := by rfl) (hk : k ≠ .p := by decide) (hij : i ≠ j := by decide)
    (ps : PS X (.Assign [.Name y py] (.Name x p) pos) (tAsg (tVar j) (gName i)) := by exact ps_set (by assumption) rfl (by first | exact Or.inl rfl | exact Or.inr rfl) (pv _)) : PSD X c (.Assign [.Name y py] (.Name x p) pos) (dMov i j) :=
  PS.imp (PS.weakN ps j) fun Dn σ H ⟨F, ρ, E, w⟩ => by
    unfold dMov at w
    split at w
    · rename_i d e
      have hj' := isOw_of hj
      rcases E.cel j k hj' with ⟨d', a, q1, q2, q3, q4⟩ | ⟨q, _⟩
      · refine ⟨_, q2, ?_⟩
        show Dn.nx ((σ.set i (some (.ref a))).set j none) H
        rw [List.set_comm _ _ hij]
        have E2 := E.give (isOw_of hi) hui hj' hu hk hij e q2
        refine w _ H E2 ⟨fun _ _ _ q => q, fun b hb => ?_⟩
        rcases mem_own_set hb with z | ⟨x, kx, _, h1, h2⟩
        · rw [z]; exact .inl (mem_own.mpr ⟨j, k, hj', q2⟩)
        · have : b ∈ own c.O (σ.set j none) := mem_own.mpr ⟨x, kx, h1, h2⟩
          rcases own_drop b this with q | q
          · exact .inl q.1
          · exact .inl q.1
      · rw [e] at q; cases q
    · exact w.elim
end
end Pd

/-! Pq: sorted(set(..)) of ints; index of tuples, of lists of data. -/
namespace Pd
open PySem L2 PyProof.Rows

/-! ### set(x), x a list of ints -/
section
variable {prog : Program} {w : World} {A : Around} {E : Value → Shared → Prop} {s : Shared}
/-- a class called, the check of the call of its __init__ told by itself -/
theorem call_chk {T nid iid : String} {B : Builtin} {args : List Value} {Q Q1 : Value → Shared → Prop} (ft : TypeCalled T nid iid) (hct : checkTypeCall T ⟨args, []⟩ = pure ()) (hB : entryFor table iid = some B)
    (hnew : codeAny (model prog w) A.in1 (.call (.builtin nid) ⟨.type T :: args, []⟩) (wants Q1 E) s)
    (hin : ∀ ob s1, Q1 ob s1 → s1.TypeIs ob T ∧ codeAny (model prog w) A.in1 (.call (.builtin iid) ⟨ob :: args, []⟩) (wants (fun r s2 => r = .none ∧ Q ob s2) E) s1) :
    wpAny (model prog w) A (call (.type T) args) Q E s := by
  have ⟨c, tl, hmro⟩ := ft.mro
  have a1 := ft.made
  have a2 := ft.sub
  have a3 := ft.notType
  have a4 := ft.canCreate
  apply wpAny_call; apply codeAny_of_tree
  show wpAny _ _ (callAny (.type T) _) _ _ s
  apply wpAny_pure
  refine ⟨Code.quiet_builtin _ (by decide +kernel), ?_⟩
  apply codeAny_builtin PySem.F.entry_type_call
  rw [Around.under_plain (weight_type_call_type T args []) rfl]
  repeat (any_goals first | assumption | wp_step)
  apply codeAny_mono hnew
  rintro (e | fl) s1 hr
  · exact hr
  · cases fl with
    | ret ob =>
      obtain ⟨hT, hc⟩ := hin ob s1 hr
      have b1 := ft.init.lookup
      have b2 := ft.init.bind ob
      repeat (any_goals first | assumption | wp_step)
      apply codeAny_mono hc
      rintro (e | f2) s2 h2
      · exact h2
      · cases f2 with
        | ret r =>
          obtain ⟨rfl, hq⟩ := h2
          repeat (any_goals first | assumption | wp_step)
        | _ => exact h2.elim
    | _ => exact hr.elim
/-- a set that is new and empty -/
abbrev eo (w : World) : Obj := { cls := .type "set", dict := none, data := .set #[] 0 (.fresh 0 0 (!w.params.followText "set-order")) }
theorem set_list {l : Addr} {its : Array Value} (ns : List Int) {Q : Value → Shared → Prop} (hh : A.handled = none) (hl : s.heap.IsList l its) (hi : IntsAre its.toList ns) (hb : ns.length + 1 < scanBound)
    (h : ∀ (h' : Heap) (tk c : Nat), SetR w h' s.heap.objs.size (fun j => decide (j ∈ ns)) c → c ≤ ns.length → (∀ b o, s.heap.get? b = some o → h'.get? b = some o) → Q (.ref s.heap.objs.size) { s with heap := h', toks := tk }) :
    wpAny (model prog w) A (call (.type "set") [.ref l]) Q E s := by
  have hz : its.size = ns.length := by
    have := IntsAre.length hi
    rwa [Array.length_toList] at this
  refine call_chk (Q1 := fun ob s1 => ob = .ref s.heap.objs.size ∧ s1 = { s with heap := s.heap.push (eo w) }) PySem.F.called_set (PySem.F.typeCall_set_1 _) PySem.F.entry_set_init (code_set_led1 _ ⟨rfl, rfl⟩) ?_
  rintro _ _ ⟨rfl, rfl⟩
  obtain ⟨H, g, d, tk, os⟩ := s
  dsimp only at hl h ⊢
  have g0 : (H.push (eo w)).get? H.objs.size = some (eo w) := Heap.get?_push_size _ rfl
  have hT : Shared.TypeIs ⟨H.push (eo w), g, d, tk, os⟩ (.ref H.objs.size) "set" := ⟨_, g0, rfl⟩
  refine ⟨hT, codeAny_call_builtin PySem.F.called_set.init.plain PySem.F.entry_set_init (check_set_init_1 hT ?_)⟩
  obtain ⟨⟨oc, od, oda, osl⟩, ho, hc, n, hd⟩ := hl
  dsimp only at hc hd
  subst hc hd
  have q1 : (H.push (eo w)).get? l = some { cls := .type "list", dict := od, data := .seq its n, slots := osl } := Heap.get?_push_of_some _ ho
  have q2 := PySem.F.sub_list_set
  have q3 := PySem.F.sub_list_frozenset
  have q4 : (Value.type "list" == Value.type "dict") = false := by decide
  have L1 : (H.push (eo w)).IsList l its := ⟨_, q1, rfl, n, rfl⟩
  unfold Builtin.«set.__init__»; unfold noKeywords; unfold Builtin.Frozenset.updateFrom
  generalize hpi : pyIter = PI
  wp_walk
  subst hpi
  apply wpAny_pyIter_list L1
  apply wpAny_bind; apply wpAny_runValue
  have lt : l < H.objs.size := Heap.lt_size ho
  have sz : (H.push (eo w)).objs.size = H.objs.size + 1 := Heap.size_push ..
  have hA : A.in1.in1.in1.handled = none := by simp [hh]
  have ne1 : l ≠ (H.push (eo w)).objs.size := fun z => by rw [z, sz] at lt; exact Nat.lt_irrefl _ (Nat.lt_of_succ_lt lt)
  have ne2 : H.objs.size ∉ [(H.push (eo w)).objs.size, l] := fun z => by
    rcases List.mem_cons.mp z with z | z
    · rw [sz] at z; exact Nat.ne_of_lt (Nat.lt_succ_self _) z
    · rw [List.mem_singleton.mp z] at lt; exact Nat.lt_irrefl _ lt
  have hv : ∀ (i : Nat) (v : Value), its[i]? = some v → ∃ k t, ns[i]? = some k ∧ v = .int k t := fun i v hv => by
    have hlt : i < ns.length := by rw [← hz]; exact (Array.getElem?_eq_some_iff.mp hv).1
    obtain ⟨t, e⟩ := IntsAre.int_at hi i v (by rw [Array.getElem?_toList]; exact hv)
    rw [List.getD_eq_getElem?_getD, List.getElem?_eq_getElem hlt] at e
    exact ⟨ns[i], t, List.getElem?_eq_getElem hlt, e⟩
  have g1 : ((H.push (eo w)).push { cls := .type "list_iterator", data := .fields #[.ref l, .int 0 0] }).get? H.objs.size = some (eo w) := Heap.get?_push_of_some _ g0
  refine set_update_ints ((Walks.list hA _ l ne1 its).toS) H.objs.size ne2 ns hz hb hv (its.size - 0) 0 _ (by omega) (Nat.zero_le _) ⟨⟨_, Heap.get?_push_size _ rfl, rfl, rfl⟩, L1.push _⟩ ⟨0, Nat.le_refl 0, setR_new_at g1⟩ ?_
  rintro ⟨H2, g2, d2, tk2, os2⟩ c hm hc2 hS
  obtain rfl : g2 = g := hm.gens
  obtain rfl : d2 = d := hm.drawn
  obtain rfl : os2 = os := hm.os
  show wpAny _ _ _ _ _ _
  apply wpAny_pure
  show wpAny _ _ (ret Value.none) _ _ _
  apply wpAny_pure
  refine ⟨rfl, h H2 tk2 c hS (by omega) fun b o e => ?_⟩
  have lb := Heap.lt_size e
  refine hm.heap b o (fun z => ?_) (Heap.get?_push_of_some _ (Heap.get?_push_of_some _ e))
  rcases List.mem_cons.mp z with z | z
  · rw [z] at lb; exact Nat.lt_irrefl _ lb
  · rw [List.mem_singleton.mp z, sz] at lb; exact Nat.lt_irrefl _ (Nat.lt_of_succ_lt lb)
end
/-! ### sorted(set(x)) -/
section
variable {X : Cx} {c : Pc} {m : Bool} {e : Expr} {f : DE} {p p2 pos pos2 : Pos}
def rSetI (K : PySem.W.Frag) (w : World) : List V → Hp → VK → Prop := fun xs H Q => ∃ (l : Addr) (ns : List Int), xs = [.ref l] ∧ (SqL K H l (ns.map V.int) ∨ SqT K H l (ns.map V.int)) ∧ ns.length ≤ 1000 ∧
  ∀ q n, H q = none → n ≤ ns.length → Q (.ref q) (upd H q (SetO w q (fun j => decide (j ∈ ns)) n))
theorem cr_setI (hc : X.calm = true) : CallR X (.type "set") (rSetI X.K X.w) := by
  intro pins s σ H xs us Q I r h
  obtain ⟨l, ns, rfl, hq, hn, q⟩ := h
  rw [Vals.ref1 r]
  have hd := I.ok.hd hc
  have hb : ns.length + 1 < scanBound := by unfold scanBound; omega
  have fin : ∀ (h' : Heap) (tk n : Nat), SetR X.w h' s.heap.objs.size (fun j => decide (j ∈ ns)) n → n ≤ ns.length → (∀ b o, s.heap.get? b = some o → h'.get? b = some o) → EP X pins σ Q (.ref s.heap.objs.size) { s with heap := h', toks := tk } := fun h' tk n R hn2 k =>
    ⟨.ref _, upd H s.heap.objs.size (SetO X.w s.heap.objs.size (fun j => decide (j ∈ ns)) n), I.laid (t' := tk) k (Nat.le_refl _) (setO_new R), rfl, q _ n (I.hok.fresh (Nat.le_refl _)) hn2⟩
  rcases hq with hq | hq
  · obtain ⟨its, rv, pl, hz⟩ := I.list hq
    exact set_list (its := its.toArray) ns hd pl.isList (by simpa using ints_of_vals rv) hb fin
  · obtain ⟨its, rv, pt, hz⟩ := I.tuple hq
    exact call_set_tupI ns hd pt (by simpa using ints_of_vals rv) hb fin
def dedI (ns : List Int) : List Int := ns.foldr (fun i l => if i ∈ l then l else i :: l) []
theorem mem_ded {i : Int} : ∀ {ns : List Int}, i ∈ dedI ns ↔ i ∈ ns
  | [] => Iff.rfl
  | n :: ns => by
    have ih := mem_ded (i := i) (ns := ns)
    show i ∈ (if n ∈ dedI ns then dedI ns else n :: dedI ns) ↔ _
    split
    · rename_i hn
      rw [ih, List.mem_cons]
      exact ⟨.inr, fun h => h.elim (fun z => by rw [z]; exact mem_ded.mp hn) id⟩
    · rw [List.mem_cons, List.mem_cons, ih]
theorem ded_nd : ∀ ns : List Int, (dedI ns).Nodup
  | [] => .nil
  | n :: ns => by
    show (if n ∈ dedI ns then dedI ns else n :: dedI ns).Nodup
    split
    · exact ded_nd ns
    · exact List.nodup_cons.mpr ⟨by assumption, ded_nd ns⟩
/-- sorted, each once -/
def srtI (ns : List Int) : List Int := sortI (dedI ns)
theorem mem_srt {i : Int} {ns : List Int} : i ∈ srtI ns ↔ i ∈ ns := by
  unfold srtI sortI
  rw [(List.mergeSort_perm _ _).mem_iff, mem_ded]
theorem srt_lt (ns : List Int) : (srtI ns).Pairwise (· < ·) := by
  have h1 : (srtI ns).Pairwise (· ≤ ·) := by
    have := List.pairwise_mergeSort (le := fun a b : Int => decide (a ≤ b)) (fun a b c h1 h2 => by simp at *; omega) (fun a b => by simp; omega) (dedI ns)
    exact this.imp fun h => by simpa using h
  have h2 : (srtI ns).Nodup := ((List.mergeSort_perm (dedI ns) fun a b => decide (a ≤ b)).nodup_iff).mpr (ded_nd ns)
  exact (h1.and h2).imp fun h => by have := h.1; have := h.2; omega
theorem lt_ext : ∀ {A B : List Int}, A.Pairwise (· < ·) → B.Pairwise (· < ·) → (∀ i, i ∈ A ↔ i ∈ B) → A = B
  | [], [], _, _, _ => rfl
  | [], b :: B, _, _, h => absurd ((h b).mpr List.mem_cons_self) (by simp)
  | a :: A, [], _, _, h => absurd ((h a).mp List.mem_cons_self) (by simp)
  | a :: A, b :: B, hA, hB, h => by
    have pa := List.pairwise_cons.mp hA
    have pb := List.pairwise_cons.mp hB
    have e : a = b := by
      rcases List.mem_cons.mp ((h a).mp List.mem_cons_self) with z | z
      · exact z
      · rcases List.mem_cons.mp ((h b).mpr List.mem_cons_self) with y | y
        · exact y.symm
        · have := pb.1 a z; have := pa.1 b y; omega
    subst e
    rw [lt_ext pa.2 pb.2 fun i => ?_]
    constructor
    · intro hi
      rcases List.mem_cons.mp ((h i).mp (List.mem_cons_of_mem _ hi)) with z | z
      · have := pa.1 i hi; omega
      · exact z
    · intro hi
      rcases List.mem_cons.mp ((h i).mpr (List.mem_cons_of_mem _ hi)) with z | z
      · have := pb.1 i hi; omega
      · exact z
def ofI (d : D) : Option (List Int) := match d with
  | .list l => intsOf l
  | .tuple l => intsOf l
  | _ => none
/-- sorted(set(x)), fewer than 64 -/
def srtC (d : D) : Option D := (ofI d).bind fun ns => if ns.length < 64 then some (.list ((srtI ns).map .int)) else none
theorem pf_srt (hc : X.calm = true) (hm : X.mg "sorted" = none) (hm2 : X.mg "set" = none) (h : PD X c false e f) {x y : Str} (hx : x = "sorted") (hy : y = "set") (hg : Gl X x) (hg2 : Gl X y)
    (he : starEach [e] X.env = (false, eval e X.env) :: starEach [] X.env) (he2 : starEach [.Call (.Name y p2) [e] [] pos2] X.env = (false, eval (.Call (.Name y p2) [e] [] pos2) X.env) :: starEach [] X.env) (hpl : (backTo pos2 (starEach [] X.env)).any (·.1) = false) (hpl2 : (backTo pos (starEach [] X.env)).any (·.1) = false) :
    PF X c .l (.Call (.Name x p) [.Call (.Name y p2) [e] [] pos2] [] pos) (dUn srtC f) := by
  subst hx hy
  exact PE.imp (pe_callB (cr_sortedSet hc) hg hm (by decide +kernel) (pa_cons (pe_callTy (cr_setI hc) hg2 hm2 (by decide +kernel) (pa_cons h pa_nil he) (by decide) (by decide) he hpl) pa_nil he2) (by decide) (by decide) he2 hpl2) fun σ H Q ⟨F, ρ, E, w⟩ => ⟨F, ρ, E, (Out.wp_bind w).imp (fun d k v H1 s r => by
    obtain ⟨d', e', q⟩ := of_wp k
    obtain ⟨ns, e1, e2⟩ := Option.bind_eq_some_iff.mp e'
    obtain ⟨hl, rfl⟩ := if_some e2
    have fin : ∀ {l : Addr}, (SqL X.K H1 l (ns.map V.int) ∨ SqT X.K H1 l (ns.map V.int)) → rSetI X.K X.w [.ref l] H1 fun v H2 => rSortedSet X.w [v] H2 Q := fun {l} hq => by
      refine ⟨l, ns, rfl, hq, by omega, fun q0 n hq0 hn => ⟨q0, _, n, rfl, upd_same, by omega, fun ms p0 k1 k2 k3 hp0 => ?_⟩⟩
      have em : ms = srtI ns := lt_ext k1 (srt_lt ns) fun i => by rw [k2, mem_srt]; simp
      subst em
      have s1 : Same H1 (upd H1 q0 (SetO X.w q0 (fun j => decide (j ∈ ns)) n)) := same_upd hq0
      have n1 : H1 p0 = none := Same.free s1 hp0
      refine q p0 _ ((s.trans s1).trans (same_upd hp0)) (Same.free s n1) ⟨_, _, rfl, upd_same, ?_, RpA.of_ints _⟩
      rw [List.length_map, k3]
      exact cap_ok (by omega)
    cases r with
    | list h1 h2 h3 =>
      have el := intsOf_some e1
      subst el
      have ex := h3.ints
      subst ex
      exact fin (.inl (SqL.of (hid_sub _ _ h1)))
    | tuple h1 h2 h3 =>
      have el := intsOf_some e1
      subst el
      have ex := h3.ints
      subst ex
      exact fin (.inr (SqT.of (hid_sub _ _ h1)))
    | _ => cases e1) fun _ z => z⟩
end
/-! ### x.index(y), data in a list -/
section
variable {X : Cx} {c : Pc} {m : Bool} {e e1 : Expr} {f g : DE} {apos cpos : Pos}
def layD (d : D) : Bool := d.pl && SeqAt.shaped d.py
def ixD (l : List D) (x : D) : Option D := if layD (.list l) = true ∧ layD x = true ∧ (l.any fun y => eqv y x) = true then some (.int (l.findIdx fun y => eqv y x)) else none
def dIdx (f g : DE) : DE := fun ρ => (f ρ).bind fun d => match d with
  | .list l => (g ρ).bind fun y => .of (ixD l y)
  | _ => .bad
theorem pyA_get : ∀ (l : List D) (j : Nat), (D.pyA l)[j]? = (l[j]?).map D.py
  | [], j => by simp [D.pyA]
  | d :: l, 0 => rfl
  | d :: l, j + 1 => by
    simp only [D.pyA, List.getElem?_cons_succ]
    exact pyA_get l j
theorem pd_idx {k : Nat} (hr : Room k X.A) (ho : PD X c false e f) (he : PD X c false e1 g) (hb : attributeBase e "index" X.env (eval e X.env) = eval e X.env)
    (hfew : ((backTo cpos (starEach (e1 :: []) X.env)).all (fun x => !x.1) && (backToKw cpos (keywordEach [] X.env)).all (fun x => x.1.isSome)
      && decide ((e1 :: []).length + ([] : List Keyword).length + (if ([] : List Keyword).isEmpty then 0 else 1) < 30)) = true)
    (hline : (apos.endLine == cpos.line) = true) (hs : starEach (e1 :: []) X.env = (false, eval e1 X.env) :: starEach [] X.env) (hplain : (backTo cpos (starEach [] X.env)).any (·.1) = false) : PD X c m (.Call (.Attribute e "index" apos) [e1] [] cpos) (dIdx f g) := by
  have hu := hr.un
  exact PE.imp (pe_bm PySem.F.plainAttrs_list PySem.F.slot_list_index PySem.F.type_list_index (mt_indexD (by omega)) ho (pa_cons he pa_nil hs) hb hfew hline hs hplain) fun σ H Q ⟨F, ρ, E, w⟩ => ⟨F, ρ, E, (Out.wp_bind w).imp (fun d k v H1 s1 r => by
    cases d with
    | list l =>
      cases r with
      | @list a xs _ h1 h2 h3 =>
        refine ⟨.inl ⟨rfl, _, SqL.of (hid_sub _ _ h1)⟩, F, ρ, E.up s1, (Out.wp_bind k).imp (fun y k2 u H2 s2 r2 => ?_) fun _ z => z.up s1⟩
        obtain ⟨d', e', q⟩ := of_wp k2
        obtain ⟨⟨p1, p2, p3⟩, rfl⟩ := if_some e'
        unfold layD at p1 p2
        simp only [Bool.and_eq_true] at p1 p2
        obtain ⟨x0, hx0, hx1⟩ := List.any_eq_true.mp p3
        have hlt : (l.findIdx fun z => eqv z y) < l.length := List.findIdx_lt_length_of_exists ⟨x0, hx0, hx1⟩
        have hj : (D.pyA l)[l.findIdx fun z => eqv z y]? = some (l[l.findIdx fun z => eqv z y]'hlt).py := by rw [pyA_get, List.getElem?_eq_getElem hlt]; rfl
        refine ⟨a, u, y.py, D.pyA l, _, _, rfl, rfl, Rp.dp (.list l) _ p1.1 ((Rp.list h1 h2 h3).up ((hid_mono s2).trans hid_sub)), Rp.dp y u p2.1 (r2.up hid_sub), p1.2, p2.2, hj, List.findIdx_getElem (w := hlt), fun m' z' hm hz => ?_, q _ H2 (s1.trans s2) (.int _)⟩
        rw [pyA_get] at hz
        obtain ⟨z, hz1, rfl⟩ := Option.map_eq_some_iff.mp hz
        obtain ⟨hl', rfl⟩ := List.getElem?_eq_some_iff.mp hz1
        have := List.not_of_lt_findIdx hm
        exact this
    | _ => exact k.elim) fun _ z => z⟩
end
/-! ### a comprehension within a comprehension -/
def relS (scope sc : Scope) : Scope := { scope with names := scope.names.map fun (n, k) => if (k == .free && sc.kind == .function && sc.names.lookup n == some .cell) then (n, .cell) else (n, k) }
theorem blk_in {N : List Str} {X : Cx} {sc scope inner : Scope} {own : List (Str × Nat)} (hs : X.env.scope = sc) (h : blkC N (relS scope sc) inner own = true) {s : Shared} {H : Hp} {C : Addr} {cl : List (Str × Addr)} {fp : List Addr} : BlkOk N (X.blk s H scope (compEnvC scope cl C X.env) fp).env.scope inner own := by
  subst hs
  exact blkOk_by h
end Pd

/-! Pr: sep.join(texts). -/
namespace Pd
open PySem L2 PyProof.Rows
def strsOf : List D → Option (List Str)
  | [] => some []
  | .str s :: l => (strsOf l).map (s :: ·)
  | _ :: _ => none
theorem strsOf_some : ∀ {l : List D} {ys : List Str}, strsOf l = some ys → l = ys.map .str
  | [], ys, h => by cases h; rfl
  | d :: l, ys, h => by
    cases d <;> try (cases h; done)
    rename_i s
    unfold strsOf at h
    obtain ⟨zs, e, rfl⟩ := Option.map_eq_some_iff.mp h
    rw [strsOf_some e]
    rfl
@[simp] theorem strsOf_map (ys : List Str) : strsOf (ys.map .str) = some ys := by
  induction ys with
  | nil => rfl
  | cons y ys ih =>
    rw [List.map_cons]
    unfold strsOf
    rw [ih]
    rfl
theorem RpA.strs {K : PySem.W.Frag} {H : Hp} : ∀ {ys : List Str} {vs : List V}, RpA K H vs (ys.map .str) → vs = ys.map V.str
  | [], _, h => by cases h; rfl
  | y :: ys, _, h => by
    cases h with
    | cons r t =>
      cases r
      rw [RpA.strs t]
      rfl
def ofTx (d : D) : Option (List Str) := match d with
  | .list l => strsOf l
  | .tuple l => strsOf l
  | _ => none
def joinS (a : Str) (d : D) : Option D := (ofTx d).bind fun ys => if (ys.map (·.length)).sum + ys.length * a.length ≤ 1000000 then some (.str (Str.join a ys)) else none
def dJoin (f g : DE) : DE := fun ρ => (f ρ).bind fun d => match d with
  | .str a => (g ρ).bind fun y => .of (joinS a y)
  | _ => .bad
section
variable {X : Cx} {c : Pc} {m : Bool} {o e : Expr} {f g : DE} {apos pos : Pos}
theorem pd_join (ho : PD X c m o f) (he : PD X c false e g) (hs : starEach [e] X.env = [(false, eval e X.env)]) (hbase : attributeBase o "join" X.env (eval o X.env) = eval o X.env) (hline : (apos.endLine == pos.line) = true) :
    PD X c m (.Call (.Attribute o "join" apos) [e] [] pos) (dJoin f g) :=
  PE.imp (pe_join ho he hs hbase hline) fun σ H Q ⟨F, ρ, E, w⟩ => ⟨F, ρ, E, (Out.wp_bind w).imp (fun d k v H1 s1 r => by
    cases d <;> try (exact k.elim)
    rename_i a
    cases r
    refine ⟨⟨a, rfl⟩, F, ρ, E.up s1, (Out.wp_bind k).imp (fun y k2 u H2 s2 r2 => ?_) fun _ z => z.up s1⟩
    obtain ⟨d', e', q⟩ := of_wp k2
    obtain ⟨ys, e1, e2⟩ := Option.bind_eq_some_iff.mp e'
    obtain ⟨hl, rfl⟩ := if_some e2
    have hz : (ys.map (·.length)).sum + ys.length * a.length ≤ 16777216 := Nat.le_trans hl (by decide)
    cases r2 with
    | list h1 h2 h3 =>
      have el := strsOf_some e1
      subst el
      have ex := h3.strs
      subst ex
      exact ⟨a, _, ys, rfl, rfl, .inl (SqL.of (hid_sub _ _ h1)), hz, by rw [show Txt.join a ys = Str.join a ys from StrLaws.glued_eq_join a ys]; exact q _ H2 (s1.trans s2) (.str _)⟩
    | tuple h1 h2 h3 =>
      have el := strsOf_some e1
      subst el
      have ex := h3.strs
      subst ex
      exact ⟨a, _, ys, rfl, rfl, .inr (SqT.of (hid_sub _ _ h1)), hz, by rw [show Txt.join a ys = Str.join a ys from StrLaws.glued_eq_join a ys]; exact q _ H2 (s1.trans s2) (.str _)⟩
    | _ => cases e1) fun _ z => z⟩
end
end Pd

/-! Pt: a dict that is no longer changed is held still; list(d) of a dict with tuples as keys. -/
namespace Pd
open PySem L2 PyProof.Rows
section
variable {X : Cx} {c : Pc} {m : Bool} {e : Expr} {pos p : Pos} {f : DE} {st : Stmt}
/-- from here on the dict at slot i is read only -/
def dLock (i : Nat) : DS := fun ρ => match ρ[i]? with
  | some (some (.dt kvs)) => .nx (ρ.set i (some (.fdt kvs)))
  | some (some (.fdt _)) => .nx ρ
  | _ => .bad
theorem ps_lockD (i : Nat) {t : DS} (h : PSD X c st t) (ho : isOw c.O i .t = true) (hu : onlyK c.O i .t = true) : PSD X c st (dSeq (dLock i) t) := by
  refine ⟨fun pins s σ H Dn I hw => ?_⟩
  obtain ⟨F, ρ, E, w⟩ := hw
  unfold dSeq dLock at w
  have hi := isOw_of ho
  cases hr : ρ[i]? with
  | none => rw [hr] at w; exact w.elim
  | some od =>
    rw [hr] at w
    cases od with
    | none => exact w.elim
    | some d =>
      cases d with
      | fdt kvs => exact h.run pins s σ H Dn I ⟨F, ρ, E, w⟩
      | dt kvs =>
        rcases E.cel i .t hi with ⟨d', a, q1, q2, q3, q4⟩ | ⟨q, _⟩
        · rw [hr] at q1
          cases q1
          rcases q4 with ⟨kvs', z, h1, h2⟩ | ⟨o, kvs', z, _⟩
          · cases z
            obtain ⟨ob, I1⟩ := I.lock h1 trivial
            have E1 := E.cell hi hu q2 (d := .fdt kvs) (o := .frz ob (.dT kvs)) (.inr ⟨ob, kvs, rfl, upd_same, h2⟩)
            exact h.run pins s σ _ Dn I1 ⟨F, _, E1, SO.up (stp_cell hi q2 ⟨_, h1, rfl⟩) w⟩
          · cases z
        · rw [hr] at q
          cases q
      | _ => exact w.elim
def dKeysT (f : DE) : DE := fun ρ => (f ρ).bind fun d => match d with
  | .fdt kvs => if smallT kvs = true then .ok (.list (keyT kvs)) else .bad
  | _ => .bad
/-- list(d), d a dict with tuples as keys that is held still -/
theorem pd_keysT (hc : X.calm = true) (hm : X.mg "list" = none) (ho : PD X c false e f) {x : Str} (hx : x = "list") (hg : Gl X x) (he : starEach [e] X.env = (false, eval e X.env) :: starEach [] X.env) (hpl : (backTo pos (starEach [] X.env)).any (·.1) = false) : PD X c m (.Call (.Name x p) [e] [] pos) (dKeysT f) := by
  subst hx
  exact PD.weak (PE.imp (pe_callTy (call_list_dT hc) hg hm (by decide +kernel) (pa_cons ho pa_nil he) (by decide) (by decide) he hpl) fun σ H Q ⟨F, ρ, E, w⟩ => ⟨F, ρ, E, (Out.wp_bind w).imp (fun d k v H1 s1 r => by
    cases d with
    | fdt kvs =>
      obtain ⟨hl, q⟩ := if_wp (show (if smallT kvs = true then Out.ok (D.list (keyT kvs)) else .bad).wp _ _ from k)
      unfold smallT at hl
      rw [Bool.and_eq_true] at hl
      have hl1 := of_decide_eq_true hl.1
      cases r with
      | @fdt a o _ h1 h2 =>
        refine ⟨_, _, rfl, .inr ⟨o, hid_sub _ _ h1⟩, fun p bs hp hk => ?_⟩
        have nt : ∀ b ∈ hs true F c.O σ, ∀ xs, H1 b ≠ some (.tup xs) := fun b hb xs z => by
          obtain ⟨u, e4, e5⟩ := (E.up s1).hdom true b hb
          rw [z] at e4
          cases e4
          cases e5
        have rr := isKeys_R (K := X.K) nt hk fun q hq => by
          have := List.all_eq_true.mp hl.2 q hq
          exact cap_ok (Nat.le_trans (of_decide_eq_true this) (by decide))
        have hlen : (bs.map V.ref).length ≤ sizeLine := by
          rw [rr.len, List.length_map]
          exact cap_ok hl1
        obtain ⟨s2, r2⟩ := new_list (K := X.K) ((E.up s1).hdom true) hp hlen rr
        exact q _ _ (s1.trans s2) r2
    | _ => exact k.elim) fun _ z => z⟩)
end
end Pd

/-! Pu: tuples known to the object: tuple(x), x.index(i). -/
namespace L2
open PySem PySem.Spec PyProof.Rows
section
variable {X : Cx}
theorem call_tuple_frz : CallR X (.type "tuple") (fun xs H Q => ∃ p ys, xs = [.ref p] ∧ SqL X.K H p ys ∧ ∀ l o, H l = none → o.dict = none → Q (.ref l) (upd H l (.frz o (.tup ys)))) := by
  intro pins s σ H xs us Q I r h
  obtain ⟨p, ys, rfl, hq, q⟩ := h
  obtain ⟨u, rfl, rx⟩ := vals1 r
  cases rx
  obtain ⟨its, r', pl, hz⟩ := I.list hq
  have hlen := r'.length
  refine call_tuple_list pl.isList (fun h' kp => ?_) (by simp only [List.size_toArray] <;> omega)
  have I1 : Inv X pins σ H { s with heap := h' } := I.kept (t' := s.toks) kp
  have I2 : Inv X pins σ (upd H h'.objs.size (.frz { cls := .type "tuple", data := .seq its.toArray } (.tup ys))) { s with heap := h'.push { cls := .type "tuple", data := .seq its.toArray } } :=
    I1.laid (t' := s.toks) (fun b o e => Heap.get?_push_of_some _ e) (Nat.le_refl _) (show ObjOk X.prog X.w _ _ _ (.frz _ (.tup ys)) from ⟨Heap.get?_push_size _ rfl, hz, its, r', IsTup.new _ _⟩)
  exact ⟨.ref h'.objs.size, _, I2, rfl, q _ _ (I1.hok.fresh (Nat.le_refl _)) rfl⟩
theorem ints_are : ∀ {ns : List Int} {its : List Value}, Vals (ns.map V.int) its → IntsAre its ns
  | [], _, h => by cases h; exact .nil
  | n :: ns, _, h => by
    cases h with
    | cons r t =>
      obtain ⟨u, rfl⟩ := r
      exact .cons n u (ints_are t)
/-- t.index(i), t a tuple of ints known to the object -/
def tIxF (to : TE) (t : TA) : TE := fun σ H Q => to σ H fun x H1 => ∃ a ob xs, x = .ref a ∧ H1 a = some (.frz ob (.tup xs)) ∧ ob.dict = none ∧ t σ H1 fun vs H2 => ∃ (i : Int) (ns : List Int), vs = [.int i] ∧ xs = ns.map V.int ∧ i ∈ ns ∧ H2 a = some (.frz ob (.tup xs)) ∧ Q (.int (ns.idxOf i : Nat)) H2
theorem pe_ixF {o e : Expr} {to : TE} {t : TA} {apos cpos : Pos} (ho : PE X o to) (ha : PA X [e] t)
    (hbase : attributeBase o "index" X.env (eval o X.env) = eval o X.env)
    (hfew : ((backTo cpos (starEach (e :: []) X.env)).all (fun x => !x.1) && (backToKw cpos (keywordEach [] X.env)).all (fun x => x.1.isSome)
      && decide ((e :: []).length + ([] : List Keyword).length + (if ([] : List Keyword).isEmpty then 0 else 1) < 30)) = true)
    (hline : (apos.endLine == cpos.line) = true) (hs : starEach (e :: []) X.env = (false, eval e X.env) :: starEach [] X.env) (hplain : (backTo cpos (starEach [] X.env)).any (·.1) = false) :
    PE X (.Call (.Attribute o "index" apos) [e] [] cpos) (tIxF to t) := by
  refine ⟨fun pins s σ H Q I h => ?_⟩
  refine wpAny_Call_method_late hbase hfew hline rfl (thn (ho.run pins s σ H _ I h) fun v s1 ⟨x, H1, I1, r1, q1⟩ => ?_)
  obtain ⟨a, ob, xs, rfl, hf, hd, q1⟩ := q1
  cases r1
  obtain ⟨ho1, hz, its, r', pl⟩ := I1.hok a _ hf
  obtain ⟨o1, hg1, hc1, _⟩ := id pl
  refine ⟨"tuple", "tuple.index", PySem.F.plainAttrs_tuple, PySem.F.slot_tuple_index, PySem.F.type_tuple_index, ⟨o1, hg1, hc1⟩, fun b e => by cases e; exact ⟨ob, ho1, hd⟩, ?_⟩
  have hA := ha.run cpos pins s1 σ H1 _ I1 q1
  rw [hs] at hA ⊢
  refine Calls.callWith_builtin (by show (false || (backTo cpos (starEach [] X.env)).any (·.1)) = false; rw [hplain] <;> rfl) (Calls.evalArgs_plain ?_)
  refine thn hA fun us s2 ⟨vs, H2, I2, r2, q2⟩ => ?_
  obtain ⟨i, ns, rfl, rfl, hi, hf2, q⟩ := q2
  obtain ⟨u, rfl, rx⟩ := vals1 r2
  obtain ⟨tk, rfl⟩ := rx
  obtain ⟨ho2, hz2, its2, r2', pl2⟩ := I2.hok a _ hf2
  exact SeqAt.tuple_index_ints pl2 (ints_are r2') hi ⟨.int (ns.idxOf i : Nat), H2, I2.tok _, ⟨_, rfl⟩, q⟩
end
end L2
namespace Pd
open PySem L2 PyProof.Rows
section
variable {X : Cx} {c : Pc} {m : Bool} {e e1 : Expr} {f g : DE} {apos cpos : Pos}
theorem new_ftup {K : PySem.W.Frag} {A : List Addr} {H : Hp} {p : Addr} {o : Obj} {xs : List V} {ds : List D} (hA : Dom A H) (hp : H p = none) (hd : o.dict = none) (hz : xs.length ≤ sizeLine) (r : RpA K (hid A H) xs ds) : Same H (upd H p (.frz o (.tup xs))) ∧ Rp K (hid A (upd H p (.frz o (.tup xs)))) (.ref p) (.ftup ds) := by
  have s := same_upd (o := .frz o (.tup xs)) hp
  exact ⟨s, .ftup (hid_new (Dom.free hA hp)) hd hz (r.up (hid_mono s))⟩
def ftpC : List D → Option D
  | [.list l] => some (.ftup l)
  | _ => none
theorem cr_ftpD : CallR X (.type "tuple") (rdL X.K ftpC) := by
  intro pins s σ H xs us Q I r h
  obtain ⟨A, ds, hA, ra, d, e, q⟩ := h
  unfold ftpC at e
  split at e
  · cases e
    obtain ⟨v, rfl, rv⟩ := rp1 ra
    cases rv with
    | list h1 h2 h3 =>
      refine call_tuple_frz pins s σ H _ us Q I r ⟨_, _, rfl, SqL.of (hid_sub _ _ h1), fun p o hp hd => ?_⟩
      obtain ⟨s1, r1⟩ := new_ftup (K := X.K) hA hp hd h2 h3
      exact q _ _ s1 r1
  · cases e
def ixT (l : List D) (x : D) : Option D := match x with
  | .int i => (intsOf l).bind fun ns => if i ∈ ns then some (.int (ns.idxOf i : Nat)) else none
  | _ => none
def dIxT (f g : DE) : DE := fun ρ => (f ρ).bind fun d => match d with
  | .ftup l => (g ρ).bind fun y => .of (ixT l y)
  | _ => .bad
theorem pd_ixT (ho : PD X c false e f) (he : PD X c false e1 g) (hb : attributeBase e "index" X.env (eval e X.env) = eval e X.env)
    (hfew : ((backTo cpos (starEach (e1 :: []) X.env)).all (fun x => !x.1) && (backToKw cpos (keywordEach [] X.env)).all (fun x => x.1.isSome)
      && decide ((e1 :: []).length + ([] : List Keyword).length + (if ([] : List Keyword).isEmpty then 0 else 1) < 30)) = true)
    (hline : (apos.endLine == cpos.line) = true) (hs : starEach (e1 :: []) X.env = (false, eval e1 X.env) :: starEach [] X.env) (hplain : (backTo cpos (starEach [] X.env)).any (·.1) = false) : PD X c m (.Call (.Attribute e "index" apos) [e1] [] cpos) (dIxT f g) :=
  PE.imp (pe_ixF ho (pa_cons he pa_nil hs) hb hfew hline hs hplain) fun σ H Q ⟨F, ρ, E, w⟩ => ⟨F, ρ, E, (Out.wp_bind w).imp (fun d k v H1 s1 r => by
    cases d with
    | ftup l =>
      cases r with
      | @ftup a o xs _ h1 h0 h2 h3 =>
        refine ⟨a, o, xs, rfl, hid_sub _ _ h1, h0, F, ρ, E.up s1, (Out.wp_bind k).imp (fun y k2 u H2 s2 r2 => ?_) fun _ z => z.up s1⟩
        obtain ⟨d', e', q⟩ := of_wp k2
        cases y <;> try (cases e'; done)
        rename_i i
        cases r2
        obtain ⟨ns, en, e2⟩ := Option.bind_eq_some_iff.mp (show (intsOf l).bind (fun ns => if i ∈ ns then some (D.int (ns.idxOf i : Nat)) else none) = some d' from e')
        obtain ⟨hi, rfl⟩ := if_some e2
        have el := intsOf_some en
        subst el
        have ex := RpA.ints h3
        exact ⟨i, ns, rfl, ex, hi, s2 _ _ (hid_sub _ _ h1), q _ H2 (s1.trans s2) (.int _)⟩
    | _ => exact k.elim) fun _ z => z⟩
end
end Pd

/-! Pv: a slot that is owned from some statement on. -/
namespace Pd
open PySem L2 PyProof.Rows
section
variable {K : PySem.W.Frag} {O : Ow} {F : Fm} {ρ : Env} {σ : L2.St} {H : Hp} {i : Nat} {k : Kd}
theorem noOw_mem (no : noOw O i = true) : ∀ k', (i, k') ∉ O := noOw_of no
theorem own_fgt (no : noOw O i = true) : own ((i, k) :: O) (σ.set i none) = own O σ := by
  have h1 : refAt (σ.set i none) i = none := by
    unfold refAt
    by_cases hl : i < σ.length
    · rw [List.getElem?_set_self hl]
    · rw [List.getElem?_eq_none (by rw [List.length_set]; omega)]
  have h2 : own ((i, k) :: O) (σ.set i none) = own O (σ.set i none) := by
    unfold own
    rw [List.filterMap_cons, h1]
  rw [h2, own_set (noOw_mem no)]
theorem own_sub {b : Addr} (h : b ∈ own O σ) : b ∈ own ((i, k) :: O) σ := by
  obtain ⟨j, k', h1, h2⟩ := mem_own.mp h
  exact mem_own.mpr ⟨j, k', List.mem_cons_of_mem _ h1, h2⟩
theorem EnvR.enter (E : EnvR K O F ρ σ H) (no : noOw O i = true) (hi : i < ρ.length) : EnvR K ((i, k) :: O) F (ρ.set i none) (σ.set i none) H := by
  have eo := own_fgt (σ := σ) (k := k) no
  have hs : i < σ.length := by rw [← E.len]; exact hi
  have nj : ∀ j k', (j, k') ∈ O → i ≠ j := fun j k' h z => noOw_mem no k' (by rw [z]; exact h)
  refine ⟨by rw [List.length_set, List.length_set, E.len], fun j d h n => ?_, fun j k' h => ?_, fun j k1 j' k2 a h h' e e' => ?_, E.adom, fun p hp => ?_, fun p hp => List.mem_cons_of_mem _ (E.fxO p hp)⟩
  · have hij : i ≠ j := fun z => by
      subst z
      rw [List.getElem?_set_self hi] at h
      cases h
    rw [List.getElem?_set_ne hij] at h ⊢
    rw [eo]
    exact E.val j d h fun k' z => n k' (List.mem_cons_of_mem _ z)
  · rcases List.mem_cons.mp h with z | z
    · cases z
      exact .inr ⟨List.getElem?_set_self hi, List.getElem?_set_self hs⟩
    · have hij := nj j k' z
      rw [List.getElem?_set_ne hij, List.getElem?_set_ne hij, eo]
      exact E.cel j k' z
  · have no1 : ∀ j k', (j, k') ∈ (i, k) :: O → (σ.set i none)[j]? = some (some (.ref a)) → (j, k') ∈ O ∧ σ[j]? = some (some (.ref a)) := fun j k' h e => by
      rcases List.mem_cons.mp h with z | z
      · cases z
        rw [List.getElem?_set_self hs] at e
        cases e
      · rw [List.getElem?_set_ne (nj j k' z)] at e
        exact ⟨z, e⟩
    obtain ⟨a1, a2⟩ := no1 j k1 h e
    obtain ⟨b1, b2⟩ := no1 j' k2 h' e'
    exact E.dis j k1 j' k2 a a1 b1 a2 b2
  · rw [List.getElem?_set_ne (nj _ _ (E.fxO p hp))]
    exact E.fix p hp
theorem EnvR.leave (E : EnvR K ((i, k) :: O) F ρ σ H) (no : noOw O i = true) (hk : k ≠ .p) : EnvR K O F ρ σ H := by
  have le : Same (hid (F.A ++ own ((i, k) :: O) σ) H) (hid (F.A ++ own O σ) H) := hid_le fun b hb => .inl (by
    rcases List.mem_append.mp hb with z | z
    · exact List.mem_append_left _ z
    · exact List.mem_append_right _ (own_sub z))
  refine ⟨E.len, fun j d h n => ?_, fun j k' h => ?_, fun j k1 j' k2 a h h' e e' => E.dis j k1 j' k2 a (List.mem_cons_of_mem _ h) (List.mem_cons_of_mem _ h') e e', E.adom, E.fix, fun p hp => ?_⟩
  · by_cases hij : i = j
    · subst hij
      rcases E.cel i k List.mem_cons_self with ⟨d', a, q1, q2, q3, q4⟩ | ⟨q, _⟩
      · rw [h] at q1
        cases q1
        refine ⟨_, q2, q4.rp le ?_⟩
        have na : a ∉ F.A ++ own O σ := fun z => by
          rcases List.mem_append.mp z with z | z
          · exact q3 z
          · obtain ⟨j', k', h1, h2⟩ := mem_own.mp z
            have := E.dis j' k' i k a (List.mem_cons_of_mem _ h1) List.mem_cons_self h2 q2
            exact noOw_mem no k' (by rw [← this]; exact h1)
        obtain ⟨o, eo, _⟩ := q4.some
        rw [eo]
        exact hid_of na eo
      · rw [h] at q
        cases q
    · obtain ⟨v, h1, h2⟩ := E.val j d h fun k' z => by
        rcases List.mem_cons.mp z with z | z
        · cases z
          exact hij rfl
        · exact n k' z
      exact ⟨v, h1, h2.up le⟩
  · rcases E.cel j k' (List.mem_cons_of_mem _ h) with ⟨d', a, q1, q2, q3, q4⟩ | q
    · exact .inl ⟨d', a, q1, q2, q3, q4.up le rfl⟩
    · exact .inr q
  · rcases List.mem_cons.mp (E.fxO p hp) with z | z
    · exact absurd (congrArg Prod.snd z).symm hk
    · exact z
theorem Stp.leave {σ' : L2.St} {H' : Hp} (s : Stp ((i, k) :: O) (σ.set i none) H σ' H') (no : noOw O i = true) : Stp O σ H σ' H' := by
  have eo := own_fgt (σ := σ) (k := k) no
  refine ⟨fun b o nb e => s.keep b o (by rw [eo]; exact nb) e, fun b hb => ?_⟩
  have := s.new b (own_sub hb)
  rw [eo] at this
  exact this
end
section
variable {X : Cx} {c : Pc} {st : Stmt} {sts : List Stmt}
def dSortK (f : DE) : DE := fun ρ => (f ρ).bind fun d => match d with
  | .dk kvs => .of (sortC [.dk kvs])
  | _ => .bad
/-- sorted(d), d a dict (owned or not), in a strict place -/
theorem pd_sortK {m : Bool} {e : Expr} {pos p : Pos} {f : DE} (hc : X.calm = true) (hm : X.mg "sorted" = none) (ho : PD X c false e f) {x : Str} (hx : x = "sorted") (hg : Gl X x) (he : starEach [e] X.env = (false, eval e X.env) :: starEach [] X.env) (hpl : (backTo pos (starEach [] X.env)).any (·.1) = false) : PD X c m (.Call (.Name x p) [e] [] pos) (dSortK f) := by
  subst hx
  exact PD.weak (PE.imp (pe_callB (call_sortedDI hc) hg hm (by decide +kernel) (pa_cons ho pa_nil he) (by decide) (by decide) he hpl) fun σ H Q ⟨F, ρ, E, w⟩ => ⟨F, ρ, E, (Out.wp_bind w).imp (fun d k v H1 s1 r => by
    cases d with
    | dk kvs =>
      obtain ⟨d', e', q⟩ := of_wp k
      obtain ⟨ns, e1, e2⟩ := Option.bind_eq_some_iff.mp (show sortC [.dk kvs] = some d' from e')
      obtain ⟨hl, rfl⟩ := if_some e2
      cases r with
      | dk h1 h2 =>
        refine ⟨_, _, ns, rfl, .inl (hid_sub _ _ h1), keysI_some e1, hl, fun ns' p k1 k2 hp => ?_⟩
        have := sortI_unique k1 k2
        subst this
        obtain ⟨s2, r2⟩ := new_list (K := X.K) ((E.up s1).hdom true) hp (by rw [List.length_map, k1.length_eq]; exact cap_ok (by omega)) (RpA.of_ints (sortI ns))
        exact q _ _ (s1.trans s2) r2
    | _ => exact k.elim) fun _ z => z⟩)
/-- what stands at slot i is let go -/
def dFgt (i : Nat) (u : DS) : DS := fun ρ => if i < ρ.length then u (ρ.set i none) else .bad
abbrev Pc.add (c : Pc) (i : Nat) (k : Kd) : Pc := { c with O := (i, k) :: c.O }
theorem pss_sw (i : Nat) (k : Kd) {t u : DS} (no : noOw c.O i = true) (hk : k ≠ .p) (h1 : PSD X c st t) (h2 : PSsD X (c.add i k) sts u) : PSsD X c (st :: sts) (dSeq t (dFgt i u)) :=
  PSs.imp (pss_cons (PS.weakN h1 i) h2) fun Dn σ H ⟨F, ρ, E, w⟩ => by
    refine ⟨F, ρ, E, ?_⟩
    unfold dSeq at w
    cases e : t ρ with
    | nx ρ' =>
      rw [e] at w
      unfold dFgt at w
      obtain ⟨hi, w⟩ := ifS_wp w
      intro σ' H' E' S'
      refine ⟨F, _, E'.enter no hi, ?_⟩
      cases e2 : u (ρ'.set i none) with
      | nx ρ3 => rw [e2] at w; exact fun σ3 H3 E3 S3 => w σ3 H3 (E3.leave no hk) (S'.trans (S3.leave no))
      | bk ρ3 => rw [e2] at w; exact fun σ3 H3 E3 S3 => w σ3 H3 (E3.leave no hk) (S'.trans (S3.leave no))
      | ct ρ3 => rw [e2] at w; exact fun σ3 H3 E3 S3 => w σ3 H3 (E3.leave no hk) (S'.trans (S3.leave no))
      | rt d ρ3 => rw [e2] at w; exact fun v σ3 H3 E3 S3 r => w v σ3 H3 (E3.leave no hk) (S'.trans (S3.leave no)) r
      | err n ρ3 => rw [e2] at w; exact fun σ3 H3 E3 S3 => w σ3 H3 (E3.leave no hk) (S'.trans (S3.leave no))
      | bad => rw [e2] at w; exact w
    | bk _ => rw [e] at w; exact w
    | ct _ => rw [e] at w; exact w
    | rt _ _ => rw [e] at w; exact w
    | err _ _ => rw [e] at w; exact w
    | bad => rw [e] at w; exact w
end
end Pd

/-! Pw: list.count of ints; data compared; min and max of data in a list. -/
namespace PySem.W
open PySem PySem.SeqAt PyProof.Rows
section
variable {prog : Program} {w : World} {A : Around} {E : Value → Shared → Prop} {s : Shared}
theorem min_list_ix {l : Addr} {vs : Array Value} {xs : List PyData} {as : List Addr} {Q : Value → Shared → Prop} (hh : A.handled = none) (hl : s.heap.IsList l vs) (hr : ReadsAll s.heap vs.toList xs as) (ha : AlikeAll xs) (hne : xs ≠ []) (hu : A.units + 1 + PyData.depthAll xs < cLine)
    (h : ∀ v h' tk, vs[argBest (fun i j => dataLt (xs.getD i .none) (xs.getD j .none)) (xs.length - 1)]? = some v → (∀ b o, s.heap.get? b = some o → h'.get? b = some o) → Q v { s with heap := h', toks := tk }) :
    wpAny (model prog w) A (call (.builtin "min") [.ref l]) Q E s := by
  have hn : vs.size = xs.length := readsAll_len hr
  have hp := List.length_pos_iff.mpr hne
  refine call_min_walkH (iter_listW (A := A.in1) hh hl fun s₂ e W st hfp hw hk => ?_)
  refine ⟨_, _, _, _, _, _, _, s.heap, _, rfl, W, st, hfp, by omega, hw, hk, cmpIn_lt (A := A.in1) hr ha (by show A.units + 1 + _ < _; exact hu), fun v s' hP m => ?_⟩
  obtain ⟨h', tk, rfl, hk'⟩ := moved_old e rfl m
  rw [hn] at hP
  exact h v h' tk hP hk'
theorem max_list_ix {l : Addr} {vs : Array Value} {xs : List PyData} {as : List Addr} {Q : Value → Shared → Prop} (hh : A.handled = none) (hl : s.heap.IsList l vs) (hr : ReadsAll s.heap vs.toList xs as) (ha : AlikeAll xs) (hne : xs ≠ []) (hu : A.units + 1 + PyData.depthAll xs < cLine)
    (h : ∀ v h' tk, vs[argBest (fun i j => dataLt (xs.getD j .none) (xs.getD i .none)) (xs.length - 1)]? = some v → (∀ b o, s.heap.get? b = some o → h'.get? b = some o) → Q v { s with heap := h', toks := tk }) :
    wpAny (model prog w) A (call (.builtin "max") [.ref l]) Q E s := by
  have hn : vs.size = xs.length := readsAll_len hr
  have hp := List.length_pos_iff.mpr hne
  refine call_max_walkH (iter_listW (A := A.in1) hh hl fun s₂ e W st hfp hw hk => ?_)
  refine ⟨_, _, _, _, _, _, _, s.heap, _, rfl, W, st, hfp, by omega, hw, hk, cmpIn_gt (A := A.in1) hr ha (by show A.units + 1 + _ < _; exact hu), fun v s' hP m => ?_⟩
  obtain ⟨h', tk, rfl, hk'⟩ := moved_old e rfl m
  rw [hn] at hP
  exact h v h' tk hP hk'
end
end PySem.W
namespace Pd
open PySem L2 PyProof.Rows
/-- a module's tuple of one int -/
theorem kc_tup1 {K : PySem.W.Frag} {h : Heap} {mg : Str → Option Value} {x : Str} {a : Addr} {n : Int} {t : Tok} {dd : Option Addr} {k : Nat} {sl : Array (Option Value)} (X : K.In h) (G : h.Ns mainGlobals mg) (e : PySem.W.nsIn K mainGlobals x = some (some (.ref a))) (l : K.lookup a = some ⟨.type "tuple", dd, .seq #[.int n t] k, sl⟩) : KC K mg x (.ktup [n]) :=
  ⟨.ref a, .ref a, PySem.W.mg_of X G e, rfl, fun H => .ktup ⟨_, #[.int n t], k, l, rfl, rfl, Nat.le_trans (show 1 ≤ 1 from Nat.le_refl 1) (by decide), .cons ⟨t, rfl⟩ .nil⟩ (Nat.le_trans (show 1 ≤ 1 from Nat.le_refl 1) (by decide))⟩
section
variable {X : Cx} {c : Pc} {m : Bool} {e e1 : Expr} {apos cpos : Pos} {f g : DE}
/-- x.count(i), x a list of ints -/
def dCnt (f g : DE) : DE := fun ρ => (f ρ).bind fun d => match d with
  | .list l => (g ρ).bind fun y => match y with
    | .int i => .of ((intsOf l).map fun ns => .int (ns.count i : Nat))
    | _ => .bad
  | _ => .bad
theorem pd_cnt (ho : PD X c false e f) (he : PD X c false e1 g) (hb : attributeBase e "count" X.env (eval e X.env) = eval e X.env)
    (hfew : ((backTo cpos (starEach (e1 :: []) X.env)).all (fun x => !x.1) && (backToKw cpos (keywordEach [] X.env)).all (fun x => x.1.isSome)
      && decide ((e1 :: []).length + ([] : List Keyword).length + (if ([] : List Keyword).isEmpty then 0 else 1) < 30)) = true)
    (hline : (apos.endLine == cpos.line) = true) (hs : starEach (e1 :: []) X.env = (false, eval e1 X.env) :: starEach [] X.env) (hplain : (backTo cpos (starEach [] X.env)).any (·.1) = false) : PD X c m (.Call (.Attribute e "count" apos) [e1] [] cpos) (dCnt f g) :=
  PE.imp (pe_bm PySem.F.plainAttrs_list PySem.F.slot_list_count PySem.F.type_list_count mt_lcount ho (pa_cons he pa_nil hs) hb hfew hline hs hplain) fun σ H Q ⟨F, ρ, E, w⟩ => ⟨F, ρ, E, (Out.wp_bind w).imp (fun d k v H1 s1 r => by
    cases d with
    | list l =>
      cases r with
      | @list a xs _ h1 h2 h3 =>
        refine ⟨.inl ⟨rfl, _, SqL.of (hid_sub _ _ h1)⟩, F, ρ, E.up s1, (Out.wp_bind k).imp (fun y k2 u H2 s2 r2 => ?_) fun _ z => z.up s1⟩
        cases y <;> try exact k2.elim
        rename_i i
        cases r2
        obtain ⟨d', e', q⟩ := of_wp k2
        obtain ⟨ns, en, rfl⟩ := Option.map_eq_some_iff.mp e'
        have el := intsOf_some en
        subst el
        have ex := RpA.ints h3
        subst ex
        exact ⟨a, ns, i, rfl, rfl, SqL.of (s2 _ _ (hid_sub _ _ h1)), q _ H2 (s1.trans s2) (.int _)⟩
    | _ => exact k.elim) fun _ z => z⟩
/-- a > b, of data -/
def gtT (a b : D) : Option Bool := if a.pl = true ∧ b.pl = true ∧ PySem.W.alike a.py b.py = true ∧ (PySem.W.alike a.py .none = false) ∧ min (dep a) (dep b) ≤ 50 then some (PySem.W.dataLt b.py a.py) else none
theorem op_gtDD {k : Nat} (hr : Room k X.A) : OpR X (compareOp .Gt) (rdC X.K gtT) := by
  intro pins s σ H x y v u Q I rx ry h
  obtain ⟨A, dx, dy, hA, r1, r2, b, e, q⟩ := h
  obtain ⟨⟨h1, h2, h4, h5, h3⟩, rfl⟩ := if_some e
  obtain ⟨as, q1⟩ := Dp.reads I _ x v (Rp.dp dx x h1 (r1.up hid_sub)) rx
  obtain ⟨bs, q2⟩ := Dp.reads I _ y u (Rp.dp dy y h2 (r2.up hid_sub)) ry
  have hu := hr.units
  refine PySem.W.gt_data q1 q2 h4 (fun z => ?_) ?_ ⟨.bl _, H, I, rfl, q⟩
  · rw [z] at h5
    cases h5
  · unfold dep at h3
    omega
def allAlike (l : List PyData) : Bool := l.all fun x => (!PySem.W.alike x .none) && l.all fun y => PySem.W.alike x y
def bestT (f : PyData → PyData → Bool) (l : List D) : Option D := if D.plA l = true ∧ allAlike (D.pyA l) = true ∧ depA l ≤ 50 ∧ l ≠ [] then l[argBest (fun i j => f ((D.pyA l).getD i .none) ((D.pyA l).getD j .none)) (l.length - 1)]? else none
def minT : List D → Option D
  | [.list l] => bestT PySem.W.dataLt l
  | _ => none
def maxT : List D → Option D
  | [.list l] => bestT (fun a b => PySem.W.dataLt b a) l
  | _ => none
theorem alike_of {l : List PyData} (h : allAlike l = true) : PySem.W.AlikeAll l := by
  have h' := List.all_eq_true.mp h
  refine ⟨fun x hx y hy => ?_, fun x hx z => ?_⟩
  · have := h' x hx
    rw [Bool.and_eq_true] at this
    exact List.all_eq_true.mp this.2 y hy
  · have := h' x hx
    rw [z] at this
    cases this
theorem pyA_len : ∀ l : List D, (D.pyA l).length = l.length
  | [] => rfl
  | d :: l => congrArg (· + 1) (pyA_len l)
theorem cr_minT {k : Nat} (hr : Room k X.A) (hc : X.calm = true) : CallR X (.builtin "min") (rdL X.K minT) := by
  intro pins s σ H xs us Q I r h
  obtain ⟨A, ds, hA, ra, d, e, q⟩ := h
  unfold minT at e
  split at e
  · obtain ⟨v, rfl, rv⟩ := rp1 ra
    unfold bestT at e
    split at e
    case isFalse => cases e
    rename_i hcond
    obtain ⟨p1, p2, p3, p4⟩ := hcond
    have e2 := e
    cases rv with
    | @list a ws _ h1 h2 h3 =>
      obtain ⟨its, rl, pl, _⟩ := I.list (SqL.of (K := X.K) (hid_sub _ _ h1))
      obtain ⟨as, h4⟩ := Dp.readsAll I _ _ its (RpA.dp _ _ p1 (h3.up hid_sub)) rl
      rw [Vals.ref1 r]
      have hu := hr.units
      refine PySem.W.min_list_ix (I.ok.hd hc) pl.isList h4 (alike_of p2) (fun z => p4 (List.length_eq_zero_iff.mp (by rw [← pyA_len, z]; rfl))) (by unfold depA at p3; omega) fun v' h' tk hv hk => ?_
      rw [pyA_len] at hv
      obtain ⟨x, hx, rx⟩ := h3.get e2
      obtain ⟨u, hu', ru⟩ := rl.get hx
      have : v' = u := by
        rw [List.getElem?_toArray, hu'] at hv
        exact (Option.some.inj hv).symm
      subst this
      exact ⟨x, H, I.kept hk, ru, q x H (Same.refl H) rx⟩
  · cases e
theorem cr_maxT {k : Nat} (hr : Room k X.A) (hc : X.calm = true) : CallR X (.builtin "max") (rdL X.K maxT) := by
  intro pins s σ H xs us Q I r h
  obtain ⟨A, ds, hA, ra, d, e, q⟩ := h
  unfold maxT at e
  split at e
  · obtain ⟨v, rfl, rv⟩ := rp1 ra
    unfold bestT at e
    split at e
    case isFalse => cases e
    rename_i hcond
    obtain ⟨p1, p2, p3, p4⟩ := hcond
    have e2 := e
    cases rv with
    | @list a ws _ h1 h2 h3 =>
      obtain ⟨its, rl, pl, _⟩ := I.list (SqL.of (K := X.K) (hid_sub _ _ h1))
      obtain ⟨as, h4⟩ := Dp.readsAll I _ _ its (RpA.dp _ _ p1 (h3.up hid_sub)) rl
      rw [Vals.ref1 r]
      have hu := hr.units
      refine PySem.W.max_list_ix (I.ok.hd hc) pl.isList h4 (alike_of p2) (fun z => p4 (List.length_eq_zero_iff.mp (by rw [← pyA_len, z]; rfl))) (by unfold depA at p3; omega) fun v' h' tk hv hk => ?_
      rw [pyA_len] at hv
      obtain ⟨x, hx, rx⟩ := h3.get e2
      obtain ⟨u, hu', ru⟩ := rl.get hx
      have : v' = u := by
        rw [List.getElem?_toArray, hu'] at hv
        exact (Option.some.inj hv).symm
      subst this
      exact ⟨x, H, I.kept hk, ru, q x H (Same.refl H) rx⟩
  · cases e
end
end Pd

namespace K32
open Pd
def b_odd_marks : DS :=
  (dSeq (dAsg 1 (dLc (dSeqI (dVar 0)) (b1 2) (dCmp eqD (dOp modD (dOp getD (dVar 2) (dC (.int 1))) (dC (.int 2))) (dC (.int 1))) (dOp getD (dVar 2) (dC (.int 1))) [2]))
  (dRet (dLc (dSeqI (dUn revD (dUn srtC (dVar 1)))) (b1 3) dYes (dTup (dCons (dVar 3) (dCons (dCnt (dVar 1) (dVar 3)) dNil))) [3])))
def d_odd_marks : List D → Out D := dDef 4 b_odd_marks
def l1_raised : DS :=
  (dSeq (dIfS (dCmp ltD (dOp getD (dVar 2) (dVar 3)) (dOp getD (dVar 1) (dVar 3))) (dSeq (dSet 2 (dOp addD (dOp getD (dVar 2) (dVar 3)) (dC (.int 1))) (dVar 3))
  (dRet (dVar 2))) dNx)
  (dSeq (dSet 2 (dC (.int 0)) (dVar 3))
  (dAsg 3 (dOp subD (dVar 3) (dC (.int 1))))))
def l2_raised : DT :=
  (dCmp geD (dVar 3) (dC (.int 0)))
def b_raised : DS :=
  (dSeq (dAsg 2 (dListF (dVar 0)))
  (dSeq (dAsg 3 (dGuard (dOp subD (dCall lenD (dCons (dVar 2) dNil)) (dC (.int 1)))))
  (dSeq (dWh l2_raised l1_raised 100000)
  (dRet (dC .none)))))
def d_raised : List D → Out D := dDef 4 b_raised
def b_due_by : DS :=
  (dSeq (dIfS (dCmp eqD (dVar 1) (dC (.ktup [1]))) (dRet (dC (.ktup [1]))) dNx)
  (dSeq (dAsg 3 (dCall lenD (dCons (dLc (dSeqI (dVar 2)) (bT [5, 6]) (dCmp geD (dVar 5) (dOp getD (dVar 0) (dC (.int 1)))) (dVar 5) [5, 6]) dNil)))
  (dSeq (dAsg 4 (dCall listC (dCons (dSlice (dVar 1) (dPart (dC (.int 1))) (dPart (dOp addD (dVar 3) (dC (.int 1))))) dNil)))
  (dSeq (dIfS (dCmp eqD (dOp modD (dOp getD (dVar 0) (dC (.int 1))) (dC (.int 2))) (dC (.int 1))) (dSeq (dAsg 4 (dUse 2 d_raised (dCons (dVar 4) (dCons (dLc (dSeqI (dVar 2)) (bT [5, 6]) dYes (dVar 6) [5, 6]) dNil))))
  (dIfS (dCmp isND (dVar 4) (dC .none)) (dRet (dC (.ktup [1]))) dNx)) dNx)
  (dRet (dCall tupC (dCons (dOp addD (dOp addD (dLst (dCons (dC (.int 0)) dNil)) (dVar 4)) (dOp mulD (dLst (dCons (dC (.int 0)) dNil)) (dOp subD (dCall lenD (dCons (dVar 2) dNil)) (dVar 3)))) dNil)))))))
def d_due_by : List D → Out D := dDef 7 b_due_by
def b_due_of : DS :=
  (dSeq (dAsg 3 (dLc (dSeqI (dOp getD (dVar 0) (dC (.int 3)))) (b1 4) dYes (dUse 3 d_due_by (dCons (dVar 0) (dCons (dOp getD (dVar 1) (dVar 4)) (dCons (dVar 2) dNil)))) [4]))
  (dSeq (dIfS (dCmp eqD (dOp getD (dVar 0) (dC (.int 0))) (dC (.int 0))) (dRet (dCall minT (dCons (dVar 3) dNil))) dNx)
  (dRet (dCall maxT (dCons (dVar 3) dNil)))))
def d_due_of : List D → Out D := dDef 5 b_due_of
def l1_by_measures : DS :=
  (dSeq (dAsg 6 (dGuard (dUse 3 d_due_of (dCons (dVar 5) (dCons (dVar 2) (dCons (dVar 1) dNil))))))
  (dIfS (dCmp gtT (dVar 6) (dOp getD (dVar 2) (dVar 4))) (dSeq (dSet 2 (dVar 6) (dVar 4))
  (dAsg 3 (dC (.bool true)))) dNx))
def l2_by_measures : DS :=
  (dSeq (dAsg 3 (dC (.bool false)))
  (dFor (dEnum (dVar 0)) (bT [4, 5]) l1_by_measures))
def l3_by_measures : DT :=
  (dTv (dVar 3))
def b_by_measures : DS :=
  (dSeq (dAsg 1 (dUse 1 d_odd_marks (dCons (dVar 0) dNil)))
  (dSeq (dAsg 2 (dLc (dSeqI (dVar 0)) (b1 5) dYes (dCall tupC (dCons (dOp mulD (dLst (dCons (dC (.int 0)) dNil)) (dOp addD (dCall lenD (dCons (dVar 1) dNil)) (dC (.int 1)))) dNil)) [5]))
  (dSeq (dAsg 3 (dC (.bool true)))
  (dSeq (dWh l3_by_measures l2_by_measures 100000)
  (dRet (dCall tupC (dCons (dLc (dSeqI (dVar 2)) (b1 7) dYes (dCall intC (dCons (dBv (dCmp eqD (dVar 7) (dC (.ktup [1])))) dNil)) [7]) dNil)))))))
def d_by_measures : List D → Out D := dDef 8 b_by_measures
def l1__law_choices : DS :=
  (dAsg 6 (dOp addD (dVar 6) (dLc (dSeqI (dVar 5)) (b1 9) dYes (dOp addD (dVar 7) (dTup (dCons (dVar 9) dNil))) [9])))
def l2__law_choices : DS :=
  (dSeq (dAsg 5 (dLst (dCons (dC .none) dNil)))
  (dSeq (dIfS (dAnd (dCmp inD (dVar 4) (dVar 2)) (dCmp eqD (dOp getD (dOp getD (dVar 0) (dVar 4)) (dC (.int 0))) (dVar 1))) (dAsg 5 (dLc (dSeqI (dOp getD (dOp getD (dVar 0) (dVar 4)) (dC (.int 3)))) (b1 8) (dCmp inD (dVar 8) (dVar 2)) (dVar 8) [8])) dNx)
  (dSeq (dAsg 6 (dLst dNil))
  (dSeq (dFor (dSeqI (dVar 3)) (b1 7) l1__law_choices)
  (dAsg 3 (dVar 6))))))
def b__law_choices : DS :=
  (dSeq (dAsg 3 (dLst (dCons (dTup dNil) dNil)))
  (dSeq (dFor (dRng1 (dCall lenD (dCons (dVar 0) dNil))) (b1 4) l2__law_choices)
  (dRet (dVar 3))))
def d__law_choices : List D → Out D := dDef 10 b__law_choices
def b__law_cell_at : DS :=
  (dSeq (dIfS (dCmp ltD (dVar 1) (dCall lenD (dCons (dVar 0) dNil))) (dRet (dOp getD (dVar 0) (dVar 1))) dNx)
  (dRet (dC (.int 0))))
def d__law_cell_at : List D → Out D := dDef 2 b__law_cell_at
def b__law_mixed : DS :=
  (dSeq (dAsg 2 (dOp modD (dOp mulD (dOp addD (dOp addD (dUse 2 d__law_cell_at (dCons (dVar 0) (dCons (dVar 1) dNil))) (dOp mulD (dC (.int 7919)) (dVar 1))) (dC (.int 1))) (dC (.int 48271))) (dC (.int 2147483647))))
  (dRet (dOp modD (dOp addD (dOp addD (dOp mulD (dVar 2) (dVar 2)) (dOp mulD (dC (.int 7)) (dVar 2))) (dVar 1)) (dC (.int 2147483629)))))
def d__law_mixed : List D → Out D := dDef 3 b__law_mixed
def b__law_drawn : DS :=
  (dSeq (dAsg 2 (dOp modD (dOp mulD (dOp addD (dOp addD (dVar 0) (dOp mulD (dC (.int 104729)) (dVar 1))) (dC (.int 17))) (dC (.int 69621))) (dC (.int 2147483647))))
  (dRet (dOp modD (dOp addD (dOp addD (dOp mulD (dVar 2) (dVar 2)) (dOp mulD (dC (.int 3)) (dVar 2))) (dVar 1)) (dC (.int 2147483629)))))
def d__law_drawn : List D → Out D := dDef 3 b__law_drawn
def l1__law_goals : DS :=
  (dPutK 2 (dC (.bool true)) (dOp modD (dUse 2 d__law_drawn (dCons (dVar 0) (dCons (dVar 3) dNil))) (dVar 1)))
def b__law_goals : DS :=
  (dSeq (dAsg 2 (dNew .k))
  (dSeq (dFor (dRng1 (dOp addD (dOp addD (dC (.int 1)) (dOp modD (dVar 0) (dC (.int 3)))) (dOp mulD (dC (.int 20)) (dCall intC (dCons (dBv (dCmp eqD (dOp modD (dOp fdivD (dVar 0) (dC (.int 3))) (dC (.int 29))) (dC (.int 7)))) dNil))))) (b1 3) l1__law_goals)
  (dRet (dCall tupC (dCons (dCall sortC (dCons (dVar 2) dNil)) dNil)))))
def d__law_goals : List D → Out D := dDef 4 b__law_goals
def b__law_place : DS :=
  (dSeq (dAsg 3 (dOp subD (dOp modD (dOp fdivD (dVar 0) (dC (.int 26))) (dC (.int 9))) (dC (.int 4))))
  (dSeq (dIfS (dCmp eqD (dOp modD (dOp fdivD (dVar 0) (dC (.int 234))) (dC (.int 11))) (dC (.int 3))) (dAsg 3 (dOp subD (dOp modD (dOp fdivD (dVar 0) (dC (.int 26))) (dC (.int 41))) (dC (.int 20)))) dNx)
  (dRet (dTup (dCons (dOp modD (dVar 0) (dC (.int 2))) (dCons (dOp modD (dOp fdivD (dVar 0) (dC (.int 2))) (dOp addD (dVar 2) (dC (.int 1)))) (dCons (dVar 3) (dCons (dUse 2 d__law_goals (dCons (dUse 2 d__law_drawn (dCons (dVar 0) (dCons (dC (.int 9)) dNil))) (dCons (dVar 1) dNil))) dNil))))))))
def d__law_place : List D → Out D := dDef 4 b__law_place
def b__law_ground : DS :=
  (dSeq (dAsg 2 (dUse 2 d__law_mixed (dCons (dVar 0) (dCons (dC (.int 0)) dNil))))
  (dSeq (dAsg 3 (dOp addD (dC (.int 1)) (dOp modD (dVar 2) (dCall minC (dCons (dVar 1) (dCons (dCall maxC (dCons (dC (.int 4)) (dCons (dCall lenD (dCons (dVar 0) dNil)) dNil))) dNil))))))
  (dSeq (dAsg 4 (dOp getD (dLst (dCons (dC (.int 1)) (dCons (dC (.int 2)) (dCons (dC (.int 3)) (dCons (dC (.int 5)) (dCons (dC (.int 12)) (dCons (dC (.int 12)) dNil))))))) (dOp modD (dOp fdivD (dVar 2) (dC (.int 24))) (dC (.int 6)))))
  (dRet (dCall tupC (dCons (dLc (dRng1 (dVar 3)) (b1 5) dYes (dUse 3 d__law_place (dCons (dUse 2 d__law_mixed (dCons (dVar 0) (dCons (dOp addD (dC (.int 3)) (dVar 5)) dNil))) (dCons (dVar 3) (dCons (dVar 4) dNil)))) [5]) dNil))))))
def d__law_ground : List D → Out D := dDef 6 b__law_ground
def b__law_ways : DS :=
  (dSeq (dIfS (dCmp eqD (dOp getD (dOp getD (dVar 0) (dVar 3)) (dC (.int 0))) (dVar 1)) (dRet (dLc (dSeqI (dLst (dCons (dOp getD (dVar 2) (dVar 3)) dNil))) (b1 4) (dCmp notND (dVar 4) (dC .none)) (dVar 4) [4])) dNx)
  (dRet (dCall listC (dCons (dOp getD (dOp getD (dVar 0) (dVar 3)) (dC (.int 3))) dNil))))
def d__law_ways : List D → Out D := dDef 5 b__law_ways
def l1__law_inside : DS :=
  (dSeq (dAsg 5 (dUse 4 d__law_ways (dCons (dVar 0) (dCons (dVar 1) (dCons (dVar 2) (dCons (dVar 4) dNil))))))
  (dIfS (dOr (dCmp eqD (dVar 5) (dLst dNil)) (dCmp neD (dLc (dSeqI (dVar 5)) (b1 6) (dCmp ninD (dVar 6) (dVar 3)) (dVar 6) [6]) (dLst dNil))) (dRet (dC (.bool false))) dNx))
def b__law_inside : DS :=
  (dSeq (dFor (dSeqI (dVar 3)) (b1 4) l1__law_inside)
  (dRet (dC (.bool true))))
def d__law_inside : List D → Out D := dDef 7 b__law_inside
def l1__law_reached : DS :=
  (dSeq (dAsg 7 (dOp getD (dVar 6) (dC (.int 0))))
  (dSeq (dAsg 6 (dSlice (dVar 6) (dPart (dC (.int 1))) dNoP))
  (dIfS (dAnd (dCmp inD (dVar 7) (dVar 4)) (dCmp ninD (dVar 7) (dVar 5))) (dSeq (dApp 5 (dVar 7))
  (dAsg 6 (dOp addD (dVar 6) (dUse 4 d__law_ways (dCons (dVar 0) (dCons (dVar 1) (dCons (dVar 2) (dCons (dVar 7) dNil)))))))) dNx)))
def l2__law_reached : DT :=
  (dCmp neD (dVar 6) (dLst dNil))
def b__law_reached : DS :=
  (dSeq (dAsg 5 (dLst dNil))
  (dSeq (dAsg 6 (dUse 4 d__law_ways (dCons (dVar 0) (dCons (dVar 1) (dCons (dVar 2) (dCons (dVar 3) dNil))))))
  (dSeq (dWh l2__law_reached l1__law_reached 100000)
  (dRet (dVar 5)))))
def d__law_reached : List D → Out D := dDef 8 b__law_reached
def l1__law_wins_by_marks : DS :=
  (dSeq (dAsg 5 (dLc (dSeqI (dVar 3)) (b1 7) (dCmp leD (dOp getD (dOp getD (dVar 0) (dVar 7)) (dC (.int 1))) (dOp getD (dOp getD (dVar 0) (dVar 4)) (dC (.int 1)))) (dVar 7) [7]))
  (dSeq (dAsg 6 (dUse 5 d__law_reached (dCons (dVar 0) (dCons (dVar 1) (dCons (dVar 2) (dCons (dVar 4) (dCons (dVar 5) dNil)))))))
  (dIfS (dAnd (dCmp neD (dOp modD (dOp getD (dOp getD (dVar 0) (dVar 4)) (dC (.int 1))) (dC (.int 2))) (dVar 1)) (dCmp inD (dVar 4) (dVar 6))) (dRet (dC (.bool false))) dNx)))
def b__law_wins_by_marks : DS :=
  (dSeq (dIfS (dNot (dTv (dUse 4 d__law_inside (dCons (dVar 0) (dCons (dVar 1) (dCons (dVar 2) (dCons (dVar 3) dNil))))))) (dRet (dC (.bool false))) dNx)
  (dSeq (dFor (dSeqI (dVar 3)) (b1 4) l1__law_wins_by_marks)
  (dRet (dC (.bool true)))))
def d__law_wins_by_marks : List D → Out D := dDef 8 b__law_wins_by_marks
def l1_law : DS :=
  (dAsg 5 (dOrV (dTv (dVar 5)) (dUse 4 d__law_wins_by_marks (dCons (dVar 1) (dCons (dVar 3) (dCons (dVar 6) (dCons (dVar 4) dNil)))))))
def l2_law : DS :=
  (dSeq (dAsg 4 (dLc (dRng1 (dCall lenD (dCons (dVar 1) dNil))) (b1 7) (dCmp eqD (dOp getD (dVar 2) (dVar 7)) (dVar 3)) (dVar 7) [7]))
  (dSeq (dAsg 5 (dC (.bool false)))
  (dSeq (dFor (dSeqI (dUse 3 d__law_choices (dCons (dVar 1) (dCons (dVar 3) (dCons (dVar 4) dNil))))) (b1 6) l1_law)
  (dIfS (dNot (dTv (dVar 5))) (dRet (dC (.bool false))) dNx))))
def b_law : DS :=
  (dSeq (dAsg 1 (dCall tupC (dCons (dLc (dSeqI (dUse 2 d__law_ground (dCons (dVar 0) (dCons (dC (.int 5)) dNil)))) (b1 7) dYes (dOp addD (dSlice (dVar 7) dNoP (dPart (dC (.int 3)))) (dTup (dCons (dSlice (dOp getD (dVar 7) (dC (.int 3))) dNoP (dPart (dC (.int 3)))) dNil))) [7]) dNil)))
  (dSeq (dAsg 2 (dUse 1 d_by_measures (dCons (dVar 1) dNil)))
  (dSeq (dFor (dSeqI (dTup (dCons (dC (.int 0)) (dCons (dC (.int 1)) dNil)))) (b1 3) l2_law)
  (dRet (dC (.bool true))))))
def d_law : List D → Out D := dDef 8 b_law
end K32

/-! Ev: to compute denotations in plain Lean. -/
namespace Pd
open PySem L2
section
variable {t u : DS} {ρ : Env} {f g h : DE} {b b2 : DT} {d : D} {o o' : SO} {p : Prop} [Decidable p]
def SO.seq (o : SO) (u : DS) : SO := match o with
  | .nx ρ' => u ρ'
  | o => o
@[simp] theorem s_seq : dSeq t u ρ = (t ρ).seq u := by unfold dSeq SO.seq; cases t ρ <;> rfl
@[simp] theorem s_nx : (SO.nx ρ).seq u = u ρ := rfl
@[simp] theorem s_rt : (SO.rt d ρ).seq u = .rt d ρ := rfl
@[simp] theorem s_bk : (SO.bk ρ).seq u = .bk ρ := rfl
@[simp] theorem s_ct : (SO.ct ρ).seq u = .ct ρ := rfl
@[simp] theorem s_er {n : Nat} : (SO.err n ρ).seq u = .err n ρ := rfl
@[simp] theorem s_bad : SO.bad.seq u = .bad := rfl
@[simp] theorem s_ite : SO.seq (if p then o else o') u = if p then o.seq u else o'.seq u := by split <;> rfl
@[simp] theorem f_nx : (SO.nx ρ).fin = .ok .none := rfl
@[simp] theorem f_rt : (SO.rt d ρ).fin = .ok d := rfl
@[simp] theorem f_er {n : Nat} : (SO.err n ρ).fin = .err n := rfl
@[simp] theorem f_ite : SO.fin (if p then o else o') = if p then o.fin else o'.fin := by split <;> rfl
@[simp] theorem b_ite {α β : Type} {x y : Out α} {k : α → Out β} : Out.bind (if p then x else y) k = if p then x.bind k else y.bind k := by split <;> rfl
@[simp] theorem l_ite {α : Type} {x y : Out α} {k : α → SO} : lift (if p then x else y) ρ k = if p then lift x ρ k else lift y ρ k := by split <;> rfl
@[simp] theorem s_def {N : Nat} {ds : List D} : dDef N t ds = (t (startE N ds)).fin := rfl
@[simp] theorem s_start {N : Nat} {ds : List D} : startE N ds = ds.map some ++ List.replicate (N - ds.length) none := rfl
@[simp] theorem s_if : dIfS b t u ρ = lift (b ρ) ρ fun k => if k = true then t ρ else u ρ := rfl
@[simp] theorem s_ret : dRet f ρ = lift (f ρ) ρ fun d => .rt d ρ := rfl
@[simp] theorem s_retN : dRetN ρ = .rt .none ρ := rfl
@[simp] theorem s_dnx : dNx ρ = .nx ρ := rfl
@[simp] theorem s_asg {i : Nat} : dAsg i f ρ = lift (f ρ) ρ fun d => .nx (ρ.set i (some d)) := rfl
@[simp] theorem s_drop : dDrop f ρ = lift (f ρ) ρ fun _ => .nx ρ := rfl
@[simp] theorem s_c : dC d ρ = .ok d := rfl
@[simp] theorem s_op {k : D → D → Option D} : dOp k f g ρ = (f ρ).bind fun x => (g ρ).bind fun y => .of (k x y) := rfl
@[simp] theorem s_cmp {k : D → D → Option Bool} : dCmp k f g ρ = (f ρ).bind fun x => (g ρ).bind fun y => .of (k x y) := rfl
@[simp] theorem s_un {k : D → Option D} : dUn k f ρ = (f ρ).bind fun x => .of (k x) := rfl
@[simp] theorem s_call {k : List D → Option D} {a : DA} : dCall k a ρ = (a ρ).bind fun x => .of (k x) := rfl
@[simp] theorem s_use {n : Nat} {k : List D → Out D} {a : DA} : dUse n k a ρ = (a ρ).bind fun x => if x.length = n then k x else .bad := rfl
@[simp] theorem s_nil : dNil ρ = .ok [] := rfl
@[simp] theorem s_cons {a : DA} : dCons f a ρ = (f ρ).bind fun d => (a ρ).bind fun ds => .ok (d :: ds) := rfl
@[simp] theorem s_bv : dBv b ρ = (b ρ).bind fun x => .ok (.bool x) := rfl
def tvD : D → Out Bool
  | .bool b => .ok b
  | _ => .bad
theorem s_tv : dTv f ρ = (f ρ).bind tvD := by
  unfold dTv
  cases f ρ with
  | ok d => cases d <;> rfl
  | _ => rfl
@[simp] theorem s_tv' : dTv f ρ = (f ρ).bind tvD := s_tv
@[simp] theorem tvD_b {x : Bool} : tvD (.bool x) = .ok x := rfl
@[simp] theorem tvD_ite {x y : D} : tvD (if p then x else y) = if p then tvD x else tvD y := by split <;> rfl
@[simp] theorem s_and : dAnd b b2 ρ = (b ρ).bind fun k => if k = true then b2 ρ else .ok false := rfl
@[simp] theorem s_or : dOr b b2 ρ = (b ρ).bind fun k => if k = true then .ok true else b2 ρ := rfl
@[simp] theorem s_not : dNot b ρ = (b ρ).bind fun k => .ok (!k) := rfl
@[simp] theorem s_andv : dAndV b f ρ = (b ρ).bind fun k => if k = true then f ρ else .ok (.bool false) := rfl
@[simp] theorem s_orv : dOrV b f ρ = (b ρ).bind fun k => if k = true then .ok (.bool true) else f ρ := rfl
@[simp] theorem s_chain {k k' : D → D → Option Bool} : dChain k k' f g h ρ = (f ρ).bind fun x => (g ρ).bind fun y => (Out.of (k x y)).bind fun b => if b = true then (h ρ).bind fun z => .of (k' y z) else .ok false := rfl
@[simp] theorem s_some {α : Type} {a : α} : Out.of (some a) = .ok a := rfl
@[simp] theorem s_none {α : Type} : Out.of (none : Option α) = .bad := rfl
@[simp] theorem of_ite {α : Type} {x y : Option α} : Out.of (if p then x else y) = if p then Out.of x else Out.of y := by split <;> rfl
@[simp] theorem s_tup {a : DA} : dTup a ρ = (a ρ).bind fun ds => if ds.length ≤ 1000 then .ok (.tuple ds) else .bad := rfl
@[simp] theorem s_lst {a : DA} : dLst a ρ = (a ρ).bind fun ds => if ds.length ≤ 1000 then .ok (.list ds) else .bad := rfl
def seqD : D → Out (List D)
  | .list l => .ok l
  | .tuple l => .ok l
  | .ftup l => .ok l
  | .fdt kvs => if smallT kvs then .ok (keyT kvs) else .bad
  | _ => .bad
@[simp] theorem s_isi {T : String} : dIsI T f ρ = (f ρ).bind fun d => .of ((isiD T d).map .bool) := rfl
@[simp] theorem s_slice {l r : DOI} : dSlice f l r ρ = (f ρ).bind fun d => (l ρ).bind fun x => (r ρ).bind fun y => .of (sliceD d x y) := rfl
@[simp] theorem s_nop : dNoP ρ = .ok none := rfl
def intOf : D → Out (Option Int)
  | .int i => .ok (some i)
  | _ => .bad
@[simp] theorem s_part : dPart f ρ = (f ρ).bind intOf := by
  unfold dPart
  cases f ρ with
  | ok d => cases d <;> rfl
  | _ => rfl
@[simp] theorem intOf_i {i : Int} : intOf (.int i) = .ok (some i) := rfl
@[simp] theorem s_for {a : DA} {k : D → Env → Option Env} : dFor a k t ρ = lift (a ρ) ρ fun ds => dForL k t ds ρ := rfl
@[simp] theorem s_b1 {i : Nat} : b1 i d ρ = some (ρ.set i (some d)) := rfl
@[simp] theorem s_obS {k : Env → SO} : obS (some ρ) k = k ρ := rfl
@[simp] theorem r_nx {k : Env → SO} : loopR (.nx ρ) k = k ρ := rfl
@[simp] theorem r_ct {k : Env → SO} : loopR (.ct ρ) k = k ρ := rfl
@[simp] theorem r_rt {k : Env → SO} : loopR (.rt d ρ) k = .rt d ρ := rfl
@[simp] theorem r_ite {k : Env → SO} : loopR (if p then o else o') k = if p then loopR o k else loopR o' k := by split <;> rfl
@[simp] theorem fl_nil {k : D → Env → Option Env} : dForL k t [] ρ = .nx ρ := rfl
theorem fl_cons {k : D → Env → Option Env} {l : List D} : dForL k t (d :: l) ρ = obS (k d ρ) fun ρ1 => loopR (t ρ1) (dForL k t l) := rfl
end
@[simp] theorem var0 (d : D) (ρ : Env) : dVar 0 (some d :: ρ) = .ok d := rfl
@[simp] theorem varS (n : Nat) (x : Option D) (ρ : Env) : dVar (n + 1) (x :: ρ) = dVar n ρ := rfl
theorem kb_NoneType_int : kitB "NoneType" "int" = some false := by decide +kernel
theorem kb_bool_int : kitB "bool" "int" = some true := by decide +kernel
theorem kb_int_int : kitB "int" "int" = some true := by decide +kernel
theorem kb_str_int : kitB "str" "int" = some false := by decide +kernel
theorem kb_list_int : kitB "list" "int" = some false := by decide +kernel
theorem kb_tuple_int : kitB "tuple" "int" = some false := by decide +kernel
theorem kb_dict_int : kitB "dict" "int" = some false := by decide +kernel
theorem kb_NoneType_bool : kitB "NoneType" "bool" = some false := by decide +kernel
theorem kb_bool_bool : kitB "bool" "bool" = some true := by decide +kernel
theorem kb_int_bool : kitB "int" "bool" = some false := by decide +kernel
theorem kb_str_bool : kitB "str" "bool" = some false := by decide +kernel
theorem kb_list_bool : kitB "list" "bool" = some false := by decide +kernel
theorem kb_tuple_bool : kitB "tuple" "bool" = some false := by decide +kernel
theorem kb_dict_bool : kitB "dict" "bool" = some false := by decide +kernel
theorem kb_NoneType_tuple : kitB "NoneType" "tuple" = some false := by decide +kernel
theorem kb_bool_tuple : kitB "bool" "tuple" = some false := by decide +kernel
theorem kb_int_tuple : kitB "int" "tuple" = some false := by decide +kernel
theorem kb_str_tuple : kitB "str" "tuple" = some false := by decide +kernel
theorem kb_list_tuple : kitB "list" "tuple" = some false := by decide +kernel
theorem kb_tuple_tuple : kitB "tuple" "tuple" = some true := by decide +kernel
theorem kb_dict_tuple : kitB "dict" "tuple" = some false := by decide +kernel
theorem kb_NoneType_list : kitB "NoneType" "list" = some false := by decide +kernel
theorem kb_bool_list : kitB "bool" "list" = some false := by decide +kernel
theorem kb_int_list : kitB "int" "list" = some false := by decide +kernel
theorem kb_str_list : kitB "str" "list" = some false := by decide +kernel
theorem kb_list_list : kitB "list" "list" = some true := by decide +kernel
theorem kb_tuple_list : kitB "tuple" "list" = some false := by decide +kernel
theorem kb_dict_list : kitB "dict" "list" = some false := by decide +kernel
theorem kb_NoneType_str : kitB "NoneType" "str" = some false := by decide +kernel
theorem kb_bool_str : kitB "bool" "str" = some false := by decide +kernel
theorem kb_int_str : kitB "int" "str" = some false := by decide +kernel
theorem kb_str_str : kitB "str" "str" = some true := by decide +kernel
theorem kb_list_str : kitB "list" "str" = some false := by decide +kernel
theorem kb_tuple_str : kitB "tuple" "str" = some false := by decide +kernel
theorem kb_dict_str : kitB "dict" "str" = some false := by decide +kernel
@[simp] theorem isi_int (d : D) : isiD "int" d = some (match d with | .int _ => true | .bool _ => true | _ => false) := by cases d <;> first | exact kb_NoneType_int | exact kb_bool_int | exact kb_int_int | exact kb_str_int | exact kb_list_int | exact kb_tuple_int | exact kb_dict_int
@[simp] theorem isi_bool (d : D) : isiD "bool" d = some (match d with | .bool _ => true | _ => false) := by cases d <;> first | exact kb_NoneType_bool | exact kb_bool_bool | exact kb_int_bool | exact kb_str_bool | exact kb_list_bool | exact kb_tuple_bool | exact kb_dict_bool
@[simp] theorem isi_tuple (d : D) : isiD "tuple" d = some (match d with | .tuple _ => true | .ktup _ => true | .ftup _ => true | _ => false) := by cases d <;> first | exact kb_NoneType_tuple | exact kb_bool_tuple | exact kb_int_tuple | exact kb_str_tuple | exact kb_list_tuple | exact kb_tuple_tuple | exact kb_dict_tuple
@[simp] theorem isi_list (d : D) : isiD "list" d = some (match d with | .list _ => true | .scr _ => true | _ => false) := by cases d <;> first | exact kb_NoneType_list | exact kb_bool_list | exact kb_int_list | exact kb_str_list | exact kb_list_list | exact kb_tuple_list | exact kb_dict_list
@[simp] theorem isi_str (d : D) : isiD "str" d = some (match d with | .str _ => true | _ => false) := by cases d <;> first | exact kb_NoneType_str | exact kb_bool_str | exact kb_int_str | exact kb_str_str | exact kb_list_str | exact kb_tuple_str | exact kb_dict_str
section
variable {i j : Int}
@[simp] theorem e_le : leD (.int i) (.int j) = some (decide (i ≤ j)) := rfl
@[simp] theorem e_lt : ltD (.int i) (.int j) = some (decide (i < j)) := rfl
@[simp] theorem e_gt : gtD (.int i) (.int j) = some (decide (j < i)) := rfl
@[simp] theorem e_ge : geD (.int i) (.int j) = some (decide (j ≤ i)) := rfl
@[simp] theorem e_add : addD (.int i) (.int j) = some (.int (i + j)) := rfl
@[simp] theorem e_sub : subD (.int i) (.int j) = some (.int (i - j)) := rfl
@[simp] theorem e_neg : negD (.int i) = some (.int (-i)) := rfl
@[simp] theorem e_mod : modD (.int i) (.int j) = if 0 < j then some (.int (i % j)) else none := rfl
@[simp] theorem e_div : fdivD (.int i) (.int j) = if 0 < j ∧ j < 1073741824 then some (.int (i / j)) else none := rfl
@[simp] theorem e_mul : mulD (.int i) (.int j) = if mulOk i j then some (.int (i * j)) else none := rfl
theorem mulOk_r (h : -(2 ^ 64) < j ∧ j < 2 ^ 64) : mulOk i j := .inr h
theorem mulOk_l (h : -(2 ^ 64) < i ∧ i < 2 ^ 64) : mulOk i j := .inl h
@[simp] theorem e_lenT {l : List D} : lenD [.tuple l] = some (.int l.length) := rfl
@[simp] theorem e_lenL {l : List D} : lenD [.list l] = some (.int l.length) := rfl
@[simp] theorem e_lenS {l : List Int} : lenD [.scr l] = some (.int l.length) := rfl
@[simp] theorem e_int1 : intC [.int i] = some (.int i) := rfl
@[simp] theorem e_int2 {b : Bool} : intC [.bool b] = some (.int (if b then 1 else 0)) := rfl
@[simp] theorem e_seqT {f : DE} {ρ : Env} : dSeqI f ρ = (f ρ).bind seqD := by
  unfold dSeqI
  cases f ρ with
  | ok d => cases d <;> rfl
  | _ => rfl
@[simp] theorem seqD_t {l : List D} : seqD (.tuple l) = .ok l := rfl
@[simp] theorem seqD_l {l : List D} : seqD (.list l) = .ok l := rfl
@[simp] theorem seqD_f {l : List D} : seqD (.ftup l) = .ok l := rfl
@[simp] theorem seqD_d {kvs : List (List Key × V)} : seqD (.fdt kvs) = if smallT kvs then .ok (keyT kvs) else .bad := rfl
end
@[simp] theorem e_eqI {i j : Int} : eqD (.int i) (.int j) = some (decide (i = j)) := by
  simp [eqD, D.pl, dep, eqv, D.py, PyData.depth, PyData.eqv]
  exact Bool.beq_eq_decide_eq i j
@[simp] theorem e_neI {i j : Int} : neD (.int i) (.int j) = some (!decide (i = j)) := by simp [neD]
@[simp] theorem e_eqB {i j : Bool} : eqD (.bool i) (.bool j) = some (decide (i = j)) := by
  simp [eqD, D.pl, dep, eqv, D.py, PyData.depth, PyData.eqv]
  exact Bool.beq_eq_decide_eq i j
@[simp] theorem e_neB {i j : Bool} : neD (.bool i) (.bool j) = some (!decide (i = j)) := by simp [neD]
theorem pyA_nil {l : List D} : PyData.eqvAll (D.pyA l) [] = l.isEmpty := by cases l <;> simp [D.pyA, PyData.eqvAll]
theorem e_eqL0 {l : List D} (h : D.plA l = true) : eqD (.list l) (.list []) = some l.isEmpty := by
  simp [eqD, D.pl, h, dep, eqv, D.py, PyData.eqv, pyA_nil, D.plA, D.pyA, PyData.depth, PyData.depthAll]
theorem e_neT0 {l : List D} (h : D.plA l = true) : neD (.tuple l) (.tuple []) = some (!l.isEmpty) := by
  simp [neD, eqD, D.pl, h, dep, eqv, D.py, PyData.eqv, pyA_nil, D.plA, D.pyA, PyData.depth, PyData.depthAll]
@[simp] theorem s_new {k : Kd} {ρ : Env} : dNew k ρ = .ok (match k with | .t => .dt [] | _ => .dk []) := rfl
def i1 : D → Out Int
  | .int i => .ok i
  | _ => .bad
@[simp] theorem i1_i {i : Int} : i1 (.int i) = .ok i := rfl
@[simp] theorem s_rng1 {f : DE} {ρ : Env} : dRng1 f ρ = (f ρ).bind fun d => (i1 d).bind fun n => if -100000 ≤ n ∧ n ≤ 100000 then .ok (rngD 0 n.toNat) else .bad := by
  unfold dRng1
  cases f ρ with
  | ok d => cases d <;> rfl
  | _ => rfl
@[simp] theorem s_rng2 {f g : DE} {ρ : Env} : dRng2 f g ρ = (f ρ).bind fun d => (g ρ).bind fun e => (i1 d).bind fun i => (i1 e).bind fun j => if -100000 ≤ i ∧ i ≤ 100000 ∧ -100000 ≤ j ∧ j ≤ 100000 then .ok (rngD i (j - i).toNat) else .bad := by
  unfold dRng2
  cases f ρ with
  | ok d => cases g ρ with
    | ok e => cases d <;> cases e <;> rfl
    | _ => rfl
  | _ => rfl
@[simp] theorem s_rngT {f : DE} {ρ : Env} : dRngT f ρ = (f ρ).bind fun d => (i1 d).bind fun n => if -100000 ≤ n ∧ n ≤ 100000 then .ok (.tuple (rngD 0 n.toNat)) else .bad := by
  unfold dRngT
  cases f ρ with
  | ok d => cases d <;> rfl
  | _ => rfl
@[simp] theorem e_max {i j : Int} : maxC [.int i, .int j] = some (.int (if j > i then j else i)) := rfl
@[simp] theorem e_min {i j : Int} : minC [.int i, .int j] = some (.int (if j < i then j else i)) := rfl
@[simp] theorem e_tupL {l : List D} : tupC [.list l] = some (.tuple l) := rfl
@[simp] theorem e_tupT {l : List D} : tupC [.tuple l] = some (.tuple l) := rfl
@[simp] theorem e_listT {l : List D} : listC [.tuple l] = some (.list l) := rfl
theorem rngD_mem {lo : Int} {n : Nat} {d : D} (h : d ∈ rngD lo n) : ∃ i : Nat, i < n ∧ d = .int (lo + i) := by
  obtain ⟨i, h1, rfl⟩ := List.mem_map.mp h
  exact ⟨i, List.mem_range.mp h1, rfl⟩
@[simp] theorem rngD_len {lo : Int} {n : Nat} : (rngD lo n).length = n := by simp [rngD]
theorem sortI_mem {ns : List Int} {i : Int} : i ∈ sortI ns ↔ i ∈ ns := (List.mergeSort_perm ns _).mem_iff
theorem sortI_len {ns : List Int} : (sortI ns).length = ns.length := (List.mergeSort_perm ns _).length_eq
theorem sortI_le (ns : List Int) : (sortI ns).Pairwise (· ≤ ·) := by
  have := List.pairwise_mergeSort (le := fun a b : Int => decide (a ≤ b)) (fun a b c h1 h2 => by simp at h1 h2 ⊢; omega) (fun a b => by simp; omega) ns
  exact this.imp fun h => by simpa using h
theorem sortI_lt {ns : List Int} (h : ns.Nodup) : (sortI ns).Pairwise (· < ·) := by
  have h1 := sortI_le ns
  have h2 : (sortI ns).Pairwise (· ≠ ·) := (List.mergeSort_perm ns _).nodup_iff.mpr h
  exact (h1.and h2).imp fun ⟨a, b⟩ => by omega
/-! comprehensions -/
@[simp] theorem s_lc {it : DA} {b : D → Env → Option Env} {tst : DT} {elt : DE} {vs : List Nat} {ρ : Env} : dLc it b tst elt vs ρ = (it ρ).bind fun ds => (dLcL b tst elt (wipeE ρ vs) ds).bind fun r => .ok (.list r) := rfl
@[simp] theorem s_yes {ρ : Env} : dYes ρ = .ok true := rfl
@[simp] theorem s_wipe0 {ρ : Env} : wipeE ρ [] = ρ := rfl
@[simp] theorem s_wipeC {ρ : Env} {v : Nat} {vs : List Nat} : wipeE ρ (v :: vs) = (wipeE ρ vs).set v none := rfl
theorem lc_gen {b : D → Env → Option Env} {tst : DT} {elt : DE} {ρ : Env} {p : D → Bool} {F : D → D} : ∀ {ds : List D}, (∀ d ∈ ds, ∃ ρ1, b d ρ = some ρ1 ∧ tst ρ1 = .ok (p d) ∧ (p d = true → elt ρ1 = .ok (F d))) → dLcL b tst elt ρ ds = .ok ((ds.filter p).map F)
  | [], _ => rfl
  | d :: ds, h => by
    obtain ⟨ρ1, h1, h2, h3⟩ := h d List.mem_cons_self
    have ih := lc_gen (ds := ds) fun x hx => h x (List.mem_cons_of_mem _ hx)
    unfold dLcL
    rw [h1]
    simp only [obO_some, h2, ne_ok, Out.ok_bind]
    cases e : p d with
    | true => simp [h3 e, ih, e]
    | false => simp [ih, e]
theorem lc_map {b : D → Env → Option Env} {elt : DE} {ρ : Env} {F : D → D} {ds : List D} (h : ∀ d ∈ ds, ∃ ρ1, b d ρ = some ρ1 ∧ elt ρ1 = .ok (F d)) : dLcL b dYes elt ρ ds = .ok (ds.map F) := by
  have := lc_gen (b := b) (tst := dYes) (elt := elt) (ρ := ρ) (p := fun _ => true) (F := F) (ds := ds) fun d hd => by
    obtain ⟨ρ1, h1, h2⟩ := h d hd
    exact ⟨ρ1, h1, rfl, fun _ => h2⟩
  rw [this, List.filter_eq_self.mpr fun _ _ => rfl]
theorem lc_map2 {α : Type} {b : D → Env → Option Env} {elt : DE} {ρ : Env} {enc : α → D} {R : D → α → Prop} : ∀ {ds : List D}, (∀ d ∈ ds, ∃ ρ1 y, b d ρ = some ρ1 ∧ elt ρ1 = .ok (enc y) ∧ R d y) → ∃ ys : List α, dLcL b dYes elt ρ ds = .ok (ys.map enc) ∧ ys.length = ds.length ∧ ∀ (i : Nat) d y, ds[i]? = some d → ys[i]? = some y → R d y
  | [], _ => ⟨[], rfl, rfl, fun i d y h => by simp at h⟩
  | d :: ds, h => by
    obtain ⟨ρ1, y, h1, h2, h3⟩ := h d List.mem_cons_self
    obtain ⟨ys, e, hl, hr⟩ := lc_map2 (ds := ds) fun x hx => h x (List.mem_cons_of_mem _ hx)
    refine ⟨y :: ys, ?_, by simp [hl], fun i d' y' q1 q2 => ?_⟩
    · unfold dLcL
      rw [h1]
      simp [h2, e]
    · cases i with
      | zero => simp at q1 q2; subst q1; subst q2; exact h3
      | succ i => simp at q1 q2; exact hr i d' y' q1 q2
@[simp] theorem boolsOf_comp {α : Type} {f : α → Bool} {l : List α} : boolsOf (l.map (D.bool ∘ f)) = some (l.map f) := by
  rw [← List.map_map]
  exact boolsOf_map _
@[simp] theorem intsOf_comp {α : Type} {f : α → Int} {l : List α} : intsOf (l.map (D.int ∘ f)) = some (l.map f) := by
  rw [← List.map_map]
  exact intsOf_map _
@[simp] theorem ofSeq_t {l : List D} {k : List D → Out (List D)} : ofSeq (.tuple l) k = k l := rfl
@[simp] theorem ofSeq_l {l : List D} {k : List D → Out (List D)} : ofSeq (.list l) k = k l := rfl
@[simp] theorem s_enum {f : DE} {ρ : Env} : dEnum f ρ = (f ρ).bind fun d => ofSeq d fun l => .ok (enumD 0 l) := rfl
@[simp] theorem s_zip2 {f g : DE} {ρ : Env} : dZip2 f g ρ = (f ρ).bind fun d => (g ρ).bind fun e => ofSeq d fun l => ofSeq e fun m => .ok (zipD2 l m) := rfl
@[simp] theorem s_zip3 {f g h : DE} {ρ : Env} : dZip3 f g h ρ = (f ρ).bind fun d => (g ρ).bind fun e => (h ρ).bind fun u => ofSeq d fun l => ofSeq e fun m => ofSeq u fun n => .ok (zipD3 l m n) := rfl
@[simp] theorem bs_nil {ρ : Env} : bs [] [] ρ = some ρ := rfl
@[simp] theorem bT_t {is : List Nat} {l : List D} {ρ : Env} : bT is (.tuple l) ρ = bs is l ρ := rfl
@[simp] theorem bs_cons {i : Nat} {is : List Nat} {d : D} {l : List D} {ρ : Env} : bs (i :: is) (d :: l) ρ = bs is l (ρ.set i (some d)) := rfl
@[simp] theorem e_isN {d : D} : isND d .none = some (match d with | .none => true | _ => false) := by cases d <;> rfl
@[simp] theorem e_notN {d : D} : notND d .none = some (match d with | .none => false | _ => true) := by cases d <;> rfl
@[simp] theorem s_app {i : Nat} {f : DE} {ρ : Env} : dApp i f ρ = atL ρ i fun l => lift (f ρ) ρ fun d => if l.length ≤ 100000 then .nx (ρ.set i (some (.list (l ++ [d])))) else .bad := rfl
@[simp] theorem at_0 {l : List D} {ρ : Env} {k : List D → SO} : atL (some (.list l) :: ρ) 0 k = k l := rfl
@[simp] theorem at_S {n : Nat} {x : Option D} {ρ : Env} {k : List D → SO} : atL (x :: ρ) (n + 1) k = atL ρ n k := rfl
@[simp] theorem s_guard {f : DE} {ρ : Env} : dGuard f ρ = (f ρ).bind fun d => if d.fix = true then .ok d else .bad := rfl
theorem get_t {l : List D} {i : Int} : getD (.tuple l) (.int i) = atI l i := rfl
theorem get_l {l : List D} {i : Int} : getD (.list l) (.int i) = atI l i := rfl
theorem get_s {l : List Int} {i : Int} : getD (.scr l) (.int i) = (atI l i).map .int := rfl
@[simp] theorem s_set {i : Nat} {f g : DE} {ρ : Env} : dSet i f g ρ = atL ρ i fun l => lift (f ρ) ρ fun d => lift (g ρ) ρ fun z => match z with
  | .int n => match ixN l.length n with
    | some j => .nx (ρ.set i (some (.list (l.set j d))))
    | none => .bad
  | _ => .bad := rfl
theorem wh_zero {b : DT} {t : DS} {ρ : Env} : dWh b t 0 ρ = .bad := rfl
theorem wh_succ {b : DT} {t : DS} {n : Nat} {ρ : Env} : dWh b t (n + 1) ρ = lift (b ρ) ρ fun k => if k = true then loopR (t ρ) (dWh b t n) else .nx ρ := rfl
theorem loop_seq {o : SO} {u : DS} {k : Env → SO} {ρ : Env} (h : o = .nx ρ) : loopR (o.seq u) k = loopR (u ρ) k := by rw [h]; rfl
@[simp] theorem s_keys {f : DE} {ρ : Env} : dKeys f ρ = (f ρ).bind fun d => match d with
  | .dk kvs => if kvs.length ≤ 100000 then .ok (.list (kvs.map fun p => keyD p.1)) else .bad
  | _ => .bad := rfl
@[simp] theorem s_putK {i : Nat} {fv fk : DE} {ρ : Env} : dPutK i fv fk ρ = atK ρ i fun l => lift (fv ρ) ρ fun d => lift (fk ρ) ρ fun z => match d.sc, dkey z with
  | some v, some k => if l.length ≤ 100000 then .nx (ρ.set i (some (.dk (putK l k v)))) else .bad
  | _, _ => .bad := rfl
@[simp] theorem atK_0 {l : List (Key × V)} {ρ : Env} {k : List (Key × V) → SO} : atK (some (.dk l) :: ρ) 0 k = k l := rfl
@[simp] theorem atK_S {n : Nat} {x : Option D} {ρ : Env} {k : List (Key × V) → SO} : atK (x :: ρ) (n + 1) k = atK ρ n k := rfl
@[simp] theorem s_get1 {f g : DE} {ρ : Env} : dGet1 f g ρ = (f ρ).bind fun d => match d with
  | .dk kvs => (g ρ).bind fun k => .of (getO (.dk kvs) k .none)
  | _ => .bad := rfl
@[simp] theorem s_get2 {f g h : DE} {ρ : Env} : dGet2 f g h ρ = (f ρ).bind fun d => match d with
  | .dk kvs => (g ρ).bind fun k => (h ρ).bind fun x => if x.sc.isSome = true then .of (getO (.dk kvs) k x) else .bad
  | _ => .bad := rfl
theorem eqvA_ints : ∀ A B : List Int, PyData.eqvAll (D.pyA (A.map .int)) (D.pyA (B.map .int)) = decide (A = B)
  | [], [] => by simp [D.pyA, PyData.eqvAll]
  | [], b :: B => by simp [D.pyA, PyData.eqvAll]
  | a :: A, [] => by simp [D.pyA, PyData.eqvAll]
  | a :: A, b :: B => by
    simp only [List.map_cons, D.pyA, D.py, PyData.eqvAll, PyData.eqv, eqvA_ints A B]
    by_cases h : a = b <;> by_cases h2 : A = B <;> simp [h, h2]
theorem depA_ints : ∀ A : List Int, PyData.depthAll (D.pyA (A.map .int)) = 0
  | [] => rfl
  | a :: A => by simp [D.pyA, D.py, PyData.depthAll, PyData.depth, depA_ints A]
theorem plA_intsE : ∀ gs : List Int, D.plA (gs.map .int) = true
  | [] => rfl
  | g :: gs => by simp [D.plA, D.pl, plA_intsE gs]
theorem eq_IL (A B : List Int) : eqD (.list (A.map .int)) (.list (B.map .int)) = some (decide (A = B)) := by
  simp only [eqD, D.pl, plA_intsE, dep, D.py, PyData.depth, depA_ints, eqv, PyData.eqv, eqvA_ints]
  rfl
theorem eq_IT (A B : List Int) : eqD (.tuple (A.map .int)) (.tuple (B.map .int)) = some (decide (A = B)) := by
  simp only [eqD, D.pl, plA_intsE, dep, D.py, PyData.depth, depA_ints, eqv, PyData.eqv, eqvA_ints]
  rfl
theorem ne_IL (A B : List Int) : neD (.list (A.map .int)) (.list (B.map .int)) = some (!decide (A = B)) := by simp [neD, eq_IL]
theorem ne_IT (A B : List Int) : neD (.tuple (A.map .int)) (.tuple (B.map .int)) = some (!decide (A = B)) := by simp [neD, eq_IT]
mutual
theorem eqv_self : ∀ d : PyData, d.plain = true → PyData.eqv d d = true
  | .none, _ => rfl
  | .bool b, _ => by simp [PyData.eqv]
  | .int i, _ => by simp [PyData.eqv]
  | .str s, _ => by simp [PyData.eqv]
  | .list l, h => by simp only [PyData.plain] at h; simp only [PyData.eqv]; exact eqvA_self l h
  | .tuple l, h => by simp only [PyData.plain] at h; simp only [PyData.eqv]; exact eqvA_self l h
  | .dict _, h => by simp [PyData.plain] at h
theorem eqvA_self : ∀ l : List PyData, PyData.plainAll l = true → PyData.eqvAll l l = true
  | [], _ => rfl
  | d :: l, h => by
    simp only [PyData.plainAll, Bool.and_eq_true] at h
    simp only [PyData.eqvAll, Bool.and_eq_true]
    exact ⟨eqv_self d h.1, eqvA_self l h.2⟩
end
theorem eq_self {d : D} (h : d.pl = true) (hd : dep d ≤ 50) : eqD d d = some true := by
  unfold eqD
  rw [if_pos ⟨h, h, by omega⟩]
  unfold eqv
  rw [eqv_self _ (D.py_plain d)]
theorem ne_self {d : D} (h : d.pl = true) (hd : dep d ≤ 50) : neD d d = some false := by
  unfold neD
  rw [eq_self h hd]
  rfl
/-- a whole number in bounds, no truth value -/
def isNum (d : D) (lo hi : Int) : Bool := match d with
  | .int i => decide (lo ≤ i) && decide (i ≤ hi)
  | _ => false
def SO.seqF (o : SO) (u : DS) : SO := match o with
  | .nx ρ' => u ρ'
  | .err x ρ' => .err x ρ'
  | _ => .bad
section
variable {t u : DS} {ρ : Env} {f g : DE} {d : D} {o o' : SO} {p : Prop} [Decidable p]
@[simp] theorem s_seqF : dSeqF t u ρ = (t ρ).seqF u := by unfold dSeqF SO.seqF; cases t ρ <;> rfl
@[simp] theorem sf_nx : (SO.nx ρ).seqF u = u ρ := rfl
@[simp] theorem sf_er {n : Nat} : (SO.err n ρ).seqF u = .err n ρ := rfl
@[simp] theorem sf_ite : SO.seqF (if p then o else o') u = if p then o.seqF u else o'.seqF u := by split <;> rfl
@[simp] theorem ff_rt : (SO.rt d ρ).finF = .ok d := rfl
@[simp] theorem ff_er {n : Nat} : (SO.err n ρ).finF = .err n := rfl
@[simp] theorem s_defF {N : Nat} {ds : List D} : dDefF N t ds = (t (startE N ds)).finF := rfl
@[simp] theorem lstFx_l {l : List D} : lstFx (.list l) = if D.fixA l = true then .ok (.list l) else .bad := rfl
@[simp] theorem s_addF : dAddF f g ρ = (f ρ).bind fun x => (g ρ).bind fun y => (Out.of (addD x y)).bind lstFx := by
  unfold dAddF dOp
  cases f ρ with
  | ok x => cases g ρ <;> rfl
  | _ => rfl
@[simp] theorem ofSq_l {l : List D} {k : List D → SO} : ofSq (.list l) k = k l := rfl
@[simp] theorem ofSq_t {l : List D} {k : List D → SO} : ofSq (.tuple l) k = k l := rfl
@[simp] theorem s_ext {i : Nat} : dExt i f ρ = atL ρ i fun l => lift (f ρ) ρ fun d => ofSq d fun m => if l.length + m.length ≤ 100000 then .nx (ρ.set i (some (.list (l ++ m)))) else .bad := rfl
theorem s_mov {i j : Nat} (h : ρ[j]? = some (some d)) : dMov i j ρ = .nx ((ρ.set j none).set i (some d)) := by unfold dMov; rw [h]
end
end Pd

/-! Lp: loops by invariants, in plain Lean. -/
namespace Pd
open PySem L2
section
variable {α : Type} {enc : α → D} {b : D → Env → Option Env} {t : DS} {c : DT}
/-- a for over typed items: any end that P allows -/
theorem for_P (P : SO → Prop) (I : List α → Env → Prop) : ∀ {l : List α} {ρ : Env}, I l ρ →
    (∀ a l ρ, I (a :: l) ρ → ∃ ρ1, b (enc a) ρ = some ρ1 ∧ ((∃ ρ2, (t ρ1 = .nx ρ2 ∨ t ρ1 = .ct ρ2) ∧ I l ρ2) ∨ (∃ ρ2, t ρ1 = .bk ρ2 ∧ P (.nx ρ2)) ∨ (∃ d ρ2, t ρ1 = .rt d ρ2 ∧ P (.rt d ρ2)) ∨ (∃ n ρ2, t ρ1 = .err n ρ2 ∧ P (.err n ρ2)))) →
    (∀ ρ, I [] ρ → P (.nx ρ)) → P (dForL b t (l.map enc) ρ)
  | [], ρ, h, _, hn => hn ρ h
  | a :: l, ρ, h, hs, hn => by
    obtain ⟨ρ1, e1, h1⟩ := hs a l ρ h
    rw [List.map_cons, fl_cons, e1, s_obS]
    rcases h1 with ⟨ρ2, e2, h2⟩ | ⟨ρ2, e2, h2⟩ | ⟨d, ρ2, e2, h2⟩ | ⟨n, ρ2, e2, h2⟩
    · have : loopR (t ρ1) (dForL b t (l.map enc)) = dForL b t (l.map enc) ρ2 := by rcases e2 with e2 | e2 <;> rw [e2] <;> rfl
      rw [this]
      exact for_P P I h2 hs hn
    · rw [e2]; exact h2
    · rw [e2]; exact h2
    · rw [e2]; exact h2
/-- a for that runs through -/
theorem for_I (I : List α → Env → Prop) {l : List α} {ρ : Env} (h : I l ρ) (hs : ∀ a l ρ, I (a :: l) ρ → ∃ ρ1 ρ2, b (enc a) ρ = some ρ1 ∧ (t ρ1 = .nx ρ2 ∨ t ρ1 = .ct ρ2) ∧ I l ρ2) :
    ∃ ρ', dForL b t (l.map enc) ρ = .nx ρ' ∧ I [] ρ' :=
  for_P (P := fun o => ∃ ρ', o = .nx ρ' ∧ I [] ρ') I h (fun a l ρ q => by
    obtain ⟨ρ1, ρ2, e1, e2, e3⟩ := hs a l ρ q
    exact ⟨ρ1, e1, .inl ⟨ρ2, e2, e3⟩⟩) fun ρ q => ⟨ρ, rfl, q⟩
theorem for_R (I : List α → Env → Prop) (R : D → Prop) {l : List α} {ρ : Env} (h : I l ρ) (hs : ∀ a l ρ, I (a :: l) ρ → ∃ ρ1, b (enc a) ρ = some ρ1 ∧ ((∃ ρ2, (t ρ1 = .nx ρ2 ∨ t ρ1 = .ct ρ2) ∧ I l ρ2) ∨ ∃ d ρ2, t ρ1 = .rt d ρ2 ∧ R d)) :
    (∃ ρ', dForL b t (l.map enc) ρ = .nx ρ' ∧ I [] ρ') ∨ ∃ d ρ', dForL b t (l.map enc) ρ = .rt d ρ' ∧ R d :=
  for_P (P := fun o => (∃ ρ', o = .nx ρ' ∧ I [] ρ') ∨ ∃ d ρ', o = .rt d ρ' ∧ R d) I h (fun a l ρ q => by
    obtain ⟨ρ1, e1, e2 | ⟨d, ρ2, e2, e3⟩⟩ := hs a l ρ q
    · exact ⟨ρ1, e1, .inl e2⟩
    · exact ⟨ρ1, e1, .inr (.inr (.inl ⟨d, ρ2, e2, .inr ⟨d, ρ2, rfl, e3⟩⟩))⟩) fun ρ q => .inl ⟨ρ, rfl, q⟩
/-- a while by a measure: any end that P allows -/
theorem wh_P (P : SO → Prop) (I : Nat → Env → Prop)
    (hs : ∀ n ρ, I n ρ → (c ρ = .ok false ∧ P (.nx ρ)) ∨ (c ρ = .ok true ∧ ((∃ ρ2 m, (t ρ = .nx ρ2 ∨ t ρ = .ct ρ2) ∧ m < n ∧ I m ρ2) ∨ (∃ d ρ2, t ρ = .rt d ρ2 ∧ P (.rt d ρ2)) ∨ (∃ n ρ2, t ρ = .err n ρ2 ∧ P (.err n ρ2))))) :
    ∀ {n fuel : Nat} {ρ : Env}, I n ρ → n < fuel → P (dWh c t fuel ρ)
  | n, 0, ρ, _, h => by omega
  | n, fuel + 1, ρ, h, hf => by
    rw [wh_succ]
    rcases hs n ρ h with ⟨e1, e2⟩ | ⟨e1, ⟨ρ2, m, e2, e3, e4⟩ | ⟨d, ρ2, e2, e3⟩ | ⟨n, ρ2, e2, e3⟩⟩
    · rw [e1]; exact e2
    · rw [e1, lift_ok, if_pos rfl]
      have : loopR (t ρ) (dWh c t fuel) = dWh c t fuel ρ2 := by rcases e2 with e2 | e2 <;> rw [e2] <;> rfl
      rw [this]
      exact wh_P P I hs e4 (by omega)
    · rw [e1, lift_ok, if_pos rfl, e2]; exact e3
    · rw [e1, lift_ok, if_pos rfl, e2]; exact e3
theorem wh_I (I : Nat → Env → Prop) (J : Env → Prop) (hs : ∀ n ρ, I n ρ → (c ρ = .ok false ∧ J ρ) ∨ (c ρ = .ok true ∧ ∃ ρ2 m, (t ρ = .nx ρ2 ∨ t ρ = .ct ρ2) ∧ m < n ∧ I m ρ2)) {n fuel : Nat} {ρ : Env} (h : I n ρ) (hf : n < fuel) :
    ∃ ρ', dWh c t fuel ρ = .nx ρ' ∧ J ρ' :=
  wh_P (P := fun o => ∃ ρ', o = .nx ρ' ∧ J ρ') I (fun n ρ q => by
    rcases hs n ρ q with ⟨e1, e2⟩ | ⟨e1, e2⟩
    · exact .inl ⟨e1, ρ, rfl, e2⟩
    · exact .inr ⟨e1, .inl e2⟩) h hf
/-- enumerate, zip over typed items -/
theorem enumD_map {β : Type} (f : β → D) : ∀ (l : List β) (i : Nat), enumD i (l.map f) = (l.zipIdx i).map fun p => .tuple [.int (p.2 : Nat), f p.1]
  | [], _ => rfl
  | a :: l, i => by
    simp only [List.map_cons, enumD, List.zipIdx_cons, enumD_map f l (i + 1)]
theorem zipD2_map {β γ : Type} (f : β → D) (g : γ → D) : ∀ (l : List β) (m : List γ), zipD2 (l.map f) (m.map g) = (l.zip m).map fun p => .tuple [f p.1, g p.2]
  | [], _ => by simp [zipD2]
  | a :: l, [] => by simp [zipD2]
  | a :: l, b :: m => by simp only [List.map_cons, zipD2, List.zip_cons_cons, zipD2_map f g l m]
theorem zipD3_map {β γ δ : Type} (f : β → D) (g : γ → D) (h : δ → D) : ∀ (l : List β) (m : List γ) (n : List δ), zipD3 (l.map f) (m.map g) (n.map h) = (l.zip (m.zip n)).map fun p => .tuple [f p.1, g p.2.1, h p.2.2]
  | [], _, _ => by simp [zipD3]
  | a :: l, [], _ => by simp [zipD3]
  | a :: l, b :: m, [] => by simp [zipD3]
  | a :: l, b :: m, c :: n => by simp only [List.map_cons, zipD3, List.zip_cons_cons, zipD3_map f g h l m n]
end
@[simp] theorem s_callIO {n j1 j2 : Nat} {g : List D → Out (List D × List D)} {ga : DA} {ρ : Env} : dCallIO n j1 j2 g ga ρ = lift (ga ρ) ρ fun ds => if ds.length = n then (match g ds with
  | .ok (l, m) => .nx ((ρ.set j1 (some (.list l))).set j2 (some (.list m)))
  | _ => .bad) else .bad := rfl
@[simp] theorem s_defIO {N p q : Nat} {t : DS} {ds : List D} : dDefIO N p q t ds = (t (startE N ds)).finIO p q := rfl
@[simp] theorem io_nx {ρ : Env} {p q : Nat} : (SO.nx ρ).finIO p q = ioOf ρ p q := rfl
@[simp] theorem io_rt {ρ : Env} {p q : Nat} : (SO.rt .none ρ).finIO p q = ioOf ρ p q := rfl
@[simp] theorem io_ite {c : Prop} [Decidable c] {o o' : SO} {p q : Nat} : (if c then o else o').finIO p q = if c then o.finIO p q else o'.finIO p q := by split <;> rfl
@[simp] theorem s_raise {n : Nat} {ρ : Env} : dRaise n ρ = .err n ρ := rfl
@[simp] theorem s_asgG {b : D → Env → Option Env} {f : DE} {ρ : Env} : dAsgG b f ρ = lift (f ρ) ρ fun d => match b d ρ with
  | some ρ' => .nx ρ'
  | none => .bad := rfl
@[simp] theorem s_mulF {f g : DE} {ρ : Env} : dMulF f g ρ = (dOp mulD f g ρ).bind fun d => match d with | .list l => .ok (.list l) | _ => .bad := rfl
/-- paths -/
inductive Pth {α : Type} (E : α → α → Prop) : α → α → Prop
  | one {a b : α} : E a b → Pth E a b
  | snoc {a b c : α} : Pth E a b → E b c → Pth E a c
section
variable {α : Type} {E E' : α → α → Prop} {a b c : α}
theorem Pth.trans (h : Pth E a b) (k : Pth E b c) : Pth E a c := by
  induction k with
  | one e => exact .snoc h e
  | snoc _ e ih => exact .snoc ih e
theorem Pth.inv (P : α → Prop) (s : ∀ x y, P x → E x y → P y ∧ E' x y) (ha : P a) (h : Pth E a b) : P b ∧ Pth E' a b := by
  induction h with
  | one e => have := s _ _ ha e; exact ⟨this.1, .one this.2⟩
  | snoc _ e ih => have := s _ _ ih.1 e; exact ⟨this.1, .snoc ih.2 this.2⟩
theorem Pth.mono (s : ∀ x y, E x y → E' x y) (h : Pth E a b) : Pth E' a b := (Pth.inv (P := fun _ => True) (fun x y _ e => ⟨trivial, s x y e⟩) trivial h).2
/-- what becomes less at each step -/
theorem Pth.less (P : α → Prop) (f : α → Int) (s : ∀ x y, P x → E x y → P y ∧ f y < f x) (ha : P a) (h : Pth E a b) : P b ∧ f b < f a := by
  induction h with
  | one e => exact s _ _ ha e
  | snoc _ e ih => have := s _ _ ih.1 e; exact ⟨this.1, by omega⟩
theorem Pth.le (P : α → Prop) (f : α → Int) (s : ∀ x y, P x → E x y → P y ∧ f y ≤ f x) (ha : P a) (h : Pth E a b) : P b ∧ f b ≤ f a := by
  induction h with
  | one e => exact s _ _ ha e
  | snoc _ e ih => have := s _ _ ih.1 e; exact ⟨this.1, by omega⟩
theorem Pth.first (h : Pth E a b) : ∃ c, E a c ∧ (c = b ∨ Pth E c b) := by
  induction h with
  | one e => exact ⟨_, e, .inl rfl⟩
  | snoc _ e ih =>
    obtain ⟨c, h1, h2 | h2⟩ := ih
    · exact ⟨c, h1, .inr (by rw [h2]; exact .one e)⟩
    · exact ⟨c, h1, .inr (.snoc h2 e)⟩
end
end Pd

namespace K32
open PySem L2 Pd
/-! ### denotations of marks.py, as gen.py prints them -/
def b_is_number : DS :=
  (dRet (dAndV (dTv (dIsI "int" (dVar 0))) (dAndV (dTv (dBv (dNot (dTv (dIsI "bool" (dVar 0)))))) (dBv (dChain leD leD (dVar 1) (dVar 0) (dVar 2))))))
def d_is_number : List D → Out D := dDef 3 b_is_number
def l1_are_some : DS :=
  (dSeq (dIfS (dNot (dTv (dUse 3 d_is_number (dCons (dVar 3) (dCons (dOp addD (dVar 2) (dC (.int 1))) (dCons (dOp subD (dVar 1) (dC (.int 1))) dNil)))))) (dRet (dC (.bool false))) dNx)
  (dAsg 2 (dVar 3)))
def b_are_some : DS :=
  (dSeq (dIfS (dNot (dTv (dIsI "tuple" (dVar 0)))) (dRet (dC (.bool false))) dNx)
  (dSeq (dAsg 2 (dUn negD (dC (.int 1))))
  (dSeq (dFor (dSeqI (dVar 0)) (b1 3) l1_are_some)
  (dRet (dC (.bool true))))))
def d_are_some : List D → Out D := dDef 4 b_are_some
def b_goals_within : DS :=
  (dRet (dLc (dSeqI (dOp getD (dOp getD (dVar 0) (dVar 1)) (dC (.int 3)))) (b1 3) (dCmp inD (dVar 3) (dVar 2)) (dVar 3) [3]))
def d_goals_within : List D → Out D := dDef 4 b_goals_within
def b_is_whole_part : DS :=
  (dRet (dCall allC (dCons (dLc (dSeqI (dVar 1)) (b1 2) dYes (dBv (dCmp gtD (dCall lenD (dCons (dUse 3 d_goals_within (dCons (dVar 0) (dCons (dVar 2) (dCons (dVar 1) dNil)))) dNil)) (dC (.int 0)))) [2]) dNil)))
def d_is_whole_part : List D → Out D := dDef 3 b_is_whole_part
def b_without : DS :=
  (dRet (dCall tupC (dCons (dLc (dSeqI (dVar 0)) (b1 2) (dCmp ninD (dVar 2) (dVar 1)) (dVar 2) [2]) dNil)))
def d_without : List D → Out D := dDef 3 b_without
def b_must_be_parts : DS :=
  (dSeq (dIfS (dOr (dNot (dTv (dUse 2 d_are_some (dCons (dVar 1) (dCons (dCall lenD (dCons (dVar 0) dNil)) dNil))))) (dNot (dTv (dUse 2 d_are_some (dCons (dVar 2) (dCons (dCall lenD (dCons (dVar 0) dNil)) dNil)))))) (dRaise 1) dNx)
  (dIfS (dOr (dCmp gtD (dCall lenD (dCons (dUse 2 d_without (dCons (dVar 2) (dCons (dVar 1) dNil))) dNil)) (dC (.int 0))) (dNot (dTv (dUse 2 d_is_whole_part (dCons (dVar 0) (dCons (dVar 1) dNil)))))) (dRaise 1) dNx))
def d_must_be_parts : List D → Out D := dDef 3 b_must_be_parts
def b_is_pulled : DS :=
  (dSeq (dAsg 5 (dLc (dSeqI (dUse 3 d_goals_within (dCons (dVar 0) (dCons (dVar 3) (dCons (dVar 1) dNil))))) (b1 6) dYes (dBv (dCmp notND (dOp getD (dVar 4) (dVar 6)) (dC .none))) [6]))
  (dSeq (dIfS (dCmp eqD (dOp getD (dOp getD (dVar 0) (dVar 3)) (dC (.int 0))) (dVar 2)) (dRet (dCall anyC (dCons (dVar 5) dNil))) dNx)
  (dRet (dCall allC (dCons (dVar 5) dNil)))))
def d_is_pulled : List D → Out D := dDef 7 b_is_pulled
def l1_ranks_of : DS :=
  (dSet 4 (dC (.int 0)) (dVar 5))
def l2_ranks_of : DS :=
  (dSet 4 (dVar 6) (dVar 8))
def l3_ranks_of : DS :=
  (dSeq (dAsg 6 (dOp addD (dVar 6) (dC (.int 1))))
  (dSeq (dAsg 7 (dLc (dSeqI (dVar 1)) (b1 8) (dAnd (dCmp isND (dOp getD (dVar 4) (dVar 8)) (dC .none)) (dTv (dUse 5 d_is_pulled (dCons (dVar 0) (dCons (dVar 1) (dCons (dVar 2) (dCons (dVar 8) (dCons (dVar 4) dNil)))))))) (dVar 8) [8]))
  (dFor (dSeqI (dVar 7)) (b1 8) l2_ranks_of)))
def l4_ranks_of : DT :=
  (dCmp gtD (dCall lenD (dCons (dVar 7) dNil)) (dC (.int 0)))
def b_ranks_of : DS :=
  (dSeq (dAsg 4 (dMulF (dLst (dCons (dC .none) dNil)) (dCall lenD (dCons (dVar 0) dNil))))
  (dSeq (dFor (dSeqI (dVar 3)) (b1 5) l1_ranks_of)
  (dSeq (dAsg 6 (dC (.int 0)))
  (dSeq (dAsg 7 (dCall listC (dCons (dVar 3) dNil)))
  (dSeq (dWh l4_ranks_of l3_ranks_of 100000)
  (dRet (dCall tupC (dCons (dVar 4) dNil))))))))
def d_ranks_of : List D → Out D := dDef 9 b_ranks_of
def l1_least_goal : DS :=
  (dIfS (dAnd (dCmp notND (dOp getD (dVar 1) (dVar 3)) (dC .none)) (dOr (dCmp isND (dVar 2) (dC .none)) (dCmp ltD (dOp getD (dVar 1) (dVar 3)) (dOp getD (dVar 1) (dVar 2))))) (dAsg 2 (dVar 3)) dNx)
def b_least_goal : DS :=
  (dSeq (dAsg 2 (dC .none))
  (dSeq (dFor (dSeqI (dVar 0)) (b1 3) l1_least_goal)
  (dRet (dVar 2))))
def d_least_goal : List D → Out D := dDef 4 b_least_goal
def l1_pulled : DS :=
  (dSeq (dAsg 7 (dC .none))
  (dSeq (dIfS (dAnd (dCmp notND (dOp getD (dVar 4) (dVar 6)) (dC .none)) (dAnd (dCmp gtD (dOp getD (dVar 4) (dVar 6)) (dC (.int 0))) (dCmp eqD (dOp getD (dOp getD (dVar 0) (dVar 6)) (dC (.int 0))) (dVar 2)))) (dAsg 7 (dUse 2 d_least_goal (dCons (dUse 3 d_goals_within (dCons (dVar 0) (dCons (dVar 6) (dCons (dVar 1) dNil)))) (dCons (dVar 4) dNil)))) dNx)
  (dApp 5 (dVar 7))))
def b_pulled : DS :=
  (dSeq (dDrop (dUse 3 d_must_be_parts (dCons (dVar 0) (dCons (dVar 1) (dCons (dVar 3) dNil)))))
  (dSeq (dAsg 4 (dUse 4 d_ranks_of (dCons (dVar 0) (dCons (dVar 1) (dCons (dVar 2) (dCons (dVar 3) dNil))))))
  (dSeq (dAsg 5 (dLst dNil))
  (dSeq (dFor (dRng1 (dCall lenD (dCons (dVar 0) dNil))) (b1 6) l1_pulled)
  (dRet (dTup (dCons (dCall tupC (dCons (dLc (dSeqI (dVar 1)) (b1 6) (dCmp notND (dOp getD (dVar 4) (dVar 6)) (dC .none)) (dVar 6) [6]) dNil)) (dCons (dVar 4) (dCons (dCall tupC (dCons (dVar 5) dNil)) dNil)))))))))
def d_pulled : List D → Out D := dDef 8 b_pulled
def l1_lay_won : DS :=
  (dSeq (dSet 1 (dVar 5) (dVar 9))
  (dSeq (dSet 2 (dC .none) (dVar 9))
  (dIfS (dAnd (dCmp eqD (dOp getD (dOp getD (dVar 0) (dVar 9)) (dC (.int 0))) (dVar 5)) (dCmp inD (dVar 9) (dVar 8))) (dSet 2 (dCall minC (dCons (dUse 3 d_goals_within (dCons (dVar 0) (dCons (dVar 9) (dCons (dVar 7) dNil)))) dNil)) (dVar 9)) (dIfS (dCmp eqD (dOp getD (dOp getD (dVar 0) (dVar 9)) (dC (.int 0))) (dVar 5)) (dSet 2 (dOp getD (dVar 4) (dVar 9)) (dVar 9)) dNx))))
def b_lay_won : DS :=
  (dSeq (dAsgG (bT [5, 6, 7, 8]) (dVar 3))
  (dFor (dSeqI (dVar 6)) (b1 9) l1_lay_won))
def d_lay_won : List D → Out (List D × List D) := dDefIO 10 1 2 b_lay_won
def b_solve (rec : List D → Out (List D × List D)) : DS :=
  (dSeq (dIfS (dCmp eqD (dCall lenD (dCons (dVar 1) dNil)) (dC (.int 0))) dRetN dNx)
  (dSeq (dAsg 4 (dCall maxC (dCons (dLc (dSeqI (dVar 1)) (b1 13) dYes (dOp getD (dOp getD (dVar 0) (dVar 13)) (dC (.int 1))) [13]) dNil)))
  (dSeq (dAsg 5 (dOp modD (dVar 4) (dC (.int 2))))
  (dSeq (dAsg 6 (dCall tupC (dCons (dLc (dSeqI (dVar 1)) (b1 13) (dCmp eqD (dOp getD (dOp getD (dVar 0) (dVar 13)) (dC (.int 1))) (dVar 4)) (dVar 13) [13]) dNil)))
  (dSeq (dAsgG (bT [7, 8, 9]) (dUse 4 d_pulled (dCons (dVar 0) (dCons (dVar 1) (dCons (dVar 5) (dCons (dVar 6) dNil))))))
  (dSeq (dAsg 10 (dUse 2 d_without (dCons (dVar 1) (dCons (dVar 7) dNil))))
  (dSeq (dCallIO 4 2 3 rec (dCons (dVar 0) (dCons (dVar 10) (dCons (dVar 2) (dCons (dVar 3) dNil)))))
  (dSeq (dAsg 11 (dCall tupC (dCons (dLc (dSeqI (dVar 10)) (b1 13) (dCmp neD (dOp getD (dVar 2) (dVar 13)) (dVar 5)) (dVar 13) [13]) dNil)))
  (dSeq (dIfS (dCmp eqD (dCall lenD (dCons (dVar 11) dNil)) (dC (.int 0))) (dSeq (dCallIO 5 2 3 d_lay_won (dCons (dVar 0) (dCons (dVar 2) (dCons (dVar 3) (dCons (dTup (dCons (dVar 5) (dCons (dVar 7) (dCons (dVar 1) (dCons (dVar 6) dNil))))) (dCons (dVar 9) dNil))))))
  dRetN) dNx)
  (dSeq (dAsgG (bT [12, 8, 9]) (dUse 4 d_pulled (dCons (dVar 0) (dCons (dVar 1) (dCons (dOp subD (dC (.int 1)) (dVar 5)) (dCons (dVar 11) dNil))))))
  (dSeq (dCallIO 5 2 3 d_lay_won (dCons (dVar 0) (dCons (dVar 2) (dCons (dVar 3) (dCons (dTup (dCons (dOp subD (dC (.int 1)) (dVar 5)) (dCons (dUse 2 d_without (dCons (dVar 12) (dCons (dVar 11) dNil))) (dCons (dTup dNil) (dCons (dTup dNil) dNil))))) (dCons (dVar 9) dNil))))))
  (dCallIO 4 2 3 rec (dCons (dVar 0) (dCons (dUse 2 d_without (dCons (dVar 1) (dCons (dVar 12) dNil))) (dCons (dVar 2) (dCons (dVar 3) dNil))))))))))))))))
def d_solve : Nat → List D → Out (List D × List D)
  | 0 => fun _ => .bad
  | n + 1 => dDefIO 14 2 3 (b_solve (d_solve n))
def b_won : DS :=
  (dSeq (dAsg 1 (dMulF (dLst (dCons (dC (.int 0)) dNil)) (dCall lenD (dCons (dVar 0) dNil))))
  (dSeq (dAsg 2 (dMulF (dLst (dCons (dC .none) dNil)) (dCall lenD (dCons (dVar 0) dNil))))
  (dSeq (dCallIO 4 1 2 (d_solve 26) (dCons (dVar 0) (dCons (dRngT (dCall lenD (dCons (dVar 0) dNil))) (dCons (dVar 1) (dCons (dVar 2) dNil)))))
  (dRet (dTup (dCons (dCall tupC (dCons (dVar 1) dNil)) (dCons (dCall tupC (dCons (dVar 2) dNil)) dNil)))))))
def d_won : List D → Out D := dDef 3 b_won
/-! ### what the script gives -/
def cell (ns : List Int) (k : Int) : Int := if k < ns.length then (atI ns k).getD 0 else 0
theorem atI_in {α : Type} (l : List α) (k : Int) (h : 0 ≤ k) (h2 : k < l.length) : ∃ x, atI l k = some x ∧ x ∈ l := by
  have e : ixN l.length k = some k.toNat := by unfold ixN; rw [if_pos h, if_pos h2]
  have hl : k.toNat < l.length := by omega
  exact ⟨l[k.toNat], by unfold atI; rw [e]; exact List.getElem?_eq_getElem hl, List.getElem_mem hl⟩
theorem e_cell (ns : List Int) (k : Int) (h : 0 ≤ k) : d__law_cell_at [.scr ns, .int k] = .ok (.int (cell ns k)) := by
  simp [d__law_cell_at, b__law_cell_at, cell]
  by_cases h2 : k < ns.length
  · obtain ⟨x, e, _⟩ := atI_in ns k h h2
    simp [h2, getD, e]
  · simp [h2]
def mixI (ns : List Int) (k : Int) : Int :=
  let d := (cell ns k + 7919 * k + 1) * 48271 % 2147483647
  (d * d + 7 * d + k) % 2147483629
theorem mixI_b (ns : List Int) (k : Int) : 0 ≤ mixI ns k ∧ mixI ns k < 2147483629 := by
  unfold mixI
  exact ⟨Int.emod_nonneg _ (by decide), Int.emod_lt_of_pos _ (by decide)⟩
theorem e_mixed (ns : List Int) (k : Int) (h : 0 ≤ k) : d__law_mixed [.scr ns, .int k] = .ok (.int (mixI ns k)) := by
  have h1 := Int.emod_nonneg ((cell ns k + 7919 * k + 1) * 48271) (show (2147483647 : Int) ≠ 0 by decide)
  have h2 := Int.emod_lt_of_pos ((cell ns k + 7919 * k + 1) * 48271) (show (0 : Int) < 2147483647 by decide)
  simp [d__law_mixed, b__law_mixed, e_cell ns k h, mulOk]
  rw [if_pos (by omega)]
  rfl
def drwI (n k : Int) : Int :=
  let d := (n + 104729 * k + 17) * 69621 % 2147483647
  (d * d + 3 * d + k) % 2147483629
theorem drwI_b (n k : Int) : 0 ≤ drwI n k ∧ drwI n k < 2147483629 := by
  unfold drwI
  exact ⟨Int.emod_nonneg _ (by decide), Int.emod_lt_of_pos _ (by decide)⟩
theorem e_drawn (n k : Int) : d__law_drawn [.int n, .int k] = .ok (.int (drwI n k)) := by
  have h1 := Int.emod_nonneg ((n + 104729 * k + 17) * 69621) (show (2147483647 : Int) ≠ 0 by decide)
  have h2 := Int.emod_lt_of_pos ((n + 104729 * k + 17) * 69621) (show (0 : Int) < 2147483647 by decide)
  simp [d__law_drawn, b__law_drawn, mulOk]
  rw [if_pos (by omega)]
  rfl
/-! ### goals -/
def encG (ks : List Int) : List (Key × V) := ks.map fun i => (.inl i, .bl true)
def addG (ks : List Int) (i : Int) : List Int := if i ∈ ks then ks else ks ++ [i]
theorem encG_put (ks : List Int) (i : Int) : putK (encG ks) (.inl i) (.bl true) = encG (addG ks i) := by
  unfold putK addG encG
  have e : ((ks.map fun i => ((.inl i, .bl true) : Key × V)).any fun kv => decide (kv.1 = .inl i)) = decide (i ∈ ks) := by
    rw [List.any_map, Bool.eq_iff_iff]
    simp [Function.comp]
  rw [e]
  by_cases h : i ∈ ks
  · simp only [h, decide_true, if_true, List.map_map]
    apply List.map_congr_left
    intro a _
    by_cases q : a = i <;> simp [q]
  · simp [h]
theorem encG_keys (ks : List Int) : keysI (encG ks) = some ks := by
  induction ks with
  | nil => rfl
  | cons k ks ih => simp only [encG, List.map_cons, keysI] at ih ⊢; rw [ih]; rfl
structure Gok (c : Int) (ks : List Int) : Prop where
  nd : ks.Nodup
  rg : ∀ i ∈ ks, 0 ≤ i ∧ i < c
theorem addG_ok {c : Int} {ks : List Int} {i : Int} (h : Gok c ks) (h1 : 0 ≤ i) (h2 : i < c) : Gok c (addG ks i) := by
  unfold addG
  split
  · exact h
  · rename_i q
    refine ⟨List.nodup_append.mpr ⟨h.nd, by simp, fun a ha b hb e => ?_⟩, fun a ha => ?_⟩
    · simp at hb; subst hb; subst e; exact q ha
    · rcases List.mem_append.mp ha with z | z
      · exact h.rg a z
      · simp at z; subst z; exact ⟨h1, h2⟩
theorem addG_len {ks : List Int} {i : Int} : (addG ks i).length ≤ ks.length + 1 := by
  unfold addG
  split <;> simp
theorem addG_ne {ks : List Int} {i : Int} : addG ks i ≠ [] := by
  unfold addG
  split
  · rename_i h; intro z; rw [z] at h; cases h
  · simp
theorem e_gloop (n c : Int) (hc : 0 < c) : ∀ (l : List D) (ks : List Int) (x : Option D), (∀ d ∈ l, ∃ i : Int, d = .int i) → Gok c ks → ks.length + l.length ≤ 60 →
    ∃ ks' x', dForL (b1 3) l1__law_goals l [some (.int n), some (.int c), some (.dk (encG ks)), x] = .nx [some (.int n), some (.int c), some (.dk (encG ks')), x'] ∧ Gok c ks' ∧ ks'.length ≤ ks.length + l.length ∧ ((l ≠ [] ∨ ks ≠ []) → ks' ≠ [])
  | [], ks, x, _, h, _ => ⟨ks, x, rfl, h, Nat.le_refl _, fun z => z.elim (fun z => absurd rfl z) id⟩
  | d :: l, ks, x, hl, h, hn => by
    obtain ⟨i, rfl⟩ := hl d List.mem_cons_self
    have hb := Int.emod_nonneg (drwI n i) (show c ≠ 0 by omega)
    have hb2 := Int.emod_lt_of_pos (drwI n i) hc
    simp only [List.length_cons] at hn
    have hlen := addG_len (ks := ks) (i := drwI n i % c)
    obtain ⟨ks', x', e, h1, h2, h3⟩ := e_gloop n c hc l (addG ks (drwI n i % c)) (some (.int i)) (fun d hd => hl d (List.mem_cons_of_mem _ hd)) (addG_ok h hb hb2) (by omega)
    refine ⟨ks', x', ?_, h1, by simp only [List.length_cons]; omega, fun _ => h3 (.inr addG_ne)⟩
    rw [fl_cons]
    have hlen2 : (encG ks).length ≤ 100000 := by simp [encG]; omega
    simp [l1__law_goals, dPutK, atK, D.sc, e_drawn, hc, dkey, hlen2, encG_put]
    exact e
theorem e_goals (n c : Int) (hc : 0 < c) : ∃ gs : List Int, d__law_goals [.int n, .int c] = .ok (.tuple (gs.map .int)) ∧ gs.Pairwise (· < ·) ∧ gs ≠ [] ∧ (∀ i ∈ gs, 0 ≤ i ∧ i < c) ∧ gs.length ≤ 60 := by
  have hm := Int.emod_nonneg n (show (3 : Int) ≠ 0 by decide)
  have hm2 := Int.emod_lt_of_pos n (show (0 : Int) < 3 by decide)
  have key : ∀ m : Int, 1 ≤ m → m ≤ 23 → ∃ ks' x', dForL (b1 3) l1__law_goals (rngD 0 m.toNat) [some (.int n), some (.int c), some (.dk []), none] = .nx [some (.int n), some (.int c), some (.dk (encG ks')), x'] ∧ Gok c ks' ∧ ks'.length ≤ 23 ∧ ks' ≠ [] := fun m h1 h2 => by
    obtain ⟨ks', x', e, q1, q2, q3⟩ := e_gloop n c hc (rngD 0 m.toNat) [] none (fun d hd => by obtain ⟨i, _, rfl⟩ := rngD_mem hd; exact ⟨_, rfl⟩) ⟨by simp, by simp⟩ (by simp; omega)
    refine ⟨ks', x', e, q1, by simp at q2; omega, q3 (.inl fun z => ?_)⟩
    have := congrArg List.length z
    simp at this
    omega
  have fin : ∀ ks : List Int, Gok c ks → ks.length ≤ 23 → ks ≠ [] → (sortI ks).Pairwise (· < ·) ∧ sortI ks ≠ [] ∧ (∀ i ∈ sortI ks, 0 ≤ i ∧ i < c) ∧ (sortI ks).length ≤ 60 := fun ks h1 h2 h3 => by
    refine ⟨sortI_lt h1.nd, fun z => h3 ?_, fun i hi => h1.rg i (sortI_mem.mp hi), by rw [sortI_len]; omega⟩
    have := congrArg List.length z
    rw [sortI_len] at this
    exact List.length_eq_zero_iff.mp this
  simp [d__law_goals, b__law_goals, mulOk]
  by_cases h7 : n / 3 % 29 = 7
  · obtain ⟨ks, x', e, q1, q2, q3⟩ := key (1 + n % 3 + 20) (by omega) (by omega)
    obtain ⟨f1, f2, f3, f4⟩ := fin ks q1 q2 q3
    refine ⟨sortI ks, ?_, f1, f2, f3, f4⟩
    have hl : ks.length < 64 := by omega
    simp [h7, e, sortC, encG_keys, hl]
    omega
  · obtain ⟨ks, x', e, q1, q2, q3⟩ := key (1 + n % 3) (by omega) (by omega)
    obtain ⟨f1, f2, f3, f4⟩ := fin ks q1 q2 q3
    refine ⟨sortI ks, ?_, f1, f2, f3, f4⟩
    have hl : ks.length < 64 := by omega
    simp [h7, e, sortC, encG_keys, hl]
    omega
/-! ### places and grounds -/
structure Place where
  o : Int
  m : Int
  g : Int
  gs : List Int
def encP (p : Place) : D := .tuple [.int p.o, .int p.m, .int p.g, .tuple (p.gs.map .int)]
def encGr (ps : List Place) : D := .tuple (ps.map encP)
structure POk (c hi : Int) (p : Place) : Prop where
  o0 : 0 ≤ p.o
  o1 : p.o ≤ 1
  m0 : 0 ≤ p.m
  m1 : p.m ≤ hi
  g0 : -20 ≤ p.g
  g1 : p.g ≤ 20
  up : p.gs.Pairwise (· < ·)
  ne : p.gs ≠ []
  rg : ∀ i ∈ p.gs, 0 ≤ i ∧ i < c
  le : p.gs.length ≤ 60
theorem e_place (n c hi : Int) (hc : 0 < c) (hh : 0 ≤ hi) : ∃ p, d__law_place [.int n, .int c, .int hi] = .ok (encP p) ∧ POk c hi p := by
  obtain ⟨gs, e, h1, h2, h3, h4⟩ := e_goals (drwI n 9) c hc
  have a1 := Int.emod_nonneg n (show (2 : Int) ≠ 0 by decide)
  have a2 := Int.emod_lt_of_pos n (show (0 : Int) < 2 by decide)
  have b1 := Int.emod_nonneg (n / 2) (show hi + 1 ≠ 0 by omega)
  have b2 := Int.emod_lt_of_pos (n / 2) (show (0 : Int) < hi + 1 by omega)
  have c1 : (0 : Int) < hi + 1 := by omega
  by_cases h : n / 234 % 11 = 3
  · refine ⟨⟨n % 2, n / 2 % (hi + 1), n / 26 % 41 - 20, gs⟩, ?_, ⟨a1, by dsimp only; omega, b1, by dsimp only; omega, by dsimp only; omega, by dsimp only; omega, h1, h2, h3, h4⟩⟩
    simp [d__law_place, b__law_place, h, e_drawn, e, encP, c1]
  · refine ⟨⟨n % 2, n / 2 % (hi + 1), n / 26 % 9 - 4, gs⟩, ?_, ⟨a1, by dsimp only; omega, b1, by dsimp only; omega, by dsimp only; omega, by dsimp only; omega, h1, h2, h3, h4⟩⟩
    simp [d__law_place, b__law_place, h, e_drawn, e, encP, c1]
structure GOk (hi : Int) (ps : List Place) : Prop where
  ne : 0 < ps.length
  ok : ∀ p ∈ ps, POk ps.length hi p
theorem e_ground (ns : List Int) (most : Int) (h1 : 1 ≤ most) (h2 : most ≤ 24) : ∃ ps, d__law_ground [.scr ns, .int most] = .ok (encGr ps) ∧ GOk 12 ps ∧ (ps.length : Int) ≤ most := by
  obtain ⟨mn, e0, hm1, hm2⟩ : ∃ mn : Int, (if (if (ns.length : Int) > 4 then (ns.length : Int) else 4) < most then (if (ns.length : Int) > 4 then (ns.length : Int) else 4) else most) = mn ∧ 1 ≤ mn ∧ mn ≤ most := by
    refine ⟨_, rfl, ?_, ?_⟩ <;> split <;> (try split) <;> omega
  have a1 := Int.emod_nonneg (mixI ns 0) (show mn ≠ 0 by omega)
  have a2 := Int.emod_lt_of_pos (mixI ns 0) (show (0 : Int) < mn by omega)
  have hi0 := Int.emod_nonneg (mixI ns 0 / 24) (show (6 : Int) ≠ 0 by decide)
  have hi1 := Int.emod_lt_of_pos (mixI ns 0 / 24) (show (0 : Int) < 6 by decide)
  obtain ⟨hx, eh, hmem⟩ := atI_in [D.int 1, .int 2, .int 3, .int 5, .int 12, .int 12] (mixI ns 0 / 24 % 6) hi0 (by simpa using hi1)
  obtain ⟨hg, rfl, hg0, hg1⟩ : ∃ hg : Int, hx = .int hg ∧ 0 ≤ hg ∧ hg ≤ 12 := by
    simp at hmem
    rcases hmem with h | h | h | h | h <;> exact ⟨_, h, by decide, by decide⟩
  have hmn : (0 : Int) < mn := by omega
  generalize hcnt : 1 + mixI ns 0 % mn = cnt at *
  have hc0 : 0 < cnt := by omega
  obtain ⟨ps, e, hl, hr⟩ := lc_map2 (α := Place) (enc := encP) (R := fun _ p => POk cnt hg p) (b := b1 5) (elt := dUse 3 d__law_place (dCons (dUse 2 d__law_mixed (dCons (dVar 0) (dCons (dOp addD (dC (.int 3)) (dVar 5)) dNil))) (dCons (dVar 3) (dCons (dVar 4) dNil))))
    (ρ := [some (.scr ns), some (.int most), some (.int (mixI ns 0)), some (.int cnt), some (.int hg), none]) (ds := rngD 0 cnt.toNat) fun d hd => by
      obtain ⟨i, _, rfl⟩ := rngD_mem hd
      obtain ⟨p, ep, hp⟩ := e_place (mixI ns (3 + (0 + i))) cnt hg hc0 hg0
      refine ⟨_, p, s_b1, ?_, hp⟩
      simp only [s_use, s_cons, List.set_cons_succ, List.set_cons_zero, varS, var0, s_op, s_c, s_nil, e_add, s_some, Out.ok_bind]
      simp only [List.length_cons, List.length_nil, if_true, e_mixed ns (3 + (0 + i)) (by omega), Out.ok_bind, ep]
  have hlen : (ps.length : Int) = cnt := by rw [hl, rngD_len]; omega
  refine ⟨ps, ?_, ⟨by omega, fun p hp => ?_⟩, by omega⟩
  · simp [d__law_ground, b__law_ground, e_mixed ns 0 (by decide), e0, hmn, hcnt, getD, eh]
    have hb : -100000 ≤ cnt ∧ cnt ≤ 100000 := by omega
    simp [hb, e, encGr]
  · obtain ⟨i, hi, rfl⟩ := List.mem_iff_getElem.mp hp
    have hi2 : i < (rngD 0 cnt.toNat).length := by rw [← hl]; exact hi
    have q := hr i _ _ (List.getElem?_eq_getElem hi2) (List.getElem?_eq_getElem hi)
    rw [hlen]
    exact ⟨q.o0, q.o1, q.m0, Int.le_trans q.m1 hg1, q.g0, q.g1, q.up, q.ne, q.rg, q.le⟩
/-! ### what a ground is -/
theorem e_is_number (d : D) (lo hi : Int) : d_is_number [d, .int lo, .int hi] = .ok (.bool (isNum d lo hi)) := by
  cases d <;> simp [d_is_number, b_is_number, isNum]
  rename_i i
  by_cases h : lo ≤ i <;> simp [h]
/-- rising whole numbers from above a on, below n -/
def rising (n : Int) : Int → List D → Bool
  | _, [] => true
  | a, .int i :: l => decide (a < i) && decide (i < n) && rising n i l
  | _, _ :: _ => false
def someB (d : D) (n : Int) : Bool := match d with
  | .tuple l => rising n (-1) l
  | .ftup l => rising n (-1) l
  | _ => false
theorem e_loop1 (th : D) (n : Int) (l : List D) : ∀ (a : Int) (x : Option D), ((dForL (b1 3) l1_are_some l [some th, some (.int n), some (.int a), x]).seq (dRet (dC (.bool true)))).fin = .ok (.bool (rising n a l)) := by
  induction l with
  | nil => intro a x; simp [rising]
  | cons d l ih =>
    intro a x
    rw [fl_cons]
    generalize dForL (b1 3) l1_are_some l = K at ih ⊢
    cases d <;> simp [l1_are_some, e_is_number, isNum, rising]
    rename_i i
    by_cases h : a < i
    · by_cases h2 : i < n
      · have q1 : ¬ i < a + 1 := by omega
        have q2 : ¬ n - 1 < i := by omega
        simp [h, h2, q1, q2]
        exact ih i _
      · have q : n - 1 < i := by omega
        simp [h, h2, q]
    · have q : i < a + 1 := by omega
      simp [h, q]
theorem e_are_some (d : D) (n : Int) (hd : D.pl d = true) (hk : ∀ l, d ≠ .ktup l) : d_are_some [d, .int n] = .ok (.bool (someB d n)) := by
  cases d <;> simp [d_are_some, b_are_some, someB]
  · rename_i l
    have := e_loop1 (.tuple l) n l (-1) none
    simpa using this
  · exact absurd rfl (hk _)
  · rename_i l
    have := e_loop1 (.ftup l) n l (-1) none
    simpa using this
/-! ### some places -/
def rngI (lo : Int) (n : Nat) : List Int := (List.range n).map fun i => lo + (i : Nat)
theorem rngD_I (lo : Int) (n : Nat) : rngD lo n = (rngI lo n).map .int := by
  unfold rngD rngI
  rw [List.map_map]
  rfl
theorem rngI_mem {lo : Int} {n : Nat} {i : Int} : i ∈ rngI lo n ↔ lo ≤ i ∧ i < lo + n := by
  unfold rngI
  rw [List.mem_map]
  constructor
  · rintro ⟨j, h, rfl⟩
    have := List.mem_range.mp h
    omega
  · rintro ⟨h1, h2⟩
    exact ⟨(i - lo).toNat, List.mem_range.mpr (by omega), by omega⟩
theorem rngI_up (lo : Int) (n : Nat) : (rngI lo n).Pairwise (· < ·) := by
  unfold rngI
  rw [List.pairwise_map]
  exact List.pairwise_lt_range.imp fun h => by omega
theorem rngI_len (lo : Int) (n : Nat) : (rngI lo n).length = n := by simp [rngI]
/-- a comprehension that keeps some ints -/
theorem lc_ints {b : D → List (Option D) → Option (List (Option D))} {tst : List (Option D) → Out Bool} {elt : List (Option D) → Out D} {ρ : List (Option D)} {l : List Int} {p : Int → Bool} (h : ∀ i ∈ l, ∃ ρ1, b (.int i) ρ = some ρ1 ∧ tst ρ1 = .ok (p i) ∧ elt ρ1 = .ok (.int i)) :
    dLcL b tst elt ρ (l.map .int) = .ok ((l.filter p).map .int) := by
  have := lc_gen (b := b) (tst := tst) (elt := elt) (ρ := ρ) (p := fun d => match d with | .int i => p i | _ => false) (F := id) (ds := l.map .int) fun d hd => by
    obtain ⟨i, hi, rfl⟩ := List.mem_map.mp hd
    obtain ⟨ρ1, h1, h2, h3⟩ := h i hi
    exact ⟨ρ1, h1, h2, fun _ => h3⟩
  rw [this, List.map_id, List.filter_map]
  rfl
theorem lc_bools {b : D → List (Option D) → Option (List (Option D))} {elt : List (Option D) → Out D} {ρ : List (Option D)} {l : List Int} {p : Int → Bool} (h : ∀ i ∈ l, ∃ ρ1, b (.int i) ρ = some ρ1 ∧ elt ρ1 = .ok (.bool (p i))) :
    dLcL b dYes elt ρ (l.map .int) = .ok ((l.map p).map .bool) := by
  have := lc_map (b := b) (elt := elt) (ρ := ρ) (F := fun d => match d with | .int i => .bool (p i) | _ => .none) (ds := l.map .int) fun d hd => by
    obtain ⟨i, hi, rfl⟩ := List.mem_map.mp hd
    exact h i hi
  rw [this, List.map_map, List.map_map]
  rfl
def encM : Option Int → D
  | none => .none
  | some i => .int i
theorem get3 (p : Place) : getD (encP p) (.int 3) = some (.tuple (p.gs.map .int)) := rfl
/-! ### places by number, sets of places -/
def noPl : Place := ⟨0, 0, 0, []⟩
def pl (ps : List Place) (v : Int) : Place := (ps[v.toNat]?).getD noPl
theorem pl_at {ps : List Place} {v : Int} (h0 : 0 ≤ v) (h1 : v < ps.length) : ps[v.toNat]? = some (pl ps v) := by
  unfold pl
  have : v.toNat < ps.length := by omega
  rw [List.getElem?_eq_getElem this]
  rfl
theorem pl_mem {ps : List Place} {v : Int} (h0 : 0 ≤ v) (h1 : v < ps.length) : pl ps v ∈ ps := List.mem_of_getElem? (pl_at h0 h1)
theorem atI_pl {ps : List Place} {v : Int} (h0 : 0 ≤ v) (h1 : v < ps.length) : atI ps v = some (pl ps v) := by
  unfold atI ixN
  rw [if_pos h0, if_pos h1]
  exact pl_at h0 h1
theorem get_pl {ps : List Place} {v : Int} (h0 : 0 ≤ v) (h1 : v < ps.length) : getD (encGr ps) (.int v) = some (encP (pl ps v)) := by
  unfold encGr
  rw [get_t, atI_map, atI_pl h0 h1]
  rfl
theorem get0 (p : Place) : getD (encP p) (.int 0) = some (.int p.o) := rfl
theorem get1 (p : Place) : getD (encP p) (.int 1) = some (.int p.m) := rfl
theorem get2 (p : Place) : getD (encP p) (.int 2) = some (.int p.g) := rfl
theorem len_gr (ps : List Place) : lenD [encGr ps] = some (.int ps.length) := by simp [encGr]
theorem any_eqv (i : Int) : ∀ gs : List Int, ((gs.map D.int).any fun y => eqv y (.int i)) = decide (i ∈ gs)
  | [] => by simp
  | g :: gs => by
    simp only [List.map_cons, List.any_cons, any_eqv i gs, List.mem_cons]
    have : eqv (.int g) (.int i) = decide (i = g) := by
      simp [eqv, D.py, PyData.eqv]
      rw [Bool.eq_iff_iff]
      simp
      exact eq_comm
    rw [this]
    by_cases h : i = g <;> simp [h]
theorem plA_ints : ∀ gs : List Int, D.plA (gs.map .int) = true
  | [] => rfl
  | g :: gs => by simp [D.plA, D.pl, plA_ints gs]
theorem in_T (i : Int) (gs : List Int) : inD (.int i) (.tuple (gs.map .int)) = some (decide (i ∈ gs)) := by
  simp [inD, D.pl, plA_ints, dep, D.py, PyData.depth]
  have := any_eqv i gs
  rw [List.any_map] at this
  exact this
theorem in_L (i : Int) (gs : List Int) : inD (.int i) (.list (gs.map .int)) = some (decide (i ∈ gs)) := by
  simp [inD, D.pl, plA_ints, dep, D.py, PyData.depth]
  have := any_eqv i gs
  rw [List.any_map] at this
  exact this
theorem nin_T (i : Int) (gs : List Int) : ninD (.int i) (.tuple (gs.map .int)) = some (!decide (i ∈ gs)) := by simp [ninD, in_T]
theorem nin_L (i : Int) (gs : List Int) : ninD (.int i) (.list (gs.map .int)) = some (!decide (i ∈ gs)) := by simp [ninD, in_L]
/-- goals of v that are in S -/
def within (ps : List Place) (v : Int) (S : List Int) : List Int := (pl ps v).gs.filter fun g => decide (g ∈ S)
theorem e_withinT {ps : List Place} {v : Int} (S : List Int) (h0 : 0 ≤ v) (h1 : v < ps.length) : d_goals_within [encGr ps, .int v, .tuple (S.map .int)] = .ok (.list ((within ps v S).map .int)) := by
  have key : dLcL (b1 3) (dCmp inD (dVar 3) (dVar 2)) (dVar 3) [some (encGr ps), some (.int v), some (.tuple (S.map .int)), none] ((pl ps v).gs.map .int) = .ok ((within ps v S).map .int) :=
    lc_ints fun i hi => ⟨_, s_b1, by simp [in_T], by simp⟩
  simp [d_goals_within, b_goals_within, get_pl h0 h1, get3, key]
/-- rising places of so many -/
def Sub (n : Int) (S : List Int) : Prop := S.Pairwise (· < ·) ∧ ∀ i ∈ S, 0 ≤ i ∧ i < n
theorem rising_sub {n : Int} : ∀ {S : List Int} {a : Int}, S.Pairwise (· < ·) → (∀ i ∈ S, a < i ∧ i < n) → rising n a (S.map .int) = true
  | [], _, _, _ => rfl
  | i :: S, a, h, h2 => by
    have hp := List.pairwise_cons.mp h
    have := h2 i List.mem_cons_self
    simp only [List.map_cons, rising, Bool.and_eq_true, decide_eq_true_eq]
    exact ⟨⟨this.1, this.2⟩, rising_sub hp.2 fun j hj => ⟨hp.1 j hj, (h2 j (List.mem_cons_of_mem _ hj)).2⟩⟩
theorem someB_sub {n : Int} {S : List Int} (h : Sub n S) : someB (.tuple (S.map .int)) n = true :=
  rising_sub h.1 fun i hi => by have := h.2 i hi; omega
theorem Sub.filter {n : Int} {S : List Int} (h : Sub n S) (p : Int → Bool) : Sub n (S.filter p) := ⟨h.1.sublist List.filter_sublist, fun i hi => h.2 i (List.mem_filter.mp hi).1⟩
theorem sub_rng (n : Nat) : Sub n (rngI 0 n) := ⟨rngI_up 0 n, fun i hi => by have := rngI_mem.mp hi; omega⟩
theorem e_are_someT {n : Int} {S : List Int} (h : Sub n S) : d_are_some [.tuple (S.map .int), .int n] = .ok (.bool true) := by
  rw [e_are_some _ _ (by simp only [D.pl]; exact plA_ints S) (fun l e => by cases e), someB_sub h]
def wholeP (ps : List Place) (S : List Int) : Prop := ∀ v ∈ S, within ps v S ≠ []
theorem e_without (A B : List Int) : d_without [.tuple (A.map .int), .tuple (B.map .int)] = .ok (.tuple ((A.filter fun i => !decide (i ∈ B)).map .int)) := by
  have key : dLcL (b1 2) (dCmp ninD (dVar 2) (dVar 1)) (dVar 2) [some (.tuple (A.map .int)), some (.tuple (B.map .int)), none] (A.map .int) = .ok ((A.filter fun i => !decide (i ∈ B)).map .int) :=
    lc_ints fun i hi => ⟨_, s_b1, by simp [nin_T], by simp⟩
  simp [d_without, b_without, key]
theorem e_whole {ps : List Place} {S : List Int} (hS : Sub ps.length S) (hw : wholeP ps S) : d_is_whole_part [encGr ps, .tuple (S.map .int)] = .ok (.bool true) := by
  have key : dLcL (b1 2) dYes (dBv (dCmp gtD (dCall lenD (dCons (dUse 3 d_goals_within (dCons (dVar 0) (dCons (dVar 2) (dCons (dVar 1) dNil)))) dNil)) (dC (.int 0)))) [some (encGr ps), some (.tuple (S.map .int)), none] (S.map .int) = .ok ((S.map fun _ => true).map .bool) :=
    lc_bools (p := fun _ => true) fun i hi => by
      obtain ⟨h0, h1⟩ := hS.2 i hi
      have hp : 0 < (within ps i S).length := List.length_pos_iff.mpr (hw i hi)
      refine ⟨_, s_b1, ?_⟩
      simp [e_withinT S h0 h1, hp]
  simp [d_is_whole_part, b_is_whole_part, key, allC]
theorem e_must {ps : List Place} {S G : List Int} (hS : Sub ps.length S) (hG : Sub ps.length G) (hw : wholeP ps S) (hGS : ∀ g ∈ G, g ∈ S) : d_must_be_parts [encGr ps, .tuple (S.map .int), .tuple (G.map .int)] = .ok .none := by
  have hf : (G.filter fun i => !decide (i ∈ S)) = [] := List.filter_eq_nil_iff.mpr fun a ha => by simp [hGS a ha]
  have h1 := e_without G S
  rw [hf] at h1
  simp at h1
  simp [d_must_be_parts, b_must_be_parts, len_gr, e_are_someT hS, e_are_someT hG, h1, e_whole hS hw]
/-! ### ranks, round by round -/
def encR (n : Nat) (R : Int → Option Int) : List D := (rngI 0 n).map fun v => encM (R v)
theorem encR_len (n : Nat) (R : Int → Option Int) : (encR n R).length = n := by simp [encR, rngI_len]
theorem rngI_get {n i : Nat} (h : i < n) : (rngI 0 n)[i]? = some (i : Int) := by
  simp [rngI, h]
theorem ixN_in {n : Nat} {v : Int} (h0 : 0 ≤ v) (h1 : v < n) : ixN n v = some v.toNat := by
  unfold ixN
  rw [if_pos h0, if_pos h1]
theorem encR_at {n : Nat} {R : Int → Option Int} {v : Int} (h0 : 0 ≤ v) (h1 : v < n) : atI (encR n R) v = some (encM (R v)) := by
  unfold atI
  rw [encR_len, ixN_in h0 h1]
  show (encR n R)[v.toNat]? = _
  unfold encR
  rw [List.getElem?_map, rngI_get (by omega)]
  show some (encM (R ((v.toNat : Nat) : Int))) = _
  rw [Int.toNat_of_nonneg h0]
theorem encR_set {n : Nat} {R : Int → Option Int} {v : Int} {r : Option Int} (h0 : 0 ≤ v) (h1 : v < n) : (encR n R).set v.toNat (encM r) = encR n (fun u => if u = v then r else R u) := by
  apply List.ext_getElem?
  intro i
  rw [List.getElem?_set]
  by_cases hi : i < n
  · have e1 : (encR n R)[i]? = some (encM (R i)) := by unfold encR; rw [List.getElem?_map, rngI_get hi]; rfl
    have e2 : (encR n fun u => if u = v then r else R u)[i]? = some (encM (if (i : Int) = v then r else R i)) := by unfold encR; rw [List.getElem?_map, rngI_get hi]; rfl
    rw [e1, e2, encR_len]
    by_cases hv : v.toNat = i
    · have hv' : (i : Int) = v := by omega
      rw [if_pos hv, if_pos (by omega), if_pos hv']
    · have hv' : ¬ (i : Int) = v := by omega
      rw [if_neg hv, if_neg hv']
  · have e1 : (encR n R)[i]? = none := List.getElem?_eq_none (by rw [encR_len]; omega)
    have e2 : (encR n fun u => if u = v then r else R u)[i]? = none := List.getElem?_eq_none (by rw [encR_len]; omega)
    rw [e1, e2, encR_len]
    split <;> (try split) <;> first | rfl | omega
theorem encR_congr {n : Nat} {R R' : Int → Option Int} (h : ∀ v : Int, 0 ≤ v → v < n → R v = R' v) : encR n R = encR n R' := by
  unfold encR
  apply List.map_congr_left
  intro v hv
  have := rngI_mem.mp hv
  rw [h v (by omega) (by omega)]
theorem not_none (o : Option Int) : notND (encM o) .none = some o.isSome := by cases o <;> rfl
theorem is_none (o : Option Int) : isND (encM o) .none = some o.isNone := by cases o <;> rfl
/-! ### enumerate, zip by numbers -/
theorem pl_get {ps : List Place} {i : Nat} (h : i < ps.length) : ps[i]? = some (pl ps (i : Int)) := by
  have := pl_at (ps := ps) (v := (i : Int)) (by omega) (by omega)
  simpa using this
theorem gr_rng (ps : List Place) : ps.map encP = (rngI 0 ps.length).map fun v => encP (pl ps v) := by
  apply List.ext_getElem?
  intro i
  rw [List.getElem?_map, List.getElem?_map]
  by_cases h : i < ps.length
  · rw [pl_get h, rngI_get h]; rfl
  · rw [List.getElem?_eq_none (by omega), List.getElem?_eq_none (by rw [rngI_len]; omega)]; rfl
theorem enum_rng (n : Nat) (f : Int → D) : enumD 0 ((rngI 0 n).map f) = (rngI 0 n).map fun v => .tuple [.int v, f v] := by
  rw [enumD_map]
  apply List.ext_getElem?
  intro i
  rw [List.getElem?_map, List.getElem?_map, List.getElem?_zipIdx]
  by_cases h : i < n
  · rw [rngI_get h]; simp
  · rw [List.getElem?_eq_none (by rw [rngI_len]; omega)]; rfl
theorem zip_self {α β : Type} (f g : α → β) (l : List α) (enc : β × β → D) : ((l.map f).zip (l.map g)).map enc = l.map fun v => enc (f v, g v) := by
  induction l with
  | nil => rfl
  | cons a l ih => simp [ih]
theorem zip2_rng (f g : Int → D) : ∀ l : List Int, zipD2 (l.map f) (l.map g) = l.map fun v => .tuple [f v, g v]
  | [] => rfl
  | a :: l => by simp [zipD2, zip2_rng f g l]
theorem zip3_rng (f g h : Int → D) : ∀ l : List Int, zipD3 (l.map f) (l.map g) (l.map h) = l.map fun v => .tuple [f v, g v, h v]
  | [] => rfl
  | a :: l => by simp [zipD3, zip3_rng f g h l]
theorem rng_cons {n : Nat} {done rest : List Int} {v : Int} (h : rngI 0 n = done ++ v :: rest) : 0 ≤ v ∧ v < n := by
  have : v ∈ rngI 0 n := by rw [h]; simp
  have := rngI_mem.mp this
  omega
/-! ### whole numbers by places -/
def encI (n : Nat) (T : Int → Int) : List D := (rngI 0 n).map fun v => .int (T v)
theorem encI_len (n : Nat) (T : Int → Int) : (encI n T).length = n := by simp [encI, rngI_len]
theorem encI_map (n : Nat) (T : Int → Int) : encI n T = ((rngI 0 n).map T).map .int := by simp [encI, Function.comp_def]
theorem encI_at {n : Nat} {T : Int → Int} {v : Int} (h0 : 0 ≤ v) (h1 : v < n) : atI (encI n T) v = some (.int (T v)) := by
  unfold atI
  rw [encI_len, ixN_in h0 h1]
  show (encI n T)[v.toNat]? = _
  unfold encI
  rw [List.getElem?_map, rngI_get (by omega)]
  show some (D.int (T ((v.toNat : Nat) : Int))) = _
  rw [Int.toNat_of_nonneg h0]
theorem encI_set {n : Nat} {T : Int → Int} {v r : Int} (h0 : 0 ≤ v) (h1 : v < n) : (encI n T).set v.toNat (.int r) = encI n (fun u => if u = v then r else T u) := by
  apply List.ext_getElem?
  intro i
  rw [List.getElem?_set]
  by_cases hi : i < n
  · have e1 : (encI n T)[i]? = some (.int (T i)) := by unfold encI; rw [List.getElem?_map, rngI_get hi]; rfl
    have e2 : (encI n fun u => if u = v then r else T u)[i]? = some (.int (if (i : Int) = v then r else T i)) := by unfold encI; rw [List.getElem?_map, rngI_get hi]; rfl
    rw [e1, e2, encI_len]
    by_cases hv : v.toNat = i
    · rw [if_pos hv, if_pos (by omega), if_pos (by omega)]
    · rw [if_neg hv, if_neg (by omega)]
  · have e1 : (encI n T)[i]? = none := List.getElem?_eq_none (by rw [encI_len]; omega)
    have e2 : (encI n fun u => if u = v then r else T u)[i]? = none := List.getElem?_eq_none (by rw [encI_len]; omega)
    rw [e1, e2, encI_len]
    split <;> (try split) <;> first | rfl | omega
theorem encI_congr {n : Nat} {T T' : Int → Int} (h : ∀ v : Int, 0 ≤ v → v < n → T v = T' v) : encI n T = encI n T' := by
  unfold encI
  apply List.map_congr_left
  intro v hv
  have := rngI_mem.mp hv
  rw [h v (by omega) (by omega)]
theorem rng_inj {n : Nat} {T T' : Int → Int} (h : (rngI 0 n).map T = (rngI 0 n).map T') {v : Int} (h0 : 0 ≤ v) (h1 : v < n) : T v = T' v := by
  have e := congrArg (fun l => l[v.toNat]?) h
  simp only [List.getElem?_map] at e
  rw [rngI_get (show v.toNat < n by omega)] at e
  have : ((v.toNat : Nat) : Int) = v := by omega
  simpa [this] using e
def updL (R : Int → Option Int) (vs : List Int) (r : Int) : Int → Option Int := fun u => if u ∈ vs then some r else R u
def pulB (ps : List Place) (S : List Int) (who : Int) (R : Int → Option Int) (v : Int) : Bool :=
  if (pl ps v).o = who then (within ps v S).any fun g => (R g).isSome else (within ps v S).all fun g => (R g).isSome
theorem e_is_pulled {ps : List Place} {S : List Int} {who v : Int} {R : Int → Option Int} (hS : Sub ps.length S) (h0 : 0 ≤ v) (h1 : v < ps.length) :
    d_is_pulled [encGr ps, .tuple (S.map .int), .int who, .int v, .list (encR ps.length R)] = .ok (.bool (pulB ps S who R v)) := by
  have key : dLcL (b1 6) dYes (dBv (dCmp notND (dOp getD (dVar 4) (dVar 6)) (dC .none))) [some (encGr ps), some (.tuple (S.map .int)), some (.int who), some (.int v), some (.list (encR ps.length R)), none, none] ((within ps v S).map .int) = .ok (((within ps v S).map fun g => (R g).isSome).map .bool) :=
    lc_bools fun g hg => by
      have hgS : g ∈ S := by simpa using (List.mem_filter.mp hg).2
      obtain ⟨g0, g1⟩ := hS.2 g hgS
      exact ⟨_, s_b1, by simp [get_l, encR_at g0 g1, not_none, -e_notN]⟩
  by_cases ho : (pl ps v).o = who
  · simp [d_is_pulled, b_is_pulled, e_withinT S h0 h1, key, get_pl h0 h1, get0, ho, pulB, anyC]
  · simp [d_is_pulled, b_is_pulled, e_withinT S h0 h1, key, get_pl h0 h1, get0, ho, pulB, allC]
def nextS (ps : List Place) (S : List Int) (who : Int) (R : Int → Option Int) : List Int := S.filter fun v => (R v).isNone && pulB ps S who R v
def cntN (S : List Int) (R : Int → Option Int) : Nat := (S.filter fun v => (R v).isNone).length
def fixR (ps : List Place) (S : List Int) (who : Int) : Nat → Int → (Int → Option Int) → Int → Option Int
  | 0, _, R => R
  | m + 1, k, R => if nextS ps S who R = [] then R else fixR ps S who m (k + 1) (updL R (nextS ps S who R) (k + 1))
theorem updL_nil (R : Int → Option Int) (r : Int) : updL R [] r = R := by
  funext u
  simp [updL]
theorem cnt_lt {ps : List Place} {S : List Int} {who : Int} {R : Int → Option Int} {r : Int} (h : nextS ps S who R ≠ []) : cntN S (updL R (nextS ps S who R) r) < cntN S R := by
  unfold cntN
  obtain ⟨v, hv⟩ := List.exists_mem_of_ne_nil _ h
  have hv2 := List.mem_filter.mp hv
  simp only [Bool.and_eq_true] at hv2
  have e : (S.filter fun v => (updL R (nextS ps S who R) r v).isNone) = (S.filter fun v => (R v).isNone).filter fun v => !decide (v ∈ nextS ps S who R) := by
    rw [List.filter_filter]
    apply List.filter_congr
    intro u _
    unfold updL
    by_cases q : u ∈ nextS ps S who R <;> simp [q]
  rw [e]
  refine List.length_filter_lt_length_iff_exists.mpr ⟨v, List.mem_filter.mpr ⟨hv2.1, hv2.2.1⟩, by simp [hv]⟩
theorem e_set1 {n : Nat} (x0 x1 x2 x3 x6 x7 x8 : Option D) : ∀ (vs : List Int) (R : Int → Option Int) (x5 : Option D), (∀ v ∈ vs, 0 ≤ v ∧ v < n) →
    ∃ y5, dForL (b1 5) l1_ranks_of (vs.map .int) [x0, x1, x2, x3, some (.list (encR n R)), x5, x6, x7, x8] = .nx [x0, x1, x2, x3, some (.list (encR n (updL R vs 0))), y5, x6, x7, x8]
  | [], R, x5, _ => ⟨x5, by rw [updL_nil]; rfl⟩
  | v :: vs, R, x5, h => by
    obtain ⟨h0, h1⟩ := h v List.mem_cons_self
    obtain ⟨y5, e⟩ := e_set1 x0 x1 x2 x3 x6 x7 x8 vs (fun u => if u = v then some 0 else R u) (some (.int v)) fun w hw => h w (List.mem_cons_of_mem _ hw)
    refine ⟨y5, ?_⟩
    have e2 := encR_set (R := R) (r := some 0) h0 h1
    rw [List.map_cons, fl_cons]
    generalize dForL (b1 5) l1_ranks_of (vs.map .int) = Kt at e ⊢
    have e3 : updL (fun u => if u = v then some 0 else R u) vs 0 = updL R (v :: vs) 0 := by
      funext u
      unfold updL
      by_cases q : u ∈ vs <;> by_cases q2 : u = v <;> simp [q, q2]
    rw [e3] at e
    simp [l1_ranks_of, encR_len, ixN_in h0 h1]
    rw [show (D.int 0) = encM (some 0) from rfl, e2]
    exact e
theorem e_set2 {n : Nat} (r : Int) (x0 x1 x2 x3 x5 x7 : Option D) : ∀ (vs : List Int) (R : Int → Option Int) (x8 : Option D), (∀ v ∈ vs, 0 ≤ v ∧ v < n) →
    ∃ y8, dForL (b1 8) l2_ranks_of (vs.map .int) [x0, x1, x2, x3, some (.list (encR n R)), x5, some (.int r), x7, x8] = .nx [x0, x1, x2, x3, some (.list (encR n (updL R vs r))), x5, some (.int r), x7, y8]
  | [], R, x8, _ => ⟨x8, by rw [updL_nil]; rfl⟩
  | v :: vs, R, x8, h => by
    obtain ⟨h0, h1⟩ := h v List.mem_cons_self
    obtain ⟨y8, e⟩ := e_set2 r x0 x1 x2 x3 x5 x7 vs (fun u => if u = v then some r else R u) (some (.int v)) fun w hw => h w (List.mem_cons_of_mem _ hw)
    refine ⟨y8, ?_⟩
    have e2 := encR_set (R := R) (r := some r) h0 h1
    rw [List.map_cons, fl_cons]
    generalize dForL (b1 8) l2_ranks_of (vs.map .int) = Kt at e ⊢
    have e3 : updL (fun u => if u = v then some r else R u) vs r = updL R (v :: vs) r := by
      funext u
      unfold updL
      by_cases q : u ∈ vs <;> by_cases q2 : u = v <;> simp [q, q2]
    rw [e3] at e
    simp [l2_ranks_of, encR_len, ixN_in h0 h1]
    rw [show (D.int r) = encM (some r) from rfl, e2]
    exact e
theorem e_rbody {ps : List Place} {S : List Int} {who : Int} (hS : Sub ps.length S) (x3 x5 x7 x8 : Option D) (k : Int) (R : Int → Option Int) :
    ∃ y8, l3_ranks_of [some (encGr ps), some (.tuple (S.map .int)), some (.int who), x3, some (.list (encR ps.length R)), x5, some (.int k), x7, x8] =
      .nx [some (encGr ps), some (.tuple (S.map .int)), some (.int who), x3, some (.list (encR ps.length (updL R (nextS ps S who R) (k + 1)))), x5, some (.int (k + 1)), some (.list ((nextS ps S who R).map .int)), y8] := by
  have key : dLcL (b1 8) (dAnd (dCmp isND (dOp getD (dVar 4) (dVar 8)) (dC .none)) (dTv (dUse 5 d_is_pulled (dCons (dVar 0) (dCons (dVar 1) (dCons (dVar 2) (dCons (dVar 8) (dCons (dVar 4) dNil)))))))) (dVar 8)
      [some (encGr ps), some (.tuple (S.map .int)), some (.int who), x3, some (.list (encR ps.length R)), x5, some (.int (k + 1)), x7, none] (S.map .int) = .ok ((nextS ps S who R).map .int) :=
    lc_ints fun v hv => by
      obtain ⟨h0, h1⟩ := hS.2 v hv
      refine ⟨_, s_b1, ?_, by simp⟩
      cases hR : R v <;> simp [get_l, encR_at h0 h1, hR, encM, e_is_pulled hS h0 h1]
  obtain ⟨y8, e⟩ := e_set2 (n := ps.length) (k + 1) (some (encGr ps)) (some (.tuple (S.map .int))) (some (.int who)) x3 x5 (some (.list ((nextS ps S who R).map .int))) (nextS ps S who R) R x8 fun v hv => hS.2 v (List.mem_filter.mp hv).1
  exact ⟨y8, by simp [l3_ranks_of, key, e]⟩
theorem e_rloop {ps : List Place} {S : List Int} {who : Int} (hS : Sub ps.length S) (x3 x5 : Option D) : ∀ (m fuel : Nat) (k : Int) (R : Int → Option Int) (M : List Int) (x8 : Option D), M ≠ [] → cntN S R ≤ m → m + 2 ≤ fuel →
    ∃ k' M' y8, dWh l4_ranks_of l3_ranks_of fuel [some (encGr ps), some (.tuple (S.map .int)), some (.int who), x3, some (.list (encR ps.length R)), x5, some (.int k), some (.list (M.map .int)), x8] =
      .nx [some (encGr ps), some (.tuple (S.map .int)), some (.int who), x3, some (.list (encR ps.length (fixR ps S who (m + 1) k R))), x5, k', M', y8] := fun m => by
  induction m with
  | zero =>
    intro fuel k R M x8 hM hc hf
    obtain ⟨fuel, rfl⟩ : ∃ f, fuel = f + 2 := ⟨fuel - 2, by omega⟩
    have hn : nextS ps S who R = [] := by
      refine Classical.byContradiction fun z => ?_
      have := cnt_lt (r := k + 1) z
      omega
    obtain ⟨y8, e⟩ := e_rbody hS x3 x5 (some (.list (M.map .int))) x8 k R (who := who)
    have hM' : 0 < M.length := List.length_pos_iff.mpr hM
    refine ⟨some (.int (k + 1)), some (.list []), y8, ?_⟩
    rw [wh_succ]
    rw [hn, updL_nil] at e
    simp [l4_ranks_of, hM', e, wh_succ, fixR, hn]
  | succ m ih =>
    intro fuel k R M x8 hM hc hf
    obtain ⟨fuel, rfl⟩ : ∃ f, fuel = f + 2 := ⟨fuel - 2, by omega⟩
    obtain ⟨y8, e⟩ := e_rbody hS x3 x5 (some (.list (M.map .int))) x8 k R (who := who)
    have hM' : 0 < M.length := List.length_pos_iff.mpr hM
    by_cases hn : nextS ps S who R = []
    · refine ⟨some (.int (k + 1)), some (.list []), y8, ?_⟩
      rw [wh_succ]
      rw [hn, updL_nil] at e
      simp [l4_ranks_of, hM', e, wh_succ, fixR, hn]
    · obtain ⟨k', M', z8, e'⟩ := ih (fuel + 1) (k + 1) (updL R (nextS ps S who R) (k + 1)) (nextS ps S who R) y8 hn (by have := cnt_lt (r := k + 1) hn; omega) (by omega)
      refine ⟨k', M', z8, ?_⟩
      rw [wh_succ]
      have ef : fixR ps S who (m + 1 + 1) k R = fixR ps S who (m + 1) (k + 1) (updL R (nextS ps S who R) (k + 1)) := by
        rw [fixR, if_neg hn]
      rw [ef]
      simp [l4_ranks_of, hM', e]
      exact e'
def R0 (G : List Int) : Int → Option Int := updL (fun _ => none) G 0
def ranks (ps : List Place) (S : List Int) (who : Int) (G : List Int) : Int → Option Int := fixR ps S who (ps.length + 1) 0 (R0 G)
theorem next_none {ps : List Place} {S : List Int} {who : Int} (hw : wholeP ps S) : nextS ps S who (fun _ => none) = [] := List.filter_eq_nil_iff.mpr fun v hv => by
  have := hw v hv
  unfold pulB
  split
  · simp
  · cases e : within ps v S with
    | nil => exact absurd e this
    | cons g l => simp
theorem inc_len {b : Int} : ∀ {S : List Int} {a : Int}, S.Pairwise (· < ·) → (∀ i ∈ S, a ≤ i ∧ i < b) → S.length ≤ (b - a).toNat
  | [], _, _, _ => Nat.zero_le _
  | i :: S, a, h, h2 => by
    have hp := List.pairwise_cons.mp h
    have h3 := h2 i List.mem_cons_self
    have := inc_len (a := i + 1) hp.2 fun j hj => ⟨by have := hp.1 j hj; omega, (h2 j (List.mem_cons_of_mem _ hj)).2⟩
    simp only [List.length_cons]
    omega
theorem Sub.len {n : Nat} {S : List Int} (h : Sub n S) : S.length ≤ n := by
  have := inc_len (a := 0) h.1 h.2
  omega
theorem rep_none (n : Nat) : (List.replicate n [D.none]).flatten = encR n fun _ => none := by
  rw [List.flatten_replicate_singleton]
  symm
  unfold encR
  rw [List.eq_replicate_iff]
  refine ⟨by simp [rngI_len], fun b hb => ?_⟩
  obtain ⟨_, _, rfl⟩ := List.mem_map.mp hb
  rfl
theorem e_ranks {ps : List Place} {S G : List Int} {who : Int} (hS : Sub ps.length S) (hG : Sub ps.length G) (hw : wholeP ps S) (hn : ps.length ≤ 1000) (hp : 0 < ps.length) :
    d_ranks_of [encGr ps, .tuple (S.map .int), .int who, .tuple (G.map .int)] = .ok (.tuple (encR ps.length (ranks ps S who G))) := by
  have hrep : mulD (.list [.none]) (.int ps.length) = some (.list (encR ps.length fun _ => none)) := by
    show (if _ then _ else _) = _
    rw [if_pos ⟨by omega, by omega, by simp⟩]
    rw [show ((ps.length : Nat) : Int).toNat = ps.length by omega, rep_none]
  obtain ⟨y5, e1⟩ := e_set1 (n := ps.length) (some (encGr ps)) (some (.tuple (S.map .int))) (some (.int who)) (some (.tuple (G.map .int))) none none none G (fun _ => none) none hG.2
  by_cases hG0 : G = []
  · subst hG0
    have er : ranks ps S who [] = fun _ => none := by
      unfold ranks R0
      rw [updL_nil, fixR, if_pos (next_none hw)]
    simp [d_ranks_of, b_ranks_of, len_gr, dMulF, hrep, wh_succ, l4_ranks_of, er]
  · have hc : cntN S (R0 G) ≤ ps.length := Nat.le_trans (List.length_filter_le _ _) hS.len
    obtain ⟨k', M', y8, e2⟩ := e_rloop hS (some (.tuple (G.map .int))) y5 ps.length 100000 0 (R0 G) G none (who := who) hG0 hc (by omega)
    simp [d_ranks_of, b_ranks_of, len_gr, dMulF, hrep, e1]
    unfold R0 at e2
    rw [e2]
    simp [ranks, R0]
/-! ### the least goal, pulled -/
def lgS (R : Int → Option Int) (acc : Option Int) (g : Int) : Option Int :=
  match R g with
  | none => acc
  | some r => match acc with
    | none => some g
    | some a => match R a with
      | none => acc
      | some q => if r < q then some g else acc
def lgL (R : Int → Option Int) : Option Int → List Int → Option Int
  | acc, [] => acc
  | acc, g :: l => lgL R (lgS R acc g) l
theorem e_lgloop {n : Nat} {R : Int → Option Int} (x0 : Option D) : ∀ (l : List Int) (acc : Option Int) (x3 : Option D), (∀ g ∈ l, 0 ≤ g ∧ g < n) → (∀ a, acc = some a → 0 ≤ a ∧ a < n ∧ (R a).isSome = true) →
    ∃ y3, dForL (b1 3) l1_least_goal (l.map .int) [x0, some (.tuple (encR n R)), some (encM acc), x3] = .nx [x0, some (.tuple (encR n R)), some (encM (lgL R acc l)), y3]
  | [], acc, x3, _, _ => ⟨x3, rfl⟩
  | g :: l, acc, x3, h, ha => by
    obtain ⟨g0, g1⟩ := h g List.mem_cons_self
    have ha' : ∀ a, lgS R acc g = some a → 0 ≤ a ∧ a < n ∧ (R a).isSome = true := fun a e => by
      unfold lgS at e
      cases hg : R g with
      | none => rw [hg] at e; exact ha a e
      | some r =>
        rw [hg] at e
        cases acc with
        | none => cases e; exact ⟨g0, g1, by rw [hg]; rfl⟩
        | some b =>
          cases hb : R b with
          | none => simp only [hb] at e; exact ha a e
          | some q =>
            simp only [hb] at e
            split at e
            · cases e; exact ⟨g0, g1, by rw [hg]; rfl⟩
            · exact ha a e
    obtain ⟨y3, e⟩ := e_lgloop x0 l (lgS R acc g) (some (.int g)) (fun w hw => h w (List.mem_cons_of_mem _ hw)) ha'
    refine ⟨y3, ?_⟩
    rw [List.map_cons, fl_cons]
    show _ = SO.nx [x0, _, some (encM (lgL R (lgS R acc g) l)), y3]
    generalize dForL (b1 3) l1_least_goal (l.map .int) = Kt at e ⊢
    cases hg : R g with
    | none =>
      have el : lgS R acc g = acc := by unfold lgS; rw [hg]
      rw [el] at e ⊢
      simp [l1_least_goal, get_t, encR_at g0 g1, hg, encM]
      exact e
    | some r =>
      cases acc with
      | none =>
        have el : lgS R none g = some g := by unfold lgS; rw [hg]
        rw [el] at e ⊢
        simp [l1_least_goal, get_t, encR_at g0 g1, hg, encM]
        exact e
      | some b =>
        obtain ⟨b0, b1, b2⟩ := ha b rfl
        obtain ⟨q, hb⟩ := Option.isSome_iff_exists.mp b2
        have el : lgS R (some b) g = if r < q then some g else some b := by unfold lgS; simp only [hg, hb]
        rw [el] at e ⊢
        by_cases hr : r < q
        · rw [if_pos hr] at e ⊢
          simp [l1_least_goal, get_t, encR_at g0 g1, encR_at b0 b1, hg, hb, hr, encM]
          exact e
        · rw [if_neg hr] at e ⊢
          simp [l1_least_goal, get_t, encR_at g0 g1, encR_at b0 b1, hg, hb, hr, encM]
          exact e
theorem e_least {n : Nat} {R : Int → Option Int} {l : List Int} (h : ∀ g ∈ l, 0 ≤ g ∧ g < n) : d_least_goal [.list (l.map .int), .tuple (encR n R)] = .ok (encM (lgL R none l)) := by
  obtain ⟨y3, e⟩ := e_lgloop (n := n) (R := R) (some (.list (l.map .int))) l none none h (fun a e => by cases e)
  have e' : dForL (b1 3) l1_least_goal (l.map .int) [some (.list (l.map .int)), some (.tuple (encR n R)), some D.none, none] = .nx [some (.list (l.map .int)), some (.tuple (encR n R)), some (encM (lgL R none l)), y3] := e
  simp [d_least_goal, b_least_goal, e']
def mvP (ps : List Place) (S : List Int) (who : Int) (R : Int → Option Int) (v : Int) : Option Int :=
  match R v with
  | none => none
  | some r => if 0 < r ∧ (pl ps v).o = who then lgL R none (within ps v S) else none
theorem e_ploop {ps : List Place} {S : List Int} {who : Int} {R : Int → Option Int} (hS : Sub ps.length S) (x3 : Option D) : ∀ (l : List Int) (acc : List D) (x6 x7 : Option D), (∀ v ∈ l, 0 ≤ v ∧ v < ps.length) → acc.length + l.length ≤ 100000 →
    ∃ y6 y7, dForL (b1 6) l1_pulled (l.map .int) [some (encGr ps), some (.tuple (S.map .int)), some (.int who), x3, some (.tuple (encR ps.length R)), some (.list acc), x6, x7] =
      .nx [some (encGr ps), some (.tuple (S.map .int)), some (.int who), x3, some (.tuple (encR ps.length R)), some (.list (acc ++ l.map fun v => encM (mvP ps S who R v))), y6, y7]
  | [], acc, x6, x7, _, _ => ⟨x6, x7, by simp⟩
  | v :: l, acc, x6, x7, h, hl => by
    obtain ⟨v0, v1⟩ := h v List.mem_cons_self
    simp only [List.length_cons] at hl
    obtain ⟨y6, y7, e⟩ := e_ploop hS x3 l (acc ++ [encM (mvP ps S who R v)]) (some (.int v)) (some (encM (mvP ps S who R v))) (fun w hw => h w (List.mem_cons_of_mem _ hw)) (by simp; omega) (who := who) (R := R)
    refine ⟨y6, y7, ?_⟩
    have ha : acc.length ≤ 100000 := by omega
    have hwi : ∀ g ∈ within ps v S, 0 ≤ g ∧ g < ps.length := fun g hg => hS.2 g (by simpa using (List.mem_filter.mp hg).2)
    rw [List.map_cons, fl_cons]
    generalize dForL (b1 6) l1_pulled (l.map .int) = Kt at e ⊢
    rw [List.append_assoc] at e
    cases hR : R v with
    | none =>
      have em : mvP ps S who R v = none := by unfold mvP; rw [hR]
      rw [em] at e
      simp [l1_pulled, get_t, encR_at v0 v1, hR, encM, ha]
      simp [em]
      exact e
    | some r =>
      by_cases hr : 0 < r
      · by_cases ho : (pl ps v).o = who
        · have em : mvP ps S who R v = lgL R none (within ps v S) := by unfold mvP; rw [hR]; exact if_pos ⟨hr, ho⟩
          rw [em] at e
          simp [l1_pulled, get_t, encR_at v0 v1, hR, encM, ha, hr, get_pl v0 v1, get0, ho, e_withinT S v0 v1, e_least hwi]
          simp [em]
          exact e
        · have em : mvP ps S who R v = none := by unfold mvP; rw [hR]; exact if_neg fun z => ho z.2
          rw [em] at e
          simp [l1_pulled, get_t, encR_at v0 v1, hR, encM, ha, hr, get_pl v0 v1, get0, ho]
          simp [em]
          exact e
      · have em : mvP ps S who R v = none := by unfold mvP; rw [hR]; exact if_neg fun z => hr z.1
        rw [em] at e
        simp [l1_pulled, get_t, encR_at v0 v1, hR, encM, ha, hr]
        simp [em]
        exact e
def dom (S : List Int) (R : Int → Option Int) : List Int := S.filter fun v => (R v).isSome
def encPul (ps : List Place) (S : List Int) (who : Int) (R : Int → Option Int) : D :=
  .tuple [.tuple ((dom S R).map .int), .tuple (encR ps.length R), .tuple (encR ps.length (mvP ps S who R))]
theorem e_pulled {ps : List Place} {S G : List Int} {who : Int} (hS : Sub ps.length S) (hG : Sub ps.length G) (hw : wholeP ps S) (hGS : ∀ g ∈ G, g ∈ S) (hn : ps.length ≤ 1000) (hp : 0 < ps.length) :
    d_pulled [encGr ps, .tuple (S.map .int), .int who, .tuple (G.map .int)] = .ok (encPul ps S who (ranks ps S who G)) := by
  obtain ⟨y6, y7, e⟩ := e_ploop hS (some (.tuple (G.map .int))) (rngI 0 ps.length) [] none none (fun v hv => by have := rngI_mem.mp hv; omega) (by simp [rngI_len]; omega) (who := who) (R := ranks ps S who G)
  have key : ∀ x5 x7 : Option D, dLcL (b1 6) (dCmp notND (dOp getD (dVar 4) (dVar 6)) (dC .none)) (dVar 6) [some (encGr ps), some (.tuple (S.map .int)), some (.int who), some (.tuple (G.map .int)), some (.tuple (encR ps.length (ranks ps S who G))), x5, none, x7] (S.map .int) = .ok ((dom S (ranks ps S who G)).map .int) := fun x5 x7 =>
    lc_ints fun v hv => by
      obtain ⟨h0, h1⟩ := hS.2 v hv
      exact ⟨_, s_b1, by simp [get_t, encR_at h0 h1, not_none, -e_notN], by simp⟩
  have hb : -100000 ≤ (ps.length : Int) ∧ (ps.length : Int) ≤ 100000 := by omega
  have e2 : rngD 0 ps.length = (rngI 0 ps.length).map .int := rngD_I _ _
  rw [List.nil_append] at e
  simp [d_pulled, b_pulled, e_must hS hG hw hGS, e_ranks hS hG hw hn hp, len_gr, hb, e2, e, key]
  rfl
theorem fixR_z {ps : List Place} {S : List Int} {who : Int} {R : Int → Option Int} (h : nextS ps S who R = []) : ∀ (m : Nat) (k : Int), fixR ps S who m k R = R
  | 0, _ => rfl
  | m + 1, k => show (if _ then _ else _) = _ from if_pos h
theorem fixR_s {ps : List Place} {S : List Int} {who : Int} {R : Int → Option Int} (h : nextS ps S who R ≠ []) (m : Nat) (k : Int) : fixR ps S who (m + 1) k R = fixR ps S who m (k + 1) (updL R (nextS ps S who R) (k + 1)) :=
  show (if _ then _ else _) = _ from if_neg h
theorem fix_stable {ps : List Place} {S : List Int} {who : Int} : ∀ (m : Nat) (k : Int) (R : Int → Option Int), cntN S R ≤ m → fixR ps S who (m + 1) k R = fixR ps S who m k R
  | 0, k, R, h => by
    have hn : nextS ps S who R = [] := by
      refine Classical.byContradiction fun z => ?_
      have := cnt_lt (r := k + 1) z
      omega
    rw [fixR_z hn, fixR_z hn]
  | m + 1, k, R, h => by
    by_cases hn : nextS ps S who R = []
    · rw [fixR_z hn, fixR_z hn]
    · rw [fixR_s hn, fixR_s hn]
      exact fix_stable m _ _ (by have := cnt_lt (r := k + 1) hn; omega)
theorem upd_in {R : Int → Option Int} {N : List Int} {r u : Int} (h : u ∈ N) : updL R N r u = some r := if_pos h
theorem upd_out {R : Int → Option Int} {N : List Int} {r u : Int} (h : u ∉ N) : updL R N r u = R u := if_neg h
/-! ### what ranks are -/
structure RkI (ps : List Place) (S : List Int) (who : Int) (k : Int) (R : Int → Option Int) : Prop where
  a : ∀ u r, R u = some r → 0 ≤ r ∧ r ≤ k
  b : ∀ v ∈ S, (pl ps v).o = who → ∀ r, R v = some r → 0 < r → (∃ g ∈ within ps v S, R g = some (r - 1)) ∧ ∀ g ∈ within ps v S, ∀ q, R g = some q → r - 1 ≤ q
  c : ∀ v ∈ S, (pl ps v).o = who → R v = none → ∀ g ∈ within ps v S, ∀ q, R g = some q → q = k
  d : ∀ u, R u ≠ none → u ∈ S
theorem rki_step {ps : List Place} {S : List Int} {who k : Int} {R : Int → Option Int} (h : RkI ps S who k R) (hk : 0 ≤ k) : RkI ps S who (k + 1) (updL R (nextS ps S who R) (k + 1)) := by
  have nx : ∀ u, u ∈ nextS ps S who R → u ∈ S ∧ R u = none ∧ pulB ps S who R u = true := fun u hu => by
    have q := List.mem_filter.mp hu
    simp only [Bool.and_eq_true, Option.isNone_iff_eq_none] at q
    exact ⟨q.1, q.2.1, q.2.2⟩
  have old : ∀ u r, R u = some r → u ∉ nextS ps S who R := fun u r e z => by
    have := (nx u z).2.1
    rw [e] at this
    cases this
  refine ⟨fun u r e => ?_, fun v hv ho r e hr => ?_, fun v hv ho e g hg q eg => ?_, fun u hu => ?_⟩
  · by_cases hu : u ∈ nextS ps S who R
    · rw [upd_in hu] at e; cases e; omega
    · rw [upd_out hu] at e
      have := h.a u r e
      omega
  · by_cases hu : v ∈ nextS ps S who R
    · rw [upd_in hu] at e
      cases e
      obtain ⟨_, hn, hp⟩ := nx v hu
      unfold pulB at hp
      rw [if_pos ho] at hp
      obtain ⟨g, hg, hs⟩ := List.any_eq_true.mp hp
      obtain ⟨q, eq⟩ := Option.isSome_iff_exists.mp hs
      have hq := h.c v hv ho hn g hg q eq
      refine ⟨⟨g, hg, by rw [upd_out (old g q eq), eq, hq]; congr 1; omega⟩, fun g' hg' q' e' => ?_⟩
      by_cases hu' : g' ∈ nextS ps S who R
      · rw [upd_in hu'] at e'; cases e'; omega
      · rw [upd_out hu'] at e'
        have := h.c v hv ho hn g' hg' q' e'
        omega
    · rw [upd_out hu] at e
      obtain ⟨⟨g, hg, eg⟩, h2⟩ := h.b v hv ho r e hr
      refine ⟨⟨g, hg, by rw [upd_out (old g _ eg), eg]⟩, fun g' hg' q' e' => ?_⟩
      by_cases hu' : g' ∈ nextS ps S who R
      · rw [upd_in hu'] at e'; cases e'
        have := h.a v r e
        omega
      · rw [upd_out hu'] at e'
        exact h2 g' hg' q' e'
  · by_cases hu : v ∈ nextS ps S who R
    · rw [upd_in hu] at e; cases e
    · rw [upd_out hu] at e
      by_cases hu' : g ∈ nextS ps S who R
      · rw [upd_in hu'] at eg; cases eg; rfl
      · rw [upd_out hu'] at eg
        exfalso
        refine hu (List.mem_filter.mpr ⟨hv, ?_⟩)
        rw [e]
        unfold pulB
        rw [if_pos ho]
        simp only [Option.isNone_none, Bool.true_and]
        exact List.any_eq_true.mpr ⟨g, hg, by rw [eg]; rfl⟩
  · by_cases hu' : u ∈ nextS ps S who R
    · exact (nx u hu').1
    · rw [upd_out hu'] at hu
      exact h.d u hu
theorem rki_fix {ps : List Place} {S : List Int} {who : Int} : ∀ (m : Nat) (k : Int) (R : Int → Option Int), RkI ps S who k R → 0 ≤ k → ∃ k', RkI ps S who k' (fixR ps S who m k R) ∧ k' ≤ k + m
  | 0, k, R, h, _ => ⟨k, h, by omega⟩
  | m + 1, k, R, h, hk => by
    by_cases hn : nextS ps S who R = []
    · exact ⟨k, by rw [fixR_z hn]; exact h, by omega⟩
    · obtain ⟨k', h1, h2⟩ := rki_fix m (k + 1) _ (rki_step h hk) (by omega)
      exact ⟨k', by rw [fixR_s hn]; exact h1, by omega⟩
theorem rki_ranks {ps : List Place} {S G : List Int} {who : Int} (hGS : ∀ g ∈ G, g ∈ S) : ∃ k', RkI ps S who k' (ranks ps S who G) ∧ k' ≤ ps.length + 1 := by
  have h0 : RkI ps S who 0 (R0 G) := by
    refine ⟨fun u r e => ?_, fun v hv ho r e hr => ?_, fun v hv ho e g hg q eg => ?_, fun u hu => ?_⟩
    · unfold R0 updL at e; split at e <;> cases e; omega
    · unfold R0 updL at e; split at e <;> cases e; omega
    · unfold R0 updL at eg; split at eg <;> cases eg; rfl
    · unfold R0 updL at hu; split at hu
      · exact hGS u (by assumption)
      · exact absurd rfl hu
  obtain ⟨k', h1, h2⟩ := rki_fix (ps.length + 1) 0 (R0 G) h0 (by omega)
  exact ⟨k', h1, by omega⟩
theorem lg_hit {R : Int → Option Int} {t a : Int} : ∀ {l : List Int}, R a = some t → (∀ g ∈ l, ∀ q, R g = some q → t ≤ q) → lgL R (some a) l = some a
  | [], _, _ => rfl
  | g :: l, ha, h => by
    have hs : lgS R (some a) g = some a := by
      unfold lgS
      cases hg : R g with
      | none => rfl
      | some r =>
        simp only [ha]
        have := h g List.mem_cons_self r hg
        rw [if_neg (by omega)]
    show lgL R (lgS R (some a) g) l = some a
    rw [hs]
    exact lg_hit ha fun g hg => h g (List.mem_cons_of_mem _ hg)
theorem lg_min {R : Int → Option Int} {t : Int} : ∀ {l : List Int} {acc : Option Int} {g0 : Int} {rest : List Int}, (∀ b, acc = some b → ∃ q, R b = some q ∧ t < q) → (∀ g ∈ l, ∀ q, R g = some q → t ≤ q) → (l.filter fun g => decide (R g = some t)) = g0 :: rest → lgL R acc l = some g0
  | [], _, _, _, _, _, h => by cases h
  | g :: l, acc, g0, rest, ha, h, hf => by
    have h' : ∀ g ∈ l, ∀ q, R g = some q → t ≤ q := fun g hg => h g (List.mem_cons_of_mem _ hg)
    show lgL R (lgS R acc g) l = some g0
    rw [List.filter_cons] at hf
    by_cases hg : R g = some t
    · rw [if_pos (decide_eq_true hg)] at hf
      cases hf
      have hs : lgS R acc g = some g := by
        unfold lgS
        rw [hg]
        cases acc with
        | none => rfl
        | some b =>
          obtain ⟨q, eb, hq⟩ := ha b rfl
          simp only [eb]
          rw [if_pos hq]
      rw [hs]
      exact lg_hit hg h'
    · rw [if_neg (by simpa using hg)] at hf
      refine lg_min (fun b eb => ?_) h' hf
      unfold lgS at eb
      cases hr : R g with
      | none => rw [hr] at eb; exact ha b eb
      | some r =>
        have h1 := h g List.mem_cons_self r hr
        have h2 : t < r := by
          have : r ≠ t := fun z => hg (by rw [hr, z])
          omega
        rw [hr] at eb
        cases acc with
        | none => cases eb; exact ⟨r, hr, h2⟩
        | some a =>
          obtain ⟨q, ea, hq⟩ := ha a rfl
          simp only [ea] at eb
          split at eb
          · cases eb; exact ⟨r, hr, h2⟩
          · cases eb; exact ⟨q, ea, hq⟩
theorem min_head : ∀ {l : List Int} {x : Int}, (x :: l).Pairwise (· < ·) → (x :: l).min? = some x := fun {l x} h => by
  rw [List.min?_eq_some_iff]
  refine ⟨List.mem_cons_self, fun b hb => ?_⟩
  rcases List.mem_cons.mp hb with z | z
  · omega
  · have := (List.pairwise_cons.mp h).1 b z
    omega
theorem within_up {ps : List Place} (hps : ∀ p ∈ ps, p.gs.Pairwise (· < ·)) {v : Int} (h0 : 0 ≤ v) (h1 : v < ps.length) (S : List Int) : (within ps v S).Pairwise (· < ·) :=
  (hps _ (pl_mem h0 h1)).sublist List.filter_sublist
/-! ### ranks, further -/
theorem fix_done {ps : List Place} {S : List Int} {who : Int} : ∀ (m : Nat) (k : Int) (R : Int → Option Int), cntN S R ≤ m → nextS ps S who (fixR ps S who m k R) = []
  | 0, k, R, h => by
    refine Classical.byContradiction fun z => ?_
    have := cnt_lt (r := k + 1) z
    simp only [fixR] at this
    omega
  | m + 1, k, R, h => by
    by_cases hn : nextS ps S who R = []
    · rw [fixR_z hn]; exact hn
    · rw [fixR_s hn]
      exact fix_done m _ _ (by have := cnt_lt (r := k + 1) hn; omega)
theorem ranks_done {ps : List Place} {S G : List Int} {who : Int} (hS : Sub ps.length S) : nextS ps S who (ranks ps S who G) = [] :=
  fix_done _ _ _ (Nat.le_trans (Nat.le_trans (List.length_filter_le _ _) hS.len) (Nat.le_succ _))
theorem ranks_n {ps : List Place} {S G : List Int} {who : Int} (hS : Sub ps.length S) : ranks ps S who G = fixR ps S who ps.length 0 (R0 G) :=
  fix_stable _ _ _ (Nat.le_trans (List.length_filter_le _ _) hS.len)
/-- the other one's places; where a rank is nought -/
structure Rk2 (ps : List Place) (S G : List Int) (who k : Int) (R : Int → Option Int) : Prop where
  a : ∀ u r, R u = some r → 0 ≤ r ∧ r ≤ k
  e : ∀ u, R u = some 0 → u ∈ G
  f : ∀ v, (pl ps v).o ≠ who → ∀ r, R v = some r → 0 < r → ∀ g ∈ within ps v S, ∃ q, R g = some q ∧ q < r
theorem rk2_step {ps : List Place} {S G : List Int} {who k : Int} {R : Int → Option Int} (h : Rk2 ps S G who k R) (hk : 0 ≤ k) : Rk2 ps S G who (k + 1) (updL R (nextS ps S who R) (k + 1)) := by
  have old : ∀ u r, R u = some r → u ∉ nextS ps S who R := fun u r e z => by
    have q := (List.mem_filter.mp z).2
    simp [e] at q
  refine ⟨fun u r e => ?_, fun u e => ?_, fun v ho r e hr g hg => ?_⟩
  · by_cases hu : u ∈ nextS ps S who R
    · rw [upd_in hu] at e; cases e; omega
    · rw [upd_out hu] at e
      have := h.a u r e
      omega
  · by_cases hu : u ∈ nextS ps S who R
    · rw [upd_in hu] at e
      have : k + 1 = 0 := Option.some.inj e
      omega
    · rw [upd_out hu] at e
      exact h.e u e
  · by_cases hu : v ∈ nextS ps S who R
    · rw [upd_in hu] at e
      cases e
      have q := (List.mem_filter.mp hu).2
      simp only [Bool.and_eq_true] at q
      have hp := q.2
      unfold pulB at hp
      rw [if_neg ho] at hp
      obtain ⟨q', eq⟩ := Option.isSome_iff_exists.mp (List.all_eq_true.mp hp g hg)
      refine ⟨q', by rw [upd_out (old g q' eq), eq], ?_⟩
      have := h.a g q' eq
      omega
    · rw [upd_out hu] at e
      obtain ⟨q', eq, hlt⟩ := h.f v ho r e hr g hg
      exact ⟨q', by rw [upd_out (old g q' eq), eq], hlt⟩
theorem rk2_fix {ps : List Place} {S G : List Int} {who : Int} : ∀ (m : Nat) (k : Int) (R : Int → Option Int), Rk2 ps S G who k R → 0 ≤ k → ∃ k', Rk2 ps S G who k' (fixR ps S who m k R) ∧ k' ≤ k + m
  | 0, k, R, h, _ => ⟨k, h, by omega⟩
  | m + 1, k, R, h, hk => by
    by_cases hn : nextS ps S who R = []
    · exact ⟨k, by rw [fixR_z hn]; exact h, by omega⟩
    · obtain ⟨k', h1, h2⟩ := rk2_fix m (k + 1) _ (rk2_step h hk) (by omega)
      exact ⟨k', by rw [fixR_s hn]; exact h1, by omega⟩
theorem rk2_ranks {ps : List Place} {S G : List Int} {who : Int} (hS : Sub ps.length S) : ∃ k', Rk2 ps S G who k' (ranks ps S who G) ∧ k' ≤ ps.length := by
  have h0 : Rk2 ps S G who 0 (R0 G) := by
    refine ⟨fun u r e => ?_, fun u e => ?_, fun v ho r e hr => ?_⟩
    · unfold R0 updL at e; split at e <;> cases e; omega
    · unfold R0 updL at e; split at e
      · assumption
      · cases e
    · unfold R0 updL at e; split at e <;> cases e; omega
  obtain ⟨k', h1, h2⟩ := rk2_fix ps.length 0 (R0 G) h0 (by omega)
  rw [ranks_n hS]
  exact ⟨k', h1, by omega⟩
/-! ### what pulled tells, in one -/
structure PullOk (ps : List Place) (S : List Int) (who : Int) (G : List Int) (R mv : Int → Option Int) : Prop where
  dm : ∀ u, R u ≠ none → u ∈ S
  g0 : ∀ g ∈ G, R g = some 0
  z : ∀ u, R u = some 0 → u ∈ G
  nn : ∀ u r, R u = some r → 0 ≤ r ∧ r ≤ ps.length
  own : ∀ v ∈ S, (pl ps v).o = who → ∀ r, R v = some r → 0 < r → ∃ g q, mv v = some g ∧ g ∈ within ps v S ∧ R g = some q ∧ q < r
  oth : ∀ v ∈ S, (pl ps v).o ≠ who → ∀ r, R v = some r → 0 < r → ∀ g ∈ within ps v S, ∃ q, R g = some q ∧ q < r
  nown : ∀ v ∈ S, R v = none → (pl ps v).o = who → ∀ g ∈ within ps v S, R g = none
  noth : ∀ v ∈ S, R v = none → (pl ps v).o ≠ who → ∃ g ∈ within ps v S, R g = none
theorem fix_keep {ps : List Place} {S : List Int} {who : Int} {u r : Int} : ∀ (m : Nat) (k : Int) (R : Int → Option Int), R u = some r → fixR ps S who m k R u = some r
  | 0, _, _, h => h
  | m + 1, k, R, h => by
    rw [fixR]
    split
    · exact h
    · refine fix_keep m _ _ ?_
      rw [upd_out (fun z => by
        have q := (List.mem_filter.mp z).2
        simp [h] at q)]
      exact h
theorem pull_ok {ps : List Place} {S G : List Int} {who : Int} (hS : Sub ps.length S) (hGS : ∀ g ∈ G, g ∈ S) : PullOk ps S who G (ranks ps S who G) (mvP ps S who (ranks ps S who G)) := by
  obtain ⟨k1, I1, _⟩ := rki_ranks hGS (ps := ps) (who := who)
  obtain ⟨k2, I2, hk2⟩ := rk2_ranks hS (G := G) (who := who)
  have hdone := ranks_done hS (G := G) (who := who)
  have hg0 : ∀ g ∈ G, ranks ps S who G g = some 0 := fun g hg => fix_keep _ _ _ (if_pos hg)
  generalize ranks ps S who G = R at *
  have np : ∀ v ∈ S, R v = none → pulB ps S who R v = false := fun v hv h2 => by
    cases hb : pulB ps S who R v with
    | false => rfl
    | true =>
      exfalso
      have : v ∈ nextS ps S who R := List.mem_filter.mpr ⟨hv, by rw [h2, hb]; rfl⟩
      rw [hdone] at this
      cases this
  refine ⟨I1.d, hg0, I2.e, fun u r e => ⟨(I2.a u r e).1, by have := (I2.a u r e).2; omega⟩, fun v hv ho r hr hr0 => ?_, fun v hv ho r hr hr0 g hg => I2.f v ho r hr hr0 g hg, fun v hv hn ho g hg => ?_, fun v hv hn ho => ?_⟩
  · obtain ⟨⟨g1, hg1, eg1⟩, hmin⟩ := I1.b v hv ho r hr hr0
    obtain ⟨g0, rest, hf⟩ : ∃ g0 rest, ((within ps v S).filter fun g => decide (R g = some (r - 1))) = g0 :: rest := by
      have hm : g1 ∈ (within ps v S).filter fun g => decide (R g = some (r - 1)) := List.mem_filter.mpr ⟨hg1, by simpa using eg1⟩
      cases hq : (within ps v S).filter fun g => decide (R g = some (r - 1)) with
      | nil => rw [hq] at hm; cases hm
      | cons a b => exact ⟨a, b, rfl⟩
    have hm0 : g0 ∈ (within ps v S).filter fun g => decide (R g = some (r - 1)) := by rw [hf]; exact List.mem_cons_self
    have hm1 := List.mem_filter.mp hm0
    refine ⟨g0, r - 1, ?_, hm1.1, by simpa using hm1.2, by omega⟩
    unfold mvP
    rw [hr]
    show (if _ then _ else _) = _
    rw [if_pos ⟨hr0, ho⟩]
    exact lg_min (t := r - 1) (fun b e => by cases e) hmin hf
  · have q := np v hv hn
    unfold pulB at q
    rw [if_pos ho, List.any_eq_false] at q
    have := q g hg
    cases e : R g with
    | none => rfl
    | some _ => rw [e] at this; exact absurd rfl this
  · have q := np v hv hn
    unfold pulB at q
    rw [if_neg ho, List.all_eq_false] at q
    obtain ⟨g, hg, h⟩ := q
    refine ⟨g, hg, ?_⟩
    cases e : R g with
    | none => rfl
    | some _ => rw [e] at h; exact absurd rfl h
theorem plA_encR (n : Nat) (R : Int → Option Int) : D.plA (encR n R) = true := by
  unfold encR
  induction rngI 0 n with
  | nil => rfl
  | cons a l ih =>
    rw [List.map_cons]
    show (D.pl (encM (R a)) && D.plA _) = true
    rw [ih]
    cases R a <;> rfl
theorem dep_encR (n : Nat) (R : Int → Option Int) : PyData.depthAll (D.pyA (encR n R)) = 0 := by
  unfold encR
  induction rngI 0 n with
  | nil => rfl
  | cons a l ih =>
    rw [List.map_cons]
    simp only [D.pyA, PyData.depthAll, ih]
    cases R a <;> simp [encM, D.py, PyData.depth]
/-! ### lay_won -/
def layW (w : Int → Int) (who : Int) (P : List Int) (v : Int) : Int := if v ∈ P then who else w v
def layM (ps : List Place) (mv : Int → Option Int) (who : Int) (P A T : List Int) (st : Int → Option Int) (v : Int) : Option Int :=
  if v ∈ P then (if (pl ps v).o = who then (if v ∈ T then (within ps v A).min? else st v) else none) else mv v
theorem e_min {l : List Int} {m : Int} (h : l.min? = some m) : minC [.list (l.map .int)] = some (.int m) := by
  simp [minC, h]
theorem e_lay {ps : List Place} {P A T : List Int} {who : Int} {w : Int → Int} {mv st : Int → Option Int} (hP : ∀ v ∈ P, 0 ≤ v ∧ v < ps.length) (hA : ∀ v ∈ P, v ∈ T → (pl ps v).o = who → within ps v A ≠ []) :
    d_lay_won [encGr ps, .list (encI ps.length w), .list (encR ps.length mv), .tuple [.int who, .tuple (P.map .int), .tuple (A.map .int), .tuple (T.map .int)], .tuple (encR ps.length st)] = .ok (encI ps.length (layW w who P), encR ps.length (layM ps mv who P A T st)) := by
  obtain ⟨ρ', e, done, w', m', y9, hd, rfl, hw, hm⟩ := for_I (enc := D.int) (b := b1 9) (t := l1_lay_won) (l := P)
    (ρ := [some (encGr ps), some (.list (encI ps.length w)), some (.list (encR ps.length mv)), some (.tuple [.int who, .tuple (P.map .int), .tuple (A.map .int), .tuple (T.map .int)]), some (.tuple (encR ps.length st)), some (.int who), some (.tuple (P.map .int)), some (.tuple (A.map .int)), some (.tuple (T.map .int)), none])
    (fun l ρ => ∃ done w' m' y9, P = done ++ l ∧ ρ = [some (encGr ps), some (.list (encI ps.length w')), some (.list (encR ps.length m')), some (.tuple [.int who, .tuple (P.map .int), .tuple (A.map .int), .tuple (T.map .int)]), some (.tuple (encR ps.length st)), some (.int who), some (.tuple (P.map .int)), some (.tuple (A.map .int)), some (.tuple (T.map .int)), y9] ∧ (∀ v, w' v = layW w who done v) ∧ (∀ v, m' v = layM ps mv who done A T st v))
    ⟨[], w, mv, none, rfl, rfl, fun v => by simp [layW], fun v => by simp [layM]⟩ (by
      rintro v l ρ ⟨done, w', m', y9, hd, rfl, hw, hm⟩
      have hv : v ∈ P := by rw [hd]; simp
      obtain ⟨v0, v1⟩ := hP v hv
      have hd' : P = (done ++ [v]) ++ l := by rw [hd]; simp
      have ew := encI_set (n := ps.length) (T := w') (r := who) v0 v1
      have w2 : ∀ u, (if u = v then who else w' u) = layW w who (done ++ [v]) u := fun u => by
        unfold layW
        by_cases hu : u = v
        · subst hu; simp
        · rw [if_neg hu, hw u]; unfold layW; simp [hu]
      have en := encR_set (n := ps.length) (R := m') (r := none) v0 v1
      have m2 : ∀ x, x = layM ps mv who (done ++ [v]) A T st v → ∀ u, (if u = v then x else m' u) = layM ps mv who (done ++ [v]) A T st u := fun x hx u => by
        by_cases hu : u = v
        · subst hu; rw [if_pos rfl]; exact hx
        · rw [if_neg hu, hm u]; unfold layM; simp [hu]
      have lv : ∀ x, (if (pl ps v).o = who then (if v ∈ T then (within ps v A).min? else st v) else none) = x → x = layM ps mv who (done ++ [v]) A T st v := fun x hx => by
        unfold layM
        rw [if_pos (by simp), hx]
      have es : ∀ x : Option Int, ((encR ps.length m').set v.toNat (encM none)).set v.toNat (encM x) = encR ps.length (fun u => if u = v then x else m' u) := fun x => by
        rw [List.set_set]
        exact encR_set v0 v1
      simp only [encM] at en
      by_cases ho : (pl ps v).o = who
      · by_cases hT : v ∈ T
        · obtain ⟨g, hg⟩ : ∃ g, (within ps v A).min? = some g := by
            cases q : (within ps v A).min? with
            | none => exact absurd (List.min?_eq_none_iff.mp q) (hA v hv hT ho)
            | some g => exact ⟨g, rfl⟩
          have emn := e_min hg
          have es' := es (some g)
          simp only [encM] at es'
          rw [List.set_set] at es'
          refine ⟨_, _, rfl, .inl ?_, done ++ [v], _, (fun u => if u = v then some g else m' u), some (.int v), hd', rfl, w2, m2 _ (lv _ (by rw [if_pos ho, if_pos hT, hg]))⟩
          simp [l1_lay_won, encI_len, ixN_in v0 v1, ew, encR_len, get_pl v0 v1, get0, ho, in_T, hT, e_withinT A v0 v1, emn, es', List.set_set]
        · have es' := es (st v)
          simp only [encM] at es'
          rw [List.set_set] at es'
          refine ⟨_, _, rfl, .inl ?_, done ++ [v], _, (fun u => if u = v then st v else m' u), some (.int v), hd', rfl, w2, m2 _ (lv _ (by rw [if_pos ho, if_neg hT]))⟩
          simp [l1_lay_won, encI_len, ixN_in v0 v1, ew, encR_len, get_pl v0 v1, get0, ho, in_T, hT, get_t, encR_at v0 v1, List.set_set]
          rw [show (encR ps.length m').set v.toNat (encM (st v)) = encR ps.length (fun u => if u = v then st v else m' u) from encR_set v0 v1]
      · refine ⟨_, _, rfl, .inl ?_, done ++ [v], _, (fun u => if u = v then none else m' u), some (.int v), hd', rfl, w2, m2 _ (lv _ (by rw [if_neg ho]))⟩
        simp [l1_lay_won, encI_len, ixN_in v0 v1, ew, encR_len, get_pl v0 v1, get0, ho, en])
  rw [List.append_nil] at hd
  subst hd
  have e1 := encI_congr (n := ps.length) fun v _ _ => hw v
  have e2 := encR_congr (n := ps.length) fun v _ _ => hm v
  rw [e1, e2] at e
  simp [d_lay_won, b_lay_won, e, ioOf]
/-! ### winning by marks: plain theory -/
def stp (ps : List Place) (S : List Int) (i : Int) (mv : Int → Option Int) (v u : Int) : Prop := ((pl ps v).o = i ∧ mv v = some u) ∨ ((pl ps v).o ≠ i ∧ u ∈ within ps v S)
/-- a step to a place of a mark that is no higher than k -/
def stpm (ps : List Place) (S : List Int) (i : Int) (mv : Int → Option Int) (k : Int) (v u : Int) : Prop := stp ps S i mv v u ∧ (pl ps u).m ≤ k
structure Win (ps : List Place) (S : List Int) (i : Int) (W : Int → Prop) (mv : Int → Option Int) : Prop where
  sub : ∀ v, W v → v ∈ S
  own : ∀ v, W v → (pl ps v).o = i → ∃ g, mv v = some g ∧ g ∈ (pl ps v).gs ∧ W g
  oth : ∀ v, W v → (pl ps v).o ≠ i → ∀ g ∈ within ps v S, W g
  cyc : ∀ v, W v → (pl ps v).m % 2 ≠ i → ¬ Pth (stpm ps S i mv (pl ps v).m) v v
theorem some_ne {q : Int} : (some q : Option Int) ≠ none := fun z => by cases z
theorem mem_within {ps : List Place} {v g : Int} {S : List Int} : g ∈ within ps v S ↔ g ∈ (pl ps v).gs ∧ g ∈ S := by
  unfold within
  rw [List.mem_filter]
  simp
section
variable {ps : List Place} {S : List Int} {i : Int} {W W' : Int → Prop} {mv mv' : Int → Option Int}
theorem Win.stay (h : Win ps S i W mv) {v u : Int} (hv : W v) (e : stp ps S i mv v u) : W u := by
  rcases e with ⟨ho, e⟩ | ⟨ho, e⟩
  · obtain ⟨g, eg, _, hg⟩ := h.own v hv ho
    rw [e] at eg
    cases eg
    exact hg
  · exact h.oth v hv ho u e
theorem Win.none (ps : List Place) (S : List Int) (i : Int) (mv : Int → Option Int) : Win ps S i (fun _ => False) mv := ⟨fun _ h => h.elim, fun _ h => h.elim, fun _ h => h.elim, fun _ h => h.elim⟩
/-- other moves outside -/
theorem Win.congr (h : Win ps S i W mv) (hw : ∀ v, W' v ↔ W v) (hm : ∀ v, W v → mv' v = mv v) : Win ps S i W' mv' where
  sub := fun v hv => h.sub v ((hw v).mp hv)
  own := fun v hv ho => by
    obtain ⟨g, h1, h2, h3⟩ := h.own v ((hw v).mp hv) ho
    exact ⟨g, by rw [hm v ((hw v).mp hv)]; exact h1, h2, (hw g).mpr h3⟩
  oth := fun v hv ho g hg => (hw g).mpr (h.oth v ((hw v).mp hv) ho g hg)
  cyc := fun v hv hk c => h.cyc v ((hw v).mp hv) hk (Pth.inv (P := W) (E' := stpm ps S i mv (pl ps v).m) (fun x y hx e => by
    have e' : stp ps S i mv x y := by
      rcases e.1 with ⟨ho, e1⟩ | e1
      · exact .inl ⟨ho, by rw [← hm x hx]; exact e1⟩
      · exact .inr e1
    exact ⟨h.stay hx e', e', e.2⟩) ((hw v).mp hv) c).2
/-- a part that the other one cannot leave: from a smaller part to a greater one -/
theorem Win.wider {T : List Int} (h : Win ps T i W mv) (hT : ∀ v ∈ T, v ∈ S) (hc : ∀ v, W v → (pl ps v).o ≠ i → ∀ g ∈ within ps v S, g ∈ T) : Win ps S i W mv where
  sub := fun v hv => hT v (h.sub v hv)
  own := h.own
  oth := fun v hv ho g hg => h.oth v hv ho g (mem_within.mpr ⟨(mem_within.mp hg).1, hc v hv ho g hg⟩)
  cyc := fun v hv hk c => h.cyc v hv hk (Pth.inv (P := W) (E' := stpm ps T i mv (pl ps v).m) (fun x y hx e => by
    have e' : stp ps T i mv x y := by
      rcases e.1 with e1 | ⟨ho, e1⟩
      · exact .inl e1
      · exact .inr ⟨ho, mem_within.mpr ⟨(mem_within.mp e1).1, hc x hx ho y e1⟩⟩
    exact ⟨h.stay hx e', e', e.2⟩) hv c).2
end
section
variable {ps : List Place} {S G : List Int} {who : Int} {R st mv : Int → Option Int}
theorem PullOk.pos (P : PullOk ps S who G R st) {v : Int} (h : R v ≠ none) (hg : v ∉ G) : ∃ r, R v = some r ∧ 0 < r := by
  cases e : R v with
  | none => exact absurd e h
  | some r =>
    refine ⟨r, rfl, ?_⟩
    have := (P.nn v r e).1
    by_cases hr : r = 0
    · subst hr; exact absurd (P.z v e) hg
    · omega
/-- one who draws the play to the highest marks, and wins the rest, wins all -/
theorem win_all {k : Int} (P : PullOk ps S who G R st) (hw : wholeP ps S) (hk : k % 2 = who) (hG : ∀ v, v ∈ G ↔ v ∈ S ∧ (pl ps v).m = k) (hm : ∀ v ∈ S, (pl ps v).m ≤ k)
    {T : List Int} (hT : ∀ v, v ∈ T ↔ v ∈ S ∧ R v = none) (h : Win ps T who (fun v => v ∈ T) mv) {mv' : Int → Option Int} (e0 : ∀ v ∈ T, mv' v = mv v) (e1 : ∀ v, R v ≠ none → v ∉ G → (pl ps v).o = who → mv' v = st v)
    (e2 : ∀ v ∈ G, (pl ps v).o = who → ∃ g, mv' v = some g ∧ g ∈ within ps v S) : Win ps S who (fun v => v ∈ S) mv' := by
  have cls : ∀ v ∈ S, (v ∈ T ∧ R v = none) ∨ (v ∉ T ∧ R v ≠ none) := fun v hv => by
    cases e : R v with
    | none => exact .inl ⟨(hT v).mpr ⟨hv, e⟩, rfl⟩
    | some r => exact .inr ⟨fun z => (by have := ((hT v).mp z).2; rw [e] at this; cases this), some_ne⟩
  -- from where there is a rank, below the highest mark, the rank becomes less
  have down : ∀ v u, v ∈ S → R v ≠ none → v ∉ G → stp ps S who mv' v u → ∃ q r, R u = some q ∧ R v = some r ∧ q < r := fun v u hv hr hg e => by
    obtain ⟨r, er, h0⟩ := P.pos hr hg
    rcases e with ⟨ho, e⟩ | ⟨ho, e⟩
    · obtain ⟨g, q, eg, _, eq, lt⟩ := P.own v hv ho r er h0
      rw [e1 v hr hg ho, eg] at e
      cases e
      exact ⟨q, r, eq, er, lt⟩
    · obtain ⟨q, eq, lt⟩ := P.oth v hv ho r er h0 u e
      exact ⟨q, r, eq, er, lt⟩
  have ownS : ∀ v ∈ S, (pl ps v).o = who → ∃ g, mv' v = some g ∧ g ∈ (pl ps v).gs ∧ g ∈ S := fun v hv ho => by
    rcases cls v hv with ⟨ht, _⟩ | ⟨_, hr⟩
    · obtain ⟨g, eg, h1, h2⟩ := h.own v ht ho
      exact ⟨g, by rw [e0 v ht]; exact eg, h1, ((hT g).mp h2).1⟩
    · by_cases hg : v ∈ G
      · obtain ⟨g, eg, h1⟩ := e2 v hg ho
        exact ⟨g, eg, (mem_within.mp h1).1, (mem_within.mp h1).2⟩
      · obtain ⟨r, er, h0⟩ := P.pos hr hg
        obtain ⟨g, q, eg, h1, _, _⟩ := P.own v hv ho r er h0
        exact ⟨g, by rw [e1 v hr hg ho]; exact eg, (mem_within.mp h1).1, (mem_within.mp h1).2⟩
  have stay : ∀ v u, v ∈ S → stp ps S who mv' v u → u ∈ S := fun v u hv e => by
    rcases e with ⟨ho, e⟩ | ⟨_, e⟩
    · obtain ⟨g, eg, _, hg⟩ := ownS v hv ho
      rw [e] at eg; cases eg; exact hg
    · exact (mem_within.mp e).2
  refine ⟨fun v hv => hv, ownS, fun v hv _ g hg => (mem_within.mp hg).2, fun v hv hk' c => ?_⟩
  have hlt : (pl ps v).m < k := by
    have := hm v hv
    by_cases e : (pl ps v).m = k
    · rw [e] at hk'; exact absurd hk hk'
    · omega
  have ng : ∀ u, (pl ps u).m ≤ (pl ps v).m → u ∉ G := fun u hu z => by have := ((hG u).mp z).2; omega
  rcases cls v hv with ⟨ht, hn⟩ | ⟨ht, hr⟩
  · -- all of it lies in the rest, or it comes to where there are ranks and stays
    have key : ∀ u, Pth (stpm ps S who mv' (pl ps v).m) v u → (u ∈ S ∧ R u ≠ none ∧ u ∉ G) ∨ (u ∈ T ∧ Pth (stpm ps T who mv (pl ps v).m) v u) := fun u p => by
      have one : ∀ x y, x ∈ T → stpm ps S who mv' (pl ps v).m x y → (y ∈ S ∧ R y ≠ none ∧ y ∉ G) ∨ (y ∈ T ∧ stpm ps T who mv (pl ps v).m x y) := fun x y hx e => by
        have hxS := ((hT x).mp hx).1
        have hy := stay x y hxS e.1
        rcases cls y hy with ⟨ty, _⟩ | ⟨_, ry⟩
        · refine .inr ⟨ty, ?_, e.2⟩
          rcases e.1 with ⟨ho, e1⟩ | ⟨ho, e1⟩
          · exact .inl ⟨ho, by rw [← e0 x hx]; exact e1⟩
          · exact .inr ⟨ho, mem_within.mpr ⟨(mem_within.mp e1).1, ty⟩⟩
        · exact .inl ⟨hy, ry, ng y e.2⟩
      induction p with
      | one e =>
        rcases one _ _ ht e with z | ⟨z1, z2⟩
        · exact .inl z
        · exact .inr ⟨z1, .one z2⟩
      | snoc p e ih =>
        rcases ih with ⟨a1, a2, a3⟩ | ⟨a1, a2⟩
        · obtain ⟨q, r, eq, _, _⟩ := down _ _ a1 a2 a3 e.1
          exact .inl ⟨stay _ _ a1 e.1, by rw [eq]; exact some_ne, ng _ e.2⟩
        · rcases one _ _ a1 e with z | ⟨z1, z2⟩
          · exact .inl z
          · exact .inr ⟨z1, .snoc a2 z2⟩
    rcases key v c with ⟨_, z, _⟩ | ⟨_, z⟩
    · exact z hn
    · exact h.cyc v ht hk' z
  · have := (Pth.less (P := fun u => u ∈ S ∧ R u ≠ none ∧ u ∉ G) (f := fun u => (R u).getD 0) (fun x y hx e => by
      obtain ⟨q, r, eq, er, lt⟩ := down x y hx.1 hx.2.1 hx.2.2 e.1
      exact ⟨⟨stay x y hx.1 e.1, by rw [eq]; exact some_ne, ng y e.2⟩, by simp only [eq, er, Option.getD_some]; exact lt⟩) ⟨hv, hr, ng v (by omega)⟩ c).2
    omega
/-- what one wins in a part, and what it draws to it, and what it wins in the rest of all -/
theorem win_lost {j : Int} {L : List Int} (P : PullOk ps S j L R st) {T : List Int} (hT : ∀ v, v ∈ T ↔ v ∈ S ∧ R v = none) {U : List Int} (hU : ∀ v ∈ U, v ∈ S) (hLU : ∀ v ∈ L, v ∈ U) (hcl : ∀ v ∈ L, (pl ps v).o ≠ j → ∀ g ∈ within ps v S, g ∈ U)
    (h1 : Win ps U j (fun v => v ∈ L) mv) {W : Int → Prop} {mv2 : Int → Option Int} (h2 : Win ps T j W mv2) {mv' : Int → Option Int} (e0 : ∀ v ∈ L, mv' v = mv v) (e1 : ∀ v, R v ≠ none → v ∉ L → (pl ps v).o = j → mv' v = st v) (e2 : ∀ v, W v → mv' v = mv2 v) :
    Win ps S j (fun v => R v ≠ none ∨ W v) mv' := by
  have wl := h1.wider (S := S) hU hcl
  have lS : ∀ v ∈ L, v ∈ S := fun v hv => hU v (hLU v hv)
  have rn : ∀ v, R v ≠ none → v ∈ S := P.dm
  have lR : ∀ v ∈ L, R v ≠ none := fun v hv z => by rw [P.g0 v hv] at z; cases z
  have wT : ∀ v, W v → v ∈ S ∧ R v = none := fun v hv => (hT v).mp (h2.sub v hv)
  have stpL : ∀ v u, v ∈ L → stp ps S j mv' v u → u ∈ L ∧ stp ps S j mv v u := fun v u hv e => by
    have e' : stp ps S j mv v u := by
      rcases e with ⟨ho, e⟩ | e
      · exact .inl ⟨ho, by rw [← e0 v hv]; exact e⟩
      · exact .inr e
    exact ⟨wl.stay hv e', e'⟩
  have down : ∀ v u, R v ≠ none → v ∉ L → stp ps S j mv' v u → ∃ q r, R u = some q ∧ R v = some r ∧ q < r := fun v u hr hg e => by
    obtain ⟨r, er, h0⟩ := P.pos hr hg
    have hv := rn v hr
    rcases e with ⟨ho, e⟩ | ⟨ho, e⟩
    · obtain ⟨g, q, eg, _, eq, lt⟩ := P.own v hv ho r er h0
      rw [e1 v hr hg ho, eg] at e
      cases e
      exact ⟨q, r, eq, er, lt⟩
    · obtain ⟨q, eq, lt⟩ := P.oth v hv ho r er h0 u e
      exact ⟨q, r, eq, er, lt⟩
  have stayR : ∀ v u, R v ≠ none → stp ps S j mv' v u → R u ≠ none := fun v u hr e => by
    by_cases hl : v ∈ L
    · exact lR u (stpL v u hl e).1
    · obtain ⟨q, _, eq, _, _⟩ := down v u hr hl e
      rw [eq]; intro z; cases z
  have stpW : ∀ v u, W v → stp ps S j mv' v u → R u ≠ none ∨ (W u ∧ stp ps T j mv2 v u) := fun v u hv e => by
    rcases e with ⟨ho, e⟩ | ⟨ho, e⟩
    · rw [e2 v hv] at e
      have e' : stp ps T j mv2 v u := .inl ⟨ho, e⟩
      exact .inr ⟨h2.stay hv e', e'⟩
    · by_cases hu : R u = none
      · have e' : stp ps T j mv2 v u := .inr ⟨ho, mem_within.mpr ⟨(mem_within.mp e).1, (hT u).mpr ⟨(mem_within.mp e).2, hu⟩⟩⟩
        exact .inr ⟨h2.stay hv e', e'⟩
      · exact .inl hu
  refine ⟨fun v hv => hv.elim (rn v) fun z => (wT v z).1, fun v hv ho => ?_, fun v hv ho g hg => ?_, fun v hv hk c => ?_⟩
  · rcases hv with hr | hw
    · by_cases hl : v ∈ L
      · obtain ⟨g, eg, h3, h4⟩ := h1.own v hl ho
        exact ⟨g, by rw [e0 v hl]; exact eg, h3, .inl (lR g h4)⟩
      · obtain ⟨r, er, h0⟩ := P.pos hr hl
        obtain ⟨g, q, eg, h3, eq, _⟩ := P.own v (rn v hr) ho r er h0
        exact ⟨g, by rw [e1 v hr hl ho]; exact eg, (mem_within.mp h3).1, .inl (by rw [eq]; exact some_ne)⟩
    · obtain ⟨g, eg, h3, h4⟩ := h2.own v hw ho
      exact ⟨g, by rw [e2 v hw]; exact eg, h3, .inr h4⟩
  · rcases hv with hr | hw
    · exact .inl (stayR v g hr (.inr ⟨ho, hg⟩))
    · rcases stpW v g hw (.inr ⟨ho, hg⟩) with z | z
      · exact .inl z
      · exact .inr z.1
  · rcases hv with hr | hw
    · by_cases hl : v ∈ L
      · exact wl.cyc v hl hk (Pth.inv (P := fun u => u ∈ L) (E' := stpm ps S j mv (pl ps v).m) (fun x y hx e => by
          have := stpL x y hx e.1
          exact ⟨this.1, this.2, e.2⟩) hl c).2
      · have key : ∀ u, Pth (stpm ps S j mv' (pl ps v).m) v u → u ∈ L ∨ (R u ≠ none ∧ u ∉ L ∧ (R u).getD 0 < (R v).getD 0) := fun u p => by
          have one : ∀ x y, R x ≠ none → x ∉ L → stpm ps S j mv' (pl ps v).m x y → y ∈ L ∨ (R y ≠ none ∧ y ∉ L ∧ (R y).getD 0 < (R x).getD 0) := fun x y hx hxl e => by
            by_cases hy : y ∈ L
            · exact .inl hy
            · obtain ⟨q, r, eq, er, lt⟩ := down x y hx hxl e.1
              exact .inr ⟨by rw [eq]; exact some_ne, hy, by simp only [eq, er, Option.getD_some]; exact lt⟩
          induction p with
          | one e => exact one _ _ hr hl e
          | snoc p e ih =>
            rcases ih with z | ⟨z1, z2, z3⟩
            · exact .inl (stpL _ _ z e.1).1
            · rcases one _ _ z1 z2 e with y | ⟨y1, y2, y3⟩
              · exact .inl y
              · exact .inr ⟨y1, y2, by omega⟩
        rcases key v c with z | ⟨_, _, z⟩
        · exact hl z
        · omega
    · have key : ∀ u, Pth (stpm ps S j mv' (pl ps v).m) v u → R u ≠ none ∨ (W u ∧ Pth (stpm ps T j mv2 (pl ps v).m) v u) := fun u p => by
        induction p with
        | one e =>
          rcases stpW _ _ hw e.1 with z | ⟨z1, z2⟩
          · exact .inl z
          · exact .inr ⟨z1, .one ⟨z2, e.2⟩⟩
        | snoc p e ih =>
          rcases ih with z | ⟨z1, z2⟩
          · exact .inl (stayR _ _ z e.1)
          · rcases stpW _ _ z1 e.1 with y | ⟨y1, y2⟩
            · exact .inl y
            · exact .inr ⟨y1, .snoc z2 ⟨y2, e.2⟩⟩
      rcases key v c with z | ⟨_, z⟩
      · exact z (wT v hw).2
      · exact h2.cyc v hw hk z
end
/-! ### what is left of a part -/
def restS (S : List Int) (R : Int → Option Int) : List Int := S.filter fun v => !decide (v ∈ dom S R)
theorem mem_dom {S : List Int} {R : Int → Option Int} {v : Int} : v ∈ dom S R ↔ v ∈ S ∧ R v ≠ none := by
  unfold dom
  rw [List.mem_filter]
  cases R v <;> simp
theorem mem_rest {S : List Int} {R : Int → Option Int} {v : Int} : v ∈ restS S R ↔ v ∈ S ∧ R v = none := by
  unfold restS
  rw [List.mem_filter]
  by_cases h : v ∈ S
  · cases e : R v with
    | none => simp [mem_dom, h, e]
    | some r => simp [mem_dom, h, e]
  · simp [h]
section
variable {ps : List Place} {S G : List Int} {who : Int} {R st mv : Int → Option Int}
theorem rest_whole (P : PullOk ps S who G R st) (hw : wholeP ps S) : wholeP ps (restS S R) := fun v hv => by
  obtain ⟨hS, hn⟩ := mem_rest.mp hv
  intro z
  have no : ∀ g ∈ within ps v S, R g ≠ none := fun g hg e => by
    have : g ∈ within ps v (restS S R) := mem_within.mpr ⟨(mem_within.mp hg).1, mem_rest.mpr ⟨(mem_within.mp hg).2, e⟩⟩
    rw [z] at this
    cases this
  by_cases ho : (pl ps v).o = who
  · obtain ⟨g, hg⟩ := List.exists_mem_of_ne_nil _ (hw v hS)
    exact no g hg (P.nown v hS hn ho g hg)
  · obtain ⟨g, hg, e⟩ := P.noth v hS hn ho
    exact no g hg e
theorem rest_lt (P : PullOk ps S who G R st) (hG : G ≠ []) : (restS S R).length < S.length := by
  obtain ⟨g, hg⟩ := List.exists_mem_of_ne_nil _ hG
  have e := P.g0 g hg
  have hs : g ∈ S := P.dm g (by rw [e]; exact some_ne)
  unfold restS
  refine List.length_filter_lt_length_iff_exists.mpr ⟨g, hs, ?_⟩
  have : g ∈ dom S R := mem_dom.mpr ⟨hs, by rw [e]; exact some_ne⟩
  simp [this]
end
/-! ### solve, won -/
structure Sol (ps : List Place) (S : List Int) (w : Int → Int) (mv : Int → Option Int) : Prop where
  w01 : ∀ v ∈ S, w v = 0 ∨ w v = 1
  mn : ∀ v ∈ S, (pl ps v).o ≠ w v → mv v = none
  win : ∀ i, i = 0 ∨ i = 1 → Win ps S i (fun v => v ∈ S ∧ w v = i) mv
section
variable {ps : List Place} {S G : List Int} {who : Int} {R st mv : Int → Option Int}
theorem within_filter {v : Int} {p : Int → Bool} (h : ∀ g ∈ within ps v S, p g = true) : ∀ g ∈ within ps v S, g ∈ S.filter p := fun g hg => List.mem_filter.mpr ⟨(mem_within.mp hg).2, h g hg⟩
theorem e_solve {hi : Int} (hg : GOk hi ps) (hn : ps.length ≤ 24) : ∀ (m : Nat) (S : List Int) (w : Int → Int) (mv : Int → Option Int), Sub ps.length S → wholeP ps S → S.length < m →
    ∃ w' mv', d_solve m [encGr ps, .tuple (S.map .int), .list (encI ps.length w), .list (encR ps.length mv)] = .ok (encI ps.length w', encR ps.length mv') ∧ (∀ v, v ∉ S → w' v = w v ∧ mv' v = mv v) ∧ Sol ps S w' mv'
  | 0, S, w, mv, _, _, h => by omega
  | m + 1, S, w, mv, hS, hw, hl => by
    by_cases hS0 : S = []
    · subst hS0
      refine ⟨w, mv, ?_, fun v _ => ⟨rfl, rfl⟩, ⟨fun v h => (by cases h), fun v h => (by cases h), fun i _ => (Win.none ps [] i mv).congr (fun v => by simp) fun v h => h.elim⟩⟩
      show dDefIO 14 2 3 (b_solve (d_solve m)) _ = _
      simp [b_solve, ioOf]
    · -- the highest mark
      have hmk : (S.map fun v => (pl ps v).m) ≠ [] := by simpa using hS0
      obtain ⟨k, hk, hkm, hkle⟩ : ∃ k, (S.map fun v => (pl ps v).m).max? = some k ∧ (∃ v ∈ S, (pl ps v).m = k) ∧ ∀ v ∈ S, (pl ps v).m ≤ k := by
        cases e : (S.map fun v => (pl ps v).m).max? with
        | none => exact absurd (List.max?_eq_none_iff.mp e) hmk
        | some k =>
          obtain ⟨a, b⟩ := List.max?_eq_some_iff.mp e
          obtain ⟨v, hv, ev⟩ := List.mem_map.mp a
          exact ⟨k, rfl, ⟨v, hv, ev⟩, fun u hu => b _ (List.mem_map.mpr ⟨u, hu, rfl⟩)⟩
      obtain ⟨who, hwho⟩ : ∃ who, who = k % 2 := ⟨_, rfl⟩
      have hw01 : who = 0 ∨ who = 1 := by omega
      obtain ⟨G, hGd⟩ : ∃ G, G = S.filter fun v => decide ((pl ps v).m = k) := ⟨_, rfl⟩
      have memG : ∀ v, v ∈ G ↔ v ∈ S ∧ (pl ps v).m = k := fun v => by rw [hGd, List.mem_filter]; simp
      have hG : Sub ps.length G := by rw [hGd]; exact hS.filter _
      have hGS : ∀ g ∈ G, g ∈ S := fun g h => ((memG g).mp h).1
      have hG0 : G ≠ [] := fun z => by
        obtain ⟨v, hv, e⟩ := hkm
        have := (memG v).mpr ⟨hv, e⟩
        rw [z] at this; cases this
      have hp : 0 < ps.length := hg.ne
      have keyM : ∀ x : List (Option D), dLcL (b1 13) dYes (dOp getD (dOp getD (dVar 0) (dVar 13)) (dC (.int 1))) [some (encGr ps), some (.tuple (S.map .int)), some (.list (encI ps.length w)), some (.list (encR ps.length mv)), none, none, none, none, none, none, none, none, none, none] (S.map .int) = .ok ((S.map fun v => (pl ps v).m).map .int) := fun _ => by
        rw [lc_map (F := fun d => match d with | .int g => .int (pl ps g).m | _ => .none)]
        · rw [List.map_map, List.map_map]; rfl
        · intro d hd
          obtain ⟨v, hv, rfl⟩ := List.mem_map.mp hd
          obtain ⟨v0, v1⟩ := hS.2 v hv
          exact ⟨_, s_b1, by simp [get_pl v0 v1, get1]⟩
      have keyG : dLcL (b1 13) (dCmp eqD (dOp getD (dOp getD (dVar 0) (dVar 13)) (dC (.int 1))) (dVar 4)) (dVar 13) [some (encGr ps), some (.tuple (S.map .int)), some (.list (encI ps.length w)), some (.list (encR ps.length mv)), some (.int k), some (.int who), none, none, none, none, none, none, none, none] (S.map .int) = .ok (G.map .int) := by
        rw [hGd]
        exact lc_ints fun v hv => by
          obtain ⟨v0, v1⟩ := hS.2 v hv
          exact ⟨_, s_b1, by simp [get_pl v0 v1, get1], by simp⟩
      have emax : maxC [.list ((S.map fun v => (pl ps v).m).map .int)] = some (.int k) := by
        have : ∀ L : List Int, L.max? = some k → maxC [.list (L.map .int)] = some (.int k) := fun L h => by simp [maxC, h]
        exact this _ hk
      generalize (S.map fun v => (pl ps v).m) = Ms at keyM emax
      have eP1 := e_pulled hS hG hw hGS (by omega) hp (who := who)
      have P1 := pull_ok (ps := ps) (who := who) hS hGS
      unfold encPul at eP1
      generalize ranks ps S who G = R1 at eP1 P1
      generalize mvP ps S who R1 = st1 at *
      have eW1 := e_without S (dom S R1)
      have hT1 : Sub ps.length (restS S R1) := hS.filter _
      obtain ⟨w1, mv1, er1, hk1, S1⟩ := e_solve hg hn m (restS S R1) w mv hT1 (rest_whole P1 hw) (by have := rest_lt P1 hG0; omega)
      obtain ⟨L, hLd⟩ : ∃ L, L = (restS S R1).filter fun v => !decide (w1 v = who) := ⟨_, rfl⟩
      have memL : ∀ v, v ∈ L ↔ v ∈ restS S R1 ∧ w1 v ≠ who := fun v => by rw [hLd, List.mem_filter]; simp
      have keyL : ∀ x8, dLcL (b1 13) (dCmp neD (dOp getD (dVar 2) (dVar 13)) (dVar 5)) (dVar 13) [some (encGr ps), some (.tuple (S.map .int)), some (.list (encI ps.length w1)), some (.list (encR ps.length mv1)), some (.int k), some (.int who), some (.tuple (G.map .int)), some (.tuple ((dom S R1).map .int)), some x8, some (.tuple (encR ps.length st1)), some (.tuple ((restS S R1).map .int)), none, none, none] ((restS S R1).map .int) = .ok (L.map .int) := fun x8 => by
        rw [hLd]
        exact lc_ints fun v hv => by
          obtain ⟨v0, v1⟩ := hT1.2 v hv
          exact ⟨_, s_b1, by simp [get_l, encI_at v0 v1], by simp⟩
      have nearR : ∀ v, v ∈ dom S R1 → v ∉ restS S R1 := fun v h z => (mem_dom.mp h).2 (mem_rest.mp z).2
      have own01 : ∀ v ∈ S, (pl ps v).o = 0 ∨ (pl ps v).o = 1 := fun v hv => by
        obtain ⟨v0, v1⟩ := hS.2 v hv
        have p := hg.ok _ (pl_mem v0 v1)
        have := p.o0
        have := p.o1
        omega
      have inD : ∀ v ∈ dom S R1, 0 ≤ v ∧ v < ps.length := fun v hv => hS.2 v (mem_dom.mp hv).1
      by_cases hL0 : L = []
      · -- all of the rest is won by who
        have allw : ∀ v ∈ restS S R1, w1 v = who := fun v hv => by
          refine Classical.byContradiction fun z => ?_
          have := (memL v).mpr ⟨hv, z⟩
          rw [hL0] at this; cases this
        have eLay := e_lay (ps := ps) (P := dom S R1) (A := S) (T := G) (who := who) (w := w1) (mv := mv1) (st := st1) inD (fun v hv _ _ => hw v (mem_dom.mp hv).1)
        have hmin : ∀ v ∈ S, ∃ g, (within ps v S).min? = some g ∧ g ∈ within ps v S := fun v hv => by
          cases e : (within ps v S).min? with
          | none => exact absurd (List.min?_eq_none_iff.mp e) (hw v hv)
          | some g => exact ⟨g, rfl, List.min?_mem e⟩
        have W1 : Win ps (restS S R1) who (fun v => v ∈ restS S R1) mv1 := (S1.win who hw01).congr (fun v => ⟨fun h => ⟨h, allw v h⟩, fun h => h.1⟩) fun _ _ => rfl
        have m0 : ∀ v ∈ restS S R1, layM ps mv1 who (dom S R1) S G st1 v = mv1 v := fun v hv => if_neg fun z => nearR v z hv
        have WA := win_all P1 hw hwho.symm memG hkle (T := restS S R1) (fun v => mem_rest) W1 (mv' := layM ps mv1 who (dom S R1) S G st1) m0 (fun v hr hg ho => by
          unfold layM
          rw [if_pos (mem_dom.mpr ⟨P1.dm v hr, hr⟩), if_pos ho, if_neg hg]) (fun v hv ho => by
          obtain ⟨g, e, hg⟩ := hmin v (hGS v hv)
          refine ⟨g, ?_, hg⟩
          unfold layM
          rw [if_pos (mem_dom.mpr ⟨hGS v hv, by rw [P1.g0 v hv]; exact some_ne⟩), if_pos ho, if_pos hv, e])
        have hww : ∀ v ∈ S, layW w1 who (dom S R1) v = who := fun v hv => by
          unfold layW
          by_cases hr : R1 v = none
          · rw [if_neg fun z => (mem_dom.mp z).2 hr]
            exact allw v (mem_rest.mpr ⟨hv, hr⟩)
          · rw [if_pos (mem_dom.mpr ⟨hv, hr⟩)]
        refine ⟨layW w1 who (dom S R1), layM ps mv1 who (dom S R1) S G st1, ?_, fun v hv => ?_, fun v hv => by rw [hww v hv]; exact hw01, fun v hv ho => ?_, fun i hi => ?_⟩
        · show dDefIO 14 2 3 (b_solve (d_solve m)) _ = _
          have hS0' : ¬ S = [] := hS0
          have key := keyL (.tuple (encR ps.length R1))
          rw [hL0] at key
          have eR : (S.filter fun v => !decide (v ∈ dom S R1)) = restS S R1 := rfl
          rw [eR] at eW1
          simp [b_solve, hS0', keyM [], emax, ← hwho, keyG, eP1, eW1, er1, key, eLay, ioOf]
        · have h1 : v ∉ dom S R1 := fun z => hv (mem_dom.mp z).1
          have h2 : v ∉ restS S R1 := fun z => hv (mem_rest.mp z).1
          exact ⟨(if_neg h1).trans (hk1 v h2).1, (if_neg h1).trans (hk1 v h2).2⟩
        · rw [hww v hv] at ho
          by_cases hr : R1 v = none
          · have ht := mem_rest.mpr ⟨hv, hr⟩
            rw [m0 v ht]
            exact S1.mn v ht (by rw [allw v ht]; exact ho)
          · unfold layM
            rw [if_pos (mem_dom.mpr ⟨hv, hr⟩), if_neg ho]
        · by_cases e : i = who
          · subst e
            exact WA.congr (fun v => ⟨fun h => h.1, fun h => ⟨h, hww v h⟩⟩) fun _ _ => rfl
          · exact (Win.none ps S i mv).congr (fun v => ⟨fun h => e (by rw [← h.2, hww v h.1]), fun h => h.elim⟩) fun v h => h.elim
      · -- the other one wins some of the rest
        obtain ⟨j, hj⟩ : ∃ j, j = 1 - who := ⟨_, rfl⟩
        have hj01 : j = 0 ∨ j = 1 := by omega
        have hjw : j ≠ who := by omega
        have hLS : ∀ v ∈ L, v ∈ S := fun v h => (mem_rest.mp ((memL v).mp h).1).1
        have hLsub : Sub ps.length L := by rw [hLd]; exact hT1.filter _
        have w1j : ∀ v ∈ L, w1 v = j := fun v h => by
          obtain ⟨a, b⟩ := (memL v).mp h
          have := S1.w01 v a
          omega
        have eP2 := e_pulled hS hLsub hw hLS (by omega) hp (who := j)
        have P2 := pull_ok (ps := ps) (who := j) hS hLS
        unfold encPul at eP2
        generalize ranks ps S j L = R2 at eP2 P2
        generalize mvP ps S j R2 = st2 at *
        have eW2 := e_without (dom S R2) L
        have eW3 := e_without S (dom S R2)
        obtain ⟨A, hAd⟩ : ∃ A, A = (dom S R2).filter fun v => !decide (v ∈ L) := ⟨_, rfl⟩
        have memA : ∀ v, v ∈ A ↔ (v ∈ S ∧ R2 v ≠ none) ∧ v ∉ L := fun v => by rw [hAd, List.mem_filter, mem_dom]; simp
        have eLay := e_lay (ps := ps) (P := A) (A := []) (T := []) (who := j) (w := w1) (mv := mv1) (st := st2) (fun v hv => hS.2 v ((memA v).mp hv).1.1) (fun v _ h => by cases h)
        have hT2 : Sub ps.length (restS S R2) := hS.filter _
        obtain ⟨w3, mv3, er3, hk3, S3⟩ := e_solve hg hn m (restS S R2) (layW w1 j A) (layM ps mv1 j A [] [] st2) hT2 (rest_whole P2 hw) (by have := rest_lt P2 hL0; omega)
        have LR2 : ∀ v ∈ L, R2 v ≠ none := fun v h => by rw [P2.g0 v h]; exact some_ne
        have nr2 : ∀ v, R2 v ≠ none → v ∉ restS S R2 := fun v h z => h (mem_rest.mp z).2
        have v3L : ∀ v ∈ L, w3 v = j ∧ mv3 v = mv1 v := fun v h => by
          have := hk3 v (nr2 v (LR2 v h))
          have na : v ∉ A := fun z => ((memA v).mp z).2 h
          exact ⟨(this.1.trans (if_neg na)).trans (w1j v h), this.2.trans (if_neg na)⟩
        have v3A : ∀ v, R2 v ≠ none → v ∉ L → w3 v = j ∧ mv3 v = if (pl ps v).o = j then st2 v else none := fun v h hl => by
          have := hk3 v (nr2 v h)
          have ya : v ∈ A := (memA v).mpr ⟨⟨P2.dm v h, h⟩, hl⟩
          refine ⟨this.1.trans (if_pos ya), this.2.trans ?_⟩
          unfold layM
          rw [if_pos ya]
          split
          · rw [if_neg (by intro z; cases z)]
          · rfl
        have h1 : Win ps (restS S R1) j (fun v => v ∈ L) mv1 := (S1.win j hj01).congr (fun v => ⟨fun h => ⟨((memL v).mp h).1, w1j v h⟩, fun h => (memL v).mpr ⟨h.1, by rw [h.2]; exact hjw⟩⟩) fun _ _ => rfl
        have WL := win_lost P2 (T := restS S R2) (fun v => mem_rest) (U := restS S R1) (fun v h => (mem_rest.mp h).1) (fun v h => ((memL v).mp h).1) (fun v h ho g hg => by
          obtain ⟨a, _⟩ := (memL v).mp h
          obtain ⟨b1', b2'⟩ := mem_rest.mp a
          have ow : (pl ps v).o = who := by have := own01 v b1'; omega
          exact mem_rest.mpr ⟨(mem_within.mp hg).2, P1.nown v b1' b2' ow g hg⟩) h1 (S3.win j hj01) (mv' := mv3) (fun v h => (v3L v h).2) (fun v hr hl ho => by rw [(v3A v hr hl).2, if_pos ho]) (fun _ _ => rfl)
        have WW := (S3.win who hw01).wider (S := S) (fun v h => (mem_rest.mp h).1) (fun v h ho g hg => by
          obtain ⟨b1', b2'⟩ := mem_rest.mp h.1
          have ow : (pl ps v).o = j := by have := own01 v b1'; omega
          exact mem_rest.mpr ⟨(mem_within.mp hg).2, P2.nown v b1' b2' ow g hg⟩)
        have w3j : ∀ v, R2 v ≠ none → w3 v = j := fun v h => by
          by_cases hl : v ∈ L
          · exact (v3L v hl).1
          · exact (v3A v h hl).1
        refine ⟨w3, mv3, ?_, fun v hv => ?_, fun v hv => ?_, fun v hv ho => ?_, fun i hi => ?_⟩
        · show dDefIO 14 2 3 (b_solve (d_solve m)) _ = _
          have hS0' : ¬ S = [] := hS0
          have hL0' : ¬ L = [] := hL0
          have key := keyL (.tuple (encR ps.length R1))
          have eR : (S.filter fun v => !decide (v ∈ dom S R1)) = restS S R1 := rfl
          have eR2 : (S.filter fun v => !decide (v ∈ dom S R2)) = restS S R2 := rfl
          rw [eR] at eW1
          rw [eR2] at eW3
          rw [← hAd] at eW2
          simp only [List.map_nil] at eLay
          simp [b_solve, hS0', hL0', keyM [], emax, ← hwho, keyG, eP1, eW1, er1, key, ← hj, eP2, eW2, eLay, eW3, er3, ioOf]
        · have h2 : v ∉ restS S R2 := fun z => hv (mem_rest.mp z).1
          have h1' : v ∉ restS S R1 := fun z => hv (mem_rest.mp z).1
          have na : v ∉ A := fun z => hv ((memA v).mp z).1.1
          exact ⟨((hk3 v h2).1.trans (if_neg na)).trans (hk1 v h1').1, ((hk3 v h2).2.trans (if_neg na)).trans (hk1 v h1').2⟩
        · by_cases hr : R2 v = none
          · exact S3.w01 v (mem_rest.mpr ⟨hv, hr⟩)
          · rw [w3j v hr]; exact hj01
        · by_cases hr : R2 v = none
          · exact S3.mn v (mem_rest.mpr ⟨hv, hr⟩) ho
          · rw [w3j v hr] at ho
            by_cases hl : v ∈ L
            · rw [(v3L v hl).2]
              exact S1.mn v ((memL v).mp hl).1 (by rw [w1j v hl]; exact ho)
            · rw [(v3A v hr hl).2, if_neg ho]
        · by_cases e : i = who
          · subst e
            exact WW.congr (fun v => ⟨fun h => ⟨mem_rest.mpr ⟨h.1, Classical.byContradiction fun z => hjw (by rw [← w3j v z, h.2])⟩, h.2⟩, fun h => ⟨(mem_rest.mp h.1).1, h.2⟩⟩) fun _ _ => rfl
          · have e' : i = j := by omega
            subst e'
            exact WL.congr (fun v => ⟨fun h => by
              by_cases hr : R2 v = none
              · exact .inr ⟨mem_rest.mpr ⟨h.1, hr⟩, h.2⟩
              · exact .inl hr, fun h => by
              rcases h with h | h
              · exact ⟨P2.dm v h, w3j v h⟩
              · exact ⟨(mem_rest.mp h.1).1, h.2⟩⟩) fun _ _ => rfl
end
theorem rep_mulI (n : Nat) (a : Int) (h : n ≤ 1000) : mulD (.list [.int a]) (.int n) = some (.list (encI n fun _ => a)) := by
  show (if _ then _ else _) = _
  rw [if_pos ⟨by omega, by omega, by simp⟩]
  rw [show ((n : Nat) : Int).toNat = n by omega, List.flatten_replicate_singleton]
  congr 2
  symm
  unfold encI
  rw [List.eq_replicate_iff]
  refine ⟨by simp [rngI_len], fun b hb => ?_⟩
  obtain ⟨_, _, rfl⟩ := List.mem_map.mp hb
  rfl
/-! ### the whole ground -/
theorem rep_mulN (n : Nat) (h : n ≤ 1000) : mulD (.list [.none]) (.int n) = some (.list (encR n fun _ => none)) := by
  show (if _ then _ else _) = _
  rw [if_pos ⟨by omega, by omega, by simp⟩]
  rw [show ((n : Nat) : Int).toNat = n by omega, rep_none]
theorem all_within {ps : List Place} {hi : Int} (hg : GOk hi ps) {v : Int} (v0 : 0 ≤ v) (v1 : v < ps.length) : within ps v (rngI 0 ps.length) = (pl ps v).gs := List.filter_eq_self.mpr fun g hg' => by
  have := (hg.ok _ (pl_mem v0 v1)).rg g hg'
  have : g ∈ rngI 0 ps.length := rngI_mem.mpr (by omega)
  simpa using this
theorem all_whole {ps : List Place} {hi : Int} (hg : GOk hi ps) : wholeP ps (rngI 0 ps.length) := fun v hv => by
  have := rngI_mem.mp hv
  rw [all_within hg (by omega) (by omega)]
  exact (hg.ok _ (pl_mem (by omega) (by omega))).ne
/-! ### won -/
theorem e_won {ps : List Place} {hi : Int} (hg : GOk hi ps) (hn : ps.length ≤ 24) : ∃ w mv, d_won [encGr ps] = .ok (.tuple [.tuple (encI ps.length w), .tuple (encR ps.length mv)]) ∧ Sol ps (rngI 0 ps.length) w mv := by
  obtain ⟨w, mv, e, _, S⟩ := e_solve hg hn 26 (rngI 0 ps.length) (fun _ => 0) (fun _ => none) (sub_rng _) (all_whole hg) (by rw [rngI_len]; omega)
  refine ⟨w, mv, ?_, S⟩
  have r0 := rep_mulI ps.length 0 (by omega)
  have r1 := rep_mulN ps.length (by omega)
  have hb : -100000 ≤ (ps.length : Int) ∧ (ps.length : Int) ≤ 100000 := by omega
  have er : rngD 0 ps.length = (rngI 0 ps.length).map .int := rngD_I _ _
  simp [d_won, b_won, len_gr, r0, r1, hb, er, e]
/-! ### only one of the two wins from a place -/
/-- a map that stays in a list of places comes round -/
theorem ring_in (f : Int → Int) : ∀ (m : Nat) (L : List Int), L.length < m → L ≠ [] → (∀ v ∈ L, f v ∈ L) → ∃ x ∈ L, Pth (fun a b => b = f a) x x
  | 0, L, h, _, _ => by omega
  | m + 1, L, h, hL, hf => by
    obtain ⟨x, hx⟩ : ∃ x, x ∈ L := List.exists_mem_of_ne_nil L hL
    by_cases c : Pth (fun a b => b = f a) x x
    · exact ⟨x, hx, c⟩
    · have hmem : ∀ y, Pth (fun a b => b = f a) x y → y ∈ L := fun y p => by
        induction p with
        | one e => rw [e]; exact hf x hx
        | snoc _ e ih => rw [e]; exact hf _ ih
      obtain ⟨L', hL'⟩ : ∃ L' : List Int, L' = L.filter fun y => @decide (Pth (fun a b => b = f a) x y) (Classical.propDecidable _) := ⟨_, rfl⟩
      have mem' : ∀ y, y ∈ L' ↔ y ∈ L ∧ Pth (fun a b => b = f a) x y := fun y => by rw [hL', List.mem_filter]; simp
      have lt : L'.length < L.length := by
        refine Nat.lt_of_le_of_ne (by rw [hL']; exact List.length_filter_le _ _) fun z => ?_
        have : L' = L := by
          rw [hL'] at z ⊢
          exact List.filter_sublist.eq_of_length z
        have := (mem' x).mp (by rw [this]; exact hx)
        exact c this.2
      have ne : L' ≠ [] := fun z => by
        have := (mem' (f x)).mpr ⟨hf x hx, .one rfl⟩
        rw [z] at this; cases this
      obtain ⟨y, hy, cy⟩ := ring_in f m L' (by omega) ne fun v hv => (mem' _).mpr ⟨hf v ((mem' v).mp hv).1, .snoc ((mem' v).mp hv).2 rfl⟩
      exact ⟨y, ((mem' y).mp hy).1, cy⟩
theorem ring_back {f : Int → Int} {x u : Int} (c : Pth (fun a b => b = f a) x x) (p : Pth (fun a b => b = f a) x u) : Pth (fun a b => b = f a) u x := by
  have one : ∀ a b : Int, Pth (fun a b => b = f a) a x → b = f a → Pth (fun a b => b = f a) b x := fun a b q e => by
    obtain ⟨d, e1, e2⟩ := q.first
    have : b = d := by rw [e, e1]
    rw [this]
    rcases e2 with e2 | e2
    · rw [e2]; exact c
    · exact e2
  induction p with
  | one e => exact one _ _ c e
  | snoc _ e ih => exact one _ _ ih e
theorem max_in {m : Int → Int} : ∀ {L : List Int}, L ≠ [] → ∃ u ∈ L, ∀ y ∈ L, m y ≤ m u
  | [], h => absurd rfl h
  | [a], _ => ⟨a, List.mem_cons_self, fun y hy => by simp at hy; rw [hy]; exact Int.le_refl _⟩
  | a :: b :: L, _ => by
    obtain ⟨u, hu, h⟩ := max_in (m := m) (L := b :: L) (by simp)
    by_cases c : m u ≤ m a
    · refine ⟨a, List.mem_cons_self, fun y hy => ?_⟩
      rcases List.mem_cons.mp hy with z | z
      · rw [z]; exact Int.le_refl _
      · exact Int.le_trans (h y z) c
    · refine ⟨u, List.mem_cons_of_mem _ hu, fun y hy => ?_⟩
      rcases List.mem_cons.mp hy with z | z
      · rw [z]; omega
      · exact h y z
/-- from one place only one of the two wins -/
theorem win_uni {ps : List Place} {S : List Int} {i j : Int} {W W' : Int → Prop} {mv mv' : Int → Option Int} (h : Win ps S i W mv) (h' : Win ps S j W' mv') (hij : (i = 0 ∧ j = 1) ∨ (i = 1 ∧ j = 0)) (o01 : ∀ v ∈ S, (pl ps v).o = 0 ∨ (pl ps v).o = 1) {v : Int} (hv : W v) (hv' : W' v) : False := by
  obtain ⟨f, hf⟩ : ∃ f : Int → Int, f = fun x => if (pl ps x).o = i then (mv x).getD 0 else (mv' x).getD 0 := ⟨_, rfl⟩
  have st : ∀ x, W x → W' x → stp ps S i mv x (f x) ∧ stp ps S j mv' x (f x) := fun x hx hx' => by
    have := o01 x (h.sub x hx)
    by_cases ho : (pl ps x).o = i
    · obtain ⟨g, e, h1, h2⟩ := h.own x hx ho
      have e2 : f x = g := by rw [hf]; simp [ho, e]
      rw [e2]
      exact ⟨.inl ⟨ho, e⟩, .inr ⟨by omega, mem_within.mpr ⟨h1, h.sub g h2⟩⟩⟩
    · have ho' : (pl ps x).o = j := by omega
      obtain ⟨g, e, h1, h2⟩ := h'.own x hx' ho'
      have e2 : f x = g := by rw [hf]; simp [ho, e]
      rw [e2]
      exact ⟨.inr ⟨ho, mem_within.mpr ⟨h1, h'.sub g h2⟩⟩, .inl ⟨ho', e⟩⟩
  obtain ⟨L, hL⟩ : ∃ L : List Int, L = S.filter fun y => @decide (W y ∧ W' y) (Classical.propDecidable _) := ⟨_, rfl⟩
  have memL : ∀ y, y ∈ L ↔ y ∈ S ∧ W y ∧ W' y := fun y => by rw [hL, List.mem_filter]; simp
  have stay : ∀ y ∈ L, f y ∈ L := fun y hy => by
    obtain ⟨_, h1, h2⟩ := (memL y).mp hy
    obtain ⟨s1, s2⟩ := st y h1 h2
    have := h.stay h1 s1
    exact (memL _).mpr ⟨h.sub _ this, this, h'.stay h2 s2⟩
  have inL := (memL v).mpr ⟨h.sub v hv, hv, hv'⟩
  obtain ⟨x, hx, c⟩ := ring_in f (L.length + 1) L (Nat.lt_succ_self _) (fun z => by rw [z] at inL; cases inL) stay
  obtain ⟨R, hR⟩ : ∃ R : List Int, R = L.filter fun y => @decide (Pth (fun a b => b = f a) x y) (Classical.propDecidable _) := ⟨_, rfl⟩
  have memR : ∀ y, y ∈ R ↔ y ∈ L ∧ Pth (fun a b => b = f a) x y := fun y => by rw [hR, List.mem_filter]; simp
  have inR := (memR x).mpr ⟨hx, c⟩
  obtain ⟨u, hu, hmax⟩ := max_in (m := fun y => (pl ps y).m) (L := R) (fun z => by rw [z] at inR; cases inR)
  obtain ⟨huL, pu⟩ := (memR u).mp hu
  obtain ⟨_, hWu, hWu'⟩ := (memL u).mp huL
  have cu : Pth (fun a b => b = f a) u u := (ring_back c pu).trans pu
  have stepR : ∀ a b, a ∈ R → b = f a → b ∈ R ∧ (stpm ps S i mv (pl ps u).m a b ∧ stpm ps S j mv' (pl ps u).m a b) := fun a b ha e => by
    obtain ⟨haL, pa⟩ := (memR a).mp ha
    obtain ⟨_, h1, h2⟩ := (memL a).mp haL
    obtain ⟨s1, s2⟩ := st a h1 h2
    have hb : b ∈ R := (memR b).mpr ⟨by rw [e]; exact stay a haL, .snoc pa e⟩
    rw [← e] at s1 s2
    exact ⟨hb, ⟨s1, hmax b hb⟩, s2, hmax b hb⟩
  have q1 := (Pth.inv (P := fun y => y ∈ R) (E' := stpm ps S i mv (pl ps u).m) (fun a b ha e => ⟨(stepR a b ha e).1, (stepR a b ha e).2.1⟩) hu cu).2
  have q2 := (Pth.inv (P := fun y => y ∈ R) (E' := stpm ps S j mv' (pl ps u).m) (fun a b ha e => ⟨(stepR a b ha e).1, (stepR a b ha e).2.2⟩) hu cu).2
  by_cases hk : (pl ps u).m % 2 = i
  · exact h'.cyc u hWu' (by omega) q2
  · exact h.cyc u hWu hk q1
/-- who wins is told by a certificate -/
theorem Sol.iff {ps : List Place} {S : List Int} {w : Int → Int} {mv : Int → Option Int} (T : Sol ps S w mv) (o01 : ∀ v ∈ S, (pl ps v).o = 0 ∨ (pl ps v).o = 1) {i : Int} (hi : i = 0 ∨ i = 1) {W : Int → Prop} {mv' : Int → Option Int} (h : Win ps S i W mv') {v : Int} (hv : W v) : w v = i := by
  have hS := h.sub v hv
  refine Classical.byContradiction fun z => ?_
  have := T.w01 v hS
  exact win_uni h (T.win (1 - i) (by omega)) (by omega) o01 hv ⟨hS, by omega⟩
/-! ### grounds by their places -/
def mkG (n : Nat) (P : Int → Place) : List Place := (rngI 0 n).map P
section
variable {n : Nat} {P : Int → Place} {v hi : Int}
theorem mkG_len : (mkG n P).length = n := by simp [mkG, rngI_len]
theorem mkG_pl (h0 : 0 ≤ v) (h1 : v < n) : pl (mkG n P) v = P v := by
  unfold pl mkG
  rw [List.getElem?_map, rngI_get (by omega)]
  show P ((v.toNat : Nat) : Int) = P v
  rw [Int.toNat_of_nonneg h0]
theorem mkG_enc : encGr (mkG n P) = .tuple ((rngI 0 n).map fun v => encP (P v)) := by
  unfold encGr mkG
  rw [List.map_map]
  rfl
theorem mkG_ok (hn : 0 < n) (h : ∀ v : Int, 0 ≤ v → v < n → POk n hi (P v)) : GOk hi (mkG n P) := by
  refine ⟨by rw [mkG_len]; exact hn, fun p hp => ?_⟩
  unfold mkG at hp
  obtain ⟨v, hv, rfl⟩ := List.mem_map.mp hp
  have := rngI_mem.mp hv
  rw [mkG_len]
  exact h v (by omega) (by omega)
end
theorem lc_rng {b : D → List (Option D) → Option (List (Option D))} {elt : List (Option D) → Out D} {ρ : List (Option D)} {f g : Int → D} : ∀ {l : List Int}, (∀ v ∈ l, ∃ ρ1, b (f v) ρ = some ρ1 ∧ elt ρ1 = .ok (g v)) →
    dLcL b dYes elt ρ (l.map f) = .ok (l.map g)
  | [], _ => rfl
  | a :: l, h => by
    obtain ⟨ρ1, h1, h2⟩ := h a List.mem_cons_self
    have ih := lc_rng (l := l) fun v hv => h v (List.mem_cons_of_mem _ hv)
    rw [List.map_cons]
    unfold dLcL
    rw [h1]
    simp [h2, ih]
theorem o01_of {hi : Int} {ps : List Place} (hg : GOk hi ps) : ∀ v ∈ rngI 0 ps.length, (pl ps v).o = 0 ∨ (pl ps v).o = 1 := fun v hv => by
  have := rngI_mem.mp hv
  have p := hg.ok _ (pl_mem (v := v) (by omega) (by omega))
  have := p.o0
  have := p.o1
  omega
/-! ### the law's own going round -/
def waysI (ps : List Place) (i : Int) (mv : Int → Option Int) (v : Int) : List Int := if (pl ps v).o = i then (mv v).toList else (pl ps v).gs
theorem e_ways {ps : List Place} {i v : Int} {mv : Int → Option Int} (v0 : 0 ≤ v) (v1 : v < ps.length) : d__law_ways [encGr ps, .int i, .tuple (encR ps.length mv), .int v] = .ok (.list ((waysI ps i mv v).map .int)) := by
  by_cases ho : (pl ps v).o = i
  · cases hm : mv v with
    | none => simp [d__law_ways, b__law_ways, get_pl v0 v1, get0, ho, get_t, encR_at v0 v1, hm, encM, waysI, dLcL, obO]
    | some g => simp [d__law_ways, b__law_ways, get_pl v0 v1, get0, ho, get_t, encR_at v0 v1, hm, encM, waysI, dLcL, obO]
  · simp [d__law_ways, b__law_ways, get_pl v0 v1, get0, ho, get3, waysI]
/-- a list or a tuple of places -/
structure SeqOf (d : D) (W : List Int) : Prop where
  s : seqD d = .ok (W.map .int)
  i : ∀ x : Int, inD (.int x) d = some (decide (x ∈ W))
theorem seqL (W : List Int) : SeqOf (.list (W.map .int)) W := ⟨rfl, fun x => in_L x W⟩
theorem seqT (W : List Int) : SeqOf (.tuple (W.map .int)) W := ⟨rfl, fun x => in_T x W⟩
theorem SeqOf.n {d : D} {W : List Int} (h : SeqOf d W) (x : Int) : ninD (.int x) d = some (!decide (x ∈ W)) := by
  unfold ninD
  rw [h.i]
  rfl
def insB (ps : List Place) (i : Int) (mv : Int → Option Int) (W : List Int) (v : Int) : Bool := !decide (waysI ps i mv v = []) && (waysI ps i mv v).all fun u => decide (u ∈ W)
theorem e_inside {ps : List Place} {i : Int} {mv : Int → Option Int} {d : D} {W : List Int} (hd : SeqOf d W) (hW : ∀ v ∈ W, 0 ≤ v ∧ v < ps.length) : d__law_inside [encGr ps, .int i, .tuple (encR ps.length mv), d] = .ok (.bool (W.all (insB ps i mv W))) := by
  have := for_P (enc := D.int) (b := b1 4) (t := l1__law_inside) (P := fun o => (o.seq (dRet (dC (.bool true)))).fin = .ok (.bool (W.all (insB ps i mv W))))
    (fun l ρ => (∃ done, W = done ++ l ∧ done.all (insB ps i mv W) = true) ∧ ∃ y4 y5, ρ = [some (encGr ps), some (.int i), some (.tuple (encR ps.length mv)), some d, y4, y5, none]) (l := W) (ρ := [some (encGr ps), some (.int i), some (.tuple (encR ps.length mv)), some d, none, none, none])
    ⟨⟨[], rfl, rfl⟩, none, none, rfl⟩ (by
      rintro v l ρ ⟨⟨done, hdn, hb⟩, y4, y5, rfl⟩
      have hv : v ∈ W := by rw [hdn]; simp
      obtain ⟨v0, v1⟩ := hW v hv
      have key : dLcL (b1 6) (dCmp ninD (dVar 6) (dVar 3)) (dVar 6) [some (encGr ps), some (.int i), some (.tuple (encR ps.length mv)), some d, some (.int v), some (.list ((waysI ps i mv v).map .int)), none] ((waysI ps i mv v).map .int) = .ok (((waysI ps i mv v).filter fun u => !decide (u ∈ W)).map .int) :=
        lc_ints fun u hu => ⟨_, s_b1, by simp [hd.n], by simp⟩
      have e1 := eq_IL (waysI ps i mv v) []
      have e2 := ne_IL ((waysI ps i mv v).filter fun u => !decide (u ∈ W)) []
      simp only [List.map_nil] at e1 e2
      have ew := e_ways (i := i) (mv := mv) v0 v1
      refine ⟨_, rfl, ?_⟩
      by_cases h1 : waysI ps i mv v = []
      · refine .inr (.inr (.inl ⟨.bool false, ?_, ?_, ?_⟩))
        rotate_left
        · simp [l1__law_inside, ew, e1, h1]
          rfl
        · have : W.all (insB ps i mv W) = false := List.all_eq_false.mpr ⟨v, hv, by unfold insB; rw [h1]; simp⟩
          rw [this]
          rfl
      · by_cases h2 : (waysI ps i mv v).filter (fun u => !decide (u ∈ W)) = []
        · refine .inl ⟨[some (encGr ps), some (.int i), some (.tuple (encR ps.length mv)), some d, some (.int v), some (.list ((waysI ps i mv v).map .int)), none], .inl ?_, ⟨done ++ [v], by rw [hdn]; simp, ?_⟩, _, _, rfl⟩
          · rw [h2] at key e2
            simp at key e2
            generalize waysI ps i mv v = Wv at *
            simp [l1__law_inside, ew, e1, h1, key, e2]
          · rw [List.all_append, hb]
            simp only [List.all_cons, List.all_nil, Bool.and_true, Bool.true_and]
            unfold insB
            rw [decide_eq_false h1]
            simp only [Bool.not_false, Bool.true_and, List.all_eq_true, decide_eq_true_eq]
            intro u hu
            have := List.filter_eq_nil_iff.mp h2 u hu
            simpa using this
        · refine .inr (.inr (.inl ⟨.bool false, ?_, ?_, ?_⟩))
          rotate_left
          · rw [decide_eq_false h2] at e2
            rw [decide_eq_false h1] at e1
            simp [l1__law_inside, ew, e1, key, e2]
            rfl
          · obtain ⟨u, hu⟩ := List.exists_mem_of_ne_nil _ h2
            have hu' := List.mem_filter.mp hu
            have : W.all (insB ps i mv W) = false := List.all_eq_false.mpr ⟨v, hv, by
              unfold insB
              have h3 : (waysI ps i mv v).all (fun u => decide (u ∈ W)) = false := List.all_eq_false.mpr ⟨u, hu'.1, by simpa using hu'.2⟩
              rw [h3]; simp⟩
            rw [this]
            rfl) (by
      rintro ρ ⟨⟨done, hdn, hb⟩, y4, y5, rfl⟩
      rw [List.append_nil] at hdn
      subst hdn
      rw [hb]
      rfl)
  have hs := hd.s
  simp [d__law_inside, b__law_inside, hs]
  exact this
/-- a step by a way to an allowed place -/
def rE (ps : List Place) (i : Int) (mv : Int → Option Int) (A : List Int) (v u : Int) : Prop := u ∈ waysI ps i mv v ∧ u ∈ A
theorem cut1 (a : D) (l : List D) : cutD (a :: l) (some 1) none = l := by
  unfold cutD
  have : HT.sIx (a :: l).length 0 (some 1) = 1 := by
    have := HT.sIx_nat (a :: l).length 0 1
    simpa using this
  rw [this]
  simp [HT.sIx_none]
theorem nodup_sub_le {A B : List Int} (hn : A.Nodup) (h : ∀ v ∈ A, v ∈ B) : A.length ≤ B.length := by
  induction A generalizing B with
  | nil => exact Nat.zero_le _
  | cons a A ih =>
    have hn2 := List.nodup_cons.mp hn
    have ha := h a List.mem_cons_self
    have := ih (B := B.erase a) hn2.2 fun v hv => (List.mem_erase_of_ne (fun z => hn2.1 (by rw [← z]; exact hv))).mpr (h v (List.mem_cons_of_mem _ hv))
    rw [List.length_erase_of_mem ha] at this
    have := List.length_pos_of_mem ha
    simp only [List.length_cons]
    omega
theorem e_reached {ps : List Place} {i s : Int} {mv : Int → Option Int} {d : D} {A : List Int} (hd : SeqOf d A) (hA : ∀ v ∈ A, 0 ≤ v ∧ v < ps.length) (hl : A.length ≤ 24) (hw : ∀ v : Int, 0 ≤ v → v < ps.length → (waysI ps i mv v).length ≤ 60) (s0 : 0 ≤ s) (s1 : s < ps.length) :
    ∃ fd : List Int, d__law_reached [encGr ps, .int i, .tuple (encR ps.length mv), .int s, d] = .ok (.list (fd.map .int)) ∧ ∀ u, u ∈ fd ↔ Pth (rE ps i mv A) s u := by
  obtain ⟨ρ', e, fd, y7, rfl, hiff⟩ := wh_I (c := l2__law_reached) (t := l1__law_reached)
    (fun m ρ => ∃ (fd td : List Int) (y7 : Option D), ρ = [some (encGr ps), some (.int i), some (.tuple (encR ps.length mv)), some (.int s), some d, some (.list (fd.map .int)), some (.list (td.map .int)), y7] ∧
      m = td.length + 61 * (A.length - fd.length) ∧ fd.Nodup ∧ (∀ u ∈ fd, u ∈ A) ∧ td.length ≤ 60 * (fd.length + 1) ∧ (∀ u ∈ fd, Pth (rE ps i mv A) s u) ∧ (∀ u ∈ td, u ∈ A → Pth (rE ps i mv A) s u) ∧
      (∀ u ∈ waysI ps i mv s, u ∈ A → u ∈ fd ∨ u ∈ td) ∧ ∀ x ∈ fd, ∀ u ∈ waysI ps i mv x, u ∈ A → u ∈ fd ∨ u ∈ td)
    (fun ρ => ∃ (fd : List Int) (y7 : Option D), ρ = [some (encGr ps), some (.int i), some (.tuple (encR ps.length mv)), some (.int s), some d, some (.list (fd.map .int)), some (.list []), y7] ∧ ∀ u, u ∈ fd ↔ Pth (rE ps i mv A) s u)
    (by
      rintro m ρ ⟨fd, td, y7, rfl, rfl, nd, sub, lt, sf, st, cs, cf⟩
      have en := ne_IL td []
      simp only [List.map_nil] at en
      cases td with
      | nil =>
        refine .inl ⟨by simp at en; simp [l2__law_reached, en], fd, y7, rfl, fun u => ⟨sf u, fun p => ?_⟩⟩
        induction p with
        | one e =>
          rcases cs _ e.1 e.2 with z | z
          · exact z
          · cases z
        | snoc p e ih =>
          rcases cf _ ih _ e.1 e.2 with z | z
          · exact z
          · cases z
      | cons x td =>
        have hfl := nodup_sub_le nd sub
        simp only [List.length_cons] at lt
        by_cases hx : x ∈ A ∧ x ∉ fd
        · obtain ⟨hxA, hxf⟩ := hx
          obtain ⟨x0, x1⟩ := hA x hxA
          have nd' : (fd ++ [x]).Nodup := List.nodup_append.mpr ⟨nd, by simp, fun a ha b hb => by
            have : b = x := by simpa using hb
            rw [this]
            intro z
            exact hxf (by rw [← z]; exact ha)⟩
          have sub' : ∀ u ∈ fd ++ [x], u ∈ A := fun u hu => by
            rcases List.mem_append.mp hu with z | z
            · exact sub u z
            · have : u = x := by simpa using z
              rw [this]; exact hxA
          have hfl' := nodup_sub_le nd' sub'
          have hwx := hw x x0 x1
          have px := st x List.mem_cons_self hxA
          refine .inr ⟨by simp at en; simp [l2__law_reached, en], _, (td ++ waysI ps i mv x).length + 61 * (A.length - (fd ++ [x]).length), .inl ?_, ?_, fd ++ [x], td ++ waysI ps i mv x, some (.int x), rfl, rfl, nd', sub', ?_, ?_, ?_, ?_, ?_⟩
          · have ew := e_ways (i := i) (mv := mv) x0 x1
            have h1 : fd.length ≤ 100000 := by omega
            have h2 : td.length + (waysI ps i mv x).length ≤ 100000 := by omega
            simp [l1__law_reached, get_l, atI, ixN, sliceD, cut1, hd.i, hxA, nin_L, hxf, h1, ew, addD, h2]
          · simp only [List.length_append, List.length_cons, List.length_nil] at hfl' ⊢
            omega
          · simp only [List.length_append, List.length_cons, List.length_nil]
            omega
          · intro u hu
            rcases List.mem_append.mp hu with z | z
            · exact sf u z
            · have : u = x := by simpa using z
              rw [this]; exact px
          · intro u hu hA'
            rcases List.mem_append.mp hu with z | z
            · exact st u (List.mem_cons_of_mem _ z) hA'
            · exact .snoc px ⟨z, hA'⟩
          · intro u hu hA'
            rcases cs u hu hA' with z | z
            · exact .inl (List.mem_append_left _ z)
            · rcases List.mem_cons.mp z with z | z
              · exact .inl (by rw [z]; simp)
              · exact .inr (List.mem_append_left _ z)
          · intro y hy u hu hA'
            rcases List.mem_append.mp hy with z | z
            · rcases cf y z u hu hA' with z | z
              · exact .inl (List.mem_append_left _ z)
              · rcases List.mem_cons.mp z with z | z
                · exact .inl (by rw [z]; simp)
                · exact .inr (List.mem_append_left _ z)
            · have : y = x := by simpa using z
              rw [this] at hu
              exact .inr (List.mem_append_right _ hu)
        · have old : ∀ u, u ∈ A → u = x → u ∈ fd := fun u hu e => by
            refine Classical.byContradiction fun z => hx ⟨by rw [← e]; exact hu, by rw [← e]; exact z⟩
          refine .inr ⟨by simp at en; simp [l2__law_reached, en], _, td.length + 61 * (A.length - fd.length), .inl ?_, by simp only [List.length_cons]; omega, fd, td, some (.int x), rfl, rfl, nd, sub, by omega, sf, fun u hu => st u (List.mem_cons_of_mem _ hu), ?_, ?_⟩
          · by_cases h1 : x ∈ A
            · have h2 : x ∈ fd := old x h1 rfl
              simp [l1__law_reached, get_l, atI, ixN, sliceD, cut1, hd.i, h1, nin_L, h2]
            · simp [l1__law_reached, get_l, atI, ixN, sliceD, cut1, hd.i, h1]
          · intro u hu hA'
            rcases cs u hu hA' with z | z
            · exact .inl z
            · rcases List.mem_cons.mp z with z | z
              · exact .inl (old u hA' z)
              · exact .inr z
          · intro y hy u hu hA'
            rcases cf y hy u hu hA' with z | z
            · exact .inl z
            · rcases List.mem_cons.mp z with z | z
              · exact .inl (old u hA' z)
              · exact .inr z)
    (n := (waysI ps i mv s).length + 61 * (A.length - 0)) (fuel := 100000) (ρ := [some (encGr ps), some (.int i), some (.tuple (encR ps.length mv)), some (.int s), some d, some (.list []), some (.list ((waysI ps i mv s).map .int)), none])
    ⟨[], waysI ps i mv s, none, rfl, rfl, List.nodup_nil, fun u hu => (by cases hu), by have := hw s s0 s1; simp; omega, fun u hu => (by cases hu), fun u hu hA' => .one ⟨hu, hA'⟩, fun u hu _ => .inr hu, fun x hx => (by cases hx)⟩ (by have := hw s s0 s1; omega)
  refine ⟨fd, ?_, hiff⟩
  have ew := e_ways (i := i) (mv := mv) s0 s1
  generalize waysI ps i mv s = Ws at *
  simp [d__law_reached, b__law_reached, ew, e]
theorem ways_len {ps : List Place} {hi i : Int} {mv : Int → Option Int} (hg : GOk hi ps) (v : Int) (v0 : 0 ≤ v) (v1 : v < ps.length) : (waysI ps i mv v).length ≤ 60 := by
  unfold waysI
  split
  · cases mv v <;> simp
  · exact (hg.ok _ (pl_mem v0 v1)).le
/-! ### wins by marks, as the law asks it -/
def lowW (ps : List Place) (W : List Int) (v : Int) : List Int := W.filter fun u => decide ((pl ps u).m ≤ (pl ps v).m)
def goodV (ps : List Place) (i : Int) (mv : Int → Option Int) (W : List Int) (v : Int) : Prop := (pl ps v).m % 2 ≠ i → ¬ Pth (rE ps i mv (lowW ps W v)) v v
theorem e_wins {ps : List Place} {i : Int} {mv : Int → Option Int} {d : D} {W : List Int} (hd : SeqOf d W) (hW : ∀ v ∈ W, 0 ≤ v ∧ v < ps.length) (hl : W.length ≤ 24) (hw : ∀ v : Int, 0 ≤ v → v < ps.length → (waysI ps i mv v).length ≤ 60) :
    ∃ b, d__law_wins_by_marks [encGr ps, .int i, .tuple (encR ps.length mv), d] = .ok (.bool b) ∧ (b = true ↔ W.all (insB ps i mv W) = true ∧ ∀ v ∈ W, goodV ps i mv W v) := by
  have ei := e_inside (i := i) (mv := mv) hd hW
  have hs := hd.s
  cases hb : W.all (insB ps i mv W) with
  | false =>
    rw [hb] at ei
    exact ⟨false, by simp [d__law_wins_by_marks, b__law_wins_by_marks, ei], by simp⟩
  | true =>
    rw [hb] at ei
    obtain ⟨b, e, hiff⟩ := for_P (enc := D.int) (b := b1 4) (t := l1__law_wins_by_marks) (P := fun o => ∃ b, (o.seq (dRet (dC (.bool true)))).fin = .ok (.bool b) ∧ (b = true ↔ ∀ v ∈ W, goodV ps i mv W v))
      (fun l ρ => (∃ done, W = done ++ l ∧ ∀ v ∈ done, goodV ps i mv W v) ∧ ∃ y4 y5 y6, ρ = [some (encGr ps), some (.int i), some (.tuple (encR ps.length mv)), some d, y4, y5, y6, none]) (l := W) (ρ := [some (encGr ps), some (.int i), some (.tuple (encR ps.length mv)), some d, none, none, none, none])
      ⟨⟨[], rfl, fun v h => by cases h⟩, none, none, none, rfl⟩ (by
        rintro v l ρ ⟨⟨done, hdn, hgd⟩, y4, y5, y6, rfl⟩
        have hv : v ∈ W := by rw [hdn]; simp
        obtain ⟨v0, v1⟩ := hW v hv
        have key : dLcL (b1 7) (dCmp leD (dOp getD (dOp getD (dVar 0) (dVar 7)) (dC (.int 1))) (dOp getD (dOp getD (dVar 0) (dVar 4)) (dC (.int 1)))) (dVar 7) [some (encGr ps), some (.int i), some (.tuple (encR ps.length mv)), some d, some (.int v), y5, y6, none] (W.map .int) = .ok ((lowW ps W v).map .int) :=
          lc_ints fun u hu => by
            obtain ⟨u0, u1⟩ := hW u hu
            exact ⟨_, s_b1, by simp [get_pl u0 u1, get_pl v0 v1, get1], by simp⟩
        have lsub : ∀ u ∈ lowW ps W v, u ∈ W := fun u hu => (List.mem_filter.mp hu).1
        obtain ⟨fd, er, hfd⟩ := e_reached (i := i) (mv := mv) (s := v) (seqL (lowW ps W v)) (fun u hu => hW u (lsub u hu)) (Nat.le_trans (List.length_filter_le _ _) hl) hw v0 v1
        refine ⟨_, rfl, ?_⟩
        by_cases hm : (pl ps v).m % 2 = i
        · refine .inl ⟨?_, .inl ?_, ?_⟩
          rotate_left
          · simp [l1__law_wins_by_marks, hs, key, er, get_pl v0 v1, get1, hm]
            rfl
          · exact ⟨⟨done ++ [v], by rw [hdn]; simp, fun u hu => by
              rcases List.mem_append.mp hu with z | z
              · exact hgd u z
              · have : u = v := by simpa using z
                rw [this]; exact fun z => absurd hm z⟩, _, _, _, rfl⟩
        · by_cases hf : v ∈ fd
          · refine .inr (.inr (.inl ⟨.bool false, ?_, ?_, ?_⟩))
            rotate_left
            · simp [l1__law_wins_by_marks, hs, key, er, get_pl v0 v1, get1, hm, in_L, hf]
              rfl
            · refine ⟨false, rfl, ?_⟩
              constructor
              · intro z; cases z
              · intro z; exact absurd ((hfd v).mp hf) (z v hv hm)
          · refine .inl ⟨?_, .inl ?_, ?_⟩
            rotate_left
            · simp [l1__law_wins_by_marks, hs, key, er, get_pl v0 v1, get1, hm, in_L, hf]
              rfl
            · exact ⟨⟨done ++ [v], by rw [hdn]; simp, fun u hu => by
                rcases List.mem_append.mp hu with z | z
                · exact hgd u z
                · have : u = v := by simpa using z
                  rw [this]; exact fun _ p => hf ((hfd v).mpr p)⟩, _, _, _, rfl⟩) (by
        rintro ρ ⟨⟨done, hdn, hgd⟩, y4, y5, y6, rfl⟩
        rw [List.append_nil] at hdn
        subst hdn
        exact ⟨true, rfl, fun _ => hgd, fun _ => rfl⟩)
    refine ⟨b, ?_, by rw [hiff]; simp⟩
    simp [d__law_wins_by_marks, b__law_wins_by_marks, ei, hs]
    exact e
/-- what is won, as the law asks it -/
theorem win_ins {ps : List Place} {hi i : Int} {mv : Int → Option Int} {W : List Int} (hg : GOk hi ps) (h : Win ps (rngI 0 ps.length) i (fun v => v ∈ W) mv) : W.all (insB ps i mv W) = true ∧ ∀ v ∈ W, goodV ps i mv W v := by
  have rg : ∀ v ∈ W, 0 ≤ v ∧ v < ps.length := fun v hv => by have := rngI_mem.mp (h.sub v hv); omega
  have st : ∀ x y, x ∈ W → y ∈ waysI ps i mv x → stp ps (rngI 0 ps.length) i mv x y := fun x y hx hy => by
    obtain ⟨x0, x1⟩ := rg x hx
    unfold waysI at hy
    by_cases ho : (pl ps x).o = i
    · rw [if_pos ho] at hy
      exact .inl ⟨ho, by simpa using hy⟩
    · rw [if_neg ho] at hy
      exact .inr ⟨ho, by rw [all_within hg x0 x1]; exact hy⟩
  refine ⟨List.all_eq_true.mpr fun v hv => ?_, fun v hv hm c => h.cyc v hv hm ?_⟩
  · obtain ⟨v0, v1⟩ := rg v hv
    unfold insB
    have hne : waysI ps i mv v ≠ [] := by
      unfold waysI
      by_cases ho : (pl ps v).o = i
      · obtain ⟨g, eg, _⟩ := h.own v hv ho
        rw [if_pos ho, eg]
        simp
      · rw [if_neg ho]
        exact (hg.ok _ (pl_mem v0 v1)).ne
    rw [decide_eq_false hne]
    simp only [Bool.not_false, Bool.true_and, List.all_eq_true, decide_eq_true_eq]
    exact fun u hu => h.stay hv (st v u hv hu)
  · exact (Pth.inv (P := fun u => u ∈ W) (E' := stpm ps (rngI 0 ps.length) i mv (pl ps v).m) (fun x y hx e => by
      have hy := List.mem_filter.mp e.2
      exact ⟨hy.1, st x y hx e.1, by simpa using hy.2⟩) hv c).2
/-! ### measures: the least greater row of counts -/
def rsI : List Int → List Int → Option (List Int)
  | [], _ => none
  | c :: cs, ks => match rsI cs ks.tail with
    | some r => some (c :: r)
    | none => if c < ks.headD 0 then some ((c + 1) :: List.replicate cs.length 0) else none
theorem rsI_len : ∀ {cs ks r : List Int}, rsI cs ks = some r → r.length = cs.length
  | [], _, _, h => by cases h
  | c :: cs, ks, r, h => by
    unfold rsI at h
    cases e : rsI cs ks.tail with
    | some r' =>
      rw [e] at h
      cases h
      simp [rsI_len e]
    | none =>
      rw [e] at h
      dsimp only at h
      split at h
      · cases h
        simp
      · cases h
/-- from the end: what stands before position n stays, what stands behind is nought -/
theorem rsI_app : ∀ (a b ks : List Int), (rsI b (ks.drop a.length) = none → rsI (a ++ b) ks = match rsI a ks with | some r => some (r ++ List.replicate b.length 0) | none => none) ∧ ∀ r, rsI b (ks.drop a.length) = some r → rsI (a ++ b) ks = some (a ++ r)
  | [], b, ks => ⟨fun h => by simpa [rsI] using h, fun r h => by simpa using h⟩
  | c :: a, b, ks => by
    obtain ⟨i1, i2⟩ := rsI_app a b ks.tail
    have hd : ks.drop (c :: a).length = ks.tail.drop a.length := by cases ks <;> simp
    rw [hd]
    constructor
    · intro h
      have := i1 h
      show (match rsI (a ++ b) ks.tail with | some r => some (c :: r) | none => if c < ks.headD 0 then some ((c + 1) :: List.replicate (a ++ b).length 0) else none) = match (match rsI a ks.tail with | some r => some (c :: r) | none => if c < ks.headD 0 then some ((c + 1) :: List.replicate a.length 0) else none) with | some r => some (r ++ List.replicate b.length 0) | none => none
      rw [this]
      cases rsI a ks.tail with
      | some r => rfl
      | none =>
        dsimp only
        by_cases q : c < ks.headD 0
        · rw [if_pos q, if_pos q]
          simp [List.replicate_append_replicate]
        · rw [if_neg q, if_neg q]
    · intro r h
      have := i2 r h
      show (match rsI (a ++ b) ks.tail with | some r => some (c :: r) | none => if c < ks.headD 0 then some ((c + 1) :: List.replicate (a ++ b).length 0) else none) = _
      rw [this]
      rfl
/-! ### the order of int tuples as data (KE.SortData, by way of Pw) -/
theorem pyA_ints : ∀ a : List Int, D.pyA (a.map D.int) = a.map PyData.int
  | [] => rfl
  | x :: a => by
    show PyData.int x :: D.pyA (a.map D.int) = _
    rw [pyA_ints a]
    rfl
theorem lt_me (a b : List Int) : PySem.W.dataLt (D.tuple (a.map .int)).py (D.tuple (b.map .int)).py = decide (a < b) := by
  show PySem.W.dataLt (.tuple (D.pyA (a.map D.int))) (.tuple (D.pyA (b.map D.int))) = _
  rw [pyA_ints, pyA_ints, PySem.W.dataLt_tuple]
  exact PySem.W.dataLt_ints a b
/-! ### rows of counts as whole numbers -/
def pr : List Int → Int
  | [] => 1
  | k :: ks => (k + 1) * pr ks
def vl : List Int → List Int → Int
  | k :: ks, c :: cs => c * pr ks + vl ks cs
  | _, _ => 0
def okR : List Int → List Int → Prop
  | [], [] => True
  | k :: ks, c :: cs => 0 ≤ c ∧ c ≤ k ∧ okR ks cs
  | _, _ => False
theorem okR_len : ∀ {ks a : List Int}, okR ks a → a.length = ks.length
  | [], [], _ => rfl
  | [], _ :: _, h => h.elim
  | _ :: _, [], h => h.elim
  | k :: ks, c :: cs, h => by simp [okR_len h.2.2]
theorem pr_pos : ∀ {ks : List Int}, (∀ k ∈ ks, 0 ≤ k) → 0 < pr ks
  | [], _ => by decide
  | k :: ks, h => Int.mul_pos (by have := h k List.mem_cons_self; omega) (pr_pos fun x hx => h x (List.mem_cons_of_mem _ hx))
theorem okR_ks : ∀ {ks a : List Int}, okR ks a → ∀ k ∈ ks, 0 ≤ k
  | [], _, _, k, hk => by cases hk
  | x :: ks, [], h, _, _ => h.elim
  | x :: ks, c :: cs, h, k, hk => by
    rcases List.mem_cons.mp hk with rfl | z
    · have := h.1
      have := h.2.1
      omega
    · exact okR_ks h.2.2 k z
theorem pr_app : ∀ (a b : List Int), pr (a ++ b) = pr a * pr b
  | [], b => by simp [pr]
  | k :: a, b => by
    show (k + 1) * pr (a ++ b) = (k + 1) * pr a * pr b
    rw [pr_app a b, Int.mul_assoc]
theorem vl_bd : ∀ {ks a : List Int}, okR ks a → 0 ≤ vl ks a ∧ vl ks a < pr ks
  | [], [], _ => by decide
  | [], _ :: _, h => h.elim
  | _ :: _, [], h => h.elim
  | k :: ks, c :: cs, h => by
    obtain ⟨i1, i2⟩ := vl_bd h.2.2
    have h1 := h.1
    have h2 := h.2.1
    show 0 ≤ c * pr ks + vl ks cs ∧ c * pr ks + vl ks cs < (k + 1) * pr ks
    have q1 : 0 ≤ c * pr ks := Int.mul_nonneg h1 (by omega)
    have q2 : c * pr ks ≤ k * pr ks := Int.mul_le_mul_of_nonneg_right h2 (by omega)
    have q3 : (k + 1) * pr ks = k * pr ks + pr ks := by rw [Int.add_mul, Int.one_mul]
    omega
theorem vl_app : ∀ {k1 a1 : List Int} (k2 a2 : List Int), a1.length = k1.length → vl (k1 ++ k2) (a1 ++ a2) = vl k1 a1 * pr k2 + vl k2 a2
  | [], [], k2, a2, _ => by simp [vl]
  | [], _ :: _, _, _, h => by simp at h
  | _ :: _, [], _, _, h => by simp at h
  | k :: k1, c :: a1, k2, a2, h => by
    show c * pr (k1 ++ k2) + vl (k1 ++ k2) (a1 ++ a2) = (c * pr k1 + vl k1 a1) * pr k2 + vl k2 a2
    rw [vl_app k2 a2 (by simpa using h), pr_app, Int.add_mul, Int.mul_assoc, Int.add_assoc]
theorem okR_app : ∀ {k1 a1 k2 a2 : List Int}, okR k1 a1 → okR k2 a2 → okR (k1 ++ k2) (a1 ++ a2)
  | [], [], _, _, _, h => h
  | [], _ :: _, _, _, h, _ => h.elim
  | _ :: _, [], _, _, h, _ => h.elim
  | k :: k1, c :: a1, _, _, h, h' => ⟨h.1, h.2.1, okR_app h.2.2 h'⟩
theorem okR_zero : ∀ {ks : List Int}, (∀ k ∈ ks, 0 ≤ k) → okR ks (List.replicate ks.length 0) ∧ vl ks (List.replicate ks.length 0) = 0
  | [], _ => ⟨trivial, rfl⟩
  | k :: ks, h => by
    obtain ⟨i1, i2⟩ := okR_zero (ks := ks) fun x hx => h x (List.mem_cons_of_mem _ hx)
    refine ⟨⟨Int.le_refl _, h k List.mem_cons_self, i1⟩, ?_⟩
    show 0 * pr ks + vl ks (List.replicate ks.length 0) = 0
    rw [i2, Int.zero_mul]
    rfl
/-- a row of the first counts, and of the others -/
theorem okR_split : ∀ {k1 k2 a : List Int}, okR (k1 ++ k2) a → okR k1 (a.take k1.length) ∧ okR k2 (a.drop k1.length)
  | [], k2, a, h => ⟨by simp [okR], by simpa using h⟩
  | k :: k1, k2, [], h => h.elim
  | k :: k1, k2, c :: a, h => by
    obtain ⟨i1, i2⟩ := okR_split (k1 := k1) (k2 := k2) h.2.2
    exact ⟨⟨h.1, h.2.1, i1⟩, by simpa using i2⟩
theorem vl_split {k1 k2 a : List Int} (h : okR (k1 ++ k2) a) : vl (k1 ++ k2) a / pr k2 = vl k1 (a.take k1.length) := by
  obtain ⟨h1, h2⟩ := okR_split h
  have e := vl_app (k1 := k1) (a1 := a.take k1.length) k2 (a.drop k1.length) (okR_len h1)
  rw [List.take_append_drop] at e
  rw [e]
  obtain ⟨b1, b2⟩ := vl_bd h2
  rw [Int.add_comm, Int.add_mul_ediv_right _ _ (by omega), Int.ediv_eq_zero_of_lt b1 b2]
  omega
/-- rows in order as their numbers -/
theorem lt_vl : ∀ {ks a b : List Int}, okR ks a → okR ks b → (a < b ↔ vl ks a < vl ks b)
  | [], [], [], _, _ => by simp [vl]
  | [], _ :: _, _, h, _ => h.elim
  | [], _, _ :: _, _, h => h.elim
  | _ :: _, [], _, h, _ => h.elim
  | _ :: _, _, [], _, h => h.elim
  | k :: ks, c :: a, d :: b, h, h' => by
    have ih := lt_vl h.2.2 h'.2.2
    obtain ⟨a1, a2⟩ := vl_bd h.2.2
    obtain ⟨b1, b2⟩ := vl_bd h'.2.2
    rw [List.cons_lt_cons_iff, ih]
    show _ ↔ c * pr ks + vl ks a < d * pr ks + vl ks b
    rcases Int.lt_trichotomy c d with q | q | q
    · have : (c + 1) * pr ks ≤ d * pr ks := Int.mul_le_mul_of_nonneg_right (by omega) (by omega)
      rw [Int.add_mul, Int.one_mul] at this
      constructor
      · intro _; omega
      · intro _; exact .inl q
    · subst q
      constructor
      · rintro (z | ⟨_, z⟩) <;> omega
      · intro z; exact .inr ⟨rfl, by omega⟩
    · have : (d + 1) * pr ks ≤ c * pr ks := Int.mul_le_mul_of_nonneg_right (by omega) (by omega)
      rw [Int.add_mul, Int.one_mul] at this
      constructor
      · rintro (z | ⟨z, _⟩) <;> omega
      · intro z; omega
/-- the least greater row -/
theorem rsI_vl : ∀ {k1 a : List Int} (k2 : List Int), okR k1 a → (∀ r, rsI a (k1 ++ k2) = some r → okR k1 r ∧ vl k1 r = vl k1 a + 1) ∧ (rsI a (k1 ++ k2) = none → vl k1 a + 1 = pr k1)
  | [], [], k2, _ => ⟨fun r h => (by cases h), fun _ => rfl⟩
  | [], _ :: _, _, h => h.elim
  | _ :: _, [], _, h => h.elim
  | k :: k1, c :: a, k2, h => by
    obtain ⟨i1, i2⟩ := rsI_vl k2 h.2.2
    have hl := okR_len h.2.2
    have h1 := h.1
    have h2 := h.2.1
    have e : rsI (c :: a) (k :: k1 ++ k2) = match rsI a (k1 ++ k2) with
      | some r => some (c :: r)
      | none => if c < k then some ((c + 1) :: List.replicate a.length 0) else none := rfl
    rw [e]
    cases er : rsI a (k1 ++ k2) with
    | some r =>
      obtain ⟨j1, j2⟩ := i1 r er
      refine ⟨fun r' h' => ?_, fun h' => (by cases h')⟩
      cases h'
      exact ⟨⟨h1, h2, j1⟩, by
        show c * pr k1 + vl k1 r = c * pr k1 + vl k1 a + 1
        omega⟩
    | none =>
      have j := i2 er
      dsimp only
      by_cases q : c < k
      · rw [if_pos q]
        refine ⟨fun r' h' => ?_, fun h' => (by cases h')⟩
        cases h'
        obtain ⟨z1, z2⟩ := okR_zero (okR_ks h.2.2)
        rw [hl]
        refine ⟨⟨by omega, by omega, z1⟩, ?_⟩
        show (c + 1) * pr k1 + vl k1 (List.replicate k1.length 0) = c * pr k1 + vl k1 a + 1
        rw [z2, Int.add_mul, Int.one_mul]
        omega
      · rw [if_neg q]
        refine ⟨fun r' h' => (by cases h'), fun _ => ?_⟩
        show c * pr k1 + vl k1 a + 1 = (k + 1) * pr k1
        have : c = k := by omega
        rw [this, Int.add_mul, Int.one_mul]
        omega
/-! ### measures as whole numbers: beyond is the greatest -/
def okM (ks : List Int) : Option (List Int) → Prop
  | none => True
  | some l => okR ks l
def vM (ks : List Int) : Option (List Int) → Int
  | none => pr ks
  | some l => vl ks l
theorem vM_bd {ks : List Int} (hk : ∀ k ∈ ks, 0 ≤ k) {x : Option (List Int)} (h : okM ks x) : 0 ≤ vM ks x ∧ vM ks x ≤ pr ks ∧ (vM ks x = pr ks ↔ x = none) := by
  cases x with
  | none => exact ⟨Int.le_of_lt (pr_pos hk), Int.le_refl _, by simp [vM]⟩
  | some l =>
    obtain ⟨a, b⟩ := vl_bd (ks := ks) (a := l) h
    refine ⟨a, Int.le_of_lt b, ⟨fun z => ?_, fun z => (by cases z)⟩⟩
    unfold vM at z
    dsimp only at z
    omega
/-- what a place asks for by a goal's measure x, in numbers: P beyond, R the lower counts, e 1 at an odd mark -/
def dueV (P R e x : Int) : Int := if x = P then P else (x / R + e) * R
theorem dueV_le {P K R e x y : Int} (hP : P = K * R) (hR : 0 < R) (hx : 0 ≤ x) (hxP : x ≤ P) (he : e = 0 ∨ e = 1) (hy : y ≤ P) : dueV P R e x ≤ y ↔ y = P ∨ x / R + e ≤ y / R ∧ x < P := by
  unfold dueV
  by_cases q : x = P
  · rw [if_pos q]
    constructor
    · intro h; exact .inl (by omega)
    · rintro (h | ⟨_, h⟩) <;> omega
  · rw [if_neg q]
    have hlt : x < P := by omega
    have h1 : x / R < K := Int.ediv_lt_of_lt_mul hR (by rw [← hP]; exact hlt)
    rw [← Int.le_ediv_iff_mul_le hR]
    constructor
    · intro h; exact .inr ⟨h, hlt⟩
    · rintro (h | ⟨h, _⟩)
      · rw [h, hP, Int.mul_ediv_cancel _ (by omega)]
        omega
      · exact h
theorem dueV_mono {P K R e x y : Int} (hP : P = K * R) (hR : 0 < R) (hx : 0 ≤ x) (he : e = 0 ∨ e = 1) (hxy : x ≤ y) (hy : y ≤ P) : dueV P R e x ≤ dueV P R e y := by
  unfold dueV
  have hd := Int.ediv_le_ediv hR hxy
  by_cases q : y = P
  · rw [if_pos q]
    by_cases q' : x = P
    · rw [if_pos q']; omega
    · rw [if_neg q']
      have h1 : x / R < K := Int.ediv_lt_of_lt_mul hR (by rw [← hP]; omega)
      rw [hP]
      exact Int.mul_le_mul_of_nonneg_right (by omega) (by omega)
  · rw [if_neg q, if_neg (by omega)]
    exact Int.mul_le_mul_of_nonneg_right (by omega) (by omega)
/-! ### the odd marks, the highest first; what is due, in numbers -/
def szM (os : List Int) (m : Int) : Nat := (os.filter fun x => decide (m ≤ x)).length
def dueB (os ks : List Int) (p : Place) : Option (List Int) → Option (List Int)
  | none => none
  | some l => (if p.m % 2 = 1 then rsI (l.take (szM os p.m)) ks else some (l.take (szM os p.m))).map fun r => r ++ List.replicate (os.length - szM os p.m) 0
def desc (os : List Int) : Prop := os.Pairwise fun a b => b < a
def upM (os : List Int) (m : Int) : List Int := os.filter fun x => decide (m ≤ x)
def loM (os : List Int) (m : Int) : List Int := os.filter fun x => decide (x < m)
theorem desc_split {m : Int} : ∀ {os : List Int}, desc os → os = upM os m ++ loM os m
  | [], _ => rfl
  | a :: os, h => by
    have hp := List.pairwise_cons.mp h
    have ih := desc_split (m := m) hp.2
    unfold upM loM at ih ⊢
    by_cases q : m ≤ a
    · rw [List.filter_cons_of_pos (by simpa using q), List.filter_cons_of_neg (by simpa using q), List.cons_append, ← ih]
    · have e1 : os.filter (fun x => decide (m ≤ x)) = [] := List.filter_eq_nil_iff.mpr fun x hx => by
        have := hp.1 x hx
        simp; omega
      have e2 : os.filter (fun x => decide (x < m)) = os := List.filter_eq_self.mpr fun x hx => by
        have := hp.1 x hx
        simp; omega
      rw [List.filter_cons_of_neg (by simpa using q), List.filter_cons_of_pos (by simp; omega), e1, e2]
      rfl
/-- the mark itself stands last among those that are no lower -/
theorem up_last {m : Int} : ∀ {os : List Int}, desc os → m ∈ os → ∃ A, upM os m = A ++ [m]
  | [], _, h => by cases h
  | a :: os, h, hm => by
    have hp := List.pairwise_cons.mp h
    unfold upM
    by_cases q : a = m
    · subst q
      have e1 : os.filter (fun x => decide (a ≤ x)) = [] := List.filter_eq_nil_iff.mpr fun x hx => by
        have := hp.1 x hx
        simp; omega
      rw [List.filter_cons_of_pos (by simp), e1]
      exact ⟨[], rfl⟩
    · have hm' : m ∈ os := by
        rcases List.mem_cons.mp hm with z | z
        · exact absurd z.symm q
        · exact z
      obtain ⟨A, e⟩ := up_last (m := m) hp.2 hm'
      unfold upM at e
      have := hp.1 m hm'
      rw [List.filter_cons_of_pos (by simp; omega), e]
      exact ⟨a :: A, rfl⟩
section
variable {os : List Int} {cap : Int → Int}
def lowR (os : List Int) (cap : Int → Int) (m : Int) : Int := pr ((loM os m).map cap)
def oddE (m : Int) : Int := if m % 2 = 1 then 1 else 0
theorem oddE_01 (m : Int) : oddE m = 0 ∨ oddE m = 1 := by
  unfold oddE
  split
  · exact .inr rfl
  · exact .inl rfl
theorem caps0 (hc : ∀ m ∈ os, 0 ≤ cap m) : ∀ k ∈ os.map cap, 0 ≤ k := fun k hk => by
  obtain ⟨m, hm, rfl⟩ := List.mem_map.mp hk
  exact hc m hm
theorem lowR_pos (hc : ∀ m ∈ os, 0 ≤ cap m) (m : Int) : 0 < lowR os cap m := pr_pos (caps0 fun x hx => hc x (List.mem_filter.mp hx).1)
theorem pr_split (hd : desc os) (m : Int) : pr (os.map cap) = pr ((upM os m).map cap) * lowR os cap m := by
  have : pr (os.map cap) = pr ((upM os m ++ loM os m).map cap) := congrArg (fun l => pr (l.map cap)) (desc_split hd)
  rw [List.map_append, pr_app] at this
  exact this
theorem lowR_mul (hd : desc os) {m k : Int} (h : m ≤ k) : lowR os cap k = pr ((upM (loM os k) m).map cap) * lowR os cap m := by
  have e := pr_split (os := loM os k) (cap := cap) (hd.sublist List.filter_sublist) m
  have e2 : loM (loM os k) m = loM os m := by
    unfold loM
    rw [List.filter_filter]
    apply List.filter_congr
    intro x _
    by_cases q : x < m
    · have : x < k := by omega
      simp [q, this]
    · simp [q]
  unfold lowR at e ⊢
  rw [e2] at e
  exact e
theorem dueB_ok (hd : desc os) (hc : ∀ m ∈ os, 0 ≤ cap m) (p : Place) {x : Option (List Int)} (hx : okM (os.map cap) x) :
    okM (os.map cap) (dueB os (os.map cap) p x) ∧ vM (os.map cap) (dueB os (os.map cap) p x) = dueV (pr (os.map cap)) (lowR os cap p.m) (oddE p.m) (vM (os.map cap) x) := by
  cases x with
  | none => exact ⟨trivial, (if_pos rfl).symm⟩
  | some l =>
    have eo := desc_split (m := p.m) hd
    have ek : os.map cap = (upM os p.m).map cap ++ (loM os p.m).map cap := by rw [← List.map_append, ← eo]
    have esz : szM os p.m = ((upM os p.m).map cap).length := by rw [List.length_map]; rfl
    have elo : os.length - szM os p.m = ((loM os p.m).map cap).length := by
      have := congrArg List.length eo
      rw [List.length_append] at this
      rw [esz, List.length_map, List.length_map]
      omega
    have hl : okR ((upM os p.m).map cap ++ (loM os p.m).map cap) l := by rw [← ek]; exact hx
    obtain ⟨h1, h2⟩ := okR_split hl
    have hdv := vl_split hl
    have hlt := (vl_bd hl).2
    obtain ⟨z1, z2⟩ := okR_zero (okR_ks h2)
    have hne : ¬ vM (os.map cap) (some l) = pr (os.map cap) := by
      rw [ek]
      unfold vM
      dsimp only
      omega
    unfold dueV
    rw [if_neg hne]
    have hv : vM (os.map cap) (some l) / lowR os cap p.m = vl ((upM os p.m).map cap) (l.take (szM os p.m)) := by
      rw [esz, ← hdv, ek]
      rfl
    rw [hv]
    have fill : ∀ r, okR ((upM os p.m).map cap) r → okM (os.map cap) (some (r ++ List.replicate (os.length - szM os p.m) 0)) ∧ vM (os.map cap) (some (r ++ List.replicate (os.length - szM os p.m) 0)) = vl ((upM os p.m).map cap) r * lowR os cap p.m := fun r hr => by
      rw [elo, ek]
      refine ⟨okR_app hr z1, ?_⟩
      show vl _ _ = _
      rw [vl_app _ _ (okR_len hr), z2]
      unfold lowR
      omega
    have h1' : okR ((upM os p.m).map cap) (l.take (szM os p.m)) := by rw [esz]; exact h1
    unfold dueB oddE
    dsimp only
    by_cases ho : p.m % 2 = 1
    · rw [if_pos ho, if_pos ho]
      obtain ⟨r1, r2⟩ := rsI_vl ((loM os p.m).map cap) h1'
      rw [← ek] at r1 r2
      cases e : rsI (l.take (szM os p.m)) (os.map cap) with
      | none =>
        refine ⟨trivial, ?_⟩
        have := r2 e
        rw [this]
        exact pr_split hd p.m
      | some r =>
        obtain ⟨q1, q2⟩ := r1 r e
        obtain ⟨f1, f2⟩ := fill r q1
        refine ⟨f1, ?_⟩
        rw [← q2]
        exact f2
    · rw [if_neg ho, if_neg ho]
      obtain ⟨f1, f2⟩ := fill _ h1'
      exact ⟨f1, by rw [Int.add_zero]; exact f2⟩
end
/-! ### rows with beyond, in order -/
def rowM : Option (List Int) → List Int
  | none => [1]
  | some l => 0 :: l
theorem row_lt {ks : List Int} {x y : Option (List Int)} (hk : ∀ k ∈ ks, 0 ≤ k) (hx : okM ks x) (hy : okM ks y) : rowM x < rowM y ↔ vM ks x < vM ks y := by
  obtain ⟨a1, a2, a3⟩ := vM_bd hk hx
  obtain ⟨b1, b2, b3⟩ := vM_bd hk hy
  cases x with
  | none =>
    have : vM ks none = pr ks := rfl
    rw [this]
    cases y with
    | none =>
      constructor
      · intro h; exact absurd h (List.lt_irrefl _)
      · intro h; omega
    | some l =>
      constructor
      · intro h
        rcases List.cons_lt_cons_iff.mp h with z | ⟨z, _⟩ <;> omega
      · intro h; omega
  | some l =>
    cases y with
    | none =>
      constructor
      · intro _
        have : ¬ vM ks (some l) = pr ks := fun z => by cases a3.mp z
        show vM ks (some l) < pr ks
        omega
      · intro _; exact List.cons_lt_cons_iff.mpr (.inl (by decide))
    | some r =>
      have := lt_vl (ks := ks) hx hy
      show 0 :: l < 0 :: r ↔ vl ks l < vl ks r
      rw [← this, List.cons_lt_cons_iff]
      constructor
      · rintro (z | ⟨_, z⟩)
        · omega
        · exact z
      · intro z; exact .inr ⟨rfl, z⟩
/-! ### how many measures there are -/
theorem pow_ge : ∀ n : Nat, ((n : Int) + 1) ≤ 2 ^ n
  | 0 => by decide
  | n + 1 => by
    have := pow_ge n
    rw [Int.pow_succ]
    push_cast
    omega
theorem pr_le : ∀ {os : List Int} (L : List Int), os.Nodup → pr (os.map fun m => (L.count m : Nat)) ≤ 2 ^ L.length
  | [], L, _ => by
    have := pow_ge L.length
    show (1 : Int) ≤ _
    omega
  | m :: os, L, h => by
    obtain ⟨h1, h2⟩ := List.nodup_cons.mp h
    have ih := pr_le (os := os) (L.filter fun x => !decide (x = m)) h2
    have ec : (os.map fun k => ((L.filter fun x => !decide (x = m)).count k : Int)) = os.map fun k => (L.count k : Int) := by
      apply List.map_congr_left
      intro k hk
      have hkm : k ≠ m := fun z => h1 (by rw [← z]; exact hk)
      rw [List.count_filter (by simpa using hkm)]
    rw [ec] at ih
    have el : L.length = L.count m + (L.filter fun x => !decide (x = m)).length := by
      have h3 := List.length_eq_countP_add_countP (fun x => decide (x = m)) (l := L)
      rw [List.countP_eq_length_filter (p := fun x => ¬ decide (x = m) = true)] at h3
      have h4 : L.countP (fun x => decide (x = m)) = L.count m := by
        rw [List.count_eq_countP]
        apply List.countP_congr
        intro x _
        simp
      rw [h4] at h3
      rw [h3]
      congr 2
      apply List.filter_congr
      intro x _
      simp
    show ((L.count m : Nat) + 1 : Int) * _ ≤ _
    rw [el, Int.pow_add]
    refine Int.le_trans (Int.mul_le_mul_of_nonneg_left ih (by omega)) (Int.mul_le_mul_of_nonneg_right (pow_ge _) ?_)
    exact Int.le_of_lt (Int.pow_pos (by decide))
/-! ### measures that rise no more, and who wins -/
def oddL (ps : List Place) : List Int := (ps.map (·.m)).filter fun m => decide (m % 2 = 1)
def capM (ps : List Place) (m : Int) : Int := ((oddL ps).count m : Nat)
/-- the odd marks of a ground, the highest first -/
structure OdOk (ps : List Place) (os : List Int) : Prop where
  ds : desc os
  mem : ∀ m, m ∈ os ↔ m ∈ oddL ps
section
variable {ps : List Place} {os : List Int}
def prM (ps : List Place) (os : List Int) : Int := pr (os.map (capM ps))
def vMm (ps : List Place) (os : List Int) (x : Option (List Int)) : Int := vM (os.map (capM ps)) x
def okMm (ps : List Place) (os : List Int) (x : Option (List Int)) : Prop := okM (os.map (capM ps)) x
/-- what v asks for by a goal's measure -/
def dV (ps : List Place) (os : List Int) (v x : Int) : Int := dueV (prM ps os) (lowR os (capM ps) (pl ps v).m) (oddE (pl ps v).m) x
theorem cap0 : ∀ m ∈ os, 0 ≤ capM ps m := fun m _ => by unfold capM; omega
theorem od_iff {m : Int} : m ∈ oddL ps ↔ (∃ p ∈ ps, p.m = m) ∧ m % 2 = 1 := by
  unfold oddL
  rw [List.mem_filter, List.mem_map]
  simp
theorem dV_le (O : OdOk ps os) {v x y : Int} (hx : 0 ≤ x) (hxP : x ≤ prM ps os) (hy : y ≤ prM ps os) : dV ps os v x ≤ y ↔ y = prM ps os ∨ x / lowR os (capM ps) (pl ps v).m + oddE (pl ps v).m ≤ y / lowR os (capM ps) (pl ps v).m ∧ x < prM ps os :=
  dueV_le (pr_split O.ds _) (lowR_pos cap0 _) hx hxP (oddE_01 _) hy
theorem dV_mono (O : OdOk ps os) {v x y : Int} (hx : 0 ≤ x) (hxy : x ≤ y) (hy : y ≤ prM ps os) : dV ps os v x ≤ dV ps os v y :=
  dueV_mono (pr_split O.ds _) (lowR_pos cap0 _) hx (oddE_01 _) hxy hy
/-- numbers by places that are no less than what is due -/
structure Pre (ps : List Place) (os : List Int) (F : Int → Int) : Prop where
  bd : ∀ v, 0 ≤ F v ∧ F v ≤ prM ps os
  zero : ∀ v ∈ rngI 0 ps.length, (pl ps v).o = 0 → ∃ g ∈ (pl ps v).gs, dV ps os v (F g) ≤ F v
  one : ∀ v ∈ rngI 0 ps.length, (pl ps v).o ≠ 0 → ∀ g ∈ (pl ps v).gs, dV ps os v (F g) ≤ F v
theorem low_div (O : OdOk ps os) {m k : Int} (h : m ≤ k) {x y : Int} (q : x / lowR os (capM ps) m ≤ y / lowR os (capM ps) m) : x / lowR os (capM ps) k ≤ y / lowR os (capM ps) k := by
  have e := lowR_mul (cap := capM ps) O.ds h
  have p1 := lowR_pos (os := os) (cap := capM ps) cap0 m
  have p2 : 0 < pr ((upM (loM os k) m).map (capM ps)) := pr_pos (caps0 cap0)
  rw [e, Int.mul_comm, ← Int.ediv_ediv_of_nonneg (by omega), ← Int.ediv_ediv_of_nonneg (by omega)]
  exact Int.ediv_le_ediv p2 q
/-- where measures do not come beyond all, 0 wins -/
theorem pre_win {hi : Int} (hg : GOk hi ps) (O : OdOk ps os) {F : Int → Int} (H : Pre ps os F) : ∃ mv, Win ps (rngI 0 ps.length) 0 (fun v => v ∈ rngI 0 ps.length ∧ F v < prM ps os) mv := by
  have ch : ∀ v, ∃ u : Option Int, ∀ g, u = some g → g ∈ (pl ps v).gs ∧ dV ps os v (F g) ≤ F v := fun v => ⟨none, fun g h => by cases h⟩
  have ch2 : ∀ v, ∃ u : Option Int, (∀ g, u = some g → g ∈ (pl ps v).gs ∧ dV ps os v (F g) ≤ F v) ∧ (v ∈ rngI 0 ps.length → (pl ps v).o = 0 → u ≠ none) := fun v => by
    by_cases hv : v ∈ rngI 0 ps.length ∧ (pl ps v).o = 0
    · obtain ⟨g, h1, h2⟩ := H.zero v hv.1 hv.2
      exact ⟨some g, fun g' e => by cases e; exact ⟨h1, h2⟩, fun _ _ z => by cases z⟩
    · exact ⟨none, fun g h => (by cases h), fun a b => absurd ⟨a, b⟩ hv⟩
  refine ⟨fun v => Classical.choose (ch2 v), ?_⟩
  obtain ⟨mv, hmv⟩ : ∃ mv, mv = fun v => Classical.choose (ch2 v) := ⟨_, rfl⟩
  rw [← hmv]
  have mv1 : ∀ v g, mv v = some g → g ∈ (pl ps v).gs ∧ dV ps os v (F g) ≤ F v := fun v g e => by
    rw [hmv] at e
    exact (Classical.choose_spec (ch2 v)).1 g e
  have mv2 : ∀ v ∈ rngI 0 ps.length, (pl ps v).o = 0 → mv v ≠ none := fun v hv ho => by
    rw [hmv]
    exact (Classical.choose_spec (ch2 v)).2 hv ho
  have gin : ∀ v ∈ rngI 0 ps.length, ∀ g ∈ (pl ps v).gs, g ∈ rngI 0 ps.length := fun v hv g hg' => by
    have hv' := rngI_mem.mp hv
    have := (hg.ok _ (pl_mem (by omega) (by omega))).rg g hg'
    exact rngI_mem.mpr (by omega)
  -- a step does not leave, and asks
  have ask : ∀ v g, v ∈ rngI 0 ps.length → F v < prM ps os → dV ps os v (F g) ≤ F v → F g < prM ps os ∧ F g / lowR os (capM ps) (pl ps v).m + oddE (pl ps v).m ≤ F v / lowR os (capM ps) (pl ps v).m := fun v g hv hlt h => by
    rcases (dV_le O (H.bd g).1 (H.bd g).2 (H.bd v).2).mp h with z | ⟨z1, z2⟩
    · omega
    · exact ⟨z2, z1⟩
  have step : ∀ v g, v ∈ rngI 0 ps.length → stp ps (rngI 0 ps.length) 0 mv v g → g ∈ rngI 0 ps.length ∧ dV ps os v (F g) ≤ F v := fun v g hv e => by
    rcases e with ⟨ho, e⟩ | ⟨ho, e⟩
    · obtain ⟨h1, h2⟩ := mv1 v g e
      exact ⟨gin v hv g h1, h2⟩
    · have := mem_within.mp e
      exact ⟨this.2, H.one v hv ho g this.1⟩
  refine ⟨fun v h => h.1, fun v h ho => ?_, fun v h ho g hg' => ?_, fun v h ho c => ?_⟩
  · cases e : mv v with
    | none => exact absurd e (mv2 v h.1 ho)
    | some g =>
      obtain ⟨h1, h2⟩ := mv1 v g e
      exact ⟨g, rfl, h1, gin v h.1 g h1, (ask v g h.1 h.2 h2).1⟩
  · obtain ⟨h1, h2⟩ := step v g h.1 (.inr ⟨ho, hg'⟩)
    exact ⟨h1, (ask v g h.1 h.2 h2).1⟩
  · obtain ⟨u, e1, e2⟩ := c.first
    have one : ∀ x y, (x ∈ rngI 0 ps.length ∧ F x < prM ps os ∧ (pl ps x).m ≤ (pl ps v).m) → stpm ps (rngI 0 ps.length) 0 mv (pl ps v).m x y → (y ∈ rngI 0 ps.length ∧ F y < prM ps os ∧ (pl ps y).m ≤ (pl ps v).m) ∧ F y / lowR os (capM ps) (pl ps v).m ≤ F x / lowR os (capM ps) (pl ps v).m := fun x y hx e => by
      obtain ⟨h1, h2⟩ := step x y hx.1 e.1
      obtain ⟨h3, h4⟩ := ask x y hx.1 hx.2.1 h2
      refine ⟨⟨h1, h3, e.2⟩, low_div O hx.2.2 ?_⟩
      have := oddE_01 (pl ps x).m
      omega
    obtain ⟨h1, h2⟩ := step v u h.1 e1.1
    obtain ⟨h3, h4⟩ := ask v u h.1 h.2 h2
    have hodd : oddE (pl ps v).m = 1 := if_pos (by omega)
    rw [hodd] at h4
    rcases e2 with e2 | e2
    · subst e2
      omega
    · have := (Pth.le (P := fun x => x ∈ rngI 0 ps.length ∧ F x < prM ps os ∧ (pl ps x).m ≤ (pl ps v).m) (f := fun x => F x / lowR os (capM ps) (pl ps v).m) one ⟨h1, h3, e1.2⟩ e2).2
      omega
/-! ### where 0 wins, measures do not come beyond all -/
theorem vl_mono {cap c1 c2 : Int → Int} : ∀ {l : List Int}, (∀ m ∈ l, 0 ≤ cap m) → (∀ m ∈ l, c1 m ≤ c2 m) → vl (l.map cap) (l.map c1) ≤ vl (l.map cap) (l.map c2)
  | [], _, _ => Int.le_refl _
  | m :: l, h, h' => by
    have ih := vl_mono (cap := cap) (c1 := c1) (c2 := c2) (l := l) (fun x hx => h x (List.mem_cons_of_mem _ hx)) fun x hx => h' x (List.mem_cons_of_mem _ hx)
    have := Int.mul_le_mul_of_nonneg_right (h' m List.mem_cons_self) (Int.le_of_lt (pr_pos (ks := l.map cap) (caps0 fun x hx => h x (List.mem_cons_of_mem _ hx))))
    show c1 m * pr (l.map cap) + _ ≤ c2 m * pr (l.map cap) + _
    omega
theorem okR_map {cap c : Int → Int} : ∀ {l : List Int}, (∀ m ∈ l, 0 ≤ c m ∧ c m ≤ cap m) → okR (l.map cap) (l.map c)
  | [], _ => trivial
  | m :: l, h => ⟨(h m List.mem_cons_self).1, (h m List.mem_cons_self).2, okR_map fun x hx => h x (List.mem_cons_of_mem _ hx)⟩
/-- how many places of mark k one comes to within marks up to k -/
noncomputable def cntM (ps : List Place) (mv : Int → Option Int) (v k : Int) : Int :=
  (((rngI 0 ps.length).filter fun u => @decide ((pl ps u).m = k ∧ (pl ps v).m ≤ k ∧ (u = v ∨ Pth (stpm ps (rngI 0 ps.length) 0 mv k) v u)) (Classical.propDecidable _)).length : Nat)
theorem marks_rng : ps.map (·.m) = (rngI 0 ps.length).map fun u => (pl ps u).m := by
  apply List.ext_getElem?
  intro i
  by_cases h : i < ps.length
  · rw [List.getElem?_map, List.getElem?_map, rngI_get h]
    have := pl_at (ps := ps) (v := (i : Int)) (by omega) (by omega)
    rw [Int.toNat_natCast] at this
    rw [this]
    rfl
  · rw [List.getElem?_eq_none (by rw [List.length_map]; omega), List.getElem?_eq_none (by rw [List.length_map, rngI_len]; omega)]
theorem cap_eq {k : Int} (hk : k % 2 = 1) : capM ps k = (((rngI 0 ps.length).filter fun u => decide ((pl ps u).m = k)).length : Nat) := by
  unfold capM oddL
  rw [List.count_filter (by simpa using hk), marks_rng, List.count_eq_countP, List.countP_map, List.countP_eq_length_filter]
  congr 2
theorem filter_le {p q : Int → Bool} : ∀ {l : List Int}, (∀ x ∈ l, p x = true → q x = true) → (l.filter p).length ≤ (l.filter q).length
  | [], _ => Nat.le_refl _
  | a :: l, h => by
    have ih := filter_le (p := p) (q := q) (l := l) fun x hx => h x (List.mem_cons_of_mem _ hx)
    have ha := h a List.mem_cons_self
    rw [List.filter_cons, List.filter_cons]
    cases hp : p a
    · cases hq : q a <;> simp <;> omega
    · rw [ha hp]; simp; omega
theorem filter_lt {p q : Int → Bool} {y : Int} : ∀ {l : List Int}, (∀ x ∈ l, p x = true → q x = true) → y ∈ l → p y = false → q y = true → (l.filter p).length < (l.filter q).length
  | [], _, h, _, _ => by cases h
  | a :: l, h, hy, h1, h2 => by
    have h' := fun x hx => h x (List.mem_cons_of_mem a hx)
    rcases List.mem_cons.mp hy with rfl | z
    · have := filter_le h'
      rw [List.filter_cons, List.filter_cons, h1, h2]
      simp; omega
    · have ih := filter_lt h' z h1 h2
      have ha := h a List.mem_cons_self
      rw [List.filter_cons, List.filter_cons]
      cases hp : p a
      · cases hq : q a <;> simp <;> omega
      · rw [ha hp]; simp; omega
theorem win_pre {hi : Int} (hg : GOk hi ps) (O : OdOk ps os) {W : Int → Prop} {mv : Int → Option Int} (H : Win ps (rngI 0 ps.length) 0 W mv) : ∃ F, Pre ps os F ∧ ∀ v, W v → F v < prM ps os := by
  have oddos : ∀ k ∈ os, k % 2 = 1 := fun k hk => (od_iff.mp ((O.mem k).mp hk)).2
  have inC : ∀ v, ∀ k ∈ os, 0 ≤ cntM ps mv v k ∧ cntM ps mv v k ≤ capM ps k := fun v k hk => by
    refine ⟨by unfold cntM; omega, ?_⟩
    rw [cap_eq (oddos k hk)]
    unfold cntM
    have := filter_le (l := rngI 0 ps.length) (p := fun u => @decide ((pl ps u).m = k ∧ (pl ps v).m ≤ k ∧ (u = v ∨ Pth (stpm ps (rngI 0 ps.length) 0 mv k) v u)) (Classical.propDecidable _)) (q := fun u => decide ((pl ps u).m = k)) fun x _ hx => by
      simp only [decide_eq_true_eq] at hx ⊢
      exact hx.1
    omega
  have okc : ∀ v, okR (os.map (capM ps)) (os.map (cntM ps mv v)) := fun v => okR_map (inC v)
  have bdc := fun v => vl_bd (okc v)
  have hP : 0 < prM ps os := pr_pos (caps0 cap0)
  obtain ⟨F, hF⟩ : ∃ F : Int → Int, F = fun v => @ite _ (W v) (Classical.propDecidable _) (vl (os.map (capM ps)) (os.map (cntM ps mv v))) (prM ps os) := ⟨_, rfl⟩
  have F1 : ∀ v, W v → F v = vl (os.map (capM ps)) (os.map (cntM ps mv v)) := fun v h => by rw [hF]; exact if_pos h
  have F0 : ∀ v, ¬ W v → F v = prM ps os := fun v h => by rw [hF]; exact if_neg h
  have bd : ∀ v, 0 ≤ F v ∧ F v ≤ prM ps os := fun v => by
    by_cases h : W v
    · rw [F1 v h]
      have := bdc v
      unfold prM
      omega
    · rw [F0 v h]; omega
  have lt : ∀ v, W v → F v < prM ps os := fun v h => by rw [F1 v h]; exact (bdc v).2
  -- the counts of a goal
  have le : ∀ v g, W v → stp ps (rngI 0 ps.length) 0 mv v g → ∀ k, (pl ps v).m ≤ k → cntM ps mv g k ≤ cntM ps mv v k := fun v g hv e k hk => by
    have := filter_le (l := rngI 0 ps.length) (p := fun u => @decide ((pl ps u).m = k ∧ (pl ps g).m ≤ k ∧ (u = g ∨ Pth (stpm ps (rngI 0 ps.length) 0 mv k) g u)) (Classical.propDecidable _)) (q := fun u => @decide ((pl ps u).m = k ∧ (pl ps v).m ≤ k ∧ (u = v ∨ Pth (stpm ps (rngI 0 ps.length) 0 mv k) v u)) (Classical.propDecidable _)) fun x _ hx => by
      simp only [decide_eq_true_eq] at hx ⊢
      obtain ⟨h1, h2, h3⟩ := hx
      refine ⟨h1, hk, .inr ?_⟩
      rcases h3 with h3 | h3
      · rw [h3]; exact .one ⟨e, h2⟩
      · exact (Pth.one ⟨e, h2⟩).trans h3
    unfold cntM
    omega
  have slt : ∀ v g, W v → stp ps (rngI 0 ps.length) 0 mv v g → (pl ps v).m % 2 = 1 → cntM ps mv g (pl ps v).m + 1 ≤ cntM ps mv v (pl ps v).m := fun v g hv e ho => by
    have := filter_lt (l := rngI 0 ps.length) (y := v) (p := fun u => @decide ((pl ps u).m = (pl ps v).m ∧ (pl ps g).m ≤ (pl ps v).m ∧ (u = g ∨ Pth (stpm ps (rngI 0 ps.length) 0 mv (pl ps v).m) g u)) (Classical.propDecidable _)) (q := fun u => @decide ((pl ps u).m = (pl ps v).m ∧ (pl ps v).m ≤ (pl ps v).m ∧ (u = v ∨ Pth (stpm ps (rngI 0 ps.length) 0 mv (pl ps v).m) v u)) (Classical.propDecidable _)) (fun x _ hx => by
      simp only [decide_eq_true_eq] at hx ⊢
      obtain ⟨h1, h2, h3⟩ := hx
      refine ⟨h1, Int.le_refl _, .inr ?_⟩
      rcases h3 with h3 | h3
      · rw [h3]; exact .one ⟨e, h2⟩
      · exact (Pth.one ⟨e, h2⟩).trans h3) (H.sub v hv) (by
      rw [decide_eq_false_iff_not]
      rintro ⟨_, h2, h3⟩
      refine H.cyc v hv (by omega) ?_
      rcases h3 with h3 | h3
      · have e' : stp ps (rngI 0 ps.length) 0 mv v v := by rw [← h3] at e; exact e
        exact .one ⟨e', Int.le_refl _⟩
      · exact (Pth.one ⟨e, h2⟩).trans h3) (by
      simp only [decide_eq_true_eq]
      exact ⟨trivial, Int.le_refl _, .inl trivial⟩)
    unfold cntM
    omega
  have key : ∀ v g, W v → stp ps (rngI 0 ps.length) 0 mv v g → dV ps os v (F g) ≤ F v := fun v g hv e => by
    have hgW := H.stay hv e
    refine (dV_le O (bd g).1 (bd g).2 (bd v).2).mpr (.inr ⟨?_, lt g hgW⟩)
    rw [F1 v hv, F1 g hgW]
    have hsp : ∀ x, vl (os.map (capM ps)) (os.map (cntM ps mv x)) / lowR os (capM ps) (pl ps v).m = vl ((upM os (pl ps v).m).map (capM ps)) ((upM os (pl ps v).m).map (cntM ps mv x)) := fun x => by
      have eo := desc_split (m := (pl ps v).m) O.ds
      have ek : os.map (capM ps) = (upM os (pl ps v).m).map (capM ps) ++ (loM os (pl ps v).m).map (capM ps) := by rw [← List.map_append, ← eo]
      have ec : os.map (cntM ps mv x) = (upM os (pl ps v).m).map (cntM ps mv x) ++ (loM os (pl ps v).m).map (cntM ps mv x) := by rw [← List.map_append, ← eo]
      have hok := okc x
      rw [ek] at hok
      have := vl_split hok
      rw [ek]
      refine this.trans ?_
      congr 1
      rw [ec, List.length_map, List.take_left' (by rw [List.length_map])]
    rw [hsp, hsp]
    have hup : ∀ k ∈ upM os (pl ps v).m, k ∈ os ∧ (pl ps v).m ≤ k := fun k hk => by
      have := List.mem_filter.mp hk
      simpa using this
    by_cases ho : (pl ps v).m % 2 = 1
    · have e1 : oddE (pl ps v).m = 1 := if_pos ho
      rw [e1]
      have hv' := rngI_mem.mp (H.sub v hv)
      have hmo : (pl ps v).m ∈ os := (O.mem _).mpr (od_iff.mpr ⟨⟨_, pl_mem (by omega) (by omega), rfl⟩, ho⟩)
      obtain ⟨A, eA⟩ := up_last O.ds hmo
      have hA : ∀ k ∈ A, k ∈ os ∧ (pl ps v).m ≤ k := fun k hk => hup k (by rw [eA]; exact List.mem_append_left _ hk)
      rw [eA, List.map_append, List.map_append, List.map_append, vl_app _ _ (by simp), vl_app _ _ (by simp)]
      have q1 := vl_mono (cap := capM ps) (c1 := cntM ps mv g) (c2 := cntM ps mv v) (l := A) (fun k hk => cap0 k (hA k hk).1) fun k hk => le v g hv e k (hA k hk).2
      have q2 := slt v g hv e ho
      have q3 : 0 ≤ pr ([(pl ps v).m].map (capM ps)) := Int.le_of_lt (pr_pos (caps0 cap0))
      have q4 := Int.mul_le_mul_of_nonneg_right q1 q3
      have q5 : ∀ x, vl ([(pl ps v).m].map (capM ps)) ([(pl ps v).m].map (cntM ps mv x)) = cntM ps mv x (pl ps v).m := fun x => by
        show _ * pr [] + vl [] [] = _
        show _ * 1 + 0 = _
        omega
      rw [q5, q5]
      omega
    · have e1 : oddE (pl ps v).m = 0 := if_neg ho
      rw [e1, Int.add_zero]
      exact vl_mono (fun k hk => cap0 k (hup k hk).1) fun k hk => le v g hv e k (hup k hk).2
  refine ⟨F, ⟨bd, fun v hv ho => ?_, fun v hv ho g hg' => ?_⟩, lt⟩
  · by_cases h : W v
    · obtain ⟨g, e, h1, _⟩ := H.own v h ho
      exact ⟨g, h1, key v g h (.inl ⟨ho, e⟩)⟩
    · have hv' := rngI_mem.mp hv
      obtain ⟨g, hg'⟩ := List.exists_mem_of_ne_nil _ (hg.ok _ (pl_mem (v := v) (by omega) (by omega))).ne
      refine ⟨g, hg', (dV_le O (bd g).1 (bd g).2 (bd v).2).mpr (.inl (F0 v h))⟩
  · by_cases h : W v
    · have hv' := rngI_mem.mp hv
      refine key v g h (.inr ⟨ho, ?_⟩)
      rw [all_within hg (by omega) (by omega)]
      exact hg'
    · exact (dV_le O (bd g).1 (bd g).2 (bd v).2).mpr (.inl (F0 v h))
end
/-! ### raised -/
def encRs : Option (List Int) → D
  | some r => .list (r.map .int)
  | none => .none
theorem get_LI {l : List Int} {i : Nat} (h : i < l.length) : getD (.list (l.map .int)) (.int (i : Int)) = some (.int (l[i]'h)) := by
  show atI (l.map D.int) (i : Int) = _
  unfold atI
  rw [List.length_map, ixN_in (by omega) (by omega)]
  show (l.map D.int)[((i : Nat) : Int).toNat]? = _
  rw [Int.toNat_natCast, List.getElem?_map, List.getElem?_eq_getElem h]
  rfl
theorem e_raised {cs ks : List Int} (hl : cs.length ≤ ks.length) (hn : cs.length ≤ 1000) : d_raised [.list (cs.map .int), .list (ks.map .int)] = .ok (encRs (rsI cs ks)) := by
  have := wh_P (c := l2_raised) (t := l1_raised) (P := fun o => (o.seq (dRet (dC .none))).fin = .ok (encRs (rsI cs ks)))
    (fun m ρ => ∃ a b : List Int, cs = a ++ b ∧ rsI b (ks.drop a.length) = none ∧ m = a.length ∧ ρ = [some (.list (cs.map .int)), some (.list (ks.map .int)), some (.list ((a ++ List.replicate b.length 0).map .int)), some (.int ((a.length : Int) - 1))])
    (by
      rintro m ρ ⟨a, b, hab, hb, rfl, rfl⟩
      rcases List.eq_nil_or_concat a with rfl | ⟨a', c, rfl⟩
      · refine .inl ⟨by simp [l2_raised], ?_⟩
        have : rsI cs ks = none := by rw [hab]; simpa using hb
        rw [this]
        rfl
      · rw [List.concat_eq_append] at *
        have hal : ((a' ++ [c]).length : Int) - 1 = (a'.length : Int) := by simp
        have hk : a'.length < ks.length := by
          have := congrArg List.length hab
          simp only [List.length_append, List.length_cons, List.length_nil] at this
          omega
        rw [hal]
        refine .inr ⟨by simp [l2_raised], ?_⟩
        have hF : a' ++ [c] ++ List.replicate b.length 0 = a' ++ c :: List.replicate b.length 0 := by simp
        rw [hF]
        have hi : a'.length < (a' ++ c :: List.replicate b.length 0).length := by simp
        have g1 := get_LI hi
        have e1 : (a' ++ c :: List.replicate b.length 0)[a'.length]'hi = c := by simp
        rw [e1] at g1
        have g2 := get_LI hk
        have hh : (ks.drop a'.length).headD 0 = ks[a'.length] := by
          rw [List.headD_eq_head?_getD, List.head?_drop, List.getElem?_eq_getElem hk]
          rfl
        have hb' : rsI b ((ks.drop a'.length).drop [c].length) = none := by
          rw [List.drop_drop]
          simpa using hb
        have h1 := (rsI_app [c] b (ks.drop a'.length)).1 hb'
        have h2 : rsI [c] (ks.drop a'.length) = if c < ks[a'.length] then some [c + 1] else none := by
          rw [← hh]
          rfl
        have hset : ∀ x : Int, (((a' ++ c :: List.replicate b.length 0).map D.int).set a'.length (.int x)) = (a' ++ x :: List.replicate b.length 0).map .int := fun x => by
          rw [List.map_append, List.set_append_right _ _ (by simp)]
          simp
        have hst : ∀ x : Int, ixN ((a' ++ c :: List.replicate b.length 0).map D.int).length (a'.length : Int) = some a'.length := fun x => by
          rw [ixN_in (by omega) (by rw [List.length_map]; omega), Int.toNat_natCast]
        have hs := hst 0
        by_cases q : c < ks[a'.length]
        · rw [if_pos q] at h2
          rw [h2] at h1
          have h3 := (rsI_app a' ([c] ++ b) ks).2 _ h1
          have hr : rsI cs ks = some (a' ++ (c + 1) :: List.replicate b.length 0) := by
            rw [hab]
            simpa using h3
          rw [hr]
          have hx := hset (c + 1)
          generalize (a' ++ c :: List.replicate b.length 0).map D.int = FD at *
          refine .inr (.inl ⟨.list ((a' ++ (c + 1) :: List.replicate b.length 0).map .int), [some (.list (cs.map .int)), some (.list (ks.map .int)), some (.list ((a' ++ (c + 1) :: List.replicate b.length 0).map .int)), some (.int (a'.length : Int))], ?_, rfl⟩)
          generalize (a' ++ (c + 1) :: List.replicate b.length 0).map D.int = GD at *
          generalize ks.map D.int = KD at *
          simp [l1_raised, g1, g2, q, hs, hx]
        · rw [if_neg q] at h2
          rw [h2] at h1
          have hx := hset 0
          refine .inl ⟨[some (.list (cs.map .int)), some (.list (ks.map .int)), some (.list ((a' ++ List.replicate (c :: b).length 0).map .int)), some (.int ((a'.length : Int) - 1))], a'.length, .inl ?_, by simp, a', c :: b, by rw [hab]; simp, h1, rfl, rfl⟩
          have hz : a' ++ List.replicate (c :: b).length 0 = a' ++ (0 : Int) :: List.replicate b.length 0 := by simp [List.replicate_succ]
          rw [hz]
          generalize (a' ++ c :: List.replicate b.length 0).map D.int = FD at *
          generalize (a' ++ (0 : Int) :: List.replicate b.length 0).map D.int = GD at *
          generalize ks.map D.int = KD at *
          simp [l1_raised, g1, g2, q, hs, hx])
    (n := cs.length) (fuel := 100000) (ρ := [some (.list (cs.map .int)), some (.list (ks.map .int)), some (.list (cs.map .int)), some (.int ((cs.length : Int) - 1))])
    ⟨cs, [], by simp, by simp [rsI], rfl, by simp⟩ (by omega)
  have hlc : lenD [.list (cs.map .int)] = some (.int cs.length) := by
    show some (D.int ((cs.map D.int).length : Nat)) = _
    rw [List.length_map]
  have fx : D.fix (.int ((cs.length : Int) - 1)) = true := rfl
  generalize cs.map D.int = CD at *
  generalize ks.map D.int = KD at *
  simp [d_raised, b_raised, dListF, -e_lenL, hlc, fx]
  exact this
/-! ### odd marks -/
def oddM (ps : List Place) : List Int := (srtI (oddL ps)).reverse
def encOd (ps : List Place) : D := .list ((oddM ps).map fun m => .tuple [.int m, .int (capM ps m)])
theorem lc_fltP {α : Type} {b : D → List (Option D) → Option (List (Option D))} {tst : List (Option D) → Out Bool} {elt : List (Option D) → Out D} {ρ : List (Option D)} {f g : α → D} {p : α → Bool} : ∀ {l : List α}, (∀ v ∈ l, ∃ ρ1, b (f v) ρ = some ρ1 ∧ tst ρ1 = .ok (p v) ∧ elt ρ1 = .ok (g v)) → dLcL b tst elt ρ (l.map f) = .ok ((l.filter p).map g)
  | [], _ => rfl
  | a :: l, h => by
    obtain ⟨ρ1, h1, h2, h3⟩ := h a List.mem_cons_self
    have ih := lc_fltP (l := l) fun v hv => h v (List.mem_cons_of_mem _ hv)
    rw [List.map_cons]
    unfold dLcL
    rw [h1]
    cases hp : p a <;> simp [h2, h3, ih, hp]
theorem e_odd_marks {ps : List Place} (hn : ps.length ≤ 24) : d_odd_marks [encGr ps] = .ok (encOd ps) := by
  have k1 : dLcL (b1 2) (dCmp eqD (dOp modD (dOp getD (dVar 2) (dC (.int 1))) (dC (.int 2))) (dC (.int 1))) (dOp getD (dVar 2) (dC (.int 1))) [some (encGr ps), none, none, none] (ps.map encP) = .ok ((oddL ps).map .int) := by
    rw [lc_fltP (g := fun p : Place => .int p.m) (p := fun p => decide (p.m % 2 = 1)) fun p hp => ⟨_, s_b1, by simp [get1], by simp [get1]⟩]
    unfold oddL
    rw [List.filter_map, List.map_map]
    rfl
  have hl : (oddL ps).length ≤ 24 := by
    have := List.length_filter_le (fun m => decide (m % 2 = 1)) (ps.map (·.m))
    rw [List.length_map] at this
    unfold oddL
    omega
  have es : srtC (.list ((oddL ps).map .int)) = some (.list ((srtI (oddL ps)).map .int)) := by
    show ((intsOf ((oddL ps).map .int)).bind _) = _
    rw [intsOf_map]
    exact if_pos (by omega)
  have er : revD (.list ((srtI (oddL ps)).map .int)) = some (.list ((oddM ps).map .int)) := by
    show some (D.list ((srtI (oddL ps)).map D.int).reverse) = _
    unfold oddM
    rw [List.map_reverse]
  have k2 : dLcL (b1 3) dYes (dTup (dCons (dVar 3) (dCons (dCnt (dVar 1) (dVar 3)) dNil))) [some (encGr ps), some (.list ((oddL ps).map .int)), none, none] ((oddM ps).map .int) = .ok ((oddM ps).map fun m => .tuple [.int m, .int (capM ps m)]) :=
    lc_rng fun m hm => by
      refine ⟨_, s_b1, ?_⟩
      have ec : dCnt (dVar 1) (dVar 3) [some (encGr ps), some (.list ((oddL ps).map .int)), none, some (.int m)] = .ok (.int (capM ps m)) := by
        show Out.of ((intsOf ((oddL ps).map .int)).map fun ns => D.int (ns.count m : Nat)) = _
        rw [intsOf_map]
        rfl
      simp [ec]
  have eu : (dUn revD (dUn srtC (dVar 1))) [some (encGr ps), some (.list ((oddL ps).map .int)), none, none] = .ok (.list ((oddM ps).map .int)) := by
    show (Out.of (srtC (.list ((oddL ps).map .int)))).bind (fun x => Out.of (revD x)) = _
    rw [es, show Out.of (some (D.list ((srtI (oddL ps)).map .int))) = Out.ok (D.list ((srtI (oddL ps)).map .int)) from rfl, Out.ok_bind, er]
    rfl
  have hs : seqD (encGr ps) = .ok (ps.map encP) := rfl
  unfold encOd
  generalize (oddM ps).map D.int = OM at *
  generalize (oddM ps).map (fun m => D.tuple [.int m, .int (capM ps m)]) = ON at *
  generalize (oddL ps).map D.int = OL at *
  simp [-s_un, d_odd_marks, b_odd_marks, hs, k1, eu, k2]
/-! ### due by a goal -/
def encMe : Option (List Int) → D
  | none => .ktup [1]
  | some l => .tuple ((0 :: l).map .int)
theorem eq_bey (x : Option (List Int)) : eqD (encMe x) (.ktup [1]) = some (decide (x = none)) := by
  cases x with
  | none => exact eq_IT [1] [1]
  | some l =>
    have := eq_IT (0 :: l) [1]
    have h : decide ((0 :: l) = [1]) = decide (some l = none) := by simp
    rw [← h]
    exact this
theorem cut_me {l : List Int} {k : Nat} (h : k ≤ l.length) : sliceD (.tuple ((0 :: l).map .int)) (some 1) (some ((k : Int) + 1)) = some (.tuple ((l.take k).map .int)) := by
  show some (D.tuple (cutD ((0 :: l).map D.int) (some 1) (some ((k : Int) + 1)))) = _
  have h1 : HT.sIx ((0 :: l).map D.int).length 0 (some 1) = min 1 ((0 :: l).map D.int).length := HT.sIx_nat _ 0 1
  have h2 : HT.sIx ((0 :: l).map D.int).length ((0 :: l).map D.int).length (some ((k : Int) + 1)) = min (k + 1) ((0 :: l).map D.int).length := HT.sIx_nat _ _ (k + 1)
  have hl : ((0 :: l).map D.int).length = l.length + 1 := by simp
  unfold cutD
  rw [h1, h2, hl, Nat.min_eq_left (by omega), Nat.min_eq_left (by omega), List.map_take]
  rfl
theorem e_due_by {os : List Int} {cap : Int → Int} {p : Place} {x : Option (List Int)} (hn : os.length ≤ 24) (hx : ∀ l, x = some l → l.length = os.length) : d_due_by [encP p, encMe x, .list (os.map fun m => .tuple [.int m, .int (cap m)])] = .ok (encMe (dueB os (os.map cap) p x)) := by
  have eb := eq_bey x
  cases x with
  | none =>
    have eb' : eqD (.ktup [1]) (.ktup [1]) = some true := eq_IT [1] [1]
    simp [d_due_by, b_due_by, eb', dueB, encMe]
  | some l =>
    have hl := hx l rfl
    have hsz : szM os p.m ≤ os.length := List.length_filter_le _ _
    obtain ⟨M, hM⟩ : ∃ M, M = encMe (some l) := ⟨_, rfl⟩
    obtain ⟨OD, hOD⟩ : ∃ OD, OD = os.map fun m => D.tuple [.int m, .int (cap m)] := ⟨_, rfl⟩
    have k1 : dLcL (bT [5, 6]) (dCmp geD (dVar 5) (dOp getD (dVar 0) (dC (.int 1)))) (dVar 5) [some (encP p), some M, some (.list OD), none, none, none, none] OD = .ok ((os.filter fun x => decide (p.m ≤ x)).map .int) := by
      rw [hOD]
      exact lc_fltP fun m hm => ⟨_, rfl, by simp [get1], by simp⟩
    have k2 : ∀ x3 x4 : Option D, dLcL (bT [5, 6]) dYes (dVar 6) [some (encP p), some M, some (.list OD), x3, x4, none, none] OD = .ok ((os.map cap).map .int) := fun x3 x4 => by
      rw [hOD, List.map_map]
      exact lc_rng fun m hm => ⟨_, rfl, by simp⟩
    have hls : lenD [.list ((os.filter fun x => decide (p.m ≤ x)).map .int)] = some (.int (szM os p.m)) := by
      show some (D.int (((os.filter fun x => decide (p.m ≤ x)).map D.int).length : Nat)) = _
      rw [List.length_map]
      rfl
    have hlo : lenD [.list OD] = some (.int os.length) := by
      show some (D.int (OD.length : Nat)) = _
      rw [hOD, List.length_map]
    have hc : sliceD M (some 1) (some ((szM os p.m : Int) + 1)) = some (.tuple ((l.take (szM os p.m)).map .int)) := by rw [hM]; exact cut_me (by omega)
    have er := e_raised (cs := l.take (szM os p.m)) (ks := os.map cap) (by rw [List.length_take, List.length_map]; omega) (by rw [List.length_take]; omega)
    have hm0 : mulD (.list [.int 0]) (.int ((os.length : Int) - (szM os p.m : Int))) = some (.list ((List.replicate (os.length - szM os p.m) (0 : Int)).map .int)) := by
      show (if _ then _ else _) = _
      rw [if_pos ⟨by omega, by omega, by simp⟩]
      have : ((os.length : Int) - (szM os p.m : Int)).toNat = os.length - szM os p.m := by omega
      rw [this]
      simp
    have fin : ∀ r : List Int, r.length ≤ 24 → (addD (.list [.int 0]) (.list (r.map .int)) = some (.list ((0 :: r).map .int)) ∧ addD (.list ((0 :: r).map .int)) (.list ((List.replicate (os.length - szM os p.m) (0 : Int)).map .int)) = some (.list ((0 :: (r ++ List.replicate (os.length - szM os p.m) 0)).map .int))) := fun r hr => by
      constructor
      · show (if _ then _ else _) = _
        rw [if_pos (by simp; omega)]
        rfl
      · show (if _ then _ else _) = _
        rw [if_pos (by simp; omega), ← List.map_append]
        rfl
    rw [← hM] at eb ⊢
    rw [← hOD]
    generalize (os.filter fun x => decide (p.m ≤ x)).map D.int = FL at *
    by_cases ho : p.m % 2 = 1
    · cases hr : rsI (l.take (szM os p.m)) (os.map cap) with
      | none =>
        rw [hr] at er
        have e0 : dueB os (os.map cap) p (some l) = none := by simp [dueB, ho, hr]
        rw [e0]
        generalize (l.take (szM os p.m)).map D.int = TL at *
        generalize (os.map cap).map D.int = KL at *
        simp [d_due_by, b_due_by, eb, k1, -e_lenL, hls, hlo, hc, get1, ho, k2, er, encRs, encMe]
      | some r =>
        rw [hr] at er
        have hrl := rsI_len hr
        rw [List.length_take] at hrl
        obtain ⟨f1, f2⟩ := fin r (by omega)
        have e0 : dueB os (os.map cap) p (some l) = some (r ++ List.replicate (os.length - szM os p.m) 0) := by simp [dueB, ho, hr]
        rw [e0]
        have e1 : encMe (some (r ++ List.replicate (os.length - szM os p.m) 0)) = .tuple ((0 :: (r ++ List.replicate (os.length - szM os p.m) 0)).map .int) := rfl
        have e2 : encRs (some r) = .list (r.map .int) := rfl
        rw [e2] at er
        rw [e1]
        generalize (l.take (szM os p.m)).map D.int = TL at *
        generalize (os.map cap).map D.int = KL at *
        generalize (0 :: (r ++ List.replicate (os.length - szM os p.m) 0)).map D.int = R3 at *
        generalize (0 :: r).map D.int = R2 at *
        generalize r.map D.int = R1 at *
        generalize (List.replicate (os.length - szM os p.m) (0 : Int)).map D.int = R0 at *
        simp [d_due_by, b_due_by, eb, k1, -e_lenL, hls, hlo, hc, get1, ho, k2, er, hm0, f1, f2]
    · obtain ⟨f1, f2⟩ := fin (l.take (szM os p.m)) (by rw [List.length_take]; omega)
      have e0 : dueB os (os.map cap) p (some l) = some (l.take (szM os p.m) ++ List.replicate (os.length - szM os p.m) 0) := by simp [dueB, ho]
      rw [e0]
      have e1 : encMe (some (l.take (szM os p.m) ++ List.replicate (os.length - szM os p.m) 0)) = .tuple ((0 :: (l.take (szM os p.m) ++ List.replicate (os.length - szM os p.m) 0)).map .int) := rfl
      rw [e1]
      generalize (0 :: (l.take (szM os p.m) ++ List.replicate (os.length - szM os p.m) 0)).map D.int = R3 at *
      generalize (0 :: l.take (szM os p.m)).map D.int = R2 at *
      generalize (l.take (szM os p.m)).map D.int = TL at *
      generalize (List.replicate (os.length - szM os p.m) (0 : Int)).map D.int = R0 at *
      simp [d_due_by, b_due_by, eb, k1, -e_lenL, hls, hlo, hc, get1, ho, hm0, f1, f2]
/-! ### measures compared; the least and the greatest one -/
theorem pyN_ints : ∀ l : List Int, D.pyA (l.map D.int) = l.map PyData.int := pyA_ints
theorem py_me (x : Option (List Int)) : (encMe x).py = .tuple ((rowM x).map .int) := by
  cases x with
  | none => rfl
  | some l =>
    show PyData.tuple (D.pyA ((0 :: l).map D.int)) = _
    rw [pyA_ints]
    rfl
theorem pyA_me : ∀ L : List (Option (List Int)), D.pyA (L.map encMe) = L.map fun x => .tuple ((rowM x).map .int)
  | [] => rfl
  | x :: L => by
    show (encMe x).py :: D.pyA (L.map encMe) = _
    rw [pyA_me L, py_me]
    rfl
theorem pl_me (x : Option (List Int)) : (encMe x).pl = true := by
  cases x with
  | none => rfl
  | some l => exact plA_ints (0 :: l)
theorem plA_me : ∀ L : List (Option (List Int)), D.plA (L.map encMe) = true
  | [] => rfl
  | x :: L => by
    show (D.pl (encMe x) && D.plA (L.map encMe)) = true
    rw [pl_me, plA_me L]
    rfl
theorem fix_me (x : Option (List Int)) : (encMe x).fix = true := by
  cases x with
  | none => rfl
  | some l =>
    have : ∀ l : List Int, D.fixA (l.map D.int) = true := fun l => by
      induction l with
      | nil => rfl
      | cons a l ih => show (D.fix (.int a) && D.fixA (l.map D.int)) = true; rw [ih]; rfl
    exact this (0 :: l)
theorem lt_rows (a b : List Int) : PySem.W.dataLt (.tuple (a.map .int)) (.tuple (b.map .int)) = decide (a < b) := by
  rw [PySem.W.dataLt_tuple]
  exact PySem.W.dataLt_ints a b
theorem alike_rows (a b : List Int) : PySem.W.alike (.tuple (a.map .int)) (.tuple (b.map .int)) = true := by
  rw [PySem.W.alike]
  exact PySem.W.alike_ints a b
theorem alike_row0 (a : List Int) : PySem.W.alike (.tuple (a.map .int)) .none = false := by
  rw [PySem.W.alike] <;> intros <;> simp_all
theorem dep_row (a : List Int) : PyData.depth (.tuple (a.map .int)) ≤ 1 := by
  rw [PyData.depth, PySem.W.depth_ints]
  exact Nat.le_refl _
theorem dep_me (L : List (Option (List Int))) : depA (L.map encMe) ≤ 50 := by
  have : ∀ L : List (Option (List Int)), PyData.depthAll (L.map fun x => .tuple ((rowM x).map .int)) ≤ 1 := fun L => by
    induction L with
    | nil => simp [PyData.depthAll]
    | cons x L ih =>
      rw [List.map_cons, PyData.depthAll]
      have := dep_row (rowM x)
      exact Nat.max_le.mpr ⟨this, ih⟩
  unfold depA
  rw [pyA_me]
  exact Nat.le_trans (this L) (by decide)
theorem all_alike (L : List (Option (List Int))) : allAlike (D.pyA (L.map encMe)) = true := by
  rw [pyA_me]
  unfold allAlike
  rw [List.all_eq_true]
  intro x hx
  obtain ⟨a, _, rfl⟩ := List.mem_map.mp hx
  rw [alike_row0, Bool.and_eq_true]
  refine ⟨rfl, List.all_eq_true.mpr fun y hy => ?_⟩
  obtain ⟨b, _, rfl⟩ := List.mem_map.mp hy
  exact alike_rows _ _
theorem gt_me {ks : List Int} {x y : Option (List Int)} (hk : ∀ k ∈ ks, 0 ≤ k) (hx : okM ks x) (hy : okM ks y) : gtT (encMe x) (encMe y) = some (decide (vM ks y < vM ks x)) := by
  unfold gtT
  rw [py_me, py_me, if_pos]
  · rw [lt_rows]
    congr 1
    rw [decide_eq_decide]
    exact row_lt hk hy hx
  · refine ⟨pl_me x, pl_me y, alike_rows _ _, alike_row0 _, ?_⟩
    unfold dep
    rw [py_me, py_me]
    have := dep_row (rowM x)
    omega
/-- the first of the least, by its place -/
theorem arg_best {bt : Nat → Nat → Bool} {val : Nat → Int} {n : Nat} (h : ∀ i j, i ≤ n → j ≤ n → bt i j = decide (val i < val j)) : ∀ k, k ≤ n → PySem.argBest bt k ≤ k ∧ ∀ i ≤ k, val (PySem.argBest bt k) ≤ val i
  | 0, _ => ⟨Nat.le_refl _, fun i hi => by rw [Nat.le_zero.mp hi]; exact Int.le_refl _⟩
  | k + 1, hk => by
    obtain ⟨i1, i2⟩ := arg_best h k (by omega)
    have e := h (k + 1) (PySem.argBest bt k) hk (by omega)
    unfold PySem.argBest
    rw [e]
    by_cases q : val (k + 1) < val (PySem.argBest bt k)
    · rw [if_pos (by simpa using q)]
      refine ⟨Nat.le_refl _, fun i hi => ?_⟩
      rcases Nat.lt_or_ge k i with z | z
      · have : i = k + 1 := by omega
        rw [this]; exact Int.le_refl _
      · have := i2 i z
        omega
    · rw [if_neg (by simpa using q)]
      refine ⟨by omega, fun i hi => ?_⟩
      rcases Nat.lt_or_ge k i with z | z
      · have : i = k + 1 := by omega
        rw [this]; omega
      · exact i2 i z
section
variable {ks : List Int} {L : List (Option (List Int))}
theorem at_py (i : Nat) (h : i < L.length) : (D.pyA (L.map encMe)).getD i .none = .tuple ((rowM L[i]).map .int) := by
  rw [pyA_me, List.getD_eq_getElem?_getD, List.getElem?_map, List.getElem?_eq_getElem h]
  rfl
theorem best_me (s : Int) {f : PyData → PyData → Bool} (hL : L ≠ []) (hf : ∀ x ∈ L, ∀ y ∈ L, f (.tuple ((rowM x).map .int)) (.tuple ((rowM y).map .int)) = decide (s * vM ks x < s * vM ks y)) :
    ∃ r ∈ L, bestT f (L.map encMe) = some (encMe r) ∧ ∀ x ∈ L, s * vM ks r ≤ s * vM ks x := by
  have hl := List.length_pos_iff.mpr hL
  obtain ⟨a1, a2⟩ := arg_best (bt := fun i j => f ((D.pyA (L.map encMe)).getD i .none) ((D.pyA (L.map encMe)).getD j .none)) (val := fun i => s * vM ks (L.getD i none)) (n := L.length - 1) (fun i j hi hj => by
    have hi' : i < L.length := by omega
    have hj' : j < L.length := by omega
    rw [at_py i hi', at_py j hj', hf _ (List.getElem_mem hi') _ (List.getElem_mem hj')]
    have ei : L.getD i none = L[i] := by rw [List.getD_eq_getElem?_getD, List.getElem?_eq_getElem hi']; rfl
    have ej : L.getD j none = L[j] := by rw [List.getD_eq_getElem?_getD, List.getElem?_eq_getElem hj']; rfl
    rw [ei, ej]) (L.length - 1) (Nat.le_refl _)
  unfold bestT
  rw [if_pos ⟨plA_me L, all_alike L, dep_me L, by simpa using hL⟩, List.length_map]
  generalize PySem.argBest (fun i j => f ((D.pyA (L.map encMe)).getD i .none) ((D.pyA (L.map encMe)).getD j .none)) (L.length - 1) = k at *
  have hk : k < L.length := by omega
  refine ⟨L[k], List.getElem_mem hk, by rw [List.getElem?_map, List.getElem?_eq_getElem hk]; rfl, fun x hx => ?_⟩
  obtain ⟨i, hi, rfl⟩ := List.getElem_of_mem hx
  have := a2 i (by omega)
  have ei : L.getD i none = L[i] := by rw [List.getD_eq_getElem?_getD, List.getElem?_eq_getElem hi]; rfl
  have ek : L.getD k none = L[k] := by rw [List.getD_eq_getElem?_getD, List.getElem?_eq_getElem hk]; rfl
  rw [ei, ek] at this
  exact this
theorem min_me (hk : ∀ k ∈ ks, 0 ≤ k) (hL : L ≠ []) (ho : ∀ x ∈ L, okM ks x) : ∃ r ∈ L, minT [.list (L.map encMe)] = some (encMe r) ∧ ∀ x ∈ L, vM ks r ≤ vM ks x := by
  obtain ⟨r, h1, h2, h3⟩ := best_me (ks := ks) (L := L) 1 (f := PySem.W.dataLt) hL fun x hx y hy => by
    rw [lt_rows, decide_eq_decide, row_lt hk (ho x hx) (ho y hy), Int.one_mul, Int.one_mul]
  exact ⟨r, h1, h2, fun x hx => by have := h3 x hx; omega⟩
theorem max_me (hk : ∀ k ∈ ks, 0 ≤ k) (hL : L ≠ []) (ho : ∀ x ∈ L, okM ks x) : ∃ r ∈ L, maxT [.list (L.map encMe)] = some (encMe r) ∧ ∀ x ∈ L, vM ks x ≤ vM ks r := by
  obtain ⟨r, h1, h2, h3⟩ := best_me (ks := ks) (L := L) (-1) (f := fun a b => PySem.W.dataLt b a) hL fun x hx y hy => by
    rw [lt_rows, decide_eq_decide, row_lt hk (ho y hy) (ho x hx)]
    omega
  exact ⟨r, h1, h2, fun x hx => by have := h3 x hx; omega⟩
end
/-! ### due by all goals -/
def encMs (n : Nat) (M : Int → Option (List Int)) : List D := (rngI 0 n).map fun v => encMe (M v)
theorem encMs_len (n : Nat) (M : Int → Option (List Int)) : (encMs n M).length = n := by simp [encMs, rngI_len]
theorem encMs_at {n : Nat} {M : Int → Option (List Int)} {v : Int} (h0 : 0 ≤ v) (h1 : v < n) : atI (encMs n M) v = some (encMe (M v)) := by
  unfold atI
  rw [encMs_len, ixN_in h0 h1]
  show (encMs n M)[v.toNat]? = _
  unfold encMs
  rw [List.getElem?_map, rngI_get (by omega)]
  show some (encMe (M ((v.toNat : Nat) : Int))) = _
  rw [Int.toNat_of_nonneg h0]
def updM (M : Int → Option (List Int)) (v : Int) (r : Option (List Int)) : Int → Option (List Int) := fun u => if u = v then r else M u
theorem encMs_set {n : Nat} {M : Int → Option (List Int)} {v : Int} {r : Option (List Int)} (h0 : 0 ≤ v) (h1 : v < n) : (encMs n M).set v.toNat (encMe r) = encMs n (updM M v r) := by
  apply List.ext_getElem?
  intro i
  rw [List.getElem?_set]
  by_cases hi : i < n
  · have e1 : (encMs n M)[i]? = some (encMe (M i)) := by unfold encMs; rw [List.getElem?_map, rngI_get hi]; rfl
    have e2 : (encMs n (updM M v r))[i]? = some (encMe (if (i : Int) = v then r else M i)) := by unfold encMs updM; rw [List.getElem?_map, rngI_get hi]; rfl
    rw [e1, e2, encMs_len]
    by_cases hv : v.toNat = i
    · have hv' : (i : Int) = v := by omega
      rw [if_pos hv, if_pos (by omega), if_pos hv']
    · have hv' : ¬ (i : Int) = v := by omega
      rw [if_neg hv, if_neg hv']
  · have e1 : (encMs n M)[i]? = none := List.getElem?_eq_none (by rw [encMs_len]; omega)
    have e2 : (encMs n (updM M v r))[i]? = none := List.getElem?_eq_none (by rw [encMs_len]; omega)
    rw [e1, e2, encMs_len]
    split <;> (try split) <;> first | rfl | omega
theorem ded_len : ∀ ns : List Int, (dedI ns).length ≤ ns.length
  | [] => Nat.le_refl _
  | n :: ns => by
    have := ded_len ns
    show (if n ∈ dedI ns then dedI ns else n :: dedI ns).length ≤ _
    split <;> simp only [List.length_cons] <;> omega
theorem srt_len (ns : List Int) : (srtI ns).length ≤ ns.length := by
  unfold srtI
  rw [sortI_len]
  exact ded_len ns
theorem srt_desc (ns : List Int) : desc (srtI ns).reverse := by
  unfold desc
  rw [List.pairwise_reverse]
  exact srt_lt ns
theorem odd_ok (ps : List Place) : OdOk ps (oddM ps) := ⟨srt_desc _, fun m => by
  unfold oddM
  rw [List.mem_reverse]
  exact mem_srt⟩
theorem nodup_desc {os : List Int} (h : desc os) : os.Nodup := h.imp fun h => by omega
theorem odd_len {ps : List Place} : (oddM ps).length ≤ ps.length := by
  have h1 : (oddL ps).length ≤ ps.length := by
    have := List.length_filter_le (fun m => decide (m % 2 = 1)) (ps.map (·.m))
    rw [List.length_map] at this
    exact this
  unfold oddM
  rw [List.length_reverse]
  exact Nat.le_trans (srt_len _) h1
section
variable {ps : List Place} {M : Int → Option (List Int)} {hi : Int}
/-- what is found by the goals of v -/
structure Due (ps : List Place) (M : Int → Option (List Int)) (v : Int) (r : Option (List Int)) : Prop where
  ok : okMm ps (oddM ps) r
  fr : ∃ g ∈ (pl ps v).gs, vMm ps (oddM ps) r = dV ps (oddM ps) v (vMm ps (oddM ps) (M g))
  zero : (pl ps v).o = 0 → ∀ g ∈ (pl ps v).gs, vMm ps (oddM ps) r ≤ dV ps (oddM ps) v (vMm ps (oddM ps) (M g))
  one : (pl ps v).o ≠ 0 → ∀ g ∈ (pl ps v).gs, dV ps (oddM ps) v (vMm ps (oddM ps) (M g)) ≤ vMm ps (oddM ps) r
theorem okM_len {ks : List Int} {x : Option (List Int)} (h : okM ks x) : ∀ l, x = some l → l.length = ks.length := fun l e => by
  subst e
  exact okR_len h
theorem e_due_of (hg : GOk hi ps) (hn : ps.length ≤ 24) (hM : ∀ v, okMm ps (oddM ps) (M v)) {v : Int} (h0 : 0 ≤ v) (h1 : v < ps.length) :
    ∃ r, d_due_of [encP (pl ps v), .list (encMs ps.length M), encOd ps] = .ok (encMe r) ∧ Due ps M v r := by
  have p := hg.ok _ (pl_mem h0 h1)
  have hc : ∀ k ∈ (oddM ps).map (capM ps), 0 ≤ k := caps0 cap0
  have key : ∀ x3, dLcL (b1 4) dYes (dUse 3 d_due_by (dCons (dVar 0) (dCons (dOp getD (dVar 1) (dVar 4)) (dCons (dVar 2) dNil)))) [some (encP (pl ps v)), some (.list (encMs ps.length M)), some (encOd ps), x3, none] ((pl ps v).gs.map .int) = .ok (((pl ps v).gs.map fun g => dueB (oddM ps) ((oddM ps).map (capM ps)) (pl ps v) (M g)).map encMe) := fun x3 => by
    rw [List.map_map]
    refine lc_rng fun g hg' => ⟨_, s_b1, ?_⟩
    obtain ⟨g0, g1⟩ := p.rg g hg'
    have e := e_due_by (os := oddM ps) (cap := capM ps) (p := pl ps v) (x := M g) (Nat.le_trans odd_len hn) fun l e => by
      have := okM_len (hM g) l e
      rwa [List.length_map] at this
    have em := encMs_at (M := M) g0 g1
    have eo : encOd ps = .list ((oddM ps).map fun m => .tuple [.int m, .int (capM ps m)]) := rfl
    rw [← eo] at e
    simp [get_l, em, e]
  have hok : ∀ x ∈ (pl ps v).gs.map fun g => dueB (oddM ps) ((oddM ps).map (capM ps)) (pl ps v) (M g), okM ((oddM ps).map (capM ps)) x := fun x hx => by
    obtain ⟨g, _, rfl⟩ := List.mem_map.mp hx
    exact (dueB_ok (odd_ok ps).ds cap0 _ (hM g)).1
  have hval : ∀ g, vM ((oddM ps).map (capM ps)) (dueB (oddM ps) ((oddM ps).map (capM ps)) (pl ps v) (M g)) = dV ps (oddM ps) v (vMm ps (oddM ps) (M g)) := fun g => (dueB_ok (odd_ok ps).ds cap0 _ (hM g)).2
  have hne : ((pl ps v).gs.map fun g => dueB (oddM ps) ((oddM ps).map (capM ps)) (pl ps v) (M g)) ≠ [] := by simpa using p.ne
  by_cases ho : (pl ps v).o = 0
  · obtain ⟨r, r1, r2, r3⟩ := min_me hc hne hok
    obtain ⟨g, hg', rfl⟩ := List.mem_map.mp r1
    refine ⟨_, ?_, hok _ r1, ⟨g, hg', hval g⟩, fun _ g2 hg2 => ?_, fun z => absurd ho z⟩
    · generalize ((pl ps v).gs.map fun g => dueB (oddM ps) ((oddM ps).map (capM ps)) (pl ps v) (M g)).map encMe = KK at *
      simp [d_due_of, b_due_of, get3, get0, key, ho, r2]
    · have := r3 _ (List.mem_map.mpr ⟨g2, hg2, rfl⟩)
      rw [hval g2] at this
      exact this
  · obtain ⟨r, r1, r2, r3⟩ := max_me hc hne hok
    obtain ⟨g, hg', rfl⟩ := List.mem_map.mp r1
    refine ⟨_, ?_, hok _ r1, ⟨g, hg', hval g⟩, fun z => absurd z ho, fun _ g2 hg2 => ?_⟩
    · generalize ((pl ps v).gs.map fun g => dueB (oddM ps) ((oddM ps).map (capM ps)) (pl ps v) (M g)).map encMe = KK at *
      simp [d_due_of, b_due_of, get3, get0, key, ho, r2]
    · have := r3 _ (List.mem_map.mpr ⟨g2, hg2, rfl⟩)
      rw [hval g2] at this
      exact this
/-! ### rising until nothing changes -/
structure InvM (ps : List Place) (M : Int → Option (List Int)) : Prop where
  ok : ∀ v, okMm ps (oddM ps) (M v)
  lst : ∀ F, Pre ps (oddM ps) F → ∀ v ∈ rngI 0 ps.length, vMm ps (oddM ps) (M v) ≤ F v
def stopM (ps : List Place) (M : Int → Option (List Int)) : Prop := ∀ v ∈ rngI 0 ps.length, ∃ r, Due ps M v r ∧ vMm ps (oddM ps) r ≤ vMm ps (oddM ps) (M v)
theorem vMm_bd {x : Option (List Int)} (h : okMm ps (oddM ps) x) : 0 ≤ vMm ps (oddM ps) x ∧ vMm ps (oddM ps) x ≤ prM ps (oddM ps) ∧ (vMm ps (oddM ps) x = prM ps (oddM ps) ↔ x = none) := vM_bd (caps0 cap0) h
theorem due_pre (hg : GOk hi ps) (I : InvM ps M) {F : Int → Int} (H : Pre ps (oddM ps) F) {v : Int} (hv : v ∈ rngI 0 ps.length) {r : Option (List Int)} (D : Due ps M v r) : vMm ps (oddM ps) r ≤ F v := by
  have hv' := rngI_mem.mp hv
  have p := hg.ok _ (pl_mem (v := v) (by omega) (by omega))
  have le : ∀ g ∈ (pl ps v).gs, dV ps (oddM ps) v (vMm ps (oddM ps) (M g)) ≤ dV ps (oddM ps) v (F g) := fun g hg' => by
    have := p.rg g hg'
    exact dV_mono (odd_ok ps) (vMm_bd (I.ok g)).1 (I.lst F H g (rngI_mem.mpr (by omega))) (H.bd g).2
  by_cases ho : (pl ps v).o = 0
  · obtain ⟨g, hg', h⟩ := H.zero v hv ho
    exact Int.le_trans (D.zero ho g hg') (Int.le_trans (le g hg') h)
  · obtain ⟨g, hg', h⟩ := D.fr
    rw [h]
    exact Int.le_trans (le g hg') (H.one v hv ho g hg')
/-- how much is left to rise -/
def MUm (ps : List Place) (M : Int → Option (List Int)) : Nat → Nat
  | 0 => 0
  | n + 1 => MUm ps M n + (prM ps (oddM ps) - vMm ps (oddM ps) (M n)).toNat
theorem MUm_ne {v : Int} {r : Option (List Int)} : ∀ {n : Nat}, ¬ v < n → MUm ps (updM M v r) n = MUm ps M n
  | 0, _ => rfl
  | n + 1, h => by
    unfold MUm
    rw [MUm_ne (n := n) (by omega)]
    have : updM M v r (n : Int) = M n := if_neg (by omega)
    rw [this]
theorem MUm_lt (hM : ∀ v, okMm ps (oddM ps) (M v)) {v : Int} {r : Option (List Int)} (hr : okMm ps (oddM ps) r) (q : vMm ps (oddM ps) (M v) < vMm ps (oddM ps) r) (h0 : 0 ≤ v) : ∀ {n : Nat}, v < n → MUm ps (updM M v r) n < MUm ps M n
  | 0, h => by omega
  | n + 1, h => by
    have b1 := (vMm_bd (hM v)).2.1
    have b2 := (vMm_bd hr).2.1
    unfold MUm
    by_cases e : (n : Int) = v
    · rw [MUm_ne (n := n) (by omega)]
      have : updM M v r (n : Int) = r := if_pos e
      rw [this, e]
      omega
    · have ih := MUm_lt hM hr q h0 (n := n) (by omega)
      have : updM M v r (n : Int) = M n := if_neg e
      rw [this]
      omega
theorem MUm_le (hM : ∀ v, okMm ps (oddM ps) (M v)) : ∀ n : Nat, MUm ps M n ≤ n * (prM ps (oddM ps)).toNat
  | 0 => by simp [MUm]
  | n + 1 => by
    have ih := MUm_le hM n
    have := (vMm_bd (hM n)).1
    unfold MUm
    rw [Nat.succ_mul]
    omega
theorem InvM.step (hg : GOk hi ps) (I : InvM ps M) {v : Int} (hv : v ∈ rngI 0 ps.length) {r : Option (List Int)} (D : Due ps M v r) : InvM ps (updM M v r) := by
  refine ⟨fun u => ?_, fun F H u hu => ?_⟩
  · unfold updM
    split
    · exact D.ok
    · exact I.ok u
  · unfold updM
    split
    · rename_i e
      subst e
      exact due_pre hg I H hv D
    · exact I.lst F H u hu
theorem e_minner (hg : GOk hi ps) (hn : ps.length ≤ 24) (I : InvM ps M) (x4 x5 x6 x7 : Option D) :
    ∃ M' b y4 y5 y6, dForL (bT [4, 5]) l1_by_measures ((rngI 0 ps.length).map fun v => .tuple [.int v, encP (pl ps v)]) [some (encGr ps), some (encOd ps), some (.list (encMs ps.length M)), some (.bool false), x4, x5, x6, x7] =
      .nx [some (encGr ps), some (encOd ps), some (.list (encMs ps.length M')), some (.bool b), y4, y5, y6, x7] ∧ InvM ps M' ∧ (b = false → stopM ps M') ∧ (b = true → MUm ps M' ps.length < MUm ps M ps.length) := by
  obtain ⟨ρ', e, done, M', b, y4, y5, y6, hd, rfl, I', hf, ht⟩ := for_I (enc := fun v => D.tuple [.int v, encP (pl ps v)]) (b := bT [4, 5]) (t := l1_by_measures) (l := rngI 0 ps.length) (ρ := [some (encGr ps), some (encOd ps), some (.list (encMs ps.length M)), some (.bool false), x4, x5, x6, x7])
    (fun l ρ => ∃ done M' b y4 y5 y6, rngI 0 ps.length = done ++ l ∧ ρ = [some (encGr ps), some (encOd ps), some (.list (encMs ps.length M')), some (.bool b), y4, y5, y6, x7] ∧ InvM ps M' ∧ (b = false → M' = M ∧ ∀ v ∈ done, ∃ r, Due ps M v r ∧ vMm ps (oddM ps) r ≤ vMm ps (oddM ps) (M v)) ∧ (b = true → MUm ps M' ps.length < MUm ps M ps.length))
    ⟨[], M, false, x4, x5, x6, rfl, rfl, I, fun _ => ⟨rfl, fun v hv => (by cases hv)⟩, fun z => (by cases z)⟩ (by
      rintro v l ρ ⟨done, M', b, y4, y5, y6, hd, rfl, I', hf, ht⟩
      obtain ⟨v0, v1⟩ := rng_cons hd
      obtain ⟨r, ed, D⟩ := e_due_of hg hn I'.ok v0 v1
      have hl : gtT (encMe r) (encMe (M' v)) = some (decide (vMm ps (oddM ps) (M' v) < vMm ps (oddM ps) r)) := gt_me (caps0 cap0) D.ok (I'.ok v)
      have hv : v ∈ rngI 0 ps.length := rngI_mem.mpr (by omega)
      have hd' : rngI 0 ps.length = (done ++ [v]) ++ l := by rw [hd]; simp
      by_cases q : vMm ps (oddM ps) (M' v) < vMm ps (oddM ps) r
      · refine ⟨_, [some (encGr ps), some (encOd ps), some (.list (encMs ps.length (updM M' v r))), some (.bool true), some (.int v), some (encP (pl ps v)), some (encMe r), x7], rfl, .inl ?_, done ++ [v], _, true, _, _, _, hd', rfl, I'.step hg hv D, fun z => (by cases z), fun _ => ?_⟩
        · have es := encMs_set (M := M') (r := r) v0 v1
          simp [l1_by_measures, ed, fix_me, get_l, encMs_at v0 v1, hl, q, encMs_len, ixN_in v0 v1, es]
        · have m := MUm_lt I'.ok D.ok q v0 v1
          cases b with
          | false => rw [(hf rfl).1] at m; rw [(hf rfl).1]; exact m
          | true => exact Nat.lt_trans m (ht rfl)
      · refine ⟨_, [some (encGr ps), some (encOd ps), some (.list (encMs ps.length M')), some (.bool b), some (.int v), some (encP (pl ps v)), some (encMe r), x7], rfl, .inl ?_, done ++ [v], M', b, _, _, _, hd', rfl, I', fun z => ⟨(hf z).1, fun u hu => ?_⟩, ht⟩
        · simp [l1_by_measures, ed, fix_me, get_l, encMs_at v0 v1, hl, q]
        · rcases List.mem_append.mp hu with z' | z'
          · exact (hf z).2 u z'
          · have : u = v := by simpa using z'
            rw [this, ← (hf z).1]
            exact ⟨r, D, by omega⟩)
  refine ⟨M', b, y4, y5, y6, e, I', fun z v hv => ?_, ht⟩
  rw [(hf z).1]
  refine (hf z).2 v ?_
  rw [List.append_nil] at hd
  rw [← hd]
  exact hv
theorem e_mwhile (hg : GOk hi ps) (hn : ps.length ≤ 24) (I : InvM ps M) (x4 x5 x6 x7 : Option D) (hf : MUm ps M ps.length + 1 < 100000) :
    ∃ M' y4 y5 y6, dWh l3_by_measures l2_by_measures 100000 [some (encGr ps), some (encOd ps), some (.list (encMs ps.length M)), some (.bool true), x4, x5, x6, x7] =
      .nx [some (encGr ps), some (encOd ps), some (.list (encMs ps.length M')), some (.bool false), y4, y5, y6, x7] ∧ InvM ps M' ∧ stopM ps M' := by
  obtain ⟨ρ', e, M', y4, y5, y6, rfl, I', hs⟩ := wh_I (c := l3_by_measures) (t := l2_by_measures)
    (fun m ρ => ∃ M' b y4 y5 y6, ρ = [some (encGr ps), some (encOd ps), some (.list (encMs ps.length M')), some (.bool b), y4, y5, y6, x7] ∧ InvM ps M' ∧ (b = false → stopM ps M') ∧ (b = true → MUm ps M' ps.length < m))
    (fun ρ => ∃ M' y4 y5 y6, ρ = [some (encGr ps), some (encOd ps), some (.list (encMs ps.length M')), some (.bool false), y4, y5, y6, x7] ∧ InvM ps M' ∧ stopM ps M') (by
      rintro m ρ ⟨M', b, y4, y5, y6, rfl, I', hf, ht⟩
      cases b with
      | false => exact .inl ⟨by simp [l3_by_measures], M', y4, y5, y6, rfl, I', hf rfl⟩
      | true =>
        obtain ⟨M2, b2, z4, z5, z6, e2, I2, k1, k2⟩ := e_minner hg hn I' y4 y5 y6 x7
        refine .inr ⟨by simp [l3_by_measures], _, MUm ps M' ps.length, .inl ?_, ht rfl, M2, b2, z4, z5, z6, rfl, I2, k1, k2⟩
        simp [l2_by_measures, encGr, gr_rng, enum_rng]
        simp [encGr, gr_rng] at e2
        exact e2) (n := MUm ps M ps.length + 1) (fuel := 100000) (ρ := [some (encGr ps), some (encOd ps), some (.list (encMs ps.length M)), some (.bool true), x4, x5, x6, x7]) ⟨M, true, x4, x5, x6, rfl, I, fun z => (by cases z), fun _ => Nat.lt_succ_self _⟩ hf
  exact ⟨M', y4, y5, y6, e, I', hs⟩
def byM (M : Int → Option (List Int)) (v : Int) : Int := if M v = none then 1 else 0
theorem e_by_measures (hg : GOk hi ps) (hn : ps.length ≤ 10) : ∃ M, d_by_measures [encGr ps] = .ok (.tuple (encI ps.length (byM M))) ∧ InvM ps M ∧ stopM ps M := by
  obtain ⟨z, hz⟩ : ∃ z, z = List.replicate ((oddM ps).map (capM ps)).length (0 : Int) := ⟨_, rfl⟩
  obtain ⟨z1, z2⟩ := okR_zero (ks := (oddM ps).map (capM ps)) (caps0 cap0)
  rw [← hz] at z1 z2
  have I0 : InvM ps fun _ => some z := ⟨fun _ => z1, fun F H v hv => by
    show vl _ z ≤ F v
    rw [z2]
    exact (H.bd v).1⟩
  have hP : prM ps (oddM ps) ≤ 2 ^ (oddL ps).length := pr_le (oddL ps) (nodup_desc (odd_ok ps).ds)
  have hol : (oddL ps).length ≤ 10 := by
    have := List.length_filter_le (fun m => decide (m % 2 = 1)) (ps.map (·.m))
    rw [List.length_map] at this
    unfold oddL
    omega
  have hP2 : prM ps (oddM ps) ≤ 1024 := by
    refine Int.le_trans hP ?_
    have : ∀ n : Nat, n ≤ 10 → (2 : Int) ^ n ≤ 1024 := by decide
    exact this _ hol
  have hmu : MUm ps (fun _ => some z) ps.length + 1 < 100000 := by
    have h1 := MUm_le (M := fun _ => some z) I0.ok ps.length
    have h2 : ps.length * (prM ps (oddM ps)).toNat ≤ 10 * 1024 := Nat.mul_le_mul hn (by omega)
    omega
  obtain ⟨M, y4, y5, y6, e, I, hs⟩ := e_mwhile hg (by omega) I0 none none none none hmu
  refine ⟨M, ?_, I, hs⟩
  have eo := e_odd_marks (ps := ps) (by omega)
  have hlo : lenD [encOd ps] = some (.int (oddM ps).length) := by
    unfold encOd
    show some (D.int (((oddM ps).map fun m => D.tuple [.int m, .int (capM ps m)]).length : Nat)) = _
    rw [List.length_map]
  have hm0 : mulD (.list [.int 0]) (.int ((oddM ps).length + 1 : Int)) = some (.list ((0 :: z).map .int)) := by
    have := odd_len (ps := ps)
    show (if _ then _ else _) = _
    rw [if_pos ⟨by omega, by omega, by simp⟩]
    have : ((oddM ps).length + 1 : Int).toNat = (oddM ps).length + 1 := by omega
    rw [this, hz, List.length_map]
    simp [List.replicate_succ]
  have k1 : dLcL (b1 5) dYes (dCall tupC (dCons (dOp mulD (dLst (dCons (dC (.int 0)) dNil)) (dOp addD (dCall lenD (dCons (dVar 1) dNil)) (dC (.int 1)))) dNil)) [some (encGr ps), some (encOd ps), none, none, none, none, none, none] (ps.map encP) = .ok (encMs ps.length fun _ => some z) := by
    rw [gr_rng]
    refine lc_rng fun v hv => ⟨_, s_b1, ?_⟩
    have eM : encMe (some z) = .tuple ((0 :: z).map .int) := rfl
    rw [eM]
    generalize (0 :: z).map D.int = ZD at *
    simp [hlo, hm0, -e_lenL]
  have k2 : ∀ y4 y5 y6, dLcL (b1 7) dYes (dCall intC (dCons (dBv (dCmp eqD (dVar 7) (dC (.ktup [1])))) dNil)) [some (encGr ps), some (encOd ps), some (.list (encMs ps.length M)), some (.bool false), y4, y5, y6, none] (encMs ps.length M) = .ok (encI ps.length (byM M)) := fun y4 y5 y6 => by
    refine lc_rng fun v hv => ⟨_, s_b1, ?_⟩
    have eb := eq_bey (M v)
    unfold byM
    cases h : M v with
    | none =>
      rw [h] at eb
      simp [eb, intC]
    | some l =>
      rw [h] at eb
      simp [eb, intC]
  have hs' : seqD (encGr ps) = .ok (ps.map encP) := rfl
  simp [d_by_measures, b_by_measures, eo, hs', k1, e, k2]
end
theorem stop_pre {ps : List Place} {M : Int → Option (List Int)} {hi : Int} (hg : GOk hi ps) (I : InvM ps M) (hs : stopM ps M) : Pre ps (oddM ps) (fun v => vMm ps (oddM ps) (M v)) := by
  refine ⟨fun v => ⟨(vMm_bd (I.ok v)).1, (vMm_bd (I.ok v)).2.1⟩, fun v hv ho => ?_, fun v hv ho g hg' => ?_⟩
  · obtain ⟨r, D, h⟩ := hs v hv
    obtain ⟨g, hg', e⟩ := D.fr
    exact ⟨g, hg', by rw [← e]; exact h⟩
  · obtain ⟨r, D, h⟩ := hs v hv
    exact Int.le_trans (D.one ho g hg') h
/-! ### grounds with up to three goals -/
def cut3 (p : Place) : Place := ⟨p.o, p.m, p.g, p.gs.take 3⟩
theorem cut3_ok {c hi : Int} {p : Place} (h : POk c hi p) : POk c hi (cut3 p) where
  o0 := h.o0
  o1 := h.o1
  m0 := h.m0
  m1 := h.m1
  g0 := h.g0
  g1 := h.g1
  up := h.up.sublist (List.take_sublist _ _)
  ne := fun z => by
    have h1 := congrArg List.length z
    have h2 := List.length_pos_iff.mpr h.ne
    simp only [cut3, List.length_take, List.length_nil] at h1
    omega
  rg := fun i hi => h.rg i (List.mem_of_mem_take hi)
  le := by
    have := h.le
    simp only [cut3, List.length_take]
    omega
theorem cut_3 (l : List D) : cutD l none (some 3) = l.take 3 := by
  have h1 : HT.sIx l.length l.length (some 3) = min 3 l.length := HT.sIx_nat _ _ 3
  unfold cutD
  rw [h1, HT.sIx_none, List.drop_zero, Nat.sub_zero, ← List.take_take, List.take_length]
theorem lc_all {α : Type} {b : D → List (Option D) → Option (List (Option D))} {elt : List (Option D) → Out D} {ρ : List (Option D)} {f g : α → D} : ∀ {l : List α}, (∀ v ∈ l, ∃ ρ1, b (f v) ρ = some ρ1 ∧ elt ρ1 = .ok (g v)) →
    dLcL b dYes elt ρ (l.map f) = .ok (l.map g)
  | [], _ => rfl
  | a :: l, h => by
    obtain ⟨ρ1, h1, h2⟩ := h a List.mem_cons_self
    have ih := lc_all (l := l) fun v hv => h v (List.mem_cons_of_mem _ hv)
    rw [List.map_cons]
    unfold dLcL
    rw [h1]
    simp [h2, ih]
/-! ### the law's choices -/
def encC (c : List (Option Int)) : D := .tuple (c.map encM)
theorem e_add_choice {wy : List (Option Int)} {c : List (Option Int)} (hc : c.length ≤ 1000) {ρ : List (Option D)} {b : D → List (Option D) → Option (List (Option D))} (hb : ∀ w, ∃ ρ1, b (encM w) ρ = some ρ1 ∧ dVar 7 ρ1 = .ok (encC c) ∧ dVar 9 ρ1 = .ok (encM w)) :
    dLcL b dYes (dOp addD (dVar 7) (dTup (dCons (dVar 9) dNil))) ρ (wy.map encM) = .ok ((wy.map fun w => c ++ [w]).map encC) := by
  rw [List.map_map]
  refine lc_all fun w _ => ?_
  obtain ⟨ρ1, h1, h2, h3⟩ := hb w
  refine ⟨ρ1, h1, ?_⟩
  have ha : addD (encC c) (.tuple [encM w]) = some (encC (c ++ [w])) := by
    show (if _ then _ else _) = _
    rw [if_pos (by simp; omega)]
    unfold encC
    rw [List.map_append]
    rfl
  simp [h2, h3, ha]
section
variable {ps : List Place} {i : Int} {W : List Int}
theorem e_cinner2 (x0 x1 x2 x3 x4 x8 x9 : Option D) {wy : List (Option Int)} (hw : wy.length ≤ 60) : ∀ (CH acc : List (List (Option Int))) (x7 : Option D), (∀ c ∈ CH, c.length ≤ 1000) → acc.length + CH.length * 60 ≤ 100000 →
    ∃ y7, dForL (b1 7) l1__law_choices (CH.map encC) [x0, x1, x2, x3, x4, some (.list (wy.map encM)), some (.list (acc.map encC)), x7, x8, none] =
      .nx [x0, x1, x2, x3, x4, some (.list (wy.map encM)), some (.list ((acc ++ CH.flatMap fun c => wy.map fun w => c ++ [w]).map encC)), y7, x8, none]
  | [], acc, x7, _, _ => ⟨x7, by simp⟩
  | c :: CH, acc, x7, hl, ha => by
    have hc := hl c List.mem_cons_self
    simp only [List.length_cons] at ha
    obtain ⟨y7, ih⟩ := e_cinner2 x0 x1 x2 x3 x4 x8 x9 hw CH (acc ++ wy.map fun w => c ++ [w]) (some (encC c)) (fun d hd => hl d (List.mem_cons_of_mem _ hd)) (by simp only [List.length_append, List.length_map]; omega)
    refine ⟨y7, ?_⟩
    have key := e_add_choice (wy := wy) (c := c) hc (ρ := [x0, x1, x2, x3, x4, some (.list (wy.map encM)), some (.list (acc.map encC)), some (encC c), x8, none]) (b := b1 9) fun w => ⟨_, s_b1, by simp, by simp⟩
    have hadd : addD (.list (acc.map encC)) (.list ((wy.map fun w => c ++ [w]).map encC)) = some (.list ((acc ++ wy.map fun w => c ++ [w]).map encC)) := by
      show (if _ then _ else _) = _
      rw [if_pos (by simp only [List.length_map]; omega), ← List.map_append]
    rw [List.map_cons, fl_cons, s_b1, s_obS]
    rw [List.flatMap_cons, ← List.append_assoc]
    generalize (acc ++ (wy.map fun w => c ++ [w]) ++ CH.flatMap fun c => wy.map fun w => c ++ [w]).map encC = FE at *
    generalize (acc ++ wy.map fun w => c ++ [w]).map encC = RE at *
    generalize (wy.map fun w => c ++ [w]).map encC = WC at *
    generalize wy.map encM = WM at *
    generalize acc.map encC = AE at *
    simp [l1__law_choices, key, hadd]
    exact ih
def wayC (ps : List Place) (i : Int) (W : List Int) (v : Int) : List (Option Int) := if v ∈ W ∧ (pl ps v).o = i then (within ps v W).map some else [none]
theorem e_choices {hi : Int} (hg : GOk hi ps) (hn : ps.length ≤ 5) (h3 : ∀ v ∈ rngI 0 ps.length, (pl ps v).gs.length ≤ 3) {mv : Int → Option Int} (hm : ∀ v ∈ rngI 0 ps.length, mv v ∈ wayC ps i W v) :
    ∃ CH : List (List (Option Int)), d__law_choices [encGr ps, .int i, .list (W.map .int)] = .ok (.list (CH.map encC)) ∧ (∀ c ∈ CH, c.length = ps.length) ∧ (rngI 0 ps.length).map mv ∈ CH := by
  obtain ⟨ρ', e, done, CH, y4, y5, y6, y7, y8, y9, hd, rfl, hl, hc, hin⟩ := for_I (enc := D.int) (b := b1 4) (t := l2__law_choices) (l := rngI 0 ps.length)
    (ρ := [some (encGr ps), some (.int i), some (.list (W.map .int)), some (.list (([[]] : List (List (Option Int))).map encC)), none, none, none, none, none, none])
    (fun l ρ => ∃ (done : List Int) (CH : List (List (Option Int))) (y4 y5 y6 y7 y8 y9 : Option D), rngI 0 ps.length = done ++ l ∧ ρ = [some (encGr ps), some (.int i), some (.list (W.map .int)), some (.list (CH.map encC)), y4, y5, y6, y7, y8, none] ∧ CH.length ≤ 3 ^ done.length ∧ (∀ c ∈ CH, c.length = done.length) ∧ done.map mv ∈ CH)
    ⟨[], [[]], none, none, none, none, none, none, rfl, rfl, by decide, fun c hc => (by simp at hc; rw [hc]; rfl), by simp⟩ (by
      rintro v l ρ ⟨done, CH, y4, y5, y6, y7, y8, y9, hd, rfl, hl, hc, hin⟩
      obtain ⟨v0, v1⟩ := rng_cons hd
      have hv : v ∈ rngI 0 ps.length := rngI_mem.mpr (by omega)
      have hdl : done.length < ps.length := by
        have := congrArg List.length hd
        rw [rngI_len] at this
        simp only [List.length_append, List.length_cons] at this
        omega
      have hp3 : 3 ^ done.length ≤ 81 := by
        have : ∀ n : Nat, n < 5 → 3 ^ n ≤ 81 := by decide
        exact this _ (by omega)
      have hwl : (wayC ps i W v).length ≤ 3 := by
        unfold wayC
        split
        · rw [List.length_map]
          exact Nat.le_trans (List.length_filter_le _ _) (h3 v hv)
        · decide
      obtain ⟨z7, ei⟩ := e_cinner2 (some (encGr ps)) (some (.int i)) (some (.list (W.map .int))) (some (.list (CH.map encC))) (some (.int v)) y8 none (wy := wayC ps i W v) (by omega) CH [] y7 (fun c h => by have := hc c h; omega) (by simp only [List.length_nil]; omega)
      rw [List.nil_append, List.map_nil] at ei
      have key : ∀ y5, dLcL (b1 8) (dCmp inD (dVar 8) (dVar 2)) (dVar 8) [some (encGr ps), some (.int i), some (.list (W.map .int)), some (.list (CH.map encC)), some (.int v), y5, y6, y7, none, none] ((pl ps v).gs.map .int) = .ok ((within ps v W).map .int) := fun y5 =>
        lc_ints fun g hg' => ⟨_, s_b1, by simp [in_L], by simp⟩
      refine ⟨_, [some (encGr ps), some (.int i), some (.list (W.map .int)), some (.list ((CH.flatMap fun c => (wayC ps i W v).map fun w => c ++ [w]).map encC)), some (.int v), some (.list ((wayC ps i W v).map encM)), some (.list ((CH.flatMap fun c => (wayC ps i W v).map fun w => c ++ [w]).map encC)), z7, y8, none], rfl, .inl ?_, done ++ [v], _, _, _, _, _, _, none, by rw [hd]; simp, rfl, ?_, fun c h => ?_, ?_⟩
      · generalize CH.flatMap (fun c => (wayC ps i W v).map fun w => c ++ [w]) = CW at *
        by_cases q : v ∈ W ∧ (pl ps v).o = i
        · have ew : (wayC ps i W v).map encM = (within ps v W).map .int := by
            unfold wayC
            rw [if_pos q, List.map_map]
            rfl
          rw [ew] at ei ⊢
          generalize CH.map encC = CE at *
          generalize CW.map encC = CWE at *
          simp [l2__law_choices, in_L, q.1, get_pl v0 v1, get0, q.2, get3, key]
          generalize (within ps v W).map D.int = WM at *
          exact (by simp [ei])
        · have ew : (wayC ps i W v).map encM = [D.none] := by
            unfold wayC
            rw [if_neg q]
            rfl
          rw [ew] at ei ⊢
          generalize CH.map encC = CE at *
          generalize CW.map encC = CWE at *
          by_cases q1 : v ∈ W
          · have q2 : ¬ (pl ps v).o = i := fun z => q ⟨q1, z⟩
            simp [l2__law_choices, in_L, q1, get_pl v0 v1, get0, q2]
            exact (by simp [ei])
          · simp [l2__law_choices, in_L, q1]
            exact (by simp [ei])
      · have : ∀ L : List (List (Option Int)), (L.flatMap fun c => (wayC ps i W v).map fun w => c ++ [w]).length = L.length * (wayC ps i W v).length := fun L => by
          induction L with
          | nil => simp
          | cons c L ih => rw [List.flatMap_cons, List.length_append, List.length_map, ih, List.length_cons, Nat.succ_mul]; omega
        rw [this, List.length_append, List.length_singleton, Nat.pow_succ]
        exact Nat.mul_le_mul hl hwl
      · obtain ⟨c', h1, h2⟩ := List.mem_flatMap.mp h
        obtain ⟨w, _, rfl⟩ := List.mem_map.mp h2
        simp [hc c' h1]
      · refine List.mem_flatMap.mpr ⟨_, hin, List.mem_map.mpr ⟨mv v, hm v hv, ?_⟩⟩
        simp)
  rw [List.append_nil] at hd
  subst hd
  refine ⟨CH, ?_, fun c h => ?_, hin⟩
  · have er : rngD 0 ps.length = (rngI 0 ps.length).map .int := rngD_I _ _
    have hb : -100000 ≤ (ps.length : Int) ∧ (ps.length : Int) ≤ 100000 := by omega
    have e0 : ([[]] : List (List (Option Int))).map encC = [.tuple []] := rfl
    rw [e0] at e
    simp [d__law_choices, b__law_choices, len_gr, hb, er, e]
  · rw [hc c h, rngI_len]
/-- a choice as moves -/
def mvOf (c : List (Option Int)) (v : Int) : Option Int := (c[v.toNat]?).getD none
theorem enc_mvOf {c : List (Option Int)} {n : Nat} (h : c.length = n) : encC c = .tuple (encR n (mvOf c)) := by
  unfold encC encR
  congr 1
  apply List.ext_getElem?
  intro k
  rw [List.getElem?_map, List.getElem?_map]
  by_cases hk : k < n
  · rw [rngI_get hk, List.getElem?_eq_getElem (by omega)]
    show some (encM c[k]) = some (encM (mvOf c (k : Int)))
    unfold mvOf
    rw [Int.toNat_natCast, List.getElem?_eq_getElem (by omega)]
    rfl
  · rw [List.getElem?_eq_none (by omega), List.getElem?_eq_none (by rw [rngI_len]; omega)]
    rfl
theorem mvOf_map {n : Nat} {mv : Int → Option Int} {v : Int} (h0 : 0 ≤ v) (h1 : v < n) : mvOf ((rngI 0 n).map mv) v = mv v := by
  unfold mvOf
  rw [List.getElem?_map, rngI_get (by omega)]
  show mv ((v.toNat : Nat) : Int) = mv v
  rw [Int.toNat_of_nonneg h0]
end
/-! ### the law -/
theorem law_true (ns : List Int) (h : ns.length ≤ 63) : d_law [.scr ns] = .ok (.bool true) := by
  obtain ⟨ps0, eg, hg0, hl0⟩ := e_ground ns 5 (by decide) (by decide)
  obtain ⟨ps, hps⟩ : ∃ ps, ps = mkG ps0.length fun v => cut3 (pl ps0 v) := ⟨_, rfl⟩
  have hlen : ps.length = ps0.length := by rw [hps, mkG_len]
  have hg : GOk 12 ps := by
    rw [hps]
    exact mkG_ok hg0.ne fun v v0 v1 => cut3_ok (hg0.ok _ (pl_mem v0 v1))
  have hn : ps.length ≤ 5 := by omega
  have hpl : ∀ v ∈ rngI 0 ps.length, pl ps v = cut3 (pl ps0 v) := fun v hv => by
    have := rngI_mem.mp hv
    rw [hps]
    exact mkG_pl (by omega) (by omega)
  have k0 : dLcL (b1 7) dYes (dOp addD (dSlice (dVar 7) dNoP (dPart (dC (.int 3)))) (dTup (dCons (dSlice (dOp getD (dVar 7) (dC (.int 3))) dNoP (dPart (dC (.int 3)))) dNil))) [some (.scr ns), none, none, none, none, none, none, none] (ps0.map encP) = .ok ((rngI 0 ps0.length).map fun v => encP (cut3 (pl ps0 v))) := by
    rw [gr_rng]
    refine lc_rng fun v hv => ⟨_, s_b1, ?_⟩
    obtain ⟨p, hp⟩ : ∃ p, p = pl ps0 v := ⟨_, rfl⟩
    rw [← hp]
    have e1 : sliceD (encP p) none (some 3) = some (.tuple [.int p.o, .int p.m, .int p.g]) := by
      show some (D.tuple (cutD _ _ _)) = _
      rw [cut_3]
      rfl
    have e2 : sliceD (.tuple (p.gs.map .int)) none (some 3) = some (.tuple ((p.gs.take 3).map .int)) := by
      show some (D.tuple (cutD _ _ _)) = _
      rw [cut_3, List.map_take]
    have e4 : addD (.tuple [.int p.o, .int p.m, .int p.g]) (.tuple [.tuple ((p.gs.take 3).map .int)]) = some (encP (cut3 p)) := by
      unfold encP cut3
      generalize (p.gs.take 3).map D.int = G3
      simp [addD]
    generalize (p.gs.take 3).map D.int = G3 at *
    simp [e1, get3, e2, e4]
  have ek : encGr ps = .tuple ((rngI 0 ps0.length).map fun v => encP (cut3 (pl ps0 v))) := by rw [hps, mkG_enc]
  obtain ⟨w, mv, e, S⟩ := e_won hg (by omega)
  obtain ⟨M, eb, I, hs⟩ := e_by_measures hg (by omega)
  have same : ∀ v ∈ rngI 0 ps.length, byM M v = w v := fun v hv => by
    unfold byM
    obtain ⟨mv1, W1⟩ := pre_win hg (odd_ok ps) (stop_pre hg I hs)
    obtain ⟨F, H, hF⟩ := win_pre hg (odd_ok ps) (S.win 0 (.inl rfl))
    by_cases q : M v = none
    · rw [if_pos q]
      rcases S.w01 v hv with z | z
      · have h1 := hF v ⟨hv, z⟩
        have h2 := I.lst F H v hv
        have h3 := (vMm_bd (I.ok v)).2.2.mpr q
        omega
      · exact z.symm
    · rw [if_neg q]
      refine (S.iff (o01_of hg) (.inl rfl) W1 ⟨hv, ?_⟩).symm
      have h3 := vMm_bd (I.ok v)
      have : ¬ vMm ps (oddM ps) (M v) = prM ps (oddM ps) := fun z => q (h3.2.2.mp z)
      omega
  have same2 : encI ps.length (byM M) = encI ps.length w := encI_congr fun v v0 v1 => same v (rngI_mem.mpr (by omega))
  rw [same2] at eb
  have h3 : ∀ v ∈ rngI 0 ps.length, (pl ps v).gs.length ≤ 3 := fun v hv => by
    rw [hpl v hv]
    simp only [cut3, List.length_take]
    omega
  obtain ⟨ρ', e2, _, y3, y4, y5, y6, rfl⟩ := for_I (enc := D.int) (b := b1 3) (t := l2_law) (l := [0, 1])
    (ρ := [some (.scr ns), some (encGr ps), some (.tuple (encI ps.length w)), none, none, none, none, none])
    (fun l ρ => (∀ i ∈ l, i = 0 ∨ i = 1) ∧ ∃ y3 y4 y5 y6, ρ = [some (.scr ns), some (encGr ps), some (.tuple (encI ps.length w)), y3, y4, y5, y6, none])
    ⟨fun i hi => by simpa using hi, none, none, none, none, rfl⟩ (by
      rintro i l ρ ⟨hl', y3, y4, y5, y6, rfl⟩
      have hi := hl' i List.mem_cons_self
      obtain ⟨W, hW⟩ : ∃ W, W = (rngI 0 ps.length).filter fun v => decide (w v = i) := ⟨_, rfl⟩
      have memW : ∀ v, v ∈ W ↔ v ∈ rngI 0 ps.length ∧ w v = i := fun v => by rw [hW, List.mem_filter]; simp
      have key : dLcL (b1 7) (dCmp eqD (dOp getD (dVar 2) (dVar 7)) (dVar 3)) (dVar 7) [some (.scr ns), some (encGr ps), some (.tuple (encI ps.length w)), some (.int i), y4, y5, y6, none] ((rngI 0 ps.length).map .int) = .ok (W.map .int) := by
        rw [hW]
        exact lc_ints fun v hv => by
          have := rngI_mem.mp hv
          exact ⟨_, s_b1, by simp [get_t, encI_at (T := w) (show 0 ≤ v by omega) (show v < ps.length by omega)], by simp⟩
      have Wn : Win ps (rngI 0 ps.length) i (fun v => v ∈ W) mv := (S.win i hi).congr (fun v => memW v) fun _ _ => rfl
      obtain ⟨mt, hmt⟩ : ∃ mt : Int → Option Int, mt = fun v => if v ∈ W ∧ (pl ps v).o = i then mv v else none := ⟨_, rfl⟩
      have mtW : ∀ v ∈ W, mt v = mv v := fun v hv => by
        rw [hmt]
        by_cases ho : (pl ps v).o = i
        · exact if_pos ⟨hv, ho⟩
        · have := (memW v).mp hv
          exact (if_neg fun z => ho z.2).trans (S.mn v this.1 (by rw [this.2]; exact ho)).symm
      have hway : ∀ v ∈ rngI 0 ps.length, mt v ∈ wayC ps i W v := fun v hv => by
        unfold wayC
        by_cases q : v ∈ W ∧ (pl ps v).o = i
        · rw [if_pos q, mtW v q.1]
          obtain ⟨g, eg, h1, h2⟩ := Wn.own v q.1 q.2
          rw [eg]
          exact List.mem_map.mpr ⟨g, mem_within.mpr ⟨h1, h2⟩, rfl⟩
        · rw [if_neg q, hmt]
          simp [if_neg q]
      obtain ⟨CH, ec, hcl, hin⟩ := e_choices (i := i) (W := W) hg hn h3 hway
      have hWr : ∀ v ∈ W, 0 ≤ v ∧ v < ps.length := fun v hv => by have := rngI_mem.mp ((memW v).mp hv).1; omega
      have hWl : W.length ≤ 24 := by
        rw [hW]
        exact Nat.le_trans (List.length_filter_le _ _) (by rw [rngI_len]; omega)
      have ew : ∀ c ∈ CH, ∃ b, d__law_wins_by_marks [encGr ps, .int i, encC c, .list (W.map .int)] = .ok (.bool b) ∧ (c = (rngI 0 ps.length).map mt → b = true) := fun c hc => by
        obtain ⟨b, eb, hb⟩ := e_wins (i := i) (mv := mvOf c) (seqL W) hWr hWl (ways_len hg)
        rw [← enc_mvOf (hcl c hc)] at eb
        refine ⟨b, eb, fun z => hb.mpr (win_ins hg (Wn.congr (fun _ => Iff.rfl) fun v hv => ?_))⟩
        obtain ⟨v0, v1⟩ := hWr v hv
        rw [z, mvOf_map v0 v1]
        exact mtW v hv
      obtain ⟨ρ2, e3, b, z6, rfl, _, _, hb⟩ := for_I (enc := encC) (b := b1 6) (t := l1_law) (l := CH)
        (ρ := [some (.scr ns), some (encGr ps), some (.tuple (encI ps.length w)), some (.int i), some (.list (W.map .int)), some (.bool false), y6, none])
        (fun l ρ => ∃ b y6, ρ = [some (.scr ns), some (encGr ps), some (.tuple (encI ps.length w)), some (.int i), some (.list (W.map .int)), some (.bool b), y6, none] ∧ (∀ c ∈ l, c ∈ CH) ∧ True ∧ ((rngI 0 ps.length).map mt ∈ l ∨ b = true))
        ⟨false, y6, rfl, fun c h => h, trivial, .inl hin⟩ (by
          rintro c l ρ ⟨b, y6, rfl, hsub, _, hor⟩
          obtain ⟨b', eb', hb'⟩ := ew c (hsub c List.mem_cons_self)
          refine ⟨_, [some (.scr ns), some (encGr ps), some (.tuple (encI ps.length w)), some (.int i), some (.list (W.map .int)), some (.bool (b || b')), some (encC c), none], rfl, .inl ?_, b || b', _, rfl, fun d hd => hsub d (List.mem_cons_of_mem _ hd), trivial, ?_⟩
          · cases b with
            | true => simp [l1_law]
            | false => simp [l1_law, eb']
          · rcases hor with z | z
            · rcases List.mem_cons.mp z with z | z
              · exact .inr (by rw [hb' z.symm, Bool.or_true])
              · exact .inl z
            · exact .inr (by rw [z, Bool.true_or]))
      have hbt : b = true := by
        rcases hb with z | z
        · cases z
        · exact z
      subst hbt
      have er : rngD 0 ps.length = (rngI 0 ps.length).map .int := rngD_I _ _
      have hbd : -100000 ≤ (ps.length : Int) ∧ (ps.length : Int) ≤ 100000 := by omega
      refine ⟨_, [some (.scr ns), some (encGr ps), some (.tuple (encI ps.length w)), some (.int i), some (.list (W.map .int)), some (.bool true), z6, none], rfl, .inl ?_, fun k hk => hl' k (List.mem_cons_of_mem _ hk), _, _, _, _, rfl⟩
      generalize CH.map encC = CE at *
      generalize W.map D.int = WD at *
      simp [l2_law, len_gr, hbd, er, key, ec, e3])
  simp only [List.map_cons, List.map_nil] at e2
  have hsq : seqD (encGr ps0) = .ok (ps0.map encP) := rfl
  simp [d_law, b_law, eg, hsq, k0]
  rw [← ek, eb]
  simp [e2]
end K32

namespace K32
open PySem L2 PyProof.Rows Pd
abbrev pg : Program := PySem.Challenge.pw_duelground_k32_whole_measures
def topS (i : Nat) : Stmt := PySem.Challenge.pw_duelground_k32_whole_measures.main.body.getD i (.Pass ⟨0, 0, 0, 0⟩)
structure Txt (K : PySem.W.Frag) (mg : Str → Option Value) (cl : Nat → Addr) where
  f_odd_marks : Fd K mg "odd_marks" (topS 2) ["ground"]
  f_raised : Fd K mg "raised" (topS 3) ["counts", "caps"]
  f_due_by : Fd K mg "due_by" (topS 4) ["place", "measure", "odds"]
  f_due_of : Fd K mg "due_of" (topS 5) ["place", "measures", "odds"]
  f_by_measures : Fd K mg "by_measures" (topS 6) ["ground"]
  f__law_choices : Fd K mg "_law_choices" (topS 19) ["_law_ground_here", "_law_who", "_law_places"]
  f__law_cell_at : Fd K mg "_law_cell_at" (topS 8) ["_law_script", "_law_k"]
  f__law_mixed : Fd K mg "_law_mixed" (topS 9) ["_law_script", "_law_k"]
  f__law_drawn : Fd K mg "_law_drawn" (topS 10) ["_law_number", "_law_k"]
  f__law_goals : Fd K mg "_law_goals" (topS 11) ["_law_number", "_law_count"]
  f__law_place : Fd K mg "_law_place" (topS 12) ["_law_number", "_law_count", "_law_high"]
  f__law_ground : Fd K mg "_law_ground" (topS 13) ["_law_script", "_law_most"]
  f__law_ways : Fd K mg "_law_ways" (topS 15) ["_law_ground_here", "_law_who", "_law_moves", "_law_place_here"]
  f__law_inside : Fd K mg "_law_inside" (topS 17) ["_law_ground_here", "_law_who", "_law_moves", "_law_places"]
  f__law_reached : Fd K mg "_law_reached" (topS 16) ["_law_ground_here", "_law_who", "_law_moves", "_law_start", "_law_allowed"]
  f__law_wins_by_marks : Fd K mg "_law_wins_by_marks" (topS 18) ["_law_ground_here", "_law_who", "_law_moves", "_law_places"]
  f_law : Fd K mg "law" (topS 20) ["_law_script"]
  z_sorted : mg "sorted" = none
  z_set : mg "set" = none
  z_list : mg "list" = none
  z_len : mg "len" = none
  z_tuple : mg "tuple" = none
  z_min : mg "min" = none
  z_max : mg "max" = none
  z_enumerate : mg "enumerate" = none
  z_int : mg "int" = none
  z_range : mg "range" = none
  g_BEYOND : KC K mg "BEYOND" (.ktup [1])
section
variable {w : World} {K : PySem.W.Frag} {mg : Str → Option Value} {base : Heap} {cl : Nat → Addr}
theorem sc_odd_marks : FnScope ["ground", "marks", "place", "mark"] ["ground"] (defScope (topS 2)) := ⟨rfl, rfl, rfl, by decide +kernel, rfl, by decide +kernel, by decide +kernel⟩
theorem ok_odd_marks (T : Txt K mg cl) : OkD pg w base cl 1 T.f_odd_marks d_odd_marks := by
  refine okD (t := b_odd_marks) [] T.f_odd_marks sc_odd_marks rfl (by decide) rfl ?_
  intro cdv A outer s H E hr nd tk
  exact (pss_consD (ps_asgD 1 nd (by exact pd_lcV [("place", 2)] rfl nd (pid_seq (pd_var 0)) (blkOk_by (N := ["ground", "marks", "place", "mark"]) (sc := defScope (topS 2)) (own := [("place", 2)]) (by decide +kernel)) rfl (fun s H C cl fp => (pg_nameD 2 nd)) (fun s H C cl fp => (pts_oneD (pt_cmpD (op_eqDD hr) (by rfl) (pd_op op_modD (pd_sub hr (pd_var 2) pd_int) pd_int) pd_int))) (fun s H C cl fp => (pd_sub hr (pd_var 2) pd_int)) rfl rfl (fun _ => rfl)))
    (pss_oneD (ps_retD (by exact pd_lcV [("mark", 3)] rfl nd (pid_seq (pd_rev (PF.pd (by exact pf_srt rfl T.z_sorted T.z_set (pd_var 1) rfl rfl rfl rfl rfl rfl rfl rfl)))) (blkOk_by (N := ["ground", "marks", "place", "mark"]) (sc := defScope (topS 2)) (own := [("mark", 3)]) (by decide +kernel)) rfl (fun s H C cl fp => (pg_nameD 3 nd)) (fun s H C cl fp => pts_nilD) (fun s H C cl fp => (pd_tup (pd_cons (pd_var 3) (pd_cons (by exact pd_cnt (pd_var 1) (pd_var 3) rfl rfl rfl rfl rfl) pd_nil)))) rfl rfl (fun _ => rfl)))))
theorem sc_raised : FnScope ["counts", "caps", "found", "at"] ["counts", "caps"] (defScope (topS 3)) := ⟨rfl, rfl, rfl, by decide +kernel, rfl, by decide +kernel, by decide +kernel⟩
theorem ok_raised (T : Txt K mg cl) : OkD pg w base cl 1 T.f_raised d_raised := by
  refine okD (t := b_raised) [(2, .l)] T.f_raised sc_raised rfl (by decide) rfl ?_
  intro cdv A outer s H E hr nd tk
  exact (pss_consD (ps_asgO 2 .l nd (pf_list T.z_list (pd_var 0)))
    (pss_consD (ps_asgD 3 nd (pd_guard (pd_op op_subD (pd_callB (cr_lenD) T.z_len (by decide +kernel) (pd_cons (pd_varO 2 .l) pd_nil)) pd_int)))
    (pss_consD (ps_whileD 100000 (passes_of rfl) (pt_cmpD op_geD (by rfl) (pd_var 3) pd_int) (pss_consD (ps_ifD (pt_cmpD op_ltD (by rfl) (pd_subO 2 .l (pd_var 3)) (pd_sub hr (pd_var 1) (pd_var 3))) (pss_consD (ps_setL 2 .l (pd_op op_addD (pd_subO 2 .l (pd_var 3)) pd_int) (pd_var 3))
    (pss_oneD (ps_retD (pd_varO 2 .l)))) pss_nilD)
    (pss_consD (ps_setL 2 .l pd_int (pd_var 3))
    (pss_oneD (ps_asgD 3 nd (pd_op op_subD (pd_var 3) pd_int))))))
    (pss_oneD (ps_retD pd_non)))))
theorem sc_due_by : FnScope ["place", "measure", "odds", "size", "counts", "mark", "cap"] ["place", "measure", "odds"] (defScope (topS 4)) := ⟨rfl, rfl, rfl, by decide +kernel, rfl, by decide +kernel, by decide +kernel⟩
theorem ok_due_by (T : Txt K mg cl) : OkD pg w base cl 2 T.f_due_by d_due_by := by
  refine okD (t := b_due_by) [] T.f_due_by sc_due_by rfl (by decide) rfl ?_
  intro cdv A outer s H E hr nd tk
  exact (pss_consD (ps_ifD (pt_cmpD (op_eqDD hr) (by rfl) (pd_var 1) (pd_globK T.g_BEYOND)) (pss_oneD (ps_retD (pd_globK T.g_BEYOND))) pss_nilD)
    (pss_consD (ps_asgD 3 nd (pd_callB (cr_lenD) T.z_len (by decide +kernel) (pd_cons (by exact pd_lcV [("mark", 5), ("cap", 6)] rfl nd (pid_seq (pd_var 2)) (blkOk_by (N := ["place", "measure", "odds", "size", "counts", "mark", "cap"]) (sc := defScope (topS 4)) (own := [("mark", 5), ("cap", 6)]) (by decide +kernel)) rfl (fun s H C cl fp => (pg_tupD rfl (pgs_consD 5 nd (pgs_consD 6 nd pgs_nilD)))) (fun s H C cl fp => (pts_oneD (pt_cmpD op_geD (by rfl) (pd_var 5) (pd_sub hr (pd_var 0) pd_int)))) (fun s H C cl fp => (pd_var 5)) rfl rfl (fun _ => rfl)) pd_nil)))
    (pss_consD (ps_asgD 4 nd (pd_callTy (cr_listD rfl) T.z_list (by decide +kernel) (pd_cons (pd_slice (pd_var 1) (po_someD pd_int) (po_someD (pd_op op_addD (pd_var 3) pd_int))) pd_nil)))
    (pss_consD (ps_ifD (pt_cmpD (op_eqDD hr) (by rfl) (pd_op op_modD (pd_sub hr (pd_var 0) pd_int) pd_int) pd_int) (pss_consD (ps_asgD 4 nd (by exact pd_callF T.f_raised (ok_raised T) hr (by omega) rfl tk (pd_cons (pd_var 4) (pd_cons (by exact pd_lcV [("mark", 5), ("cap", 6)] rfl nd (pid_seq (pd_var 2)) (blkOk_by (N := ["place", "measure", "odds", "size", "counts", "mark", "cap"]) (sc := defScope (topS 4)) (own := [("mark", 5), ("cap", 6)]) (by decide +kernel)) rfl (fun s H C cl fp => (pg_tupD rfl (pgs_consD 5 nd (pgs_consD 6 nd pgs_nilD)))) (fun s H C cl fp => pts_nilD) (fun s H C cl fp => (pd_var 6)) rfl rfl (fun _ => rfl)) pd_nil)) rfl (by decide) rfl rfl))
    (pss_oneD (ps_ifD (pt_cmpD op_isND (by rfl) (pd_var 4) pd_non) (pss_oneD (ps_retD (pd_globK T.g_BEYOND))) pss_nilD))) pss_nilD)
    (pss_oneD (ps_retD (pd_callTy (cr_tupD) T.z_tuple (by decide +kernel) (pd_cons (pd_op op_addD (pd_op op_addD (pd_lst (pd_cons pd_int pd_nil)) (pd_var 4)) (pd_op op_mulD (pd_lst (pd_cons pd_int pd_nil)) (pd_op op_subD (pd_callB (cr_lenD) T.z_len (by decide +kernel) (pd_cons (pd_var 2) pd_nil)) (pd_var 3)))) pd_nil))))))))
theorem sc_due_of : FnScope ["place", "measures", "odds", "found", "goal"] ["place", "measures", "odds"] (defScope (topS 5)) := ⟨rfl, rfl, rfl, by decide +kernel, rfl, by decide +kernel, by decide +kernel⟩
theorem ok_due_of (T : Txt K mg cl) : OkD pg w base cl 3 T.f_due_of d_due_of := by
  refine okD (t := b_due_of) [] T.f_due_of sc_due_of rfl (by decide) rfl ?_
  intro cdv A outer s H E hr nd tk
  exact (pss_consD (by exact ps_lcDV 3 [("goal", 4)] rfl nd (pid_seq (pd_sub hr (pd_var 0) pd_int)) (blkOk_by (N := ["place", "measures", "odds", "found", "goal"]) (sc := defScope (topS 5)) (own := [("goal", 4)]) (by decide +kernel)) rfl (fun s H C cl fp => (pg_nameD 4 nd)) (fun s H C cl fp => pts_nilD) (fun s H C cl fp => (by exact pd_callF T.f_due_by (ok_due_by T) hr (by omega) rfl Pd.takes0 (pd_cons (pd_var 0) (pd_cons (pd_sub hr (pd_var 1) (pd_var 4)) (pd_cons (pd_var 2) pd_nil))) rfl (by decide) rfl rfl)) rfl rfl (fun _ => rfl) rfl (fun h1 h2 h3 h4 => ps_setLc rfl nd rfl rfl (sw_true rfl rfl rfl (by decide +kernel)) h1 (blkOk_by (N := ["place", "measures", "odds", "found", "goal"]) (sc := defScope (topS 5)) (own := [("goal", 4)]) (by decide +kernel)) h2 h3 h4))
    (pss_consD (ps_ifD (pt_cmpD (op_eqDD hr) (by rfl) (pd_sub hr (pd_var 0) pd_int) pd_int) (pss_oneD (ps_retD (pd_callB (cr_minT hr rfl) T.z_min (by decide +kernel) (pd_cons (pd_var 3) pd_nil)))) pss_nilD)
    (pss_oneD (ps_retD (pd_callB (cr_maxT hr rfl) T.z_max (by decide +kernel) (pd_cons (pd_var 3) pd_nil))))))
theorem sc_by_measures : FnScope ["ground", "odds", "measures", "more", "at", "place", "found", "measure"] ["ground"] (defScope (topS 6)) := ⟨rfl, rfl, rfl, by decide +kernel, rfl, by decide +kernel, by decide +kernel⟩
theorem ok_by_measures (T : Txt K mg cl) : OkD pg w base cl 4 T.f_by_measures d_by_measures := by
  refine okD (t := b_by_measures) [(2, .l)] T.f_by_measures sc_by_measures rfl (by decide) rfl ?_
  intro cdv A outer s H E hr nd tk
  exact (pss_consD (ps_asgD 1 nd (by exact pd_callF T.f_odd_marks (ok_odd_marks T) hr (by omega) rfl tk (pd_cons (pd_var 0) pd_nil) rfl (by decide) rfl rfl))
    (pss_consD (by exact ps_lcOV 2 [("place", 5)] rfl nd (pid_seq (pd_var 0)) (blkOk_by (N := ["ground", "odds", "measures", "more", "at", "place", "found", "measure"]) (sc := defScope (topS 6)) (own := [("place", 5)]) (by decide +kernel)) rfl (fun s H C cl fp => (pg_nameD 5 nd)) (fun s H C cl fp => pts_nilD) (fun s H C cl fp => (pd_callTy (cr_tupD) T.z_tuple (by decide +kernel) (pd_cons (pd_op op_mulD (pd_lst (pd_cons pd_int pd_nil)) (pd_op op_addD (pd_callB (cr_lenD) T.z_len (by decide +kernel) (pd_cons (pd_var 1) pd_nil)) pd_int)) pd_nil))) rfl rfl (fun _ => rfl) rfl rfl (fun h1 h2 h3 h4 => ps_setLc rfl nd rfl rfl (sw_true rfl rfl rfl (by decide +kernel)) h1 (blkOk_by (N := ["ground", "odds", "measures", "more", "at", "place", "found", "measure"]) (sc := defScope (topS 6)) (own := [("place", 5)]) (by decide +kernel)) h2 h3 h4))
    (pss_consD (ps_asgD 3 nd pd_bl)
    (pss_consD (ps_whileD 100000 (passes_of rfl) (pt_valD (pd_var 3)) (pss_consD (ps_asgD 3 nd pd_bl)
    (pss_oneD (ps_forD (passes_of rfl) rfl (pid_enum T.z_enumerate (pd_var 0)) (pg_tupD rfl (pgs_consD 4 nd (pgs_consD 5 nd pgs_nilD))) (pss_consD (ps_asgD 6 nd (pd_guard (by exact pd_callF T.f_due_of (ok_due_of T) hr (by omega) rfl tk (pd_cons (pd_var 5) (pd_cons (pd_varO 2 .l) (pd_cons (pd_var 1) pd_nil))) rfl (by decide) rfl rfl)))
    (pss_oneD (ps_ifD (pt_cmpD (op_gtDD hr) (by rfl) (pd_var 6) (pd_subO 2 .l (pd_var 4))) (pss_consD (ps_setL 2 .l (pd_var 6) (pd_var 4))
    (pss_oneD (ps_asgD 3 nd pd_bl))) pss_nilD)))))))
    (pss_oneD (ps_retD (pd_callTy (cr_tupD) T.z_tuple (by decide +kernel) (pd_cons (by exact pd_lcV [("measure", 7)] rfl nd (pid_own 2 .l) (blkOk_by (N := ["ground", "odds", "measures", "more", "at", "place", "found", "measure"]) (sc := defScope (topS 6)) (own := [("measure", 7)]) (by decide +kernel)) rfl (fun s H C cl fp => (pg_nameD 7 nd)) (fun s H C cl fp => pts_nilD) (fun s H C cl fp => (pd_callTy (cr_intD) T.z_int (by decide +kernel) (pd_cons (pd_cmp (op_eqDD hr) (by rfl) (pd_var 7) (pd_globK T.g_BEYOND)) pd_nil))) rfl rfl (fun _ => rfl)) pd_nil))))))))
theorem sc__law_choices : FnScope ["_law_ground_here", "_law_who", "_law_places", "_law_choices_here", "_law_place_here", "_law_ways_here", "_law_more", "_law_choice", "_law_goal", "_law_way"] ["_law_ground_here", "_law_who", "_law_places"] (defScope (topS 19)) := ⟨rfl, rfl, rfl, by decide +kernel, rfl, by decide +kernel, by decide +kernel⟩
theorem ok__law_choices (T : Txt K mg cl) : OkD pg w base cl 1 T.f__law_choices d__law_choices := by
  refine okD (t := b__law_choices) [] T.f__law_choices sc__law_choices rfl (by decide) rfl ?_
  intro cdv A outer s H E hr nd tk
  exact (pss_consD (ps_asgD 3 nd (pd_lst (pd_cons (pd_tup pd_nil) pd_nil)))
    (pss_consD (ps_forD (passes_of rfl) rfl (pid_rng1 T.z_range (pd_callB (cr_lenD) T.z_len (by decide +kernel) (pd_cons (pd_var 0) pd_nil))) (pg_nameD 4 nd) (pss_consD (ps_asgD 5 nd (pd_lst (pd_cons pd_non pd_nil)))
    (pss_consD (ps_ifD (pt_ofW (pw_andD (pt_cmpD (op_inDD hr) (by rfl) (pd_var 4) (pd_var 2)) (pw_and1D (pt_cmpD (op_eqDD hr) (by rfl) (pd_sub hr (pd_sub hr (pd_var 0) (pd_var 4)) pd_int) (pd_var 1))))) (pss_oneD (by exact ps_lcDV 5 [("_law_goal", 8)] rfl nd (pid_seq (pd_sub hr (pd_sub hr (pd_var 0) (pd_var 4)) pd_int)) (blkOk_by (N := ["_law_ground_here", "_law_who", "_law_places", "_law_choices_here", "_law_place_here", "_law_ways_here", "_law_more", "_law_choice", "_law_goal", "_law_way"]) (sc := defScope (topS 19)) (own := [("_law_goal", 8)]) (by decide +kernel)) rfl (fun s H C cl fp => (pg_nameD 8 nd)) (fun s H C cl fp => (pts_oneD (pt_cmpD (op_inDD hr) (by rfl) (pd_var 8) (pd_var 2)))) (fun s H C cl fp => (pd_var 8)) rfl rfl (fun _ => rfl) rfl (fun h1 h2 h3 h4 => ps_setLc rfl nd rfl rfl (sw_true rfl rfl rfl (by decide +kernel)) h1 (blkOk_by (N := ["_law_ground_here", "_law_who", "_law_places", "_law_choices_here", "_law_place_here", "_law_ways_here", "_law_more", "_law_choice", "_law_goal", "_law_way"]) (sc := defScope (topS 19)) (own := [("_law_goal", 8)]) (by decide +kernel)) h2 h3 h4))) pss_nilD)
    (pss_consD (ps_asgD 6 nd (pd_lst pd_nil))
    (pss_consD (ps_forD (passes_of rfl) rfl (pid_seq (pd_var 3)) (pg_nameD 7 nd) (pss_oneD (ps_asgD 6 nd (pd_op op_addD (pd_var 6) (by exact pd_lcV [("_law_way", 9)] rfl nd (pid_seq (pd_var 5)) (blkOk_by (N := ["_law_ground_here", "_law_who", "_law_places", "_law_choices_here", "_law_place_here", "_law_ways_here", "_law_more", "_law_choice", "_law_goal", "_law_way"]) (sc := defScope (topS 19)) (own := [("_law_way", 9)]) (by decide +kernel)) rfl (fun s H C cl fp => (pg_nameD 9 nd)) (fun s H C cl fp => pts_nilD) (fun s H C cl fp => (pd_op op_addD (pd_var 7) (pd_tup (pd_cons (pd_var 9) pd_nil)))) rfl rfl (fun _ => rfl))))))
    (pss_oneD (ps_asgD 3 nd (pd_var 6))))))))
    (pss_oneD (ps_retD (pd_var 3)))))
theorem sc__law_cell_at : FnScope ["_law_script", "_law_k"] ["_law_script", "_law_k"] (defScope (topS 8)) := ⟨rfl, rfl, rfl, by decide +kernel, rfl, by decide +kernel, by decide +kernel⟩
theorem ok__law_cell_at (T : Txt K mg cl) : OkD pg w base cl 1 T.f__law_cell_at d__law_cell_at := by
  refine okD (t := b__law_cell_at) [] T.f__law_cell_at sc__law_cell_at rfl (by decide) rfl ?_
  intro cdv A outer s H E hr nd tk
  exact (pss_consD (ps_ifD (pt_cmpD op_ltD (by rfl) (pd_var 1) (pd_callB (cr_lenD) T.z_len (by decide +kernel) (pd_cons (pd_var 0) pd_nil))) (pss_oneD (ps_retD (pd_sub hr (pd_var 0) (pd_var 1)))) pss_nilD)
    (pss_oneD (ps_retD pd_int)))
theorem sc__law_mixed : FnScope ["_law_script", "_law_k", "_law_drawn_here"] ["_law_script", "_law_k"] (defScope (topS 9)) := ⟨rfl, rfl, rfl, by decide +kernel, rfl, by decide +kernel, by decide +kernel⟩
theorem ok__law_mixed (T : Txt K mg cl) : OkD pg w base cl 2 T.f__law_mixed d__law_mixed := by
  refine okD (t := b__law_mixed) [] T.f__law_mixed sc__law_mixed rfl (by decide) rfl ?_
  intro cdv A outer s H E hr nd tk
  exact (pss_consD (ps_asgD 2 nd (pd_op op_modD (pd_op op_mulD (pd_op op_addD (pd_op op_addD (by exact pd_callF T.f__law_cell_at (ok__law_cell_at T) hr (by omega) rfl tk (pd_cons (pd_var 0) (pd_cons (pd_var 1) pd_nil)) rfl (by decide) rfl rfl) (pd_op op_mulD pd_int (pd_var 1))) pd_int) pd_int) pd_int))
    (pss_oneD (ps_retD (pd_op op_modD (pd_op op_addD (pd_op op_addD (pd_op op_mulD (pd_var 2) (pd_var 2)) (pd_op op_mulD pd_int (pd_var 2))) (pd_var 1)) pd_int))))
theorem sc__law_drawn : FnScope ["_law_number", "_law_k", "_law_drawn_here"] ["_law_number", "_law_k"] (defScope (topS 10)) := ⟨rfl, rfl, rfl, by decide +kernel, rfl, by decide +kernel, by decide +kernel⟩
theorem ok__law_drawn (T : Txt K mg cl) : OkD pg w base cl 1 T.f__law_drawn d__law_drawn := by
  refine okD (t := b__law_drawn) [] T.f__law_drawn sc__law_drawn rfl (by decide) rfl ?_
  intro cdv A outer s H E hr nd tk
  exact (pss_consD (ps_asgD 2 nd (pd_op op_modD (pd_op op_mulD (pd_op op_addD (pd_op op_addD (pd_var 0) (pd_op op_mulD pd_int (pd_var 1))) pd_int) pd_int) pd_int))
    (pss_oneD (ps_retD (pd_op op_modD (pd_op op_addD (pd_op op_addD (pd_op op_mulD (pd_var 2) (pd_var 2)) (pd_op op_mulD pd_int (pd_var 2))) (pd_var 1)) pd_int))))
theorem sc__law_goals : FnScope ["_law_number", "_law_count", "_law_found", "_law_k"] ["_law_number", "_law_count"] (defScope (topS 11)) := ⟨rfl, rfl, rfl, by decide +kernel, rfl, by decide +kernel, by decide +kernel⟩
theorem ok__law_goals (T : Txt K mg cl) : OkD pg w base cl 2 T.f__law_goals d__law_goals := by
  refine okD (t := b__law_goals) [(2, .k)] T.f__law_goals sc__law_goals rfl (by decide) rfl ?_
  intro cdv A outer s H E hr nd tk
  exact (pss_consD (ps_asgO 2 .k nd pf_dictK)
    (pss_consD (ps_forD (passes_of rfl) rfl (pid_rng1 T.z_range (pd_op op_addD (pd_op op_addD pd_int (pd_op op_modD (pd_var 0) pd_int)) (pd_op op_mulD pd_int (pd_callTy (cr_intD) T.z_int (by decide +kernel) (pd_cons (pd_cmp (op_eqDD hr) (by rfl) (pd_op op_modD (pd_op op_fdivD (pd_var 0) pd_int) pd_int) pd_int) pd_nil))))) (pg_nameD 3 nd) (pss_oneD (ps_putK 2 hr pd_bl (pd_op op_modD (by exact pd_callF T.f__law_drawn (ok__law_drawn T) hr (by omega) rfl tk (pd_cons (pd_var 0) (pd_cons (pd_var 3) pd_nil)) rfl (by decide) rfl rfl) (pd_var 1)))))
    (pss_oneD (ps_retD (pd_callTy (cr_tupD) T.z_tuple (by decide +kernel) (pd_cons (pd_callB (cr_sortD rfl) T.z_sorted (by decide +kernel) (pd_cons (pd_varO 2 .k) pd_nil)) pd_nil))))))
theorem sc__law_place : FnScope ["_law_number", "_law_count", "_law_high", "_law_gain"] ["_law_number", "_law_count", "_law_high"] (defScope (topS 12)) := ⟨rfl, rfl, rfl, by decide +kernel, rfl, by decide +kernel, by decide +kernel⟩
theorem ok__law_place (T : Txt K mg cl) : OkD pg w base cl 3 T.f__law_place d__law_place := by
  refine okD (t := b__law_place) [] T.f__law_place sc__law_place rfl (by decide) rfl ?_
  intro cdv A outer s H E hr nd tk
  exact (pss_consD (ps_asgD 3 nd (pd_op op_subD (pd_op op_modD (pd_op op_fdivD (pd_var 0) pd_int) pd_int) pd_int))
    (pss_consD (ps_ifD (pt_cmpD (op_eqDD hr) (by rfl) (pd_op op_modD (pd_op op_fdivD (pd_var 0) pd_int) pd_int) pd_int) (pss_oneD (ps_asgD 3 nd (pd_op op_subD (pd_op op_modD (pd_op op_fdivD (pd_var 0) pd_int) pd_int) pd_int))) pss_nilD)
    (pss_oneD (ps_retD (pd_tup (pd_cons (pd_op op_modD (pd_var 0) pd_int) (pd_cons (pd_op op_modD (pd_op op_fdivD (pd_var 0) pd_int) (pd_op op_addD (pd_var 2) pd_int)) (pd_cons (pd_var 3) (pd_cons (by exact pd_callF T.f__law_goals (ok__law_goals T) hr (by omega) rfl tk (pd_cons (by exact pd_callF T.f__law_drawn (ok__law_drawn T) hr (by omega) rfl tk (pd_cons (pd_var 0) (pd_cons pd_int pd_nil)) rfl (by decide) rfl rfl) (pd_cons (pd_var 1) pd_nil)) rfl (by decide) rfl rfl) pd_nil)))))))))
theorem sc__law_ground : FnScope ["_law_script", "_law_most", "_law_number", "_law_count", "_law_high", "_law_k"] ["_law_script", "_law_most"] (defScope (topS 13)) := ⟨rfl, rfl, rfl, by decide +kernel, rfl, by decide +kernel, by decide +kernel⟩
theorem ok__law_ground (T : Txt K mg cl) : OkD pg w base cl 4 T.f__law_ground d__law_ground := by
  refine okD (t := b__law_ground) [] T.f__law_ground sc__law_ground rfl (by decide) rfl ?_
  intro cdv A outer s H E hr nd tk
  exact (pss_consD (ps_asgD 2 nd (by exact pd_callF T.f__law_mixed (ok__law_mixed T) hr (by omega) rfl tk (pd_cons (pd_var 0) (pd_cons pd_int pd_nil)) rfl (by decide) rfl rfl))
    (pss_consD (ps_asgD 3 nd (pd_op op_addD pd_int (pd_op op_modD (pd_var 2) (pd_callB (cr_minD rfl) T.z_min (by decide +kernel) (pd_cons (pd_var 1) (pd_cons (pd_callB (cr_maxD rfl) T.z_max (by decide +kernel) (pd_cons pd_int (pd_cons (pd_callB (cr_lenD) T.z_len (by decide +kernel) (pd_cons (pd_var 0) pd_nil)) pd_nil))) pd_nil))))))
    (pss_consD (ps_asgD 4 nd (pd_sub hr (pd_lst (pd_cons pd_int (pd_cons pd_int (pd_cons pd_int (pd_cons pd_int (pd_cons pd_int (pd_cons pd_int pd_nil))))))) (pd_op op_modD (pd_op op_fdivD (pd_var 2) pd_int) pd_int)))
    (pss_oneD (ps_retD (pd_callTy (cr_tupD) T.z_tuple (by decide +kernel) (pd_cons (by exact pd_lcV [("_law_k", 5)] rfl nd (pid_rng1 T.z_range (pd_var 3)) (blkOk_by (N := ["_law_script", "_law_most", "_law_number", "_law_count", "_law_high", "_law_k"]) (sc := defScope (topS 13)) (own := [("_law_k", 5)]) (by decide +kernel)) rfl (fun s H C cl fp => (pg_nameD 5 nd)) (fun s H C cl fp => pts_nilD) (fun s H C cl fp => (by exact pd_callF T.f__law_place (ok__law_place T) hr (by omega) rfl Pd.takes0 (pd_cons (by exact pd_callF T.f__law_mixed (ok__law_mixed T) hr (by omega) rfl Pd.takes0 (pd_cons (pd_var 0) (pd_cons (pd_op op_addD pd_int (pd_var 5)) pd_nil)) rfl (by decide) rfl rfl) (pd_cons (pd_var 3) (pd_cons (pd_var 4) pd_nil))) rfl (by decide) rfl rfl)) rfl rfl (fun _ => rfl)) pd_nil)))))))
theorem sc__law_ways : FnScope ["_law_ground_here", "_law_who", "_law_moves", "_law_place_here", "_law_move"] ["_law_ground_here", "_law_who", "_law_moves", "_law_place_here"] (defScope (topS 15)) := ⟨rfl, rfl, rfl, by decide +kernel, rfl, by decide +kernel, by decide +kernel⟩
theorem ok__law_ways (T : Txt K mg cl) : OkD pg w base cl 1 T.f__law_ways d__law_ways := by
  refine okD (t := b__law_ways) [] T.f__law_ways sc__law_ways rfl (by decide) rfl ?_
  intro cdv A outer s H E hr nd tk
  exact (pss_consD (ps_ifD (pt_cmpD (op_eqDD hr) (by rfl) (pd_sub hr (pd_sub hr (pd_var 0) (pd_var 3)) pd_int) (pd_var 1)) (pss_oneD (ps_retD (by exact pd_lcV [("_law_move", 4)] rfl nd (pid_seq (pd_lst (pd_cons (pd_sub hr (pd_var 2) (pd_var 3)) pd_nil))) (blkOk_by (N := ["_law_ground_here", "_law_who", "_law_moves", "_law_place_here", "_law_move"]) (sc := defScope (topS 15)) (own := [("_law_move", 4)]) (by decide +kernel)) rfl (fun s H C cl fp => (pg_nameD 4 nd)) (fun s H C cl fp => (pts_oneD (pt_cmpD op_notND (by rfl) (pd_var 4) pd_non))) (fun s H C cl fp => (pd_var 4)) rfl rfl (fun _ => rfl)))) pss_nilD)
    (pss_oneD (ps_retD (pd_callTy (cr_listD rfl) T.z_list (by decide +kernel) (pd_cons (pd_sub hr (pd_sub hr (pd_var 0) (pd_var 3)) pd_int) pd_nil)))))
theorem sc__law_inside : FnScope ["_law_ground_here", "_law_who", "_law_moves", "_law_places", "_law_place_here", "_law_ways_here", "_law_way"] ["_law_ground_here", "_law_who", "_law_moves", "_law_places"] (defScope (topS 17)) := ⟨rfl, rfl, rfl, by decide +kernel, rfl, by decide +kernel, by decide +kernel⟩
theorem ok__law_inside (T : Txt K mg cl) : OkD pg w base cl 2 T.f__law_inside d__law_inside := by
  refine okD (t := b__law_inside) [] T.f__law_inside sc__law_inside rfl (by decide) rfl ?_
  intro cdv A outer s H E hr nd tk
  exact (pss_consD (ps_forD (passes_of rfl) rfl (pid_seq (pd_var 3)) (pg_nameD 4 nd) (pss_consD (ps_asgD 5 nd (by exact pd_callF T.f__law_ways (ok__law_ways T) hr (by omega) rfl tk (pd_cons (pd_var 0) (pd_cons (pd_var 1) (pd_cons (pd_var 2) (pd_cons (pd_var 4) pd_nil)))) rfl (by decide) rfl rfl))
    (pss_oneD (ps_ifD (pt_ofW (pw_orD (pt_cmpD (op_eqDD hr) (by rfl) (pd_var 5) (pd_lst pd_nil)) (pw_or1D (pt_cmpD (op_neDD hr) (by rfl) (by exact pd_lcV [("_law_way", 6)] rfl nd (pid_seq (pd_var 5)) (blkOk_by (N := ["_law_ground_here", "_law_who", "_law_moves", "_law_places", "_law_place_here", "_law_ways_here", "_law_way"]) (sc := defScope (topS 17)) (own := [("_law_way", 6)]) (by decide +kernel)) rfl (fun s H C cl fp => (pg_nameD 6 nd)) (fun s H C cl fp => (pts_oneD (pt_cmpD (op_ninDD hr) (by rfl) (pd_var 6) (pd_var 3)))) (fun s H C cl fp => (pd_var 6)) rfl rfl (fun _ => rfl)) (pd_lst pd_nil))))) (pss_oneD (ps_retD pd_bl)) pss_nilD))))
    (pss_oneD (ps_retD pd_bl)))
theorem sc__law_reached : FnScope ["_law_ground_here", "_law_who", "_law_moves", "_law_start", "_law_allowed", "_law_found", "_law_todo", "_law_place_here"] ["_law_ground_here", "_law_who", "_law_moves", "_law_start", "_law_allowed"] (defScope (topS 16)) := ⟨rfl, rfl, rfl, by decide +kernel, rfl, by decide +kernel, by decide +kernel⟩
theorem ok__law_reached (T : Txt K mg cl) : OkD pg w base cl 2 T.f__law_reached d__law_reached := by
  refine okD (t := b__law_reached) [(5, .l)] T.f__law_reached sc__law_reached rfl (by decide) rfl ?_
  intro cdv A outer s H E hr nd tk
  exact (pss_consD (ps_asgO 5 .l nd (pf_lst pd_nil))
    (pss_consD (ps_asgD 6 nd (by exact pd_callF T.f__law_ways (ok__law_ways T) hr (by omega) rfl tk (pd_cons (pd_var 0) (pd_cons (pd_var 1) (pd_cons (pd_var 2) (pd_cons (pd_var 3) pd_nil)))) rfl (by decide) rfl rfl))
    (pss_consD (ps_whileD 100000 (passes_of rfl) (pt_cmpD (op_neDD hr) (by rfl) (pd_var 6) (pd_lst pd_nil)) (pss_consD (ps_asgD 7 nd (pd_sub hr (pd_var 6) pd_int))
    (pss_consD (ps_asgD 6 nd (pd_slice (pd_var 6) (po_someD pd_int) po_noneD))
    (pss_oneD (ps_ifD (pt_ofW (pw_andD (pt_cmpD (op_inDD hr) (by rfl) (pd_var 7) (pd_var 4)) (pw_and1D (pt_cmpD (op_ninDD hr) (by rfl) (pd_var 7) (pd_varO 5 .l))))) (pss_consD (ps_app 5 .l (pd_var 7))
    (pss_oneD (ps_asgD 6 nd (pd_op op_addD (pd_var 6) (by exact pd_callF T.f__law_ways (ok__law_ways T) hr (by omega) rfl tk (pd_cons (pd_var 0) (pd_cons (pd_var 1) (pd_cons (pd_var 2) (pd_cons (pd_var 7) pd_nil)))) rfl (by decide) rfl rfl))))) pss_nilD)))))
    (pss_oneD (ps_retD (pd_varO 5 .l))))))
theorem sc__law_wins_by_marks : FnScope ["_law_ground_here", "_law_who", "_law_moves", "_law_places", "_law_place_here", "_law_low", "_law_back", "_law_other"] ["_law_ground_here", "_law_who", "_law_moves", "_law_places"] (defScope (topS 18)) := ⟨rfl, rfl, rfl, by decide +kernel, rfl, by decide +kernel, by decide +kernel⟩
theorem ok__law_wins_by_marks (T : Txt K mg cl) : OkD pg w base cl 3 T.f__law_wins_by_marks d__law_wins_by_marks := by
  refine okD (t := b__law_wins_by_marks) [] T.f__law_wins_by_marks sc__law_wins_by_marks rfl (by decide) rfl ?_
  intro cdv A outer s H E hr nd tk
  exact (pss_consD (ps_ifD (pt_notD (pt_valD (by exact pd_callF T.f__law_inside (ok__law_inside T) hr (by omega) rfl tk (pd_cons (pd_var 0) (pd_cons (pd_var 1) (pd_cons (pd_var 2) (pd_cons (pd_var 3) pd_nil)))) rfl (by decide) rfl rfl))) (pss_oneD (ps_retD pd_bl)) pss_nilD)
    (pss_consD (ps_forD (passes_of rfl) rfl (pid_seq (pd_var 3)) (pg_nameD 4 nd) (pss_consD (by exact ps_lcDV 5 [("_law_other", 7)] rfl nd (pid_seq (pd_var 3)) (blkOk_by (N := ["_law_ground_here", "_law_who", "_law_moves", "_law_places", "_law_place_here", "_law_low", "_law_back", "_law_other"]) (sc := defScope (topS 18)) (own := [("_law_other", 7)]) (by decide +kernel)) rfl (fun s H C cl fp => (pg_nameD 7 nd)) (fun s H C cl fp => (pts_oneD (pt_cmpD op_leD (by rfl) (pd_sub hr (pd_sub hr (pd_var 0) (pd_var 7)) pd_int) (pd_sub hr (pd_sub hr (pd_var 0) (pd_var 4)) pd_int)))) (fun s H C cl fp => (pd_var 7)) rfl rfl (fun _ => rfl) rfl (fun h1 h2 h3 h4 => ps_setLc rfl nd rfl rfl (sw_true rfl rfl rfl (by decide +kernel)) h1 (blkOk_by (N := ["_law_ground_here", "_law_who", "_law_moves", "_law_places", "_law_place_here", "_law_low", "_law_back", "_law_other"]) (sc := defScope (topS 18)) (own := [("_law_other", 7)]) (by decide +kernel)) h2 h3 h4))
    (pss_consD (ps_asgD 6 nd (by exact pd_callF T.f__law_reached (ok__law_reached T) hr (by omega) rfl tk (pd_cons (pd_var 0) (pd_cons (pd_var 1) (pd_cons (pd_var 2) (pd_cons (pd_var 4) (pd_cons (pd_var 5) pd_nil))))) rfl (by decide) rfl rfl))
    (pss_oneD (ps_ifD (pt_ofW (pw_andD (pt_cmpD (op_neDD hr) (by rfl) (pd_op op_modD (pd_sub hr (pd_sub hr (pd_var 0) (pd_var 4)) pd_int) pd_int) (pd_var 1)) (pw_and1D (pt_cmpD (op_inDD hr) (by rfl) (pd_var 4) (pd_var 6))))) (pss_oneD (ps_retD pd_bl)) pss_nilD)))))
    (pss_oneD (ps_retD pd_bl))))
theorem sc_law : FnScope ["_law_script", "_law_ground_here", "_law_found", "_law_who", "_law_places", "_law_good", "_law_moves", "_law_place_here"] ["_law_script"] (defScope (topS 20)) := ⟨rfl, rfl, rfl, by decide +kernel, rfl, by decide +kernel, by decide +kernel⟩
theorem ok_law (T : Txt K mg cl) : OkD pg w base cl 5 T.f_law d_law := by
  refine okD (t := b_law) [] T.f_law sc_law rfl (by decide) rfl ?_
  intro cdv A outer s H E hr nd tk
  exact (pss_consD (ps_asgD 1 nd (pd_callTy (cr_tupD) T.z_tuple (by decide +kernel) (pd_cons (by exact pd_lcV [("_law_place_here", 7)] rfl nd (pid_seq (by exact pd_callF T.f__law_ground (ok__law_ground T) hr (by omega) rfl tk (pd_cons (pd_var 0) (pd_cons pd_int pd_nil)) rfl (by decide) rfl rfl)) (blkOk_by (N := ["_law_script", "_law_ground_here", "_law_found", "_law_who", "_law_places", "_law_good", "_law_moves", "_law_place_here"]) (sc := defScope (topS 20)) (own := [("_law_place_here", 7)]) (by decide +kernel)) rfl (fun s H C cl fp => (pg_nameD 7 nd)) (fun s H C cl fp => pts_nilD) (fun s H C cl fp => (pd_op op_addD (pd_slice (pd_var 7) po_noneD (po_someD pd_int)) (pd_tup (pd_cons (pd_slice (pd_sub hr (pd_var 7) pd_int) po_noneD (po_someD pd_int)) pd_nil)))) rfl rfl (fun _ => rfl)) pd_nil)))
    (pss_consD (ps_asgD 2 nd (by exact pd_callF T.f_by_measures (ok_by_measures T) hr (by omega) rfl tk (pd_cons (pd_var 1) pd_nil) rfl (by decide) rfl rfl))
    (pss_consD (ps_forD (passes_of rfl) rfl (pid_seq (pd_tup (pd_cons pd_int (pd_cons pd_int pd_nil)))) (pg_nameD 3 nd) (pss_consD (by exact ps_lcDV 4 [("_law_place_here", 7)] rfl nd (pid_rng1 T.z_range (pd_callB (cr_lenD) T.z_len (by decide +kernel) (pd_cons (pd_var 1) pd_nil))) (blkOk_by (N := ["_law_script", "_law_ground_here", "_law_found", "_law_who", "_law_places", "_law_good", "_law_moves", "_law_place_here"]) (sc := defScope (topS 20)) (own := [("_law_place_here", 7)]) (by decide +kernel)) rfl (fun s H C cl fp => (pg_nameD 7 nd)) (fun s H C cl fp => (pts_oneD (pt_cmpD (op_eqDD hr) (by rfl) (pd_sub hr (pd_var 2) (pd_var 7)) (pd_var 3)))) (fun s H C cl fp => (pd_var 7)) rfl rfl (fun _ => rfl) rfl (fun h1 h2 h3 h4 => ps_setLc rfl nd rfl rfl (sw_true rfl rfl rfl (by decide +kernel)) h1 (blkOk_by (N := ["_law_script", "_law_ground_here", "_law_found", "_law_who", "_law_places", "_law_good", "_law_moves", "_law_place_here"]) (sc := defScope (topS 20)) (own := [("_law_place_here", 7)]) (by decide +kernel)) h2 h3 h4))
    (pss_consD (ps_asgD 5 nd pd_bl)
    (pss_consD (ps_forD (passes_of rfl) rfl (pid_seq (by exact pd_callF T.f__law_choices (ok__law_choices T) hr (by omega) rfl tk (pd_cons (pd_var 1) (pd_cons (pd_var 3) (pd_cons (pd_var 4) pd_nil))) rfl (by decide) rfl rfl)) (pg_nameD 6 nd) (pss_oneD (ps_asgD 5 nd (pd_or (pd_var 5) (pd_one (by exact pd_callF T.f__law_wins_by_marks (ok__law_wins_by_marks T) hr (by omega) rfl tk (pd_cons (pd_var 1) (pd_cons (pd_var 3) (pd_cons (pd_var 6) (pd_cons (pd_var 4) pd_nil)))) rfl (by decide) rfl rfl))))))
    (pss_oneD (ps_ifD (pt_notD (pt_valD (pd_var 5))) (pss_oneD (ps_retD pd_bl)) pss_nilD))))))
    (pss_oneD (ps_retD pd_bl)))))
end
theorem all_mk {w : World} {K : PySem.W.Frag} {h : Heap} {mg : Str → Option Value} {fa : Addr} (X : K.In h) (G : h.Ns mainGlobals mg) (hfa : mg "law" = some (.ref fa))
    {f0 : Addr} {od0 an0 : Option Addr} {sl0 : Array (Option Value)} {oc0 kV0 dc0 pm0 cd0 ct0 : Value}
    (a0 : PySem.W.nsIn K mainGlobals "odd_marks" = some (some (.ref f0))) (l0 : K.lookup f0 = some ⟨oc0, od0, .func (PySem.W.fnOf "odd_marks" "odd_marks" (defArgs (topS 2)) (defBody (topS 2)) (defScope (topS 2)) .none kV0 dc0 pm0 an0 cd0 ct0), sl0⟩) (c0 : PySem.W.codeIn K cd0 "odd_marks" = true) (k0 : PySem.W.keepIn K (.ref f0) = true)
    {f1 : Addr} {od1 an1 : Option Addr} {sl1 : Array (Option Value)} {oc1 kV1 dc1 pm1 cd1 ct1 : Value}
    (a1 : PySem.W.nsIn K mainGlobals "raised" = some (some (.ref f1))) (l1 : K.lookup f1 = some ⟨oc1, od1, .func (PySem.W.fnOf "raised" "raised" (defArgs (topS 3)) (defBody (topS 3)) (defScope (topS 3)) .none kV1 dc1 pm1 an1 cd1 ct1), sl1⟩) (c1 : PySem.W.codeIn K cd1 "raised" = true) (k1 : PySem.W.keepIn K (.ref f1) = true)
    {f2 : Addr} {od2 an2 : Option Addr} {sl2 : Array (Option Value)} {oc2 kV2 dc2 pm2 cd2 ct2 : Value}
    (a2 : PySem.W.nsIn K mainGlobals "due_by" = some (some (.ref f2))) (l2 : K.lookup f2 = some ⟨oc2, od2, .func (PySem.W.fnOf "due_by" "due_by" (defArgs (topS 4)) (defBody (topS 4)) (defScope (topS 4)) .none kV2 dc2 pm2 an2 cd2 ct2), sl2⟩) (c2 : PySem.W.codeIn K cd2 "due_by" = true) (k2 : PySem.W.keepIn K (.ref f2) = true)
    {f3 : Addr} {od3 an3 : Option Addr} {sl3 : Array (Option Value)} {oc3 kV3 dc3 pm3 cd3 ct3 : Value}
    (a3 : PySem.W.nsIn K mainGlobals "due_of" = some (some (.ref f3))) (l3 : K.lookup f3 = some ⟨oc3, od3, .func (PySem.W.fnOf "due_of" "due_of" (defArgs (topS 5)) (defBody (topS 5)) (defScope (topS 5)) .none kV3 dc3 pm3 an3 cd3 ct3), sl3⟩) (c3 : PySem.W.codeIn K cd3 "due_of" = true) (k3 : PySem.W.keepIn K (.ref f3) = true)
    {f4 : Addr} {od4 an4 : Option Addr} {sl4 : Array (Option Value)} {oc4 kV4 dc4 pm4 cd4 ct4 : Value}
    (a4 : PySem.W.nsIn K mainGlobals "by_measures" = some (some (.ref f4))) (l4 : K.lookup f4 = some ⟨oc4, od4, .func (PySem.W.fnOf "by_measures" "by_measures" (defArgs (topS 6)) (defBody (topS 6)) (defScope (topS 6)) .none kV4 dc4 pm4 an4 cd4 ct4), sl4⟩) (c4 : PySem.W.codeIn K cd4 "by_measures" = true) (k4 : PySem.W.keepIn K (.ref f4) = true)
    {f5 : Addr} {od5 an5 : Option Addr} {sl5 : Array (Option Value)} {oc5 kV5 dc5 pm5 cd5 ct5 : Value}
    (a5 : PySem.W.nsIn K mainGlobals "_law_choices" = some (some (.ref f5))) (l5 : K.lookup f5 = some ⟨oc5, od5, .func (PySem.W.fnOf "_law_choices" "_law_choices" (defArgs (topS 19)) (defBody (topS 19)) (defScope (topS 19)) .none kV5 dc5 pm5 an5 cd5 ct5), sl5⟩) (c5 : PySem.W.codeIn K cd5 "_law_choices" = true) (k5 : PySem.W.keepIn K (.ref f5) = true)
    {f6 : Addr} {od6 an6 : Option Addr} {sl6 : Array (Option Value)} {oc6 kV6 dc6 pm6 cd6 ct6 : Value}
    (a6 : PySem.W.nsIn K mainGlobals "_law_cell_at" = some (some (.ref f6))) (l6 : K.lookup f6 = some ⟨oc6, od6, .func (PySem.W.fnOf "_law_cell_at" "_law_cell_at" (defArgs (topS 8)) (defBody (topS 8)) (defScope (topS 8)) .none kV6 dc6 pm6 an6 cd6 ct6), sl6⟩) (c6 : PySem.W.codeIn K cd6 "_law_cell_at" = true) (k6 : PySem.W.keepIn K (.ref f6) = true)
    {f7 : Addr} {od7 an7 : Option Addr} {sl7 : Array (Option Value)} {oc7 kV7 dc7 pm7 cd7 ct7 : Value}
    (a7 : PySem.W.nsIn K mainGlobals "_law_mixed" = some (some (.ref f7))) (l7 : K.lookup f7 = some ⟨oc7, od7, .func (PySem.W.fnOf "_law_mixed" "_law_mixed" (defArgs (topS 9)) (defBody (topS 9)) (defScope (topS 9)) .none kV7 dc7 pm7 an7 cd7 ct7), sl7⟩) (c7 : PySem.W.codeIn K cd7 "_law_mixed" = true) (k7 : PySem.W.keepIn K (.ref f7) = true)
    {f8 : Addr} {od8 an8 : Option Addr} {sl8 : Array (Option Value)} {oc8 kV8 dc8 pm8 cd8 ct8 : Value}
    (a8 : PySem.W.nsIn K mainGlobals "_law_drawn" = some (some (.ref f8))) (l8 : K.lookup f8 = some ⟨oc8, od8, .func (PySem.W.fnOf "_law_drawn" "_law_drawn" (defArgs (topS 10)) (defBody (topS 10)) (defScope (topS 10)) .none kV8 dc8 pm8 an8 cd8 ct8), sl8⟩) (c8 : PySem.W.codeIn K cd8 "_law_drawn" = true) (k8 : PySem.W.keepIn K (.ref f8) = true)
    {f9 : Addr} {od9 an9 : Option Addr} {sl9 : Array (Option Value)} {oc9 kV9 dc9 pm9 cd9 ct9 : Value}
    (a9 : PySem.W.nsIn K mainGlobals "_law_goals" = some (some (.ref f9))) (l9 : K.lookup f9 = some ⟨oc9, od9, .func (PySem.W.fnOf "_law_goals" "_law_goals" (defArgs (topS 11)) (defBody (topS 11)) (defScope (topS 11)) .none kV9 dc9 pm9 an9 cd9 ct9), sl9⟩) (c9 : PySem.W.codeIn K cd9 "_law_goals" = true) (k9 : PySem.W.keepIn K (.ref f9) = true)
    {f10 : Addr} {od10 an10 : Option Addr} {sl10 : Array (Option Value)} {oc10 kV10 dc10 pm10 cd10 ct10 : Value}
    (a10 : PySem.W.nsIn K mainGlobals "_law_place" = some (some (.ref f10))) (l10 : K.lookup f10 = some ⟨oc10, od10, .func (PySem.W.fnOf "_law_place" "_law_place" (defArgs (topS 12)) (defBody (topS 12)) (defScope (topS 12)) .none kV10 dc10 pm10 an10 cd10 ct10), sl10⟩) (c10 : PySem.W.codeIn K cd10 "_law_place" = true) (k10 : PySem.W.keepIn K (.ref f10) = true)
    {f11 : Addr} {od11 an11 : Option Addr} {sl11 : Array (Option Value)} {oc11 kV11 dc11 pm11 cd11 ct11 : Value}
    (a11 : PySem.W.nsIn K mainGlobals "_law_ground" = some (some (.ref f11))) (l11 : K.lookup f11 = some ⟨oc11, od11, .func (PySem.W.fnOf "_law_ground" "_law_ground" (defArgs (topS 13)) (defBody (topS 13)) (defScope (topS 13)) .none kV11 dc11 pm11 an11 cd11 ct11), sl11⟩) (c11 : PySem.W.codeIn K cd11 "_law_ground" = true) (k11 : PySem.W.keepIn K (.ref f11) = true)
    {f12 : Addr} {od12 an12 : Option Addr} {sl12 : Array (Option Value)} {oc12 kV12 dc12 pm12 cd12 ct12 : Value}
    (a12 : PySem.W.nsIn K mainGlobals "_law_ways" = some (some (.ref f12))) (l12 : K.lookup f12 = some ⟨oc12, od12, .func (PySem.W.fnOf "_law_ways" "_law_ways" (defArgs (topS 15)) (defBody (topS 15)) (defScope (topS 15)) .none kV12 dc12 pm12 an12 cd12 ct12), sl12⟩) (c12 : PySem.W.codeIn K cd12 "_law_ways" = true) (k12 : PySem.W.keepIn K (.ref f12) = true)
    {f13 : Addr} {od13 an13 : Option Addr} {sl13 : Array (Option Value)} {oc13 kV13 dc13 pm13 cd13 ct13 : Value}
    (a13 : PySem.W.nsIn K mainGlobals "_law_inside" = some (some (.ref f13))) (l13 : K.lookup f13 = some ⟨oc13, od13, .func (PySem.W.fnOf "_law_inside" "_law_inside" (defArgs (topS 17)) (defBody (topS 17)) (defScope (topS 17)) .none kV13 dc13 pm13 an13 cd13 ct13), sl13⟩) (c13 : PySem.W.codeIn K cd13 "_law_inside" = true) (k13 : PySem.W.keepIn K (.ref f13) = true)
    {f14 : Addr} {od14 an14 : Option Addr} {sl14 : Array (Option Value)} {oc14 kV14 dc14 pm14 cd14 ct14 : Value}
    (a14 : PySem.W.nsIn K mainGlobals "_law_reached" = some (some (.ref f14))) (l14 : K.lookup f14 = some ⟨oc14, od14, .func (PySem.W.fnOf "_law_reached" "_law_reached" (defArgs (topS 16)) (defBody (topS 16)) (defScope (topS 16)) .none kV14 dc14 pm14 an14 cd14 ct14), sl14⟩) (c14 : PySem.W.codeIn K cd14 "_law_reached" = true) (k14 : PySem.W.keepIn K (.ref f14) = true)
    {f15 : Addr} {od15 an15 : Option Addr} {sl15 : Array (Option Value)} {oc15 kV15 dc15 pm15 cd15 ct15 : Value}
    (a15 : PySem.W.nsIn K mainGlobals "_law_wins_by_marks" = some (some (.ref f15))) (l15 : K.lookup f15 = some ⟨oc15, od15, .func (PySem.W.fnOf "_law_wins_by_marks" "_law_wins_by_marks" (defArgs (topS 18)) (defBody (topS 18)) (defScope (topS 18)) .none kV15 dc15 pm15 an15 cd15 ct15), sl15⟩) (c15 : PySem.W.codeIn K cd15 "_law_wins_by_marks" = true) (k15 : PySem.W.keepIn K (.ref f15) = true)
    {f16 : Addr} {od16 an16 : Option Addr} {sl16 : Array (Option Value)} {oc16 kV16 dc16 pm16 cd16 ct16 : Value}
    (a16 : PySem.W.nsIn K mainGlobals "law" = some (some (.ref f16))) (l16 : K.lookup f16 = some ⟨oc16, od16, .func (PySem.W.fnOf "law" "law" (defArgs (topS 20)) (defBody (topS 20)) (defScope (topS 20)) .none kV16 dc16 pm16 an16 cd16 ct16), sl16⟩) (c16 : PySem.W.codeIn K cd16 "law" = true) (k16 : PySem.W.keepIn K (.ref f16) = true)
    (z_sorted : PySem.W.nsIn K mainGlobals "sorted" = some none)
    (z_set : PySem.W.nsIn K mainGlobals "set" = some none)
    (z_list : PySem.W.nsIn K mainGlobals "list" = some none)
    (z_len : PySem.W.nsIn K mainGlobals "len" = some none)
    (z_tuple : PySem.W.nsIn K mainGlobals "tuple" = some none)
    (z_min : PySem.W.nsIn K mainGlobals "min" = some none)
    (z_max : PySem.W.nsIn K mainGlobals "max" = some none)
    (z_enumerate : PySem.W.nsIn K mainGlobals "enumerate" = some none)
    (z_int : PySem.W.nsIn K mainGlobals "int" = some none)
    (z_range : PySem.W.nsIn K mainGlobals "range" = some none)
    {t_BEYOND : Tok} {tA_BEYOND : Addr} {td_BEYOND : Option Addr} {tk_BEYOND : Nat} {ts_BEYOND : Array (Option Value)} (g_BEYOND : PySem.W.nsIn K mainGlobals "BEYOND" = some (some (.ref tA_BEYOND))) (lt_BEYOND : K.lookup tA_BEYOND = some ⟨.type "tuple", td_BEYOND, .seq #[.int 1 t_BEYOND] tk_BEYOND, ts_BEYOND⟩)
    : ∃ fd : FuncData, (∀ (s : Shared) (v : Value), BindsTo s fd ⟨[v], []⟩ [("_law_script", v)]) ∧ ∀ base : Heap, K.In base → base.Ns mainGlobals mg → FnOk pg w K mg base (L2.CX pg w) 5 fa fd ["_law_script"] (spL K 1 d_law) := by
  obtain ⟨F0⟩ := fd_ne (ps := ["ground"]) X G a0 l0 c0 k0 (fun _ _ _ _ _ _ us hl => match us, hl with | [_], _ => rfl)
  obtain ⟨F1⟩ := fd_ne (ps := ["counts", "caps"]) X G a1 l1 c1 k1 (fun _ _ _ _ _ _ us hl => match us, hl with | [_, _], _ => rfl)
  obtain ⟨F2⟩ := fd_ne (ps := ["place", "measure", "odds"]) X G a2 l2 c2 k2 (fun _ _ _ _ _ _ us hl => match us, hl with | [_, _, _], _ => rfl)
  obtain ⟨F3⟩ := fd_ne (ps := ["place", "measures", "odds"]) X G a3 l3 c3 k3 (fun _ _ _ _ _ _ us hl => match us, hl with | [_, _, _], _ => rfl)
  obtain ⟨F4⟩ := fd_ne (ps := ["ground"]) X G a4 l4 c4 k4 (fun _ _ _ _ _ _ us hl => match us, hl with | [_], _ => rfl)
  obtain ⟨F5⟩ := fd_ne (ps := ["_law_ground_here", "_law_who", "_law_places"]) X G a5 l5 c5 k5 (fun _ _ _ _ _ _ us hl => match us, hl with | [_, _, _], _ => rfl)
  obtain ⟨F6⟩ := fd_ne (ps := ["_law_script", "_law_k"]) X G a6 l6 c6 k6 (fun _ _ _ _ _ _ us hl => match us, hl with | [_, _], _ => rfl)
  obtain ⟨F7⟩ := fd_ne (ps := ["_law_script", "_law_k"]) X G a7 l7 c7 k7 (fun _ _ _ _ _ _ us hl => match us, hl with | [_, _], _ => rfl)
  obtain ⟨F8⟩ := fd_ne (ps := ["_law_number", "_law_k"]) X G a8 l8 c8 k8 (fun _ _ _ _ _ _ us hl => match us, hl with | [_, _], _ => rfl)
  obtain ⟨F9⟩ := fd_ne (ps := ["_law_number", "_law_count"]) X G a9 l9 c9 k9 (fun _ _ _ _ _ _ us hl => match us, hl with | [_, _], _ => rfl)
  obtain ⟨F10⟩ := fd_ne (ps := ["_law_number", "_law_count", "_law_high"]) X G a10 l10 c10 k10 (fun _ _ _ _ _ _ us hl => match us, hl with | [_, _, _], _ => rfl)
  obtain ⟨F11⟩ := fd_ne (ps := ["_law_script", "_law_most"]) X G a11 l11 c11 k11 (fun _ _ _ _ _ _ us hl => match us, hl with | [_, _], _ => rfl)
  obtain ⟨F12⟩ := fd_ne (ps := ["_law_ground_here", "_law_who", "_law_moves", "_law_place_here"]) X G a12 l12 c12 k12 (fun _ _ _ _ _ _ us hl => match us, hl with | [_, _, _, _], _ => rfl)
  obtain ⟨F13⟩ := fd_ne (ps := ["_law_ground_here", "_law_who", "_law_moves", "_law_places"]) X G a13 l13 c13 k13 (fun _ _ _ _ _ _ us hl => match us, hl with | [_, _, _, _], _ => rfl)
  obtain ⟨F14⟩ := fd_ne (ps := ["_law_ground_here", "_law_who", "_law_moves", "_law_start", "_law_allowed"]) X G a14 l14 c14 k14 (fun _ _ _ _ _ _ us hl => match us, hl with | [_, _, _, _, _], _ => rfl)
  obtain ⟨F15⟩ := fd_ne (ps := ["_law_ground_here", "_law_who", "_law_moves", "_law_places"]) X G a15 l15 c15 k15 (fun _ _ _ _ _ _ us hl => match us, hl with | [_, _, _, _], _ => rfl)
  obtain ⟨F16, rfl, e16⟩ := fd_law (p := "_law_script") X G hfa a16 l16 c16 k16 (fun _ _ _ _ _ _ us hl => match us, hl with | [_], _ => rfl)
  let cl : Nat → Addr := fun _ => 0
  let T : Txt K mg cl := ⟨F0, F1, F2, F3, F4, F5, F6, F7, F8, F9, F10, F11, F12, F13, F14, F15, F16, PySem.W.mg_none_of X G z_sorted, PySem.W.mg_none_of X G z_set, PySem.W.mg_none_of X G z_list, PySem.W.mg_none_of X G z_len, PySem.W.mg_none_of X G z_tuple, PySem.W.mg_none_of X G z_min, PySem.W.mg_none_of X G z_max, PySem.W.mg_none_of X G z_enumerate, PySem.W.mg_none_of X G z_int, PySem.W.mg_none_of X G z_range, kc_tup1 X G g_BEYOND lt_BEYOND⟩
  exact ⟨F16.fd, e16, fun base _ _ => fn_spL (ok_law (w := w) (base := base) T)⟩
end K32

open PySem PySem.W PyProof.Rows in
set_option maxHeartbeats 0 in
theorem PySem.Challenge.cw_duelground_k32_whole_measures_holds : PySem.Challenge.rw_duelground_k32_whole_measures.Holds := by
  w_on; o_law; k_head; (case hw => w_witness2)
  k_fill
  refine L2.walk_of (l := PySem.Challenge.rw_duelground_k32_whole_measures) (n := 63) (k := 5) (x := "_law_script") (CX := fun w => L2.CX PySem.Challenge.pw_duelground_k32_whole_measures w) (sp := fun w => Pd.spL _ 1 K32.d_law) rfl (by decide) rfl ⟨rfl, by decide, by decide⟩ (fun w h Y => PySem.W.kIn_of Y) ?F (fun _ _ a ns hl _ hS => Pd.law_spL hl hS (K32.law_true ns hl)) (fun w H s e s' h => Pd.law_end (l := PySem.Challenge.rw_duelground_k32_whole_measures) h)
  case F =>
    intro w mg fa h KX G hmg
    refine' K32.all_mk KX G hmg ?a0 ?l0 ?c0 ?k0 ?a1 ?l1 ?c1 ?k1 ?a2 ?l2 ?c2 ?k2 ?a3 ?l3 ?c3 ?k3 ?a4 ?l4 ?c4 ?k4 ?a5 ?l5 ?c5 ?k5 ?a6 ?l6 ?c6 ?k6 ?a7 ?l7 ?c7 ?k7 ?a8 ?l8 ?c8 ?k8 ?a9 ?l9 ?c9 ?k9 ?a10 ?l10 ?c10 ?k10 ?a11 ?l11 ?c11 ?k11 ?a12 ?l12 ?c12 ?k12 ?a13 ?l13 ?c13 ?k13 ?a14 ?l14 ?c14 ?k14 ?a15 ?l15 ?c15 ?k15 ?a16 ?l16 ?c16 ?k16 ?z_sorted ?z_set ?z_list ?z_len ?z_tuple ?z_min ?z_max ?z_enumerate ?z_int ?z_range ?g_BEYOND ?lt_BEYOND
    (case a0 => k_is); (case l0 => k_is); (case c0 => k_is); (case k0 => k_is); (case a1 => k_is); (case l1 => k_is); (case c1 => k_is); (case k1 => k_is); (case a2 => k_is); (case l2 => k_is); (case c2 => k_is); (case k2 => k_is); (case a3 => k_is); (case l3 => k_is); (case c3 => k_is); (case k3 => k_is); (case a4 => k_is); (case l4 => k_is); (case c4 => k_is); (case k4 => k_is); (case a5 => k_is); (case l5 => k_is); (case c5 => k_is); (case k5 => k_is); (case a6 => k_is); (case l6 => k_is); (case c6 => k_is); (case k6 => k_is); (case a7 => k_is); (case l7 => k_is); (case c7 => k_is); (case k7 => k_is); (case a8 => k_is); (case l8 => k_is); (case c8 => k_is); (case k8 => k_is); (case a9 => k_is); (case l9 => k_is); (case c9 => k_is); (case k9 => k_is); (case a10 => k_is); (case l10 => k_is); (case c10 => k_is); (case k10 => k_is); (case a11 => k_is); (case l11 => k_is); (case c11 => k_is); (case k11 => k_is); (case a12 => k_is); (case l12 => k_is); (case c12 => k_is); (case k12 => k_is); (case a13 => k_is); (case l13 => k_is); (case c13 => k_is); (case k13 => k_is); (case a14 => k_is); (case l14 => k_is); (case c14 => k_is); (case k14 => k_is); (case a15 => k_is); (case l15 => k_is); (case c15 => k_is); (case k15 => k_is); (case a16 => k_is); (case l16 => k_is); (case c16 => k_is); (case k16 => k_is); (case z_sorted => k_is); (case z_set => k_is); (case z_list => k_is); (case z_len => k_is); (case z_tuple => k_is); (case z_min => k_is); (case z_max => k_is); (case z_enumerate => k_is); (case z_int => k_is); (case z_range => k_is); (case g_BEYOND => k_is); (case lt_BEYOND => k_is)

