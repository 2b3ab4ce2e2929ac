import PyProof.Rows.All
import PyProof.Rows.All
import Wide.All
import OpenK.AllK
import Wide.FinOn
import HandS.ForMost
import HandS.ForExc
import HandS.Flow
import HandS.Walk
import HandS.IsInst
import HandS.TupAny
import HandS.TupMul
import HandS.TupLe
import HandS.Style
import KE.DataEq
import HandS.SortInts
import HandS.Conv
import HandS.TupLen
import HandS.More
import KE.GoesNew
import HandS.Iter
import HandS.Exc
import HandS.TryOnly
import HandS.TryMany
import HandS.ExcOwn
import HandS.ExcIs
import PyProof.StrBlock2
import HandS.Strs
import HandS.SetFor
import HandS.Deep
import KE.KIndexWalk
import HandS.Text
import KE.DataMinMax
import KE.SortData
import KE.GoesRaise
import PySem.Challenge.RW_duelground_k04_whole_read
set_option Elab.async false
set_option linter.all false
set_option maxRecDepth 100000
set_option maxHeartbeats 4000000
/-! Pd0: plain data D, what stands for it in an abstract heap (Rp), the slots of a def by data (EnvR), outcomes. -/
namespace Pd
open PySem L2

/-! ### outcomes -/
inductive Out (α : Type) where
  | ok (a : α) | err (c : Nat) | bad
namespace Out
def bind {α β : Type} (o : Out α) (f : α → Out β) : Out β := match o with
  | .ok a => f a
  | .err c => .err c
  | .bad => .bad
@[simp] theorem ok_bind {α β : Type} (a : α) (f : α → Out β) : (Out.ok a).bind f = f a := rfl
@[simp] theorem err_bind {α β : Type} (c : Nat) (f : α → Out β) : (Out.err c : Out α).bind f = .err c := rfl
@[simp] theorem bad_bind {α β : Type} (f : α → Out β) : (Out.bad : Out α).bind f = .bad := rfl
/-- what is wanted of an outcome -/
def wp {α : Type} (o : Out α) (P : α → Prop) (E : Nat → Prop) : Prop := match o with
  | .ok a => P a
  | .err c => E c
  | .bad => False
theorem wp_bind {α β : Type} {o : Out α} {f : α → Out β} {P : β → Prop} {E : Nat → Prop} (h : (o.bind f).wp P E) : o.wp (fun a => (f a).wp P E) E := by
  cases o <;> exact h
theorem wp.imp {α : Type} {o : Out α} {P P' : α → Prop} {E E' : Nat → Prop} (h : o.wp P E) (hp : ∀ a, P a → P' a) (he : ∀ c, E c → E' c) : o.wp P' E' := by
  cases o with
  | ok a => exact hp a h
  | err c => exact he c h
  | bad => exact h
end Out

/-! ### data -/
inductive D where
  | none | bool (b : Bool) | int (i : Int) | str (s : Str) | list (l : List D) | tuple (l : List D) | dk (l : List (Key × V)) | dt (l : List (List Key × V))
  /-- the script; a tuple of ints that the module's top wrote -/
  | scr (l : List Int) | ktup (l : List Int)
  /-- a tuple, a dict with tuples as keys, that are known to the object -/
  | ftup (l : List D) | fdt (l : List (List Key × V))
instance : Inhabited D := ⟨.none⟩
/-- a value that is no object -/
def scV : V → Bool
  | .non => true
  | .bl _ => true
  | .int _ => true
  | .str _ => true
  | _ => false
def dv : V → D
  | .bl b => .bool b
  | .int i => .int i
  | .str s => .str s
  | _ => .none
def D.sc : D → Option V
  | .none => some .non
  | .bool b => some (.bl b)
  | .int i => some (.int i)
  | .str s => some (.str s)
  | _ => Option.none
mutual
/-- no list, no dict within -/
def D.fix : D → Bool
  | .none => true
  | .bool _ => true
  | .int _ => true
  | .str _ => true
  | .tuple l => D.fixA l
  | .list _ => false
  | .dk _ => false
  | .dt _ => false
  | .scr _ => false
  | .ktup _ => true
  | .ftup l => D.fixA l
  | .fdt _ => false
def D.fixA : List D → Bool
  | [] => true
  | d :: l => D.fix d && D.fixA l
end

/-- a tuple of the written part -/
def KTup (K : PySem.W.Frag) (a : Addr) (xs : List V) : Prop := ∃ (o : Obj) (its : Array Value) (n : Nat), K.lookup a = some o ∧ o.cls = .type "tuple" ∧ o.data = .seq its n ∧ its.size ≤ sizeLine ∧ Vals xs its.toList
mutual
inductive Rp (K : PySem.W.Frag) (H : Hp) : V → D → Prop
  | none : Rp K H .non .none
  | bool (b : Bool) : Rp K H (.bl b) (.bool b)
  | int (i : Int) : Rp K H (.int i) (.int i)
  | str (s : Str) : Rp K H (.str s) (.str s)
  | scr {a : Addr} {ns : List Int} : SqL K H a (ns.map V.int) → ns.length ≤ sizeLine → Rp K H (.ref a) (.scr ns)
  | list {a : Addr} {xs : List V} {ds : List D} : H a = some (.lst xs) → xs.length ≤ sizeLine → RpA K H xs ds → Rp K H (.ref a) (.list ds)
  | ktup {a : Addr} {ns : List Int} : KTup K a (ns.map V.int) → ns.length ≤ sizeLine → Rp K H (.ref a) (.ktup ns)
  | tuple {a : Addr} {xs : List V} {ds : List D} : H a = some (.tup xs) → xs.length ≤ sizeLine → RpA K H xs ds → Rp K H (.ref a) (.tuple ds)
  | dk {a : Addr} {kvs : List (Key × V)} : H a = some (.dK kvs) → (kvs.all fun p => scV p.2) = true → Rp K H (.ref a) (.dk kvs)
  | dt {a : Addr} {kvs : List (List Key × V)} : H a = some (.dT kvs) → (kvs.all fun p => scV p.2) = true → Rp K H (.ref a) (.dt kvs)
  | ftup {a : Addr} {o : Obj} {xs : List V} {ds : List D} : H a = some (.frz o (.tup xs)) → o.dict = none → xs.length ≤ sizeLine → RpA K H xs ds → Rp K H (.ref a) (.ftup ds)
  | fdt {a : Addr} {o : Obj} {kvs : List (List Key × V)} : H a = some (.frz o (.dT kvs)) → (kvs.all fun p => scV p.2) = true → Rp K H (.ref a) (.fdt kvs)
inductive RpA (K : PySem.W.Frag) (H : Hp) : List V → List D → Prop
  | nil : RpA K H [] []
  | cons {v : V} {vs : List V} {d : D} {ds : List D} : Rp K H v d → RpA K H vs ds → RpA K H (v :: vs) (d :: ds)
end

section
variable {K : PySem.W.Frag} {H H' : Hp}
theorem Same.seqT {a : Addr} {xs : List V} (e : Same H H') (h : SqT K H a xs) : SqT K H' a xs := by
  rcases h with (h | ⟨o, h⟩) | h
  · exact .inl (.inl (e _ _ h))
  · exact .inl (.inr ⟨o, e _ _ h⟩)
  · exact .inr h
mutual
theorem Rp.mono (e : Same H H') : ∀ (d : D) (v : V), Rp K H v d → Rp K H' v d
  | .none, _, h => by cases h; exact .none
  | .bool _, _, h => by cases h; exact .bool _
  | .int _, _, h => by cases h; exact .int _
  | .str _, _, h => by cases h; exact .str _
  | .list ds, _, h => by
    cases h with
    | list h1 h2 h3 => exact .list (e _ _ h1) h2 (RpA.mono e ds _ h3)
  | .tuple ds, _, h => by
    cases h with
    | tuple h1 h2 h3 => exact .tuple (e _ _ h1) h2 (RpA.mono e ds _ h3)
  | .dk _, _, h => by
    cases h with
    | dk h1 h2 => exact .dk (e _ _ h1) h2
  | .dt _, _, h => by
    cases h with
    | dt h1 h2 => exact .dt (e _ _ h1) h2
  | .scr _, _, h => by
    cases h with
    | scr h1 h2 => exact .scr (e.seq h1) h2
  | .ktup _, _, h => by
    cases h with
    | ktup h1 h2 => exact .ktup h1 h2
  | .ftup ds, _, h => by
    cases h with
    | ftup h1 h2 h3 h4 => exact .ftup (e _ _ h1) h2 h3 (RpA.mono e ds _ h4)
  | .fdt _, _, h => by
    cases h with
    | fdt h1 h2 => exact .fdt (e _ _ h1) h2
theorem RpA.mono (e : Same H H') : ∀ (ds : List D) (vs : List V), RpA K H vs ds → RpA K H' vs ds
  | [], _, h => by cases h; exact .nil
  | d :: ds, _, h => by
    cases h with
    | cons h1 h2 => exact .cons (Rp.mono e d _ h1) (RpA.mono e ds _ h2)
end
theorem Rp.up {d : D} {v : V} (h : Rp K H v d) (e : Same H H') : Rp K H' v d := Rp.mono e d v h
theorem RpA.up {ds : List D} {vs : List V} (h : RpA K H vs ds) (e : Same H H') : RpA K H' vs ds := RpA.mono e ds vs h
theorem RpA.len : ∀ {ds : List D} {vs : List V}, RpA K H vs ds → vs.length = ds.length
  | _, _, .nil => rfl
  | _, _, .cons _ t => by rw [List.length_cons, List.length_cons, RpA.len t]
theorem RpA.get : ∀ {ds : List D} {vs : List V} {i : Nat} {d : D}, RpA K H vs ds → ds[i]? = some d → ∃ v, vs[i]? = some v ∧ Rp K H v d
  | _, _, _, _, .nil, h => by simp at h
  | _, _, 0, _, .cons r _, h => by
    simp at h
    subst h
    exact ⟨_, rfl, r⟩
  | _, _, i + 1, d, .cons _ t, h => by
    obtain ⟨v, h1, h2⟩ := RpA.get (i := i) (d := d) t (by simpa using h)
    exact ⟨v, by simpa using h1, h2⟩
theorem RpA.getV : ∀ {ds : List D} {vs : List V} {i : Nat} {v : V}, RpA K H vs ds → vs[i]? = some v → ∃ d, ds[i]? = some d ∧ Rp K H v d
  | _, _, _, _, .nil, h => by simp at h
  | _, _, 0, _, .cons r _, h => by
    simp at h
    subst h
    exact ⟨_, rfl, r⟩
  | _, _, i + 1, v, .cons _ t, h => by
    obtain ⟨d, h1, h2⟩ := RpA.getV (i := i) (v := v) t (by simpa using h)
    exact ⟨d, by simpa using h1, h2⟩
theorem RpA.append : ∀ {ds es : List D} {vs ws : List V}, RpA K H vs ds → RpA K H ws es → RpA K H (vs ++ ws) (ds ++ es)
  | _, _, _, _, .nil, s => s
  | _, _, _, _, .cons r t, s => .cons r (RpA.append t s)
theorem RpA.take : ∀ {ds : List D} {vs : List V} (n : Nat), RpA K H vs ds → RpA K H (vs.take n) (ds.take n)
  | _, _, 0, _ => .nil
  | _, _, _ + 1, .nil => .nil
  | _, _, n + 1, .cons r t => .cons r (RpA.take n t)
theorem RpA.drop : ∀ {ds : List D} {vs : List V} (n : Nat), RpA K H vs ds → RpA K H (vs.drop n) (ds.drop n)
  | _, _, 0, r => r
  | _, _, _ + 1, .nil => .nil
  | _, _, n + 1, .cons _ t => RpA.drop n t
theorem RpA.set {v : V} {d : D} (r : Rp K H v d) : ∀ {ds : List D} {vs : List V} (i : Nat), RpA K H vs ds → RpA K H (vs.set i v) (ds.set i d)
  | _, _, _, .nil => .nil
  | _, _, 0, .cons _ t => .cons r t
  | _, _, i + 1, .cons q t => .cons q (RpA.set r i t)
theorem RpA.rev {ds : List D} {vs : List V} (h : RpA K H vs ds) : RpA K H vs.reverse ds.reverse := by
  induction ds generalizing vs with
  | nil => cases h; exact .nil
  | cons d ds ih =>
    cases h with
    | cons r t =>
      rw [List.reverse_cons, List.reverse_cons]
      exact RpA.append (ih t) (.cons r .nil)
theorem RpA.rep {ds : List D} {vs : List V} (h : RpA K H vs ds) : ∀ k : Nat, RpA K H (List.replicate k vs).flatten (List.replicate k ds).flatten
  | 0 => .nil
  | k + 1 => by
    rw [List.replicate_succ, List.replicate_succ, List.flatten_cons, List.flatten_cons]
    exact RpA.append h (RpA.rep h k)
theorem RpA.nil_iff {ds : List D} {vs : List V} (h : RpA K H vs ds) : vs = [] ↔ ds = [] := by
  cases h <;> simp
theorem Rp.of_sc {d : D} {v : V} (h : d.sc = some v) : Rp K H v d := by
  cases d <;> simp only [D.sc, Option.some.injEq, reduceCtorEq] at h <;> subst h
  · exact .none
  · exact .bool _
  · exact .int _
  · exact .str _
theorem Rp.sc {d : D} {v w : V} (r : Rp K H v d) (h : d.sc = some w) : v = w := by
  cases r <;> simp only [D.sc, Option.some.injEq, reduceCtorEq] at h <;> exact h
theorem scV_of_sc {d : D} {v : V} (h : d.sc = some v) : scV v = true := by
  cases d <;> simp only [D.sc, Option.some.injEq, reduceCtorEq] at h <;> subst h <;> rfl
theorem Rp.of_scV {v : V} (h : scV v = true) : Rp K H v (dv v) := by
  cases v <;> first | exact .none | exact .bool _ | exact .int _ | exact .str _ | (cases h)
end

/-! ### heaps with some addresses hidden -/
def hid (A : List Addr) (H : Hp) : Hp := fun b => if b ∈ A then none else H b
theorem hid_some {A : List Addr} {H : Hp} {b : Addr} {o : HO} (h : hid A H b = some o) : b ∉ A ∧ H b = some o := by
  unfold hid at h
  split at h
  · cases h
  · exact ⟨by assumption, h⟩
theorem hid_of {A : List Addr} {H : Hp} {b : Addr} {o : HO} (h : b ∉ A) (e : H b = some o) : hid A H b = some o := by
  unfold hid
  rw [if_neg h]
  exact e
theorem hid_mono {A : List Addr} {H H' : Hp} (e : Same H H') : Same (hid A H) (hid A H') := fun b o h => by
  obtain ⟨h1, h2⟩ := hid_some h
  exact hid_of h1 (e _ _ h2)
theorem hid_le {A B : List Addr} {H : Hp} (h : ∀ b ∈ B, b ∈ A ∨ H b = none) : Same (hid A H) (hid B H) := fun b o q => by
  obtain ⟨h1, h2⟩ := hid_some q
  refine hid_of (fun hb => ?_) h2
  rcases h b hb with z | z
  · exact h1 z
  · rw [h2] at z
    cases z
theorem hid_sub {A : List Addr} {H : Hp} : Same (hid A H) H := fun b o h => (hid_some h).2
theorem same_upd {H : Hp} {p : Addr} {o : HO} (h : H p = none) : Same H (upd H p o) := fun b x e => by
  rw [upd_ne (ne_of_none e h)]
  exact e
theorem hid_upd {A : List Addr} {H : Hp} {a : Addr} {o : HO} (h : a ∈ A) : hid A (upd H a o) = hid A H := by
  funext b
  unfold hid
  split
  · rfl
  · rename_i hb
    rw [upd_ne (fun z => hb (by rw [z]; exact h))]

/-! ### slots -/
abbrev Env := List (Option D)
/-- l, k, t: a list, a dict, a dict with tuples as keys, of the def's own; p: a list of the caller's that is changed in place -/
inductive Kd where
  | l | k | t | p
  deriving DecidableEq
abbrev Ow := List (Nat × Kd)
/-- the frame: hidden addresses of the callers; the slots whose lists are the caller's, with their addresses -/
structure Fm where
  A : List Addr
  fx : List (Nat × Addr)
def refAt (σ : St) (i : Nat) : Option Addr := match σ[i]? with
  | some (some (.ref a)) => some a
  | _ => none
theorem refAt_some {σ : St} {i : Nat} {a : Addr} (h : refAt σ i = some a) : σ[i]? = some (some (.ref a)) := by
  unfold refAt at h
  split at h
  · cases h
    assumption
  · cases h
theorem refAt_of {σ : St} {i : Nat} {a : Addr} (h : σ[i]? = some (some (.ref a))) : refAt σ i = some a := by
  unfold refAt
  rw [h]
def own (O : Ow) (σ : St) : List Addr := O.filterMap fun p => refAt σ p.1
theorem mem_own {O : Ow} {σ : St} {a : Addr} : a ∈ own O σ ↔ ∃ i k, (i, k) ∈ O ∧ σ[i]? = some (some (.ref a)) := by
  unfold own
  rw [List.mem_filterMap]
  constructor
  · rintro ⟨⟨i, k⟩, h1, h2⟩
    exact ⟨i, k, h1, refAt_some h2⟩
  · rintro ⟨i, k, h1, h2⟩
    exact ⟨(i, k), h1, refAt_of h2⟩
def Cel (K : PySem.W.Frag) (Hh H : Hp) : Kd → Addr → D → Prop
  | .l, a, d => ∃ xs ds, d = .list ds ∧ H a = some (.lst xs) ∧ xs.length ≤ sizeLine ∧ RpA K Hh xs ds
  | .p, a, d => ∃ xs ds, d = .list ds ∧ H a = some (.lst xs) ∧ xs.length ≤ sizeLine ∧ RpA K Hh xs ds
  | .k, a, d => ∃ kvs, d = .dk kvs ∧ H a = some (.dK kvs) ∧ (kvs.all fun p => scV p.2) = true
  | .t, a, d => (∃ kvs, d = .dt kvs ∧ H a = some (.dT kvs) ∧ (kvs.all fun p => scV p.2) = true) ∨ ∃ o kvs, d = .fdt kvs ∧ H a = some (.frz o (.dT kvs)) ∧ (kvs.all fun p => scV p.2) = true
/-- the objects of cells: lists and dicts -/
def celO : HO → Bool
  | .lst _ => true
  | .dK _ => true
  | .dT _ => true
  | .frz _ (.dT _) => true
  | _ => false
theorem Cel.some {K : PySem.W.Frag} {Hh H : Hp} {k : Kd} {a : Addr} {d : D} (h : Cel K Hh H k a d) : ∃ o, H a = some o ∧ celO o = true := by
  cases k with
  | l => obtain ⟨xs, ds, _, e, _⟩ := h; exact ⟨_, e, rfl⟩
  | p => obtain ⟨xs, ds, _, e, _⟩ := h; exact ⟨_, e, rfl⟩
  | k => obtain ⟨kvs, _, e, _⟩ := h; exact ⟨_, e, rfl⟩
  | t =>
    rcases h with ⟨kvs, _, e, _⟩ | ⟨o, kvs, _, e, _⟩
    · exact ⟨_, e, rfl⟩
    · exact ⟨_, e, rfl⟩
theorem Cel.up {K : PySem.W.Frag} {Hh Hh' H H' : Hp} {k : Kd} {a : Addr} {d : D} (h : Cel K Hh H k a d) (e1 : Same Hh Hh') (e2 : H' a = H a) : Cel K Hh' H' k a d := by
  cases k with
  | l =>
    obtain ⟨xs, ds, rfl, e, z, r⟩ := h
    exact ⟨xs, ds, rfl, e2.trans e, z, r.up e1⟩
  | p =>
    obtain ⟨xs, ds, rfl, e, z, r⟩ := h
    exact ⟨xs, ds, rfl, e2.trans e, z, r.up e1⟩
  | k =>
    obtain ⟨kvs, rfl, e, z⟩ := h
    exact ⟨kvs, rfl, e2.trans e, z⟩
  | t =>
    rcases h with ⟨kvs, rfl, e, z⟩ | ⟨o, kvs, rfl, e, z⟩
    · exact .inl ⟨kvs, rfl, e2.trans e, z⟩
    · exact .inr ⟨o, kvs, rfl, e2.trans e, z⟩
/-- as a value that is read -/
theorem Cel.rp {K : PySem.W.Frag} {Hh H B : Hp} {k : Kd} {a : Addr} {d : D} (h : Cel K Hh H k a d) (e1 : Same Hh B) (e2 : B a = H a) : Rp K B (.ref a) d := by
  cases k with
  | l =>
    obtain ⟨xs, ds, rfl, e, z, r⟩ := h
    exact .list (e2.trans e) z (r.up e1)
  | p =>
    obtain ⟨xs, ds, rfl, e, z, r⟩ := h
    exact .list (e2.trans e) z (r.up e1)
  | k =>
    obtain ⟨kvs, rfl, e, z⟩ := h
    exact .dk (e2.trans e) z
  | t =>
    rcases h with ⟨kvs, rfl, e, z⟩ | ⟨o, kvs, rfl, e, z⟩
    · exact .dt (e2.trans e) z
    · exact .fdt (e2.trans e) z

def hs (m : Bool) (F : Fm) (O : Ow) (σ : St) : List Addr := if m then F.A ++ own O σ else F.A
structure EnvR (K : PySem.W.Frag) (O : Ow) (F : Fm) (ρ : Env) (σ : St) (H : Hp) : Prop where
  len : ρ.length = σ.length
  val : ∀ i d, ρ[i]? = some (some d) → (∀ k, (i, k) ∉ O) → ∃ v, σ[i]? = some (some v) ∧ Rp K (hid (F.A ++ own O σ) H) v d
  cel : ∀ i k, (i, k) ∈ O → (∃ d a, ρ[i]? = some (some d) ∧ σ[i]? = some (some (.ref a)) ∧ a ∉ F.A ∧ Cel K (hid (F.A ++ own O σ) H) H k a d) ∨ (ρ[i]? = some none ∧ σ[i]? = some none)
  dis : ∀ i k j k' a, (i, k) ∈ O → (j, k') ∈ O → σ[i]? = some (some (.ref a)) → σ[j]? = some (some (.ref a)) → i = j
  adom : ∀ a ∈ F.A, ∃ o, H a = some o ∧ celO o = true
  fix : ∀ p ∈ F.fx, σ[p.1]? = some (some (.ref p.2))
  fxO : ∀ p ∈ F.fx, (p.1, Kd.p) ∈ O
def frzO : HO → Bool
  | .frz _ _ => true
  | _ => false
/-- what a statement may do: only the owned cells change, none that is known to the object -/
structure Stp (O : Ow) (σ : St) (H : Hp) (σ' : St) (H' : Hp) : Prop where
  keep : ∀ b o, b ∉ own O σ ∨ frzO o = true → H b = some o → H' b = some o
  new : ∀ b ∈ own O σ', b ∈ own O σ ∨ H b = none
theorem Stp.refl {O : Ow} {σ : St} {H : Hp} : Stp O σ H σ H := ⟨fun _ _ _ e => e, fun _ h => .inl h⟩
theorem Stp.trans {O : Ow} {σ σ1 σ2 : St} {H H1 H2 : Hp} (a : Stp O σ H σ1 H1) (b : Stp O σ1 H1 σ2 H2) : Stp O σ H σ2 H2 where
  keep := fun c o h e => b.keep c o (h.imp (fun h z => by
    rcases a.new c z with q | q
    · exact h q
    · rw [e] at q; cases q) id) (a.keep c o h e)
  new := fun c h => by
    rcases b.new c h with q | q
    · exact a.new c q
    · by_cases hc : c ∈ own O σ
      · exact .inl hc
      · refine .inr ?_
        cases e : H c with
        | none => rfl
        | some o =>
          rw [a.keep c o (.inl hc) e] at q
          cases q
theorem Stp.same {O : Ow} {σ : St} {H H' : Hp} (e : Same H H') : Stp O σ H σ H' := ⟨fun b o _ q => e b o q, fun _ h => .inl h⟩

section
variable {K : PySem.W.Frag} {O : Ow} {F : Fm} {ρ : Env} {σ : St} {H H' : Hp}
theorem EnvR.odom (E : EnvR K O F ρ σ H) : ∀ a ∈ own O σ, ∃ o, H a = some o ∧ celO o = true := fun a ha => by
  obtain ⟨i, k, h1, h2⟩ := mem_own.mp ha
  rcases E.cel i k h1 with ⟨d, b, _, q2, _, q4⟩ | ⟨_, q⟩
  · rw [h2] at q2
    cases q2
    exact q4.some
  · rw [h2] at q
    cases q
theorem EnvR.hdom (E : EnvR K O F ρ σ H) (m : Bool) : ∀ a ∈ hs m F O σ, ∃ o, H a = some o ∧ celO o = true := fun a ha => by
  unfold hs at ha
  cases m with
  | false => exact E.adom a ha
  | true =>
    rcases List.mem_append.mp ha with z | z
    · exact E.adom a z
    · exact E.odom a z
theorem EnvR.notup (E : EnvR K O F ρ σ H) : ∀ a ∈ own O σ, ∀ xs, H a ≠ some (.tup xs) := fun a ha xs z => by
  obtain ⟨o, e, q⟩ := E.odom a ha
  rw [e] at z
  cases z
  cases q
theorem EnvR.up (E : EnvR K O F ρ σ H) (e : Same H H') : EnvR K O F ρ σ H' where
  len := E.len
  val := fun i d h n => by
    obtain ⟨v, h1, h2⟩ := E.val i d h n
    exact ⟨v, h1, h2.up (hid_mono e)⟩
  cel := fun i k h => by
    rcases E.cel i k h with ⟨d, a, q1, q2, q3, q4⟩ | q
    · refine .inl ⟨d, a, q1, q2, q3, q4.up (hid_mono e) ?_⟩
      obtain ⟨o, e1, _⟩ := q4.some
      rw [e1, e a o e1]
    · exact .inr q
  dis := E.dis
  adom := fun a h => by
    obtain ⟨o, q1, q2⟩ := E.adom a h
    exact ⟨o, e a o q1, q2⟩
  fix := E.fix
  fxO := E.fxO
theorem refAt_set {σ : St} {i j : Nat} {v : Option V} (h : i ≠ j) : refAt (σ.set i v) j = refAt σ j := by
  unfold refAt
  rw [List.getElem?_set_ne h]
theorem filterMap_eq {α β : Type} {f g : α → Option β} : ∀ {l : List α}, (∀ x ∈ l, f x = g x) → l.filterMap f = l.filterMap g
  | [], _ => rfl
  | x :: l, h => by
    rw [List.filterMap_cons, List.filterMap_cons, h x List.mem_cons_self, filterMap_eq (l := l) fun y hy => h y (List.mem_cons_of_mem _ hy)]
theorem own_set {i : Nat} {v : Option V} (n : ∀ k, (i, k) ∉ O) : own O (σ.set i v) = own O σ := by
  unfold own
  refine filterMap_eq fun p hp => ?_
  exact refAt_set fun z => n p.2 (by rw [z]; exact hp)
/-- a slot that owns nothing takes a value -/
theorem EnvR.set {i : Nat} {v : V} {d : D} (E : EnvR K O F ρ σ H) (n : ∀ k, (i, k) ∉ O) (r : Rp K (hid (F.A ++ own O σ) H) v d) : EnvR K O F (ρ.set i (some d)) (σ.set i (some v)) H where
  len := by rw [List.length_set, List.length_set, E.len]
  val := fun j e h nj => by
    rw [own_set n]
    by_cases hij : i = j
    · subst hij
      by_cases hl : i < ρ.length
      · rw [List.getElem?_set_self hl] at h
        cases h
        exact ⟨v, List.getElem?_set_self (by rw [← E.len]; exact hl), r⟩
      · rw [List.getElem?_eq_none (by rw [List.length_set]; omega)] at h
        cases h
    · rw [List.getElem?_set_ne hij] at h ⊢
      exact E.val j e h nj
  cel := fun j k h => by
    have hij : i ≠ j := fun z => n k (by rw [z]; exact h)
    rw [own_set n, List.getElem?_set_ne hij, List.getElem?_set_ne hij]
    exact E.cel j k h
  dis := fun j k j' k' a h h' e e' => by
    have hj : i ≠ j := fun z => n k (by rw [z]; exact h)
    have hj' : i ≠ j' := fun z => n k' (by rw [z]; exact h')
    rw [List.getElem?_set_ne hj] at e
    rw [List.getElem?_set_ne hj'] at e'
    exact E.dis j k j' k' a h h' e e'
  adom := E.adom
  fix := fun p hp => by
    rw [List.getElem?_set_ne (fun z => n _ (by rw [z]; exact E.fxO p hp))]
    exact E.fix p hp
  fxO := E.fxO
/-- a slot that owns nothing is forgotten -/
theorem EnvR.forget {i : Nat} (E : EnvR K O F ρ σ H) (n : ∀ k, (i, k) ∉ O) : EnvR K O F (ρ.set i none) (σ.set i none) H where
  len := by rw [List.length_set, List.length_set, E.len]
  val := fun j e h nj => by
    rw [own_set n]
    by_cases hij : i = j
    · subst hij
      by_cases hl : i < ρ.length
      · rw [List.getElem?_set_self hl] at h
        cases h
      · rw [List.getElem?_eq_none (by rw [List.length_set]; omega)] at h
        cases h
    · rw [List.getElem?_set_ne hij] at h ⊢
      exact E.val j e h nj
  cel := fun j k h => by
    have hij : i ≠ j := fun z => n k (by rw [z]; exact h)
    rw [own_set n, List.getElem?_set_ne hij, List.getElem?_set_ne hij]
    exact E.cel j k h
  dis := fun j k j' k' a h h' e e' => by
    have hj : i ≠ j := fun z => n k (by rw [z]; exact h)
    have hj' : i ≠ j' := fun z => n k' (by rw [z]; exact h')
    rw [List.getElem?_set_ne hj] at e
    rw [List.getElem?_set_ne hj'] at e'
    exact E.dis j k j' k' a h h' e e'
  adom := E.adom
  fix := fun p hp => by
    rw [List.getElem?_set_ne (fun z => n _ (by rw [z]; exact E.fxO p hp))]
    exact E.fix p hp
  fxO := E.fxO
end
end Pd

/-! Pd1: what an expression, a test, an argument list is worth by data. -/
namespace Pd
open PySem L2

/-- the classes of errors by number; the slots that own a list or dict; what is wished of an error -/
structure Pc where
  cl : Nat → Addr
  O : Ow
  W : WX
abbrev W0 : WX := fun _ _ _ _ => False
abbrev Pc.w0 (c : Pc) : Pc := { c with W := W0 }
abbrev DE := Env → Out D
abbrev DT := Env → Out Bool
abbrev DA := Env → Out (List D)

section
variable (K : PySem.W.Frag) (c : Pc)
def erW (σ : St) (H : Hp) : Nat → Prop := fun x => ∀ H', Same H H' → c.W (.ref (c.cl x)) none σ H'
def rdE (m : Bool) (f : DE) : TE := fun σ H Q => ∃ F ρ, EnvR K c.O F ρ σ H ∧ (f ρ).wp (fun d => ∀ v H', Same H H' → Rp K (hid (hs m F c.O σ) H') v d → Q v H') (erW c σ H)
def rdT (f : DT) : TT := fun σ H Q => ∃ F ρ, EnvR K c.O F ρ σ H ∧ (f ρ).wp (fun b => ∀ H', Same H H' → Q b H') (erW c σ H)
def rdA (m : Bool) (f : DA) : TA := fun σ H Q => ∃ F ρ, EnvR K c.O F ρ σ H ∧ (f ρ).wp (fun ds => ∀ vs H', Same H H' → RpA K (hid (hs m F c.O σ) H') vs ds → Q vs H') (erW c σ H)
/-- a new list, dict -/
def rdF (k : Kd) (f : DE) : TE := fun σ H Q => ∃ F ρ, EnvR K c.O F ρ σ H ∧ (f ρ).wp (fun d => ∀ a H', Same H H' → H a = none → Cel K (hid (a :: (F.A ++ own c.O σ)) H') H' k a d → Q (.ref a) H') (erW c σ H)
end
abbrev PD (X : Cx) (c : Pc) (m : Bool) (e : Expr) (f : DE) : Prop := PE X e (rdE X.K c m f)
abbrev PTD (X : Cx) (c : Pc) (e : Expr) (f : DT) : Prop := PT X e (rdT X.K c f)
abbrev PWD (X : Cx) (c : Pc) (e : Expr) (f : DT) : Prop := PW X e (rdT X.K c f)
abbrev PAD (X : Cx) (c : Pc) (m : Bool) (es : List Expr) (f : DA) : Prop := PA X es (rdA X.K c m f)
abbrev PF (X : Cx) (c : Pc) (k : Kd) (e : Expr) (f : DE) : Prop := PE X e (rdF X.K c k f)

section
variable {X : Cx} {c : Pc} {m : Bool} {e a b : Expr} {pos p : Pos}
theorem PE.imp {t t' : TE} (h : PE X e t) (f : ∀ σ H Q, t' σ H Q → t σ H Q) : PE X e t' := ⟨fun pins s σ H Q I q => h.run pins s σ H Q I (f σ H Q q)⟩
theorem PT.imp {t t' : TT} (h : PT X e t) (f : ∀ σ H Q, t' σ H Q → t σ H Q) : PT X e t' := ⟨fun pins s σ H Q I q => h.run pins s σ H Q I (f σ H Q q)⟩
theorem PW.imp {t t' : TT} (h : PW X e t) (f : ∀ σ H Q, t' σ H Q → t σ H Q) : PW X e t' := ⟨fun w pins s σ H Q I q => h.run w pins s σ H Q I (f σ H Q q)⟩
theorem PA.imp {es : List Expr} {t t' : TA} (h : PA X es t) (f : ∀ σ H Q, t' σ H Q → t σ H Q) : PA X es t' := ⟨fun p pins s σ H Q I q => h.run p pins s σ H Q I (f σ H Q q)⟩
theorem erW.up {c : Pc} {σ : St} {H H1 : Hp} {x : Nat} (h : erW c σ H x) (e : Same H H1) : erW c σ H1 x := fun H' s => h H' (e.trans s)
theorem hs_false_le {F : Fm} {O : Ow} {σ : St} {H : Hp} : Same (hid (F.A ++ own O σ) H) (hid F.A H) := hid_le fun b h => .inl (List.mem_append_left _ h)
theorem hs_le {m : Bool} {F : Fm} {O : Ow} {σ : St} {H : Hp} : Same (hid (F.A ++ own O σ) H) (hid (hs m F O σ) H) := by
  cases m
  · exact hs_false_le
  · exact Same.refl _
theorem PD.weak {f : DE} (h : PD X c true e f) : PD X c m e f := PE.imp h fun σ H Q ⟨F, ρ, E, w⟩ => ⟨F, ρ, E, w.imp (fun d k v H' s r => k v H' s (r.up hs_le)) fun _ z => z⟩

/-! ### names -/
def dVar (i : Nat) : DE := fun ρ => match ρ[i]? with
  | some (some d) => .ok d
  | _ => .bad
theorem dVar_wp {i : Nat} {ρ : Env} {P : D → Prop} {E : Nat → Prop} (h : (dVar i ρ).wp P E) : ∃ d, ρ[i]? = some (some d) ∧ P d := by
  unfold dVar at h
  split at h
  · rename_i d q
    exact ⟨d, q, h⟩
  · exact h.elim
def noOw (O : Ow) (i : Nat) : Bool := O.all fun p => p.1 != i
theorem noOw_of {O : Ow} {i : Nat} (h : noOw O i = true) : ∀ k, (i, k) ∉ O := fun k hk => by
  have z := List.all_eq_true.mp h (i, k) hk
  simp at z
def isOw (O : Ow) (i : Nat) (k : Kd) : Bool := O.any fun p => p.1 == i && p.2 == k
theorem isOw_of {O : Ow} {i : Nat} {k : Kd} (h : isOw O i k = true) : (i, k) ∈ O := by
  obtain ⟨⟨j, k'⟩, h1, h2⟩ := List.any_eq_true.mp h
  simp only [Bool.and_eq_true, beq_iff_eq] at h2
  obtain ⟨rfl, rfl⟩ := h2
  exact h1
theorem pd_var (i : Nat) {x : Str} (ho : noOw c.O i = true := by rfl) (hN : X.N[i]? = some x := by rfl) (hv : Vis X.env.scope x := by first | exact Or.inl rfl | exact Or.inr (Or.inl rfl) | exact Or.inr (Or.inr rfl))
    (hd : (x == ("__debug__" : Str)) = false := by decide) (hcd : (x == ("__classdict__" : Str)) = false := by decide) : PD X c m (.Name x pos) (dVar i) :=
  PE.imp (pe_var hN hv hd hcd) fun σ H Q ⟨F, ρ, E, w⟩ => by
    obtain ⟨d, h1, h2⟩ := dVar_wp w
    obtain ⟨v, h3, h4⟩ := E.val i d h1 (noOw_of ho)
    exact ⟨v, h3, h2 v H (Same.refl H) (h4.up hs_le)⟩
/-- a name whose list is owned, to be read -/
theorem pd_varO (i : Nat) (k : Kd) {x : Str} (ho : isOw c.O i k = true := by rfl) (hN : X.N[i]? = some x := by rfl) (hv : Vis X.env.scope x := by first | exact Or.inl rfl | exact Or.inr (Or.inl rfl) | exact Or.inr (Or.inr rfl))
    (hd : (x == ("__debug__" : Str)) = false := by decide) (hcd : (x == ("__classdict__" : Str)) = false := by decide) : PD X c false (.Name x pos) (dVar i) :=
  PE.imp (pe_var hN hv hd hcd) fun σ H Q ⟨F, ρ, E, w⟩ => by
    obtain ⟨d, h1, h2⟩ := dVar_wp w
    rcases E.cel i k (isOw_of ho) with ⟨d', a, q1, q2, q3, q4⟩ | ⟨q, _⟩
    · rw [h1] at q1
      cases q1
      refine ⟨_, q2, h2 _ H (Same.refl H) (q4.rp hs_false_le ?_)⟩
      show hid F.A H a = H a
      unfold hid
      rw [if_neg q3]
    · rw [h1] at q
      cases q

/-! ### constants -/
def dC (d : D) : DE := fun _ => .ok d
theorem pd_int {i : Int} {j : Nat} : PD X c m (.Constant (.int i) j pos) (dC (.int i)) := PE.imp pe_int fun σ H Q ⟨F, ρ, E, w⟩ => w _ H (Same.refl H) (.int i)
theorem pd_bl {i : Bool} {j : Nat} : PD X c m (.Constant (.bool i) j pos) (dC (.bool i)) := PE.imp pe_bl fun σ H Q ⟨F, ρ, E, w⟩ => w _ H (Same.refl H) (.bool i)
theorem pd_non {j : Nat} : PD X c m (.Constant .none j pos) (dC .none) := PE.imp pe_non fun σ H Q ⟨F, ρ, E, w⟩ => w _ H (Same.refl H) .none
theorem pd_str {x : Str} {j : Nat} : PD X c m (.Constant (.str x) j pos) (dC (.str x)) := PE.imp pe_str fun σ H Q ⟨F, ρ, E, w⟩ => w _ H (Same.refl H) (.str x)
/-- a module's constant -/
theorem pd_glob {x : Str} {v : V} {u : Value} {d : D} (hm : X.mg x = some u) (r : RelV v u) (hr : ∀ H, Rp X.K H v d) (hg : Gl X x := by rfl) (hd : (x == ("__debug__" : Str)) = false := by decide) : PD X c m (.Name x pos) (dC d) :=
  PE.imp (pe_glob hg hm r hd) fun σ H Q ⟨F, ρ, E, w⟩ => w _ H (Same.refl H) (hr _)

/-! ### lists of arguments -/
def dNil : DA := fun _ => .ok []
def dCons (f : DE) (g : DA) : DA := fun ρ => (f ρ).bind fun d => (g ρ).bind fun ds => .ok (d :: ds)
theorem pd_nil : PAD X c m [] dNil := PA.imp pa_nil fun σ H Q ⟨F, ρ, E, w⟩ => w [] H (Same.refl H) .nil
theorem pd_cons {es : List Expr} {f : DE} {g : DA} (ha : PD X c m e f) (hr : PAD X c m es g) (hs : starEach (e :: es) X.env = (false, eval e X.env) :: starEach es X.env := by rfl) : PAD X c m (e :: es) (dCons f g) :=
  PA.imp (pa_cons ha hr hs) fun σ H Q ⟨F, ρ, E, w⟩ => ⟨F, ρ, E, (Out.wp_bind w).imp (fun d k v H1 s1 r1 => ⟨F, ρ, E.up s1, (Out.wp_bind k).imp (fun ds k2 vs H2 s2 r2 =>
    k2 (v :: vs) H2 (s1.trans s2) (.cons (r1.up (hid_mono s2)) r2)) fun x z => z.up s1⟩) fun x z => z⟩

/-! ### operators -/
def Out.of {α : Type} (o : Option α) : Out α := match o with
  | some a => .ok a
  | none => .bad
@[simp] theorem of_some {α : Type} (a : α) : Out.of (some a) = .ok a := rfl
@[simp] theorem of_none {α : Type} : Out.of (none : Option α) = .bad := rfl
theorem of_wp {α : Type} {o : Option α} {P : α → Prop} {E : Nat → Prop} (h : (Out.of o).wp P E) : ∃ a, o = some a ∧ P a := by
  cases o with
  | some a => exact ⟨a, rfl, h⟩
  | none => exact h.elim
def Dom (A : List Addr) (H : Hp) : Prop := ∀ a ∈ A, ∃ o, H a = some o ∧ celO o = true
theorem Dom.free {A : List Addr} {H : Hp} {p : Addr} (h : Dom A H) (n : H p = none) : p ∉ A := fun z => by
  obtain ⟨o, e, _⟩ := h p z
  rw [n] at e
  cases e
theorem Dom.up {A : List Addr} {H H' : Hp} (h : Dom A H) (e : Same H H') : Dom A H' := fun a ha => by
  obtain ⟨o, q1, q2⟩ := h a ha
  exact ⟨o, e a o q1, q2⟩
/-- an operation on values by data -/
def rdO (K : PySem.W.Frag) (g : D → D → Option D) : R2 := fun x y H Q => ∃ A dx dy, Dom A H ∧ Rp K (hid A H) x dx ∧ Rp K (hid A H) y dy ∧ ∃ d, g dx dy = some d ∧ ∀ v H', Same H H' → Rp K (hid A H') v d → Q v H'
def rdC (K : PySem.W.Frag) (g : D → D → Option Bool) : R2 := fun x y H Q => ∃ A dx dy, Dom A H ∧ Rp K (hid A H) x dx ∧ Rp K (hid A H) y dy ∧ ∃ b, g dx dy = some b ∧ Q (.bl b) H
def rdU (K : PySem.W.Frag) (g : D → Option D) : V → Hp → VK → Prop := fun x H Q => ∃ A dx, Dom A H ∧ Rp K (hid A H) x dx ∧ ∃ d, g dx = some d ∧ ∀ v H', Same H H' → Rp K (hid A H') v d → Q v H'
def rdL (K : PySem.W.Frag) (g : List D → Option D) : List V → Hp → VK → Prop := fun vs H Q => ∃ A ds, Dom A H ∧ RpA K (hid A H) vs ds ∧ ∃ d, g ds = some d ∧ ∀ v H', Same H H' → Rp K (hid A H') v d → Q v H'
def dOp (g : D → D → Option D) (f1 f2 : DE) : DE := fun ρ => (f1 ρ).bind fun x => (f2 ρ).bind fun y => .of (g x y)
def dCmp (g : D → D → Option Bool) (f1 f2 : DE) : DT := fun ρ => (f1 ρ).bind fun x => (f2 ρ).bind fun y => .of (g x y)
def dUn (g : D → Option D) (f : DE) : DE := fun ρ => (f ρ).bind fun x => .of (g x)
def dCall (g : List D → Option D) (f : DA) : DE := fun ρ => (f ρ).bind fun x => .of (g x)
/-- a test as a value -/
def dBv (t : DT) : DE := fun ρ => (t ρ).bind fun b => .ok (.bool b)
variable {f f1 f2 f3 : DE} {t t1 t2 : DT}
theorem two {R : R2} {σ : St} {H : Hp} {Q : VK} {F : Fm} {ρ : Env} {P : D → D → V → V → Hp → Prop} (E : EnvR X.K c.O F ρ σ H)
    (w : (f1 ρ).wp (fun x => (f2 ρ).wp (fun y => ∀ v u H', Same H H' → Rp X.K (hid (hs m F c.O σ) H') v x → Rp X.K (hid (hs m F c.O σ) H') u y → R v u H' Q) (erW c σ H)) (erW c σ H)) : tOp R (rdE X.K c m f1) (rdE X.K c m f2) σ H Q :=
  ⟨F, ρ, E, w.imp (fun x k v H1 s1 r1 => ⟨F, ρ, E.up s1, k.imp (fun y k2 u H2 s2 r2 => k2 v u H2 (s1.trans s2) (r1.up (hid_mono s2)) r2) fun _ z => z.up s1⟩) fun _ z => z⟩
theorem pd_op {op : Operator} {g : D → D → Option D} (ho : OpR X (binaryOp op) (rdO X.K g)) (ha : PD X c m a f1) (hb : PD X c m b f2) : PD X c m (.BinOp a op b pos) (dOp g f1 f2) :=
  PE.imp (pe_op ho ha hb) fun σ H Q ⟨F, ρ, E, w⟩ => two (P := fun _ _ _ _ _ => True) E ((Out.wp_bind w).imp (fun x k => (Out.wp_bind k).imp (fun y k2 v u H' s r1 r2 => by
    obtain ⟨d, e, q⟩ := of_wp k2
    exact ⟨_, x, y, (E.up s).hdom m, r1, r2, d, e, fun v' H2 s2 r => q v' H2 (s.trans s2) r⟩) fun _ z => z) fun _ z => z)
theorem pt_cmpD {op : CmpOp} {g : D → D → Option Bool} (ho : OpR X (compareOp op) (rdC X.K g)) (hm : behindInMarks op b = false) (ha : PD X c false a f1) (hb : PD X c false b f2) : PTD X c (.Compare a [op] [b] pos) (dCmp g f1 f2) :=
  PT.imp (pt_cmpR ho ha hb hm) fun σ H Q ⟨F, ρ, E, w⟩ => two (m := false) (P := fun _ _ _ _ _ => True) E ((Out.wp_bind w).imp (fun x k => (Out.wp_bind k).imp (fun y k2 v u H' s r1 r2 => by
    obtain ⟨d, e, q⟩ := of_wp k2
    exact ⟨_, x, y, (E.up s).hdom false, r1, r2, d, e, d, rfl, q H' s⟩) fun _ z => z) fun _ z => z)
theorem pd_cmp {op : CmpOp} {g : D → D → Option Bool} (ho : OpR X (compareOp op) (rdC X.K g)) (hm : behindInMarks op b = false) (ha : PD X c false a f1) (hb : PD X c false b f2) : PD X c m (.Compare a [op] [b] pos) (dBv (dCmp g f1 f2)) :=
  PE.imp (pe_cmpR ho ha hb hm) fun σ H Q ⟨F, ρ, E, w⟩ => two (m := false) (P := fun _ _ _ _ _ => True) E ((Out.wp_bind (Out.wp_bind w)).imp (fun x k => (Out.wp_bind k).imp (fun y k2 v u H' s r1 r2 => by
    obtain ⟨d, e, q⟩ := of_wp k2
    exact ⟨_, x, y, (E.up s).hdom false, r1, r2, d, e, q _ H' s (.bool d)⟩) fun _ z => z) fun _ z => z)
theorem pd_un {op : UnaryOp} {g : D → Option D} (ho : UnR X (unaryOp op) (rdU X.K g)) (ha : PD X c m a f) : PD X c m (.UnaryOp op a pos) (dUn g f) :=
  PE.imp (pe_un ho ha) fun σ H Q ⟨F, ρ, E, w⟩ => ⟨F, ρ, E, (Out.wp_bind w).imp (fun x k v H1 s r => by
    obtain ⟨d, e, q⟩ := of_wp k
    exact ⟨_, x, (E.up s).hdom m, r, d, e, fun v' H2 s2 r2 => q v' H2 (s.trans s2) r2⟩) fun _ z => z⟩
/-- a < b < c -/
def dChain (g g' : D → D → Option Bool) (f1 f2 f3 : DE) : DT := fun ρ => (f1 ρ).bind fun x => (f2 ρ).bind fun y => (Out.of (g x y)).bind fun b => if b = true then (f3 ρ).bind fun z => .of (g' y z) else .ok false
theorem chain3 {g g' : D → D → Option Bool} {σ : St} {H : Hp} {Q : VK} {F : Fm} {ρ : Env} (E : EnvR X.K c.O F ρ σ H)
    (w : (dChain g g' f1 f2 f3 ρ).wp (fun b => ∀ H', Same H H' → Q (.bl b) H') (erW c σ H)) : tChain (rdC X.K g) (rdC X.K g') (rdE X.K c false f1) (rdE X.K c false f2) (rdE X.K c false f3) σ H Q := by
  refine ⟨F, ρ, E, (Out.wp_bind w).imp (fun x k v H1 s1 r1 => ⟨F, ρ, E.up s1, (Out.wp_bind k).imp (fun y k2 u H2 s2 r2 => ?_) fun _ z => z.up s1⟩) fun _ z => z⟩
  obtain ⟨b1, e1, q1⟩ := of_wp (Out.wp_bind k2)
  have s12 := s1.trans s2
  refine ⟨_, x, y, (E.up s12).hdom false, r1.up (hid_mono s2), r2, b1, e1, b1, rfl, ?_⟩
  cases b1 with
  | false =>
    rw [if_neg Bool.false_ne_true] at q1 ⊢
    exact q1 H2 s12
  | true =>
    rw [if_pos rfl] at q1 ⊢
    refine ⟨F, ρ, E.up s12, (Out.wp_bind q1).imp (fun z k3 z' H3 s3 r3 => ?_) fun _ z => z.up s12⟩
    obtain ⟨b2, e2, q2⟩ := of_wp k3
    exact ⟨_, y, z, (E.up (s12.trans s3)).hdom false, r2.up (hid_mono s3), r3, b2, e2, q2 H3 (s12.trans s3)⟩
theorem pd_chain {op op' : CmpOp} {d : Expr} {g g' : D → D → Option Bool} (ho : OpR X (compareOp op) (rdC X.K g)) (ho' : OpR X (compareOp op') (rdC X.K g')) (ha : PD X c false a f1) (hb : PD X c false b f2) (hc : PD X c false d f3)
    (hm : lastMarks [op, op'] [b, d] = false := by with_unfolding_all rfl) : PD X c m (.Compare a [op, op'] [b, d] pos) (dBv (dChain g g' f1 f2 f3)) :=
  PE.imp (pe_chain ho ho' ha hb hc hm) fun σ H Q ⟨F, ρ, E, w⟩ => chain3 E ((Out.wp_bind w).imp (fun b k H' s => k _ H' s (.bool b)) fun _ z => z)
theorem pt_chainD {op op' : CmpOp} {d : Expr} {g g' : D → D → Option Bool} (ho : OpR X (compareOp op) (rdC X.K g)) (ho' : OpR X (compareOp op') (rdC X.K g')) (ha : PD X c false a f1) (hb : PD X c false b f2) (hc : PD X c false d f3)
    (hm : lastMarks [op, op'] [b, d] = false := by with_unfolding_all rfl) : PTD X c (.Compare a [op, op'] [b, d] pos) (dChain g g' f1 f2 f3) :=
  PT.imp (pt_chain ho ho' ha hb hc hm) fun σ H Q ⟨F, ρ, E, w⟩ => chain3 E (w.imp (fun b k H' s => ⟨b, rfl, k H' s⟩) fun _ z => z)

/-! ### tests -/
/-- a value as a test -/
def dTv (f : DE) : DT := fun ρ => (f ρ).bind fun d => match d with
  | .bool b => .ok b
  | _ => .bad
theorem dTv_wp {ρ : Env} {P : Bool → Prop} {E : Nat → Prop} (h : (dTv f ρ).wp P E) : (f ρ).wp (fun d => ∃ b, d = .bool b ∧ P b) E := (Out.wp_bind h).imp (fun d k => by
  cases d <;> first | exact ⟨_, rfl, k⟩ | exact k.elim) fun _ z => z
theorem pt_valD (h : PD X c false e f) (he : ∀ whole, isTrue e X.env whole = (do let v ← whole; standAt e.pos; holding [v] (truthy v)) := by intro _; rfl) : PTD X c e (dTv f) :=
  PT.imp (pt_val h he) fun σ H Q ⟨F, ρ, E, w⟩ => ⟨F, ρ, E, (dTv_wp w).imp (fun d ⟨b, e, k⟩ v H' s r => by
    subst e
    cases r
    exact ⟨b, rfl, k H' s⟩) fun _ z => z⟩
def dAnd (t u : DT) : DT := fun ρ => (t ρ).bind fun b => if b = true then u ρ else .ok false
def dOr (t u : DT) : DT := fun ρ => (t ρ).bind fun b => if b = true then .ok true else u ρ
def dNot (t : DT) : DT := fun ρ => (t ρ).bind fun b => .ok (!b)
theorem pw_and1D (h : PTD X c a t) : PWD X c (.BoolOp .And [a] pos) t := pw_and1 h
theorem pw_or1D (h : PTD X c a t) : PWD X c (.BoolOp .Or [a] pos) t := pw_or1 h
theorem pw_andD {r : List Expr} (h : PTD X c a t1) (h2 : PWD X c (.BoolOp .And (b :: r) pos) t2) : PWD X c (.BoolOp .And (a :: b :: r) pos) (dAnd t1 t2) :=
  PW.imp (pw_and h h2) fun σ H Q ⟨F, ρ, E, w⟩ => ⟨F, ρ, E, (Out.wp_bind w).imp (fun b k H1 s => by
    cases b with
    | false =>
      rw [if_neg Bool.false_ne_true] at k ⊢
      exact k H1 s
    | true =>
      rw [if_pos rfl] at k ⊢
      exact ⟨F, ρ, E.up s, k.imp (fun b2 k2 H2 s2 => k2 H2 (s.trans s2)) fun _ z => z.up s⟩) fun _ z => z⟩
theorem pw_orD {r : List Expr} (h : PTD X c a t1) (h2 : PWD X c (.BoolOp .Or (b :: r) pos) t2) : PWD X c (.BoolOp .Or (a :: b :: r) pos) (dOr t1 t2) :=
  PW.imp (pw_or h h2) fun σ H Q ⟨F, ρ, E, w⟩ => ⟨F, ρ, E, (Out.wp_bind w).imp (fun b k H1 s => by
    cases b with
    | true =>
      rw [if_pos rfl] at k ⊢
      exact k H1 s
    | false =>
      rw [if_neg Bool.false_ne_true] at k ⊢
      exact ⟨F, ρ, E.up s, k.imp (fun b2 k2 H2 s2 => k2 H2 (s.trans s2)) fun _ z => z.up s⟩) fun _ z => z⟩
theorem pt_ofW (h : PWD X c e t) : PTD X c e t := h.pt
theorem pt_notD (h : PTD X c a t) : PTD X c (.UnaryOp .Not a pos) (dNot t) :=
  PT.imp (pt_not h) fun σ H Q ⟨F, ρ, E, w⟩ => ⟨F, ρ, E, (Out.wp_bind w).imp (fun b k H1 s => k H1 s) fun _ z => z⟩
/-- and, or, not as values -/
def dAndV (t : DT) (f : DE) : DE := fun ρ => (t ρ).bind fun b => if b = true then f ρ else .ok (.bool false)
def dOrV (t : DT) (f : DE) : DE := fun ρ => (t ρ).bind fun b => if b = true then .ok (.bool true) else f ρ
theorem pd_one {op : BoolOp} (h : PD X c m a f) : PD X c m (.BoolOp op [a] pos) f := pe_one h
theorem pd_and {r : List Expr} (h : PD X c m a f1) (h2 : PD X c m (.BoolOp .And (b :: r) pos) f2) : PD X c m (.BoolOp .And (a :: b :: r) pos) (dAndV (dTv f1) f2) :=
  PE.imp (pe_and h h2) fun σ H Q ⟨F, ρ, E, w⟩ => ⟨F, ρ, E, (dTv_wp (Out.wp_bind w)).imp (fun d ⟨b, e, k⟩ v H1 s r => by
    subst e
    cases r
    refine ⟨b, rfl, ?_⟩
    cases b with
    | false =>
      rw [if_neg Bool.false_ne_true] at k ⊢
      exact k _ H1 s (.bool false)
    | true =>
      rw [if_pos rfl] at k ⊢
      exact ⟨F, ρ, E.up s, k.imp (fun b2 k2 v2 H2 s2 r2 => k2 v2 H2 (s.trans s2) r2) fun _ z => z.up s⟩) fun _ z => z⟩
theorem pd_or {r : List Expr} (h : PD X c m a f1) (h2 : PD X c m (.BoolOp .Or (b :: r) pos) f2) : PD X c m (.BoolOp .Or (a :: b :: r) pos) (dOrV (dTv f1) f2) :=
  PE.imp (pe_or h h2) fun σ H Q ⟨F, ρ, E, w⟩ => ⟨F, ρ, E, (dTv_wp (Out.wp_bind w)).imp (fun d ⟨b, e, k⟩ v H1 s r => by
    subst e
    cases r
    refine ⟨b, rfl, ?_⟩
    cases b with
    | true =>
      rw [if_pos rfl] at k ⊢
      exact k _ H1 s (.bool true)
    | false =>
      rw [if_neg Bool.false_ne_true] at k ⊢
      exact ⟨F, ρ, E.up s, k.imp (fun b2 k2 v2 H2 s2 r2 => k2 v2 H2 (s.trans s2) r2) fun _ z => z.up s⟩) fun _ z => z⟩
theorem pd_not (h : PD X c m a f) : PD X c m (.UnaryOp .Not a pos) (dBv (dNot (dTv f))) :=
  PE.imp (pe_not h) fun σ H Q ⟨F, ρ, E, w⟩ => ⟨F, ρ, E, (dTv_wp (Out.wp_bind (Out.wp_bind w))).imp (fun d ⟨b, e, k⟩ v H1 s r => by
    subst e
    cases r
    exact ⟨b, rfl, k _ H1 s (.bool _)⟩) fun _ z => z⟩
def dIf (t : DT) (f1 f2 : DE) : DE := fun ρ => (t ρ).bind fun b => if b = true then f1 ρ else f2 ρ

/-! ### displays -/
def dTup (g : DA) : DE := fun ρ => (g ρ).bind fun ds => if ds.length ≤ 1000 then .ok (.tuple ds) else .bad
def dLst (g : DA) : DE := fun ρ => (g ρ).bind fun ds => if ds.length ≤ 1000 then .ok (.list ds) else .bad
theorem if_wp {P : Prop} [Decidable P] {α : Type} {a : α} {Q : α → Prop} {E : Nat → Prop} (h : (if P then (Out.ok a : Out α) else .bad).wp Q E) : P ∧ Q a := by
  split at h
  · exact ⟨by assumption, h⟩
  · exact h.elim
theorem small_sz {n : Nat} (h : n ≤ 1000) : n ≤ sizeLine := Nat.le_trans h (by decide)
theorem hid_new {A : List Addr} {H : Hp} {p : Addr} {o : HO} (h : p ∉ A) : hid A (upd H p o) p = some o := hid_of h upd_same
theorem pd_tup {es : List Expr} {g : DA} {k : Nat} (h : PAD X c m es g) : PD X c m (.Tuple es k pos) (dTup g) :=
  PE.imp (pe_tup h) fun σ H Q ⟨F, ρ, E, w⟩ => ⟨F, ρ, E, (Out.wp_bind w).imp (fun ds k vs H1 s r => by
    obtain ⟨hl, q⟩ := if_wp k
    have hz : vs.length ≤ sizeLine := small_sz (by rw [r.len]; exact hl)
    refine ⟨hz, fun p hp => ?_⟩
    have s2 := same_upd (o := .tup vs) hp
    exact q _ _ (s.trans s2) (.tuple (hid_new (Dom.free ((E.up s).hdom m) hp)) hz (r.up (hid_mono s2)))) fun _ z => z⟩
theorem pf_lst {es : List Expr} {g : DA} (h : PAD X c true es g) : PF X c .l (.List es pos) (dLst g) :=
  PE.imp (pe_lst h) fun σ H Q ⟨F, ρ, E, w⟩ => ⟨F, ρ, E, (Out.wp_bind w).imp (fun ds k vs H1 s r => by
    obtain ⟨hl, q⟩ := if_wp k
    have hz : vs.length ≤ sizeLine := small_sz (by rw [r.len]; exact hl)
    refine ⟨hz, fun p hp => ?_⟩
    have s2 := same_upd (o := .lst vs) hp
    refine q p _ (s.trans s2) (Same.free s hp) ⟨vs, ds, rfl, upd_same, hz, ?_⟩
    rw [hid_upd List.mem_cons_self]
    refine r.up (hid_le fun b hb => ?_)
    rcases List.mem_cons.mp hb with z | z
    · exact .inr (by rw [z]; exact hp)
    · exact .inl z) fun _ z => z⟩
/-- a new list as a value -/
theorem PF.pd {k : Kd} (h : PF X c k e f) : PD X c m e f := PE.imp h fun σ H Q ⟨F, ρ, E, w⟩ => ⟨F, ρ, E, w.imp (fun d q a H' s n r => by
    refine q _ H' s (r.rp ?_ ?_)
    · refine hid_le fun b hb => .inl (List.mem_cons_of_mem _ ?_)
      cases m with
      | true => exact hb
      | false => exact List.mem_append_left _ hb
    · obtain ⟨o, e, _⟩ := r.some
      rw [e]
      exact hid_of (Dom.free (E.hdom m) n) e) fun _ z => z⟩
theorem pd_lst {es : List Expr} {g : DA} (h : PAD X c m es g) : PD X c m (.List es pos) (dLst g) :=
  PE.imp (pe_lst h) fun σ H Q ⟨F, ρ, E, w⟩ => ⟨F, ρ, E, (Out.wp_bind w).imp (fun ds k vs H1 s r => by
    obtain ⟨hl, q⟩ := if_wp k
    have hz : vs.length ≤ sizeLine := small_sz (by rw [r.len]; exact hl)
    refine ⟨hz, fun p hp => ?_⟩
    have s2 := same_upd (o := .lst vs) hp
    exact q _ _ (s.trans s2) (.list (hid_new (Dom.free ((E.up s).hdom m) hp)) hz (r.up (hid_mono s2)))) fun _ z => z⟩

/-! ### a value without lists may be kept -/
theorem EnvR.ocel {K : PySem.W.Frag} {O : Ow} {F : Fm} {ρ : Env} {σ : St} {H : Hp} (E : EnvR K O F ρ σ H) : ∀ a ∈ own O σ, ∃ o, H a = some o ∧ celO o = true := E.odom
section
variable {K : PySem.W.Frag} {H : Hp} {A B : List Addr}
theorem obj_keep {u : HO} (hu : celO u = false) (hB : ∀ b ∈ B, ∃ o, H b = some o ∧ celO o = true) {a : Addr} (h : hid A H a = some u) : hid (A ++ B) H a = some u := by
  obtain ⟨h1, h2⟩ := hid_some h
  refine hid_of (fun z => ?_) h2
  rcases List.mem_append.mp z with z | z
  · exact h1 z
  · obtain ⟨o, e, q⟩ := hB a z
    rw [h2] at e
    cases e
    rw [hu] at q
    cases q
theorem tup_keep (hB : ∀ b ∈ B, ∃ o, H b = some o ∧ celO o = true) {a : Addr} {xs : List V} (h : hid A H a = some (.tup xs)) : hid (A ++ B) H a = some (.tup xs) := by
  obtain ⟨h1, h2⟩ := hid_some h
  refine hid_of (fun z => ?_) h2
  rcases List.mem_append.mp z with z | z
  · exact h1 z
  · obtain ⟨o, e, q⟩ := hB a z
    rw [h2] at e
    cases e
    cases q
mutual
theorem Rp.keep (hB : ∀ b ∈ B, ∃ o, H b = some o ∧ celO o = true) : ∀ (d : D) (v : V), d.fix = true → Rp K (hid A H) v d → Rp K (hid (A ++ B) H) v d
  | .none, _, _, h => by cases h; exact .none
  | .bool _, _, _, h => by cases h; exact .bool _
  | .int _, _, _, h => by cases h; exact .int _
  | .str _, _, _, h => by cases h; exact .str _
  | .list ds, _, z, _ => by cases z
  | .dk _, _, z, _ => by cases z
  | .dt _, _, z, _ => by cases z
  | .scr _, _, z, _ => by cases z
  | .ktup _, _, _, h => by
    cases h with
    | ktup h1 h2 => exact .ktup h1 h2
  | .fdt _, _, z, _ => by cases z
  | .ftup ds, _, z, h => by
    cases h with
    | ftup h1 h2 h3 h4 => exact .ftup (obj_keep rfl hB h1) h2 h3 (RpA.keep hB ds _ (by simpa only [D.fix] using z) h4)
  | .tuple ds, _, z, h => by
    cases h with
    | tuple h1 h2 h3 => exact   .tuple (tup_keep hB h1) h2 (RpA.keep hB ds _ (by simpa only [D.fix] using z) h3)
theorem RpA.keep (hB : ∀ b ∈ B, ∃ o, H b = some o ∧ celO o = true) : ∀ (ds : List D) (vs : List V), D.fixA ds = true → RpA K (hid A H) vs ds → RpA K (hid (A ++ B) H) vs ds
  | [], _, _, h => by cases h; exact .nil
  | d :: ds, _, z, h => by
    cases h with
    | cons h1 h2 =>
      simp only [D.fixA, Bool.and_eq_true] at z
      exact .cons (Rp.keep hB d _ z.1 h1) (RpA.keep hB ds _ z.2 h2)
end
end
def dGuard (f : DE) : DE := fun ρ => (f ρ).bind fun d => if d.fix = true then .ok d else .bad
theorem pd_guard (h : PD X c false e f) : PD X c m e (dGuard f) := PD.weak (PE.imp h fun σ H Q ⟨F, ρ, E, w⟩ => ⟨F, ρ, E, (Out.wp_bind w).imp (fun d k v H' s r => by
  obtain ⟨hf, q⟩ := if_wp k
  exact q v H' s (Rp.keep (E.up s).ocel d v hf r)) fun _ z => z⟩)

/-! ### calls -/
theorem pd_callB {x : Str} {id : String} {g : List D → Option D} {es : List Expr} {ga : DA} (hc : CallR X (.builtin id) (rdL X.K g)) (hm : X.mg x = none) (hv : bootBuiltins x = some (.builtin id)) (ha : PAD X c m (e :: es) ga) (hg : Gl X x := by rfl) (hn : x ≠ "__name__" := by decide) (hdb : (x == ("__debug__" : Str)) = false := by decide)
    (he : starEach (e :: es) X.env = (false, eval e X.env) :: starEach es X.env := by rfl) (hpl : (backTo pos (starEach es X.env)).any (·.1) = false := by rfl) : PD X c m (.Call (.Name x p) (e :: es) [] pos) (dCall g ga) :=
  PE.imp (pe_callB hc hg hm hv ha hn hdb he hpl) fun σ H Q ⟨F, ρ, E, w⟩ => ⟨F, ρ, E, (Out.wp_bind w).imp (fun ds k vs H1 s r => by
    obtain ⟨d, e, q⟩ := of_wp k
    exact ⟨_, ds, (E.up s).hdom m, r, d, e, fun v' H2 s2 r2 => q v' H2 (s.trans s2) r2⟩) fun _ z => z⟩
theorem pd_callTy {x : Str} {T : String} {g : List D → Option D} {es : List Expr} {ga : DA} (hc : CallR X (.type T) (rdL X.K g)) (hm : X.mg x = none) (hv : bootBuiltins x = some (.type T)) (ha : PAD X c m (e :: es) ga) (hg : Gl X x := by rfl) (hn : x ≠ "__name__" := by decide) (hdb : (x == ("__debug__" : Str)) = false := by decide)
    (he : starEach (e :: es) X.env = (false, eval e X.env) :: starEach es X.env := by rfl) (hpl : (backTo pos (starEach es X.env)).any (·.1) = false := by rfl) : PD X c m (.Call (.Name x p) (e :: es) [] pos) (dCall g ga) :=
  PE.imp (pe_callTy hc hg hm hv ha hn hdb he hpl) fun σ H Q ⟨F, ρ, E, w⟩ => ⟨F, ρ, E, (Out.wp_bind w).imp (fun ds k vs H1 s r => by
    obtain ⟨d, e, q⟩ := of_wp k
    exact ⟨_, ds, (E.up s).hdom m, r, d, e, fun v' H2 s2 r2 => q v' H2 (s.trans s2) r2⟩) fun _ z => z⟩
/-- a def's promise by data -/
def spD (K : PySem.W.Frag) (cl : Nat → Addr) (n : Nat) (g : List D → Out D) : Sp := fun vs H Q E => vs.length = n ∧ ∃ A ds, Dom A H ∧ RpA K (hid A H) vs ds ∧
  (g ds).wp (fun d => ∀ v H', Same H H' → Rp K (hid A H') v d → Q v H') fun x => ∀ H', Same H H' → E (.ref (cl x)) none H'
def dUse (n : Nat) (g : List D → Out D) (f : DA) : DE := fun ρ => (f ρ).bind fun ds => if ds.length = n then g ds else .bad
theorem pd_call {x : Str} {k n : Nat} {fa : Addr} {fd : FuncData} {ps : List Str} {g : List D → Out D} {es : List Expr} {ga : DA} (F : FnOk X.prog X.w X.K X.mg X.base (L2.CX X.prog X.w) k fa fd ps (spD X.K c.cl n g)) (hr : Room k X.A) (hm : X.mg x = some (.ref fa)) (hk : PySem.W.keepIn X.K (.ref fa) = true) (hb : Binds X.K fd ps [])
    (tk : Takes X c.W) (ha : PAD X c m (e :: es) ga) (hg : Gl X x := by rfl) (hdb : (x == ("__debug__" : Str)) = false := by decide)
    (he : starEach (e :: es) X.env = (false, eval e X.env) :: starEach es X.env := by rfl) (hpl : (backTo pos (starEach es X.env)).any (·.1) = false := by rfl) :
    PD X c m (.Call (.Name x p) (e :: es) [] pos) (dUse n g ga) :=
  PE.imp (pe_callS F hr hg hm hk hb (fun σ => passAt tk σ) ha hdb he hpl) fun σ H Q ⟨Fm, ρ, E, w⟩ => ⟨Fm, ρ, E, (Out.wp_bind w).imp (fun ds k vs H1 s r => by
    by_cases hl : ds.length = n
    · rw [if_pos hl] at k
      exact ⟨by rw [r.len, hl], _, ds, (E.up s).hdom m, r, k.imp (fun d q v' H2 s2 r2 => q v' H2 (s.trans s2) r2) fun x z H2 s2 => z H2 (s.trans s2)⟩
    · rw [if_neg hl] at k
      exact k.elim) fun _ z => z⟩
end
end Pd

/-! Pd2: statements, loops, comprehensions, defs by data. -/
namespace Pd
open PySem L2

/-! ### what a statement comes to -/
inductive SO where
  | nx (ρ : Env) | bk (ρ : Env) | ct (ρ : Env) | rt (d : D) (ρ : Env) | err (c : Nat) (ρ : Env) | bad
abbrev DS := Env → SO
def SO.wp (o : SO) (P B C : Env → Prop) (R : D → Env → Prop) (E : Nat → Env → Prop) : Prop := match o with
  | .nx ρ => P ρ
  | .bk ρ => B ρ
  | .ct ρ => C ρ
  | .rt d ρ => R d ρ
  | .err c ρ => E c ρ
  | .bad => False
section
variable (K : PySem.W.Frag) (c : Pc)
def nxW (F : Fm) (σ : St) (H : Hp) (q : St → Hp → Prop) : Env → Prop := fun ρ' => ∀ σ' H', EnvR K c.O F ρ' σ' H' → Stp c.O σ H σ' H' → q σ' H'
def rtW (F : Fm) (σ : St) (H : Hp) (q : VK) : D → Env → Prop := fun d ρ' => ∀ v σ' H', EnvR K c.O F ρ' σ' H' → Stp c.O σ H σ' H' → Rp K (hid F.A H') v d → q v H'
def xW (F : Fm) (σ : St) (H : Hp) : Nat → Env → Prop := fun x ρ' => ∀ σ' H', EnvR K c.O F ρ' σ' H' → Stp c.O σ H σ' H' → c.W (.ref (c.cl x)) none σ' H'
def rdS (t : DS) : TS := fun Dn σ H => ∃ F ρ, EnvR K c.O F ρ σ H ∧ (t ρ).wp (nxW K c F σ H Dn.nx) (nxW K c F σ H Dn.bk) (nxW K c F σ H Dn.ct) (rtW K c F σ H Dn.rt) (xW K c F σ H)
end
abbrev PSD (X : Cx) (c : Pc) (st : Stmt) (t : DS) : Prop := PS X st (rdS X.K c t)
abbrev PSsD (X : Cx) (c : Pc) (st : List Stmt) (t : DS) : Prop := PSs X st (rdS X.K c t)

def lift {α : Type} (o : Out α) (ρ : Env) (k : α → SO) : SO := match o with
  | .ok a => k a
  | .err x => .err x ρ
  | .bad => .bad
@[simp] theorem lift_ok {α : Type} (a : α) (ρ : Env) (k : α → SO) : lift (.ok a) ρ k = k a := rfl
@[simp] theorem lift_err {α : Type} (x : Nat) (ρ : Env) (k : α → SO) : lift (.err x : Out α) ρ k = .err x ρ := rfl
@[simp] theorem lift_bad {α : Type} (ρ : Env) (k : α → SO) : lift (.bad : Out α) ρ k = .bad := rfl
theorem lift_wp {α : Type} {o : Out α} {ρ : Env} {k : α → SO} {P B C : Env → Prop} {R : D → Env → Prop} {E : Nat → Env → Prop} (h : (lift o ρ k).wp P B C R E) : o.wp (fun a => (k a).wp P B C R E) fun x => E x ρ := by
  cases o <;> exact h

section
variable {X : Cx} {c : Pc} {st : Stmt} {sts : List Stmt} {pos p : Pos} {m : Bool}
theorem PS.imp {t t' : TS} (h : PS X st t) (f : ∀ Dn σ H, t' Dn σ H → t Dn σ H) : PS X st t' := ⟨fun pins s σ H Dn I q => h.run pins s σ H Dn I (f Dn σ H q)⟩
theorem PSs.imp {t t' : TS} (h : PSs X sts t) (f : ∀ Dn σ H, t' Dn σ H → t Dn σ H) : PSs X sts t' := ⟨fun pins s σ H Dn I q => h.run pins s σ H Dn I (f Dn σ H q)⟩
theorem PI.imp {tg it : Expr} {w w' : TI} (h : PI X tg it w) (f : ∀ σ H R, w' σ H R → w σ H R) : PI X tg it w' := ⟨fun pins s σ H R I q => h.run pins s σ H R I (f σ H R q)⟩
variable {K : PySem.W.Frag} {F : Fm} {ρ : Env} {σ : St} {H : Hp}
theorem erW_of {x : Nat} (E : EnvR K c.O F ρ σ H) (h : xW K c F σ H x ρ) : erW c σ H x := fun H' s => h σ H' (E.up s) (.same s)
theorem nxW.up {q : St → Hp → Prop} {ρ' : Env} {σ1 : St} {H1 : Hp} (h : nxW K c F σ H q ρ') (s : Stp c.O σ H σ1 H1) : nxW K c F σ1 H1 q ρ' := fun σ' H' E t => h σ' H' E (s.trans t)
theorem rtW.up {q : VK} {d : D} {ρ' : Env} {σ1 : St} {H1 : Hp} (h : rtW K c F σ H q d ρ') (s : Stp c.O σ H σ1 H1) : rtW K c F σ1 H1 q d ρ' := fun v σ' H' E t => h v σ' H' E (s.trans t)
theorem xW.up {x : Nat} {ρ' : Env} {σ1 : St} {H1 : Hp} (h : xW K c F σ H x ρ') (s : Stp c.O σ H σ1 H1) : xW K c F σ1 H1 x ρ' := fun σ' H' E t => h σ' H' E (s.trans t)
/-- the wishes behind another state -/
theorem SO.up {o : SO} {Dn : Ends} {σ1 : St} {H1 : Hp} (s : Stp c.O σ H σ1 H1) (h : o.wp (nxW K c F σ H Dn.nx) (nxW K c F σ H Dn.bk) (nxW K c F σ H Dn.ct) (rtW K c F σ H Dn.rt) (xW K c F σ H)) :
    o.wp (nxW K c F σ1 H1 Dn.nx) (nxW K c F σ1 H1 Dn.bk) (nxW K c F σ1 H1 Dn.ct) (rtW K c F σ1 H1 Dn.rt) (xW K c F σ1 H1) := by
  cases o with
  | nx _ => exact nxW.up h s
  | bk _ => exact nxW.up h s
  | ct _ => exact nxW.up h s
  | rt _ _ => exact rtW.up h s
  | err _ _ => exact xW.up h s
  | bad => exact h
/-- an expression ahead of the rest -/
theorem ex_wp {f : DE} {m : Bool} {k : D → SO} {Dn : Ends} {Q : VK} (E : EnvR K c.O F ρ σ H) (h : (lift (f ρ) ρ k).wp (nxW K c F σ H Dn.nx) (nxW K c F σ H Dn.bk) (nxW K c F σ H Dn.ct) (rtW K c F σ H Dn.rt) (xW K c F σ H))
    (go : ∀ d v H', Same H H' → EnvR K c.O F ρ σ H' → Rp K (hid (hs m F c.O σ) H') v d → (k d).wp (nxW K c F σ H' Dn.nx) (nxW K c F σ H' Dn.bk) (nxW K c F σ H' Dn.ct) (rtW K c F σ H' Dn.rt) (xW K c F σ H') → Q v H') : rdE K c m f σ H Q :=
  ⟨F, ρ, E, (lift_wp h).imp (fun d k v H' s r => go d v H' s (E.up s) r (SO.up (.same s) k)) fun x z => erW_of E z⟩
theorem ts_wp {f : DT} {k : Bool → SO} {Dn : Ends} {Q : Bool → Hp → Prop} (E : EnvR K c.O F ρ σ H) (h : (lift (f ρ) ρ k).wp (nxW K c F σ H Dn.nx) (nxW K c F σ H Dn.bk) (nxW K c F σ H Dn.ct) (rtW K c F σ H Dn.rt) (xW K c F σ H))
    (go : ∀ b H', Same H H' → EnvR K c.O F ρ σ H' → (k b).wp (nxW K c F σ H' Dn.nx) (nxW K c F σ H' Dn.bk) (nxW K c F σ H' Dn.ct) (rtW K c F σ H' Dn.rt) (xW K c F σ H') → Q b H') : rdT K c f σ H Q :=
  ⟨F, ρ, E, (lift_wp h).imp (fun d k H' s => go d H' s (E.up s) (SO.up (.same s) k)) fun x z => erW_of E z⟩
theorem fr_wp {f : DE} {kd : Kd} {k : D → SO} {Dn : Ends} {Q : VK} (E : EnvR K c.O F ρ σ H) (h : (lift (f ρ) ρ k).wp (nxW K c F σ H Dn.nx) (nxW K c F σ H Dn.bk) (nxW K c F σ H Dn.ct) (rtW K c F σ H Dn.rt) (xW K c F σ H))
    (go : ∀ d a H', Same H H' → H a = none → EnvR K c.O F ρ σ H' → Cel K (hid (a :: (F.A ++ own c.O σ)) H') H' kd a d → (k d).wp (nxW K c F σ H Dn.nx) (nxW K c F σ H Dn.bk) (nxW K c F σ H Dn.ct) (rtW K c F σ H Dn.rt) (xW K c F σ H) → Q (.ref a) H') : rdF K c kd f σ H Q :=
  ⟨F, ρ, E, (lift_wp h).imp (fun d k a H' s n r => go d a H' s n (E.up s) r k) fun x z => erW_of E z⟩

/-! ### blocks, ifs, returns -/
def dNx : DS := fun ρ => .nx ρ
def dSeq (t u : DS) : DS := fun ρ => match t ρ with
  | .nx ρ' => u ρ'
  | o => o
theorem pss_nilD : PSsD X c [] dNx := PSs.imp pss_nil fun Dn σ H ⟨F, ρ, E, w⟩ => w σ H E .refl
theorem seq_wp {t u : DS} {Dn : Ends} (h : rdS K c (dSeq t u) Dn σ H) : rdS K c t { Dn with nx := rdS K c u Dn } σ H := by
  obtain ⟨F, ρ, E, w⟩ := h
  refine ⟨F, ρ, E, ?_⟩
  unfold dSeq at w
  cases e : t ρ with
  | nx ρ' =>
    rw [e] at w
    exact fun σ' H' E' s => ⟨F, ρ', E', SO.up s w⟩
  | bk _ => rw [e] at w; exact w
  | ct _ => rw [e] at w; exact w
  | rt _ _ => rw [e] at w; exact w
  | err _ _ => rw [e] at w; exact w
  | bad => rw [e] at w; exact w
theorem pss_consD {t u : DS} (h1 : PSD X c st t) (h2 : PSsD X c sts u) : PSsD X c (st :: sts) (dSeq t u) := PSs.imp (pss_cons h1 h2) fun _ _ _ h => seq_wp h
theorem pss_oneD {t : DS} (h1 : PSD X c st t) : PSsD X c [st] t := pss_one h1
def dIfS (b : DT) (t u : DS) : DS := fun ρ => lift (b ρ) ρ fun k => if k = true then t ρ else u ρ
theorem ps_ifD {e : Expr} {s1 s2 : List Stmt} {b : DT} {t u : DS} (hc : PTD X c e b) (h1 : PSsD X c s1 t) (h2 : PSsD X c s2 u) : PSD X c (.If e s1 s2 pos) (dIfS b t u) :=
  PS.imp (ps_if hc h1 h2) fun Dn σ H ⟨F, ρ, E, w⟩ => ts_wp E w fun k H' s E' w' => by
    cases k with
    | true =>
      rw [if_pos rfl] at w' ⊢
      exact ⟨F, ρ, E', w'⟩
    | false =>
      rw [if_neg Bool.false_ne_true] at w' ⊢
      exact ⟨F, ρ, E', w'⟩
def dRet (f : DE) : DS := fun ρ => lift (f ρ) ρ fun d => .rt d ρ
theorem ps_retD {e : Expr} {f : DE} (h : PD X c false e f) : PSD X c (.Return (some e) pos) (dRet f) :=
  PS.imp (ps_ret h) fun Dn σ H ⟨F, ρ, E, w⟩ => ex_wp E w fun d v H' s E' r w' => w' v σ H' E' .refl r
def dRetN : DS := fun ρ => .rt .none ρ
theorem ps_retND : PSD X c (.Return none pos) dRetN := PS.imp ps_retN fun Dn σ H ⟨F, ρ, E, w⟩ => w .non σ H E .refl .none
theorem ps_passD : PSD X c (.Pass pos) dNx := PS.imp ps_pass fun Dn σ H ⟨F, ρ, E, w⟩ => w σ H E .refl
def dDrop (f : DE) : DS := fun ρ => lift (f ρ) ρ fun _ => .nx ρ
theorem ps_exprD {e : Expr} {f : DE} (h : PD X c false e f) (hs : swapsWith e none pos.line X.env = pure false := by rfl) : PSD X c (.Expr e pos) (dDrop f) :=
  PS.imp (ps_expr h hs) fun Dn σ H ⟨F, ρ, E, w⟩ => ex_wp E w fun d v H' s E' r w' => w' σ H' E' .refl

/-! ### names take values -/
def dAsg (i : Nat) (f : DE) : DS := fun ρ => lift (f ρ) ρ fun d => .nx (ρ.set i (some d))
theorem stp_set {i : Nat} {v : Option V} (n : ∀ k, (i, k) ∉ c.O) : Stp c.O σ H (σ.set i v) H := ⟨fun _ _ _ e => e, fun b hb => .inl (by rw [own_set n] at hb; exact hb)⟩
theorem asg_wp {i : Nat} {k : D → Env} {d : D} {v : V} {H : Hp} {q : St → Hp → Prop} (E : EnvR K c.O F ρ σ H) (n : ∀ k, (i, k) ∉ c.O) (r : Rp K (hid (F.A ++ own c.O σ) H) v d) (w : nxW K c F σ H q (ρ.set i (some d))) : q (σ.set i (some v)) H :=
  w _ H (E.set n r) (stp_set n)
theorem ps_asgD (i : Nat) {x : Str} {e : Expr} {f : DE} {pos' : Pos} (hN : X.N.Nodup) (h : PD X c true e f) (ho : noOw c.O i = true := by rfl) (hi : X.N[i]? = some x := by rfl) (hx : Loc X.env.scope x := by first | exact Or.inl rfl | exact Or.inr rfl)
    (hs : swapsWith e (some (.Name x pos')) pos.line X.env = pure false := by rfl) (hf : X.fn x = true ∨ X.env.scope.names.lookup x = some .local := by first | exact .inl rfl | exact .inr rfl) : PSD X c (.Assign [.Name x pos'] e pos) (dAsg i f) :=
  PS.imp (ps_set hN hi hx h hs hf) fun Dn σ H ⟨F, ρ, E, w⟩ => ex_wp E w fun d v H' s E' r w' => asg_wp (k := fun _ => ρ) E' (noOw_of ho) r w'

/-! ### owned slots -/
theorem mem_own_set {O : Ow} {i : Nat} {a b : Addr} (h : b ∈ own O (σ.set i (some (.ref a)))) : b = a ∨ ∃ j k, j ≠ i ∧ (j, k) ∈ O ∧ σ[j]? = some (some (.ref b)) := by
  obtain ⟨j, k, h1, h2⟩ := mem_own.mp h
  by_cases hij : i = j
  · subst hij
    by_cases hl : i < σ.length
    · rw [List.getElem?_set_self hl] at h2
      cases h2
      exact .inl rfl
    · rw [List.getElem?_eq_none (by rw [List.length_set]; omega)] at h2
      cases h2
  · rw [List.getElem?_set_ne hij] at h2
    exact .inr ⟨j, k, fun z => hij z.symm, h1, h2⟩
def onlyK (O : Ow) (i : Nat) (k : Kd) : Bool := O.all fun p => p.1 != i || p.2 == k
theorem onlyK_of {O : Ow} {i : Nat} {k k' : Kd} (h : onlyK O i k = true) (h2 : (i, k') ∈ O) : k' = k := by
  have z := List.all_eq_true.mp h _ h2
  simpa using z
theorem EnvR.setO {i : Nat} {k : Kd} {a : Addr} {d : D} {H' : Hp} (E : EnvR K c.O F ρ σ H) (hi : (i, k) ∈ c.O) (hu : onlyK c.O i k = true) (hk : k ≠ .p) (s : Same H H') (n : H a = none) (r : Cel K (hid (a :: (F.A ++ own c.O σ)) H') H' k a d) :
    EnvR K c.O F (ρ.set i (some d)) (σ.set i (some (.ref a))) H' := by
  have hl : i < ρ.length := by
    rcases E.cel i k hi with ⟨_, _, q, _⟩ | ⟨q, _⟩
    · exact (List.getElem?_eq_some_iff.mp q).1
    · exact (List.getElem?_eq_some_iff.mp q).1
  have hl' : i < σ.length := by rw [← E.len]; exact hl
  have sub : ∀ b ∈ own c.O (σ.set i (some (.ref a))), b = a ∨ b ∈ own c.O σ := fun b hb => by
    rcases mem_own_set hb with z | ⟨j, k', _, h1, h2⟩
    · exact .inl z
    · exact .inr (mem_own.mpr ⟨j, k', h1, h2⟩)
  have up1 : Same (hid (F.A ++ own c.O σ) H) (hid (F.A ++ own c.O (σ.set i (some (.ref a)))) H') := fun b o q => by
    obtain ⟨h1, h2⟩ := hid_some q
    refine hid_of (fun z => ?_) (s _ _ h2)
    rcases List.mem_append.mp z with z | z
    · exact h1 (List.mem_append_left _ z)
    · rcases sub b z with z | z
      · rw [z, n] at h2
        cases h2
      · exact h1 (List.mem_append_right _ z)
  have up2 : Same (hid (a :: (F.A ++ own c.O σ)) H') (hid (F.A ++ own c.O (σ.set i (some (.ref a)))) H') := hid_le fun b hb => .inl (by
    rcases List.mem_append.mp hb with z | z
    · exact List.mem_cons_of_mem _ (List.mem_append_left _ z)
    · rcases sub b z with z | z
      · rw [z]; exact List.mem_cons_self
      · exact List.mem_cons_of_mem _ (List.mem_append_right _ z))
  have na : a ∉ F.A := Dom.free E.adom n
  have nold : ∀ j k', j ≠ i → (j, k') ∈ c.O → σ[j]? = some (some (.ref a)) → False := fun j k' _ h1 h2 => Dom.free E.odom n (mem_own.mpr ⟨j, k', h1, h2⟩)
  refine ⟨by rw [List.length_set, List.length_set, E.len], fun j e h nj => ?_, fun j k' h => ?_, fun j kj j' kj' b h h' e e' => ?_, Dom.up E.adom s, fun q hq => ?_, E.fxO⟩
  · have hij : i ≠ j := fun z => nj k (by rw [← z]; exact hi)
    rw [List.getElem?_set_ne hij] at h ⊢
    obtain ⟨v, h1, h2⟩ := E.val j e h nj
    exact ⟨v, h1, h2.up up1⟩
  · by_cases hij : i = j
    · subst hij
      obtain rfl := onlyK_of hu h
      exact .inl ⟨d, a, List.getElem?_set_self hl, List.getElem?_set_self hl', na, r.up up2 rfl⟩
    · rw [List.getElem?_set_ne hij, List.getElem?_set_ne hij]
      rcases E.cel j k' h with ⟨d', b, q1, q2, q3, q4⟩ | q
      · refine .inl ⟨d', b, q1, q2, q3, q4.up up1 ?_⟩
        obtain ⟨o, e, _⟩ := q4.some
        rw [e, s _ _ e]
      · exact .inr q
  · by_cases hij : i = j
    · by_cases hij' : i = j'
      · rw [← hij, ← hij']
      · exfalso
        rw [← hij, List.getElem?_set_self hl'] at e
        cases e
        rw [List.getElem?_set_ne hij'] at e'
        exact nold j' kj' (fun z => hij' z.symm) h' e'
    · by_cases hij' : i = j'
      · exfalso
        rw [← hij', List.getElem?_set_self hl'] at e'
        cases e'
        rw [List.getElem?_set_ne hij] at e
        exact nold j kj (fun z => hij z.symm) h e
      · rw [List.getElem?_set_ne hij] at e
        rw [List.getElem?_set_ne hij'] at e'
        exact E.dis j kj j' kj' b h h' e e'
  · have hq' : i ≠ q.1 := fun z => hk (onlyK_of hu (by rw [z]; exact E.fxO q hq)).symm
    rw [List.getElem?_set_ne hq']
    exact E.fix q hq
theorem stp_setO {i : Nat} {a : Addr} {H' : Hp} (s : Same H H') (n : H a = none) : Stp c.O σ H (σ.set i (some (.ref a))) H' := ⟨fun b o _ e => s b o e, fun b hb => by
  rcases mem_own_set hb with z | ⟨j, k, _, h1, h2⟩
  · exact .inr (by rw [z]; exact n)
  · exact .inl (mem_own.mpr ⟨j, k, h1, h2⟩)⟩
theorem ps_asgO (i : Nat) (k : Kd) {x : Str} {e : Expr} {f : DE} {pos' : Pos} (hN : X.N.Nodup) (h : PF X c k e f) (ho : isOw c.O i k = true := by rfl) (hu : onlyK c.O i k = true := by rfl) (hk : k ≠ .p := by decide) (hi : X.N[i]? = some x := by rfl) (hx : Loc X.env.scope x := by first | exact Or.inl rfl | exact Or.inr rfl)
    (hs : swapsWith e (some (.Name x pos')) pos.line X.env = pure false := by rfl) (hf : X.fn x = true ∨ X.env.scope.names.lookup x = some .local := by first | exact .inl rfl | exact .inr rfl) : PSD X c (.Assign [.Name x pos'] e pos) (dAsg i f) :=
  PS.imp (ps_set hN hi hx h hs hf) fun Dn σ H ⟨F, ρ, E, w⟩ => fr_wp E w fun d a H' s n E' r w' => w' _ H' (E.setO (isOw_of ho) hu hk s n r) (stp_setO s n)
/-- an owned cell changes -/
theorem EnvR.cell {i : Nat} {k : Kd} {a : Addr} {d : D} {o : HO} (E : EnvR K c.O F ρ σ H) (hi : (i, k) ∈ c.O) (hu : onlyK c.O i k = true) (ha : σ[i]? = some (some (.ref a))) (r : Cel K (hid (F.A ++ own c.O σ) H) (upd H a o) k a d) :
    EnvR K c.O F (ρ.set i (some d)) σ (upd H a o) := by
  have am : a ∈ own c.O σ := mem_own.mpr ⟨i, k, hi, ha⟩
  have hh : hid (F.A ++ own c.O σ) (upd H a o) = hid (F.A ++ own c.O σ) H := hid_upd (List.mem_append_right _ am)
  have hl : i < ρ.length := by rw [E.len]; exact (List.getElem?_eq_some_iff.mp ha).1
  have na : a ∉ F.A := by
    rcases E.cel i k hi with ⟨_, b, _, q, q', _⟩ | ⟨_, q⟩
    · rw [ha] at q
      cases q
      exact q'
    · rw [ha] at q
      cases q
  refine ⟨by rw [List.length_set, E.len], fun j e h nj => ?_, fun j k' h => ?_, E.dis, fun b hb => ?_, E.fix, E.fxO⟩
  · have hij : i ≠ j := fun z => nj k (by rw [← z]; exact hi)
    rw [List.getElem?_set_ne hij] at h
    rw [hh]
    exact E.val j e h nj
  · rw [hh]
    by_cases hij : i = j
    · subst hij
      obtain rfl := onlyK_of hu h
      exact .inl ⟨d, a, List.getElem?_set_self hl, ha, na, r⟩
    · rw [List.getElem?_set_ne hij]
      rcases E.cel j k' h with ⟨d', b, q1, q2, q3, q4⟩ | q
      · refine .inl ⟨d', b, q1, q2, q3, q4.up (Same.refl _) (upd_ne fun z => ?_)⟩
        subst z
        exact hij (E.dis i k j k' b hi h ha q2)
      · exact .inr q
  · rw [upd_ne fun z => na (by rw [← z]; exact hb)]
    exact E.adom b hb
theorem stp_cell {i : Nat} {k : Kd} {a : Addr} {o : HO} (hi : (i, k) ∈ c.O) (ha : σ[i]? = some (some (.ref a))) (nf : ∃ u, H a = some u ∧ frzO u = false) : Stp c.O σ H σ (upd H a o) where
  keep := fun b o' nb e => by
    have hb : b ≠ a := fun z => by
      rcases nb with nb | nb
      · exact nb (by rw [z]; exact mem_own.mpr ⟨i, k, hi, ha⟩)
      · obtain ⟨u, h1, h2⟩ := nf
        rw [z, h1] at e
        cases e
        rw [h2] at nb
        cases nb
    rw [upd_ne hb]
    exact e
  new := fun b hb => .inl hb
/-- the list at an owned slot -/
theorem EnvR.lst {i : Nat} {k : Kd} {d : D} (E : EnvR K c.O F ρ σ H) (hi : (i, k) ∈ c.O) (hk : k = .l ∨ k = .p) (e : ρ[i]? = some (some d)) : ∃ a xs ds, d = .list ds ∧ σ[i]? = some (some (.ref a)) ∧ H a = some (.lst xs) ∧ xs.length ≤ sizeLine ∧ RpA K (hid (F.A ++ own c.O σ) H) xs ds := by
  rcases E.cel i k hi with ⟨d', a, q1, q2, _, q4⟩ | ⟨q, _⟩
  · rw [e] at q1
    cases q1
    rcases hk with rfl | rfl
    · obtain ⟨xs, ds, h1, h2, h3, h4⟩ := q4
      exact ⟨a, xs, ds, h1, q2, h2, h3, h4⟩
    · obtain ⟨xs, ds, h1, h2, h3, h4⟩ := q4
      exact ⟨a, xs, ds, h1, q2, h2, h3, h4⟩
  · rw [e] at q
    cases q
theorem cel_l {k : Kd} {a : Addr} {Hh H : Hp} {xs : List V} {ds : List D} (hk : k = .l ∨ k = .p) (h : H a = some (.lst xs)) (z : xs.length ≤ sizeLine) (r : RpA K Hh xs ds) : Cel K Hh H k a (.list ds) := by
  rcases hk with rfl | rfl
  · exact ⟨xs, ds, rfl, h, z, r⟩
  · exact ⟨xs, ds, rfl, h, z, r⟩
/-- the list at slot i -/
def atL (ρ : Env) (i : Nat) (k : List D → SO) : SO := match ρ[i]? with
  | some (some (.list l)) => k l
  | _ => .bad
theorem atL_wp {i : Nat} {k : List D → SO} {P B C : Env → Prop} {R : D → Env → Prop} {E : Nat → Env → Prop} (h : (atL ρ i k).wp P B C R E) : ∃ l, ρ[i]? = some (some (.list l)) ∧ (k l).wp P B C R E := by
  unfold atL at h
  split at h
  · rename_i l e
    exact ⟨l, e, h⟩
  · exact h.elim
theorem ifS_wp {P : Prop} [Decidable P] {o : SO} {Pn B C : Env → Prop} {R : D → Env → Prop} {E : Nat → Env → Prop} (h : (if P then o else .bad).wp Pn B C R E) : P ∧ o.wp Pn B C R E := by
  split at h
  · exact ⟨by assumption, h⟩
  · exact h.elim
/-- x.append(e) -/
def dApp (i : Nat) (f : DE) : DS := fun ρ => atL ρ i fun l => lift (f ρ) ρ fun d => if l.length ≤ 100000 then .nx (ρ.set i (some (.list (l ++ [d])))) else .bad
theorem ps_app (i : Nat) (k : Kd) {x : Str} {e : Expr} {f : DE} {p1 p2 p3 : Pos} (h : PD X c true e f) (ho : isOw c.O i k = true := by rfl) (hu : onlyK c.O i k = true := by rfl) (hk : k = .l ∨ k = .p := by first | exact .inl rfl | exact .inr rfl) (hN : X.N[i]? = some x := by rfl)
    (hv : Vis X.env.scope x := by first | exact Or.inl rfl | exact Or.inr (Or.inl rfl) | exact Or.inr (Or.inr rfl)) (hd : (x == ("__debug__" : Str)) = false := by decide) (hcd : (x == ("__classdict__" : Str)) = false := by decide)
    (hs : swapsWith (.Call (.Attribute (.Name x p1) "append" p2) [e] [] p3) none pos.line X.env = pure false := by rfl)
    (pe : ∀ {t : TE}, PE X e t → PE X (.Call (.Attribute (.Name x p1) "append" p2) [e] [] p3) (tBM X.K "list" rAppend (tVar i) (tCons t tNil)) := by exact fun h => (pe_bm PySem.F.plainAttrs_list PySem.F.slot_list_append PySem.F.type_list_append mt_append (pv _) (pa_cons h pa_nil))) : PSD X c (.Expr (.Call (.Attribute (.Name x p1) "append" p2) [e] [] p3) pos) (dApp i f) :=
  PS.imp (ps_expr (pe h) hs) fun Dn σ H ⟨F, ρ, E, w⟩ => by
    have hi := isOw_of ho
    obtain ⟨l, e1, w1⟩ := atL_wp w
    obtain ⟨a, xs, ds, z, h2, h3, h4, h5⟩ := E.lst hi hk e1
    cases z
    refine ⟨_, h2, .inl ⟨rfl, _, SqL.of h3⟩, ex_wp E w1 fun d v H' s E' r w2 => ?_⟩
    obtain ⟨hl, w3⟩ := ifS_wp w2
    have hz : xs.length < sizeLine := by
      rw [h5.len]
      exact Nat.lt_of_le_of_lt hl (by decide)
    refine ⟨a, xs, v, rfl, rfl, s _ _ h3, hz, ?_⟩
    refine w3 σ _ (E'.cell hi hu h2 (cel_l hk upd_same ?_ ((h5.up (hid_mono s)).append (.cons r .nil)))) (stp_cell hi h2 ⟨_, s _ _ h3, rfl⟩)
    rw [List.length_append, List.length_singleton]
    omega
/-- x = y.pop() -/
def dPop (j i : Nat) : DS := fun ρ => atL ρ i fun l => match l.getLast? with
  | some d => .nx ((ρ.set i (some (.list l.dropLast))).set j (some d))
  | none => .bad
theorem ps_pop (j i : Nat) (k : Kd) {x y : Str} {p0 p1 p2 p3 : Pos} (hNd : X.N.Nodup) (hj : noOw c.O j = true := by rfl) (ho : isOw c.O i k = true := by rfl) (hu : onlyK c.O i k = true := by rfl) (hk : k = .l ∨ k = .p := by first | exact .inl rfl | exact .inr rfl)
    (hy : X.N[j]? = some y := by rfl) (hx : Loc X.env.scope y := by first | exact Or.inl rfl | exact Or.inr rfl) (hs : swapsWith (.Call (.Attribute (.Name x p1) "pop" p2) [] [] p3) (some (.Name y p0)) pos.line X.env = pure false := by rfl) (hf : X.fn y = true ∨ X.env.scope.names.lookup y = some .local := by first | exact .inl rfl | exact .inr rfl)
    (pe : PE X (.Call (.Attribute (.Name x p1) "pop" p2) [] [] p3) (tBM0 X.K "list" rPop (tVar i)) := by exact (pe_bm0 PySem.F.plainAttrs_list PySem.F.slot_list_pop PySem.F.type_list_pop mt_pop (pv _))) : PSD X c (.Assign [.Name y p0] (.Call (.Attribute (.Name x p1) "pop" p2) [] [] p3) pos) (dPop j i) :=
  PS.imp (ps_set hNd hy hx pe hs hf) fun Dn σ H ⟨F, ρ, E, w⟩ => by
    have hi := isOw_of ho
    obtain ⟨l, e1, w1⟩ := atL_wp w
    obtain ⟨a, xs, ds, z, h2, h3, h4, h5⟩ := E.lst hi hk e1
    cases z
    cases hl : l.getLast? with
    | none => rw [hl] at w1; exact w1.elim
    | some d =>
      rw [hl] at w1
      have hd : l[l.length - 1]? = some d := by rw [← List.getLast?_eq_getElem?]; exact hl
      obtain ⟨v, g1, g2⟩ := h5.get hd
      refine ⟨_, h2, .inl ⟨rfl, _, SqL.of h3⟩, a, xs, v, rfl, rfl, h3, by rw [h5.len]; exact g1, ?_⟩
      have dl : RpA X.K (hid (F.A ++ own c.O σ) H) xs.dropLast l.dropLast := by
        rw [List.dropLast_eq_take, List.dropLast_eq_take, h5.len]
        exact h5.take _
      have E1 := E.cell hi hu h2 (cel_l (H := upd H a (.lst xs.dropLast)) hk upd_same (by rw [List.length_dropLast]; omega) dl)
      have am : a ∈ own c.O σ := mem_own.mpr ⟨i, k, hi, h2⟩
      have hh : hid (F.A ++ own c.O σ) (upd H a (.lst xs.dropLast)) = hid (F.A ++ own c.O σ) H := hid_upd (List.mem_append_right _ am)
      exact w1 _ _ (E1.set (noOw_of hj) (by rw [hh]; exact g2)) ((stp_cell hi h2 ⟨_, h3, rfl⟩).trans (stp_set (noOw_of hj)))
/-- x[i] = e, x a list of the def's -/
def dSet (i : Nat) (f g : DE) : DS := fun ρ => atL ρ i fun l => lift (f ρ) ρ fun d => lift (g ρ) ρ fun z => match z with
  | .int n => match ixN l.length n with
    | some j => .nx (ρ.set i (some (.list (l.set j d))))
    | none => .bad
  | _ => .bad
theorem ps_setL (i : Nat) (k : Kd) {x : Str} {e o : Expr} {f g : DE} {p1 p2 : Pos} (h : PD X c true e f) (hg : PD X c true o g) (ho : isOw c.O i k = true := by rfl) (hu : onlyK c.O i k = true := by rfl) (hk : k = .l ∨ k = .p := by first | exact .inl rfl | exact .inr rfl)
    (ps : ∀ {t u : TE}, PE X e t → PE X o u → PS X (.Assign [.Subscript (.Name x p1) o p2] e pos) (tAsg t (gSub (tVar i) u rSetL)) := by exact fun h h' => ps_asg h (pg_sub (pv _) h' set_list)) : PSD X c (.Assign [.Subscript (.Name x p1) o p2] e pos) (dSet i f g) :=
  PS.imp (ps h hg) fun Dn σ H ⟨F, ρ, E, w⟩ => by
    have hi := isOw_of ho
    obtain ⟨l, e1, w1⟩ := atL_wp w
    obtain ⟨a, xs, ds, z, h2, h3, h4, h5⟩ := E.lst hi hk e1
    cases z
    refine ex_wp E w1 fun d v H' s E' r w2 => ⟨_, h2, ex_wp E' w2 fun dz vz H2 s2 E2 r2 w3 => ?_⟩
    have s12 := s.trans s2
    cases dz <;> try exact w3.elim
    rename_i n
    cases r2
    cases hj : ixN l.length n with
    | none => simp only [hj] at w3; exact w3.elim
    | some j =>
      simp only [hj] at w3
      refine ⟨a, xs, n, j, rfl, rfl, s12 _ _ h3, by rw [h5.len]; exact hj, ?_⟩
      refine w3 σ _ (E2.cell hi hu h2 (cel_l hk upd_same ?_ ((h5.up (hid_mono s12)).set (r.up (hid_mono s2)) j))) (stp_cell hi h2 ⟨_, s12 _ _ h3, rfl⟩)
      rw [List.length_set]
      exact h4

/-! ### targets -/
def rdG (K : PySem.W.Frag) (c : Pc) (is : List Nat) (b : D → Env → Option Env) : TG := fun v σ H Q => ∃ F ρ d, EnvR K c.O F ρ σ H ∧ Rp K (hid (F.A ++ own c.O σ) H) v d ∧ ∃ ρ', b d ρ = some ρ' ∧
  ∀ σ', EnvR K c.O F ρ' σ' H → own c.O σ' = own c.O σ → (∀ j, j ∉ is → σ'[j]? = σ[j]?) → σ'.length = σ.length → Q σ' H
def rdGs (K : PySem.W.Frag) (c : Pc) (is : List Nat) (b : List D → Env → Option Env) : TGs := fun vs σ H Q => ∃ F ρ ds, EnvR K c.O F ρ σ H ∧ RpA K (hid (F.A ++ own c.O σ) H) vs ds ∧ ∃ ρ', b ds ρ = some ρ' ∧
  ∀ σ', EnvR K c.O F ρ' σ' H → own c.O σ' = own c.O σ → (∀ j, j ∉ is → σ'[j]? = σ[j]?) → σ'.length = σ.length → Q σ' H
abbrev PGD (X : Cx) (c : Pc) (e : Expr) (is : List Nat) (b : D → Env → Option Env) : Prop := PG X e (rdG X.K c is b)
abbrev PGsD (X : Cx) (c : Pc) (es : List Expr) (is : List Nat) (b : List D → Env → Option Env) : Prop := PGs X es (rdGs X.K c is b)
theorem PG.imp {e : Expr} {t t' : TG} (h : PG X e t) (f : ∀ v σ H Q, t' v σ H Q → t v σ H Q) : PG X e t' := ⟨fun pins s σ H x u Q I r q => h.run pins s σ H x u Q I r (f x σ H Q q)⟩
theorem PGs.imp {e : List Expr} {t t' : TGs} (h : PGs X e t) (f : ∀ v σ H Q, t' v σ H Q → t v σ H Q) : PGs X e t' := ⟨fun pins s σ H x u Q I r q => h.run pins s σ H x u Q I r (f x σ H Q q)⟩
def b1 (i : Nat) : D → Env → Option Env := fun d ρ => some (ρ.set i (some d))
def bs : List Nat → List D → Env → Option Env
  | [], [], ρ => some ρ
  | i :: is, d :: ds, ρ => bs is ds (ρ.set i (some d))
  | _, _, _ => none
def bT (is : List Nat) : D → Env → Option Env := fun d ρ => match d with
  | .tuple ds => bs is ds ρ
  | _ => none
theorem pg_nameD (i : Nat) {x : Str} (hN : X.N.Nodup) (ho : noOw c.O i = true := by rfl) (hi : X.N[i]? = some x := by rfl) (hx : Loc X.env.scope x := by first | exact Or.inl rfl | exact Or.inr rfl) (hf : X.fn x = true ∨ X.env.scope.names.lookup x = some .local := by first | exact .inl rfl | exact .inr rfl) : PGD X c (.Name x pos) [i] (b1 i) :=
  PG.imp (pg_name hN hi hx hf) fun v σ H Q ⟨F, ρ, d, E, r, ρ', e, q⟩ => by
    cases e
    exact q _ (E.set (noOw_of ho) r) (own_set (noOw_of ho)) (fun j hj => List.getElem?_set_ne fun z => hj (by rw [z]; exact List.mem_singleton_self _)) (List.length_set ..)
theorem pgs_nilD : PGsD X c [] [] (bs []) := PGs.imp pgs_nil fun v σ H Q ⟨F, ρ, ds, E, r, ρ', e, q⟩ => by
  cases r with
  | nil =>
    cases e
    exact ⟨rfl, q σ E rfl (fun _ _ => rfl) rfl⟩
  | cons _ _ => cases e
theorem pgs_consD (i : Nat) {x : Str} {es : List Expr} {is : List Nat} (hN : X.N.Nodup) (h : PGsD X c es is (bs is)) (ho : noOw c.O i = true := by rfl) (hi : X.N[i]? = some x := by rfl) (hx : Loc X.env.scope x := by first | exact Or.inl rfl | exact Or.inr rfl) (hf : X.fn x = true ∨ X.env.scope.names.lookup x = some .local := by first | exact .inl rfl | exact .inr rfl) :
    PGsD X c (.Name x pos :: es) (i :: is) (bs (i :: is)) :=
  PGs.imp (pgs_cons (pg_name hN hi hx hf) h) fun vs σ H Q ⟨F, ρ, ds, E, r, ρ', e, q⟩ => by
    cases r with
    | nil => cases e
    | @cons v vs' d ds' r1 r2 =>
      refine ⟨v, vs', rfl, F, _, ds', E.set (noOw_of ho) r1, by rw [own_set (noOw_of ho)]; exact r2, ρ', e, fun σ' E' o' k' l' => q σ' E' (by rw [o', own_set (noOw_of ho)]) (fun j hj => ?_) (by rw [l', List.length_set])⟩
      rw [k' j fun z => hj (List.mem_cons_of_mem _ z)]
      exact List.getElem?_set_ne fun z => hj (by rw [z]; exact List.mem_cons_self)
theorem bs_len : ∀ {is : List Nat} {ds : List D} {ρ ρ' : Env}, bs is ds ρ = some ρ' → ds.length = is.length
  | [], [], _, _, _ => rfl
  | i :: is, d :: ds, ρ, ρ', h => by
    rw [List.length_cons, List.length_cons, bs_len (is := is) (ds := ds) h]
  | [], _ :: _, _, _, h => by cases h
  | _ :: _, [], _, _, h => by cases h
theorem pg_tupD {es : List Expr} {is : List Nat} {k : Nat} {n : Nat} (hc : X.calm = true) (h : PGsD X c es is (bs is)) (hl : is.length = n := by rfl)
    (pg : ∀ {t : TGs}, PGs X es t → PG X (.Tuple es k pos) (gTup X.K n t) := by exact fun h => pg_tup (by first | assumption | rfl) h) : PGD X c (.Tuple es k pos) is (bT is) :=
  PG.imp (pg h) fun v σ H Q ⟨F, ρ, d, E, r, ρ', e, q⟩ => by
    cases d <;> try (cases e)
    rename_i ds
    cases r with
    | @tuple a xs _ h1 h2 h3 =>
      exact ⟨a, xs, rfl, SqT.of (hid_sub _ _ h1), by rw [h3.len, bs_len e, hl], F, ρ, ds, E, h3, ρ', e, q⟩
/-- a, b = e -/
def dAsgG (b : D → Env → Option Env) (f : DE) : DS := fun ρ => lift (f ρ) ρ fun d => match b d ρ with
  | some ρ' => .nx ρ'
  | none => .bad
theorem ps_asgG {tg e : Expr} {f : DE} {is : List Nat} {b : D → Env → Option Env} (h : PD X c true e f) (hg : PGD X c tg is b) (ho : ∀ i ∈ is, noOw c.O i = true := by decide) (ps : ∀ {u : TE} {g : TG}, PE X e u → PG X tg g → PS X (.Assign [tg] e pos) (tAsg u g) := by exact fun h h' => ps_asg h h') : PSD X c (.Assign [tg] e pos) (dAsgG b f) :=
  PS.imp (ps h hg) fun Dn σ H ⟨F, ρ, E, w⟩ => ex_wp E w fun d v H' s E' r w' => by
    cases hb : b d ρ with
    | none => rw [hb] at w'; exact w'.elim
    | some ρ' =>
      rw [hb] at w'
      exact ⟨F, ρ, d, E', r, ρ', hb, fun σ' E2 o2 _ _ => w' σ' H' E2 ⟨fun _ _ _ q => q, fun z hz => .inl (by rw [← o2]; exact hz)⟩⟩

/-! ### what is walked -/
/-- an iterator that gives the data ds, from the heap H1 on; what is in B may change; what is in B' or is new stays hidden -/
def ItD (K : PySem.W.Frag) (B B' : List Addr) (J : It) (ds : List D) (H1 : Hp) : Prop := ∀ H2 N, (∀ b o, b ∉ B ∨ frzO o = true → H1 b = some o → H2 b = some o) → (∀ b ∈ N, b ∈ B' ∨ H1 b = none) → Dom N H2 →
  (∀ i, i < ds.length → J.go i H2) ∧ J.stop ds.length H2 ∧ ∀ i x H3 d, ds[i]? = some d → J.yld i H2 x H3 → Same H2 H3 ∧ Rp K (hid N H3) x d
/-- lp: the walk of a for (its body may change owned cells) -/
def bOf (lp : Bool) (c : Pc) (σ : St) : List Addr := if lp then own c.O σ else []
def rdI (K : PySem.W.Frag) (c : Pc) (lp : Bool) (f : DA) : TI := fun σ H R => ∃ F ρ, EnvR K c.O F ρ σ H ∧ (f ρ).wp (fun ds => ∀ J H', Same H H' → ds.length ≤ sizeLine → ItD K (bOf lp c σ) (F.A ++ own c.O σ) J ds H' → R J H') (erW c σ H)
abbrev PID (X : Cx) (c : Pc) (lp : Bool) (tg it : Expr) (f : DA) : Prop := PI X tg it (rdI X.K c lp f)
def loopR (o : SO) (k : Env → SO) : SO := match o with
  | .nx ρ => k ρ
  | .ct ρ => k ρ
  | .bk ρ => .nx ρ
  | .rt d ρ => .rt d ρ
  | .err x ρ => .err x ρ
  | .bad => .bad
def obS (o : Option Env) (k : Env → SO) : SO := match o with
  | some ρ => k ρ
  | none => .bad
theorem obS_wp {o : Option Env} {k : Env → SO} {P B C : Env → Prop} {R : D → Env → Prop} {E : Nat → Env → Prop} (h : (obS o k).wp P B C R E) : ∃ ρ, o = some ρ ∧ (k ρ).wp P B C R E := by
  cases o with
  | none => exact h.elim
  | some ρ => exact ⟨ρ, rfl, h⟩
theorem loopR_wp {o : SO} {k : Env → SO} {P B C : Env → Prop} {R : D → Env → Prop} {E : Nat → Env → Prop} (h : (loopR o k).wp P B C R E) : o.wp (fun ρ => (k ρ).wp P B C R E) P (fun ρ => (k ρ).wp P B C R E) R E := by
  cases o <;> exact h
theorem SO.imp {o : SO} {P B C P' B' C' : Env → Prop} {R R' : D → Env → Prop} {E E' : Nat → Env → Prop} (h : o.wp P B C R E) (h1 : ∀ ρ, P ρ → P' ρ) (h2 : ∀ ρ, B ρ → B' ρ) (h3 : ∀ ρ, C ρ → C' ρ) (h4 : ∀ d ρ, R d ρ → R' d ρ) (h5 : ∀ x ρ, E x ρ → E' x ρ) : o.wp P' B' C' R' E' := by
  cases o with
  | nx ρ => exact h1 ρ h
  | bk ρ => exact h2 ρ h
  | ct ρ => exact h3 ρ h
  | rt d ρ => exact h4 d ρ h
  | err x ρ => exact h5 x ρ h
  | bad => exact h
def dForL (b : D → Env → Option Env) (body : DS) : List D → Env → SO
  | [], ρ => .nx ρ
  | d :: ds, ρ => obS (b d ρ) fun ρ1 => loopR (body ρ1) (dForL b body ds)
def dFor (it : DA) (b : D → Env → Option Env) (body : DS) : DS := fun ρ => lift (it ρ) ρ fun ds => dForL b body ds ρ
theorem ps_forD {tg it : Expr} {body : List Stmt} {f : DA} {is : List Nat} {b : D → Env → Option Env} {t : DS} (hp : PassesOwn (model X.prog X.w) X.A X.env X.xe) (hc : X.calm = true) (hi : PID X c true tg it f) (hg : PGD X c tg is b) (hb : PSsD X c body t)
    (hs : ∀ x, foldedSetIterable it X.env x = pure x := by intro _; rfl) : PSD X c (.For tg it body [] pos) (dFor f b t) :=
  PS.imp (ps_for hp hc hi hg hb hs) fun Dn σ H ⟨F, ρ, E, w⟩ => by
    refine ⟨F, ρ, E, (lift_wp w).imp (fun ds k J H1 s1 hl it => ?_) fun x z => erW_of E z⟩
    have E1 := E.up s1
    have k1 := SO.up (c := c) (F := F) (Dn := Dn) (.same s1) k
    refine ⟨fun i n σ2 H2 => n = ds.length - i ∧ i ≤ ds.length ∧ ∃ ρ2, EnvR X.K c.O F ρ2 σ2 H2 ∧ Stp c.O σ H1 σ2 H2 ∧ (dForL b t (ds.drop i) ρ2).wp (nxW X.K c F σ2 H2 Dn.nx) (nxW X.K c F σ2 H2 Dn.bk) (nxW X.K c F σ2 H2 Dn.ct) (rtW X.K c F σ2 H2 Dn.rt) (xW X.K c F σ2 H2),
      ⟨ds.length, by simp, Nat.zero_le _, ρ, E1, .refl, k1⟩, ?_⟩
    rintro i n σ2 H2 ⟨rfl, hi, ρ2, E2, st2, w2⟩
    obtain ⟨g1, g2, g3⟩ := it H2 (F.A ++ own c.O σ2) st2.keep (fun z hz => by
      rcases List.mem_append.mp hz with q | q
      · exact .inl (List.mem_append_left _ q)
      · rcases st2.new z q with q | q
        · exact .inl (List.mem_append_right _ q)
        · exact .inr q) (E2.hdom true)
    by_cases hlt : i < ds.length
    · have hd : ds.drop i = ds[i] :: ds.drop (i + 1) := List.drop_eq_getElem_cons hlt
      rw [hd] at w2
      obtain ⟨ρ3, hbd, w3⟩ := obS_wp w2
      refine .inr ⟨g1 i hlt, fun σ' H' => ∃ ρ', EnvR X.K c.O F ρ' σ' H' ∧ Stp c.O σ H1 σ' H' ∧ (dForL b t (ds.drop (i + 1)) ρ').wp (nxW X.K c F σ' H' Dn.nx) (nxW X.K c F σ' H' Dn.bk) (nxW X.K c F σ' H' Dn.ct) (rtW X.K c F σ' H' Dn.rt) (xW X.K c F σ' H'),
        fun σ' H' q => ⟨ds.length - (i + 1), by omega, rfl, hlt, q⟩, fun x H3 y => ?_⟩
      obtain ⟨s3, r3⟩ := g3 i x H3 ds[i] (List.getElem?_eq_getElem hlt) y
      refine ⟨F, ρ2, ds[i], E2.up s3, r3, ρ3, hbd, fun σ3 E3 o3 _ _ => ⟨F, ρ3, E3, ?_⟩⟩
      have st3 : Stp c.O σ2 H2 σ3 H3 := ⟨fun z o _ e => s3 z o e, fun z hz => .inl (by rw [← o3]; exact hz)⟩
      exact SO.imp (loopR_wp w3) (fun ρ4 q σ4 H4 E4 st4 => ⟨ρ4, E4, (st2.trans st3).trans st4, SO.up (st3.trans st4) q⟩) (fun ρ4 q => nxW.up q st3) (fun ρ4 q σ4 H4 E4 st4 => ⟨ρ4, E4, (st2.trans st3).trans st4, SO.up (st3.trans st4) q⟩) (fun d ρ4 q => rtW.up q st3) (fun x ρ4 q => xW.up q st3)
    · have e : i = ds.length := by omega
      subst e
      rw [List.drop_length] at w2
      exact .inl ⟨g2, w2 σ2 H2 E2 .refl⟩
/-- while -/
def dWh (b : DT) (t : DS) : Nat → Env → SO
  | 0, _ => .bad
  | n + 1, ρ => lift (b ρ) ρ fun k => if k = true then loopR (t ρ) (dWh b t n) else .nx ρ
theorem ps_whileD (n : Nat) {e : Expr} {body : List Stmt} {b : DT} {t : DS} (hp : PassesOwn (model X.prog X.w) X.A X.env X.xe) (hc : PTD X c e b) (hb : PSsD X c body t) : PSD X c (.While e body [] pos) (dWh b t n) :=
  PS.imp (ps_while hp hc hb) fun Dn σ H ⟨F, ρ, E, w⟩ => by
    refine ⟨fun n σ2 H2 => ∃ ρ2, EnvR X.K c.O F ρ2 σ2 H2 ∧ (dWh b t n ρ2).wp (nxW X.K c F σ2 H2 Dn.nx) (nxW X.K c F σ2 H2 Dn.bk) (nxW X.K c F σ2 H2 Dn.ct) (rtW X.K c F σ2 H2 Dn.rt) (xW X.K c F σ2 H2), ⟨n, ρ, E, w⟩, ?_⟩
    rintro n σ2 H2 ⟨ρ2, E2, w2⟩
    cases n with
    | zero => exact w2.elim
    | succ n =>
      refine ts_wp E2 w2 fun k H3 s3 E3 w3 => ?_
      cases k with
      | false =>
        rw [if_neg Bool.false_ne_true] at w3 ⊢
        exact w3 σ2 H3 E3 .refl
      | true =>
        rw [if_pos rfl] at w3 ⊢
        refine ⟨fun σ' H' => ∃ ρ', EnvR X.K c.O F ρ' σ' H' ∧ (dWh b t n ρ').wp (nxW X.K c F σ' H' Dn.nx) (nxW X.K c F σ' H' Dn.bk) (nxW X.K c F σ' H' Dn.ct) (rtW X.K c F σ' H' Dn.rt) (xW X.K c F σ' H'), fun σ' H' q => ⟨n, Nat.lt_succ_self n, q⟩, F, ρ2, E3, ?_⟩
        exact SO.imp (loopR_wp w3) (fun ρ4 q σ4 H4 E4 st4 => ⟨ρ4, E4, SO.up st4 q⟩) (fun ρ4 q => q) (fun ρ4 q σ4 H4 E4 st4 => ⟨ρ4, E4, SO.up st4 q⟩) (fun d ρ4 q => q) (fun x ρ4 q => q)
end
end Pd

/-! Pd3: comprehensions, plain iterators, defs. -/
namespace Pd
open PySem L2
theorem wipe_get (σ : St) (vs : List Nat) (j : Nat) : (wipe σ vs)[j]? = if j ∈ vs then (if j < σ.length then some none else none) else σ[j]? := by
  induction vs with
  | nil => simp [wipe]
  | cons v vs ih =>
    unfold wipe
    by_cases hv : v = j
    · subst hv
      rw [if_pos List.mem_cons_self]
      by_cases hl : v < σ.length
      · rw [List.getElem?_set_self (by rw [wipe_length]; exact hl), if_pos hl]
      · rw [List.getElem?_eq_none (by rw [List.length_set, wipe_length]; omega), if_neg hl]
    · rw [List.getElem?_set_ne hv, ih]
      have : (j ∈ v :: vs) ↔ j ∈ vs := by simp [Ne.symm hv]
      simp only [this]
theorem wipe_eq {σ σ2 : St} {vs : List Nat} (h : ∀ j, j ∉ vs → σ2[j]? = (wipe σ vs)[j]?) (hl : σ2.length = σ.length) : wipe σ2 vs = wipe σ vs := by
  refine List.ext_getElem? fun j => ?_
  rw [wipe_get, wipe_get]
  split
  · rw [hl]
  · rename_i hj
    rw [h j hj, wipe_get, if_neg hj]
def wipeE (ρ : Env) : List Nat → Env
  | [] => ρ
  | v :: vs => (wipeE ρ vs).set v none
def Out.ne {α : Type} (o : Out α) : Out α := match o with
  | .ok a => .ok a
  | _ => .bad
@[simp] theorem ne_ok {α : Type} (a : α) : (Out.ok a).ne = .ok a := rfl
theorem ne_bind_ok {α β : Type} {o : Out α} {f : α → Out β} {b : β} (h : (o.ne.bind f) = .ok b) : ∃ a, o = .ok a ∧ f a = .ok b := by
  cases o with
  | ok a => exact ⟨a, rfl, h⟩
  | err _ => cases h
  | bad => cases h
theorem bind_ok {α β : Type} {o : Out α} {f : α → Out β} {b : β} (h : o.bind f = .ok b) : ∃ a, o = .ok a ∧ f a = .ok b := by
  cases o with
  | ok a => exact ⟨a, rfl, h⟩
  | err _ => cases h
  | bad => cases h
def obO {α : Type} (o : Option Env) (k : Env → Out α) : Out α := match o with
  | some ρ => k ρ
  | none => .bad
@[simp] theorem obO_some {α : Type} (ρ : Env) (k : Env → Out α) : obO (some ρ) k = k ρ := rfl
/-- the items of a comprehension -/
def dLcL (b : D → Env → Option Env) (tst : DT) (elt : DE) (ρ0 : Env) : List D → Out (List D)
  | [] => .ok []
  | d :: ds => obO (b d ρ0) fun ρ1 => (tst ρ1).ne.bind fun k => if k = true then (elt ρ1).ne.bind fun y => (dLcL b tst elt ρ0 ds).bind fun r => .ok (y :: r) else dLcL b tst elt ρ0 ds
theorem dLcL_ok {b : D → Env → Option Env} {tst : DT} {elt : DE} {ρ0 : Env} {d : D} {ds r : List D} (h : dLcL b tst elt ρ0 (d :: ds) = .ok r) :
    ∃ ρ1 k, b d ρ0 = some ρ1 ∧ tst ρ1 = .ok k ∧ (k = true → ∃ y r', elt ρ1 = .ok y ∧ dLcL b tst elt ρ0 ds = .ok r' ∧ r = y :: r') ∧ (k = false → dLcL b tst elt ρ0 ds = .ok r) := by
  unfold dLcL at h
  cases e : b d ρ0 with
  | none => rw [e] at h; cases h
  | some ρ1 =>
    rw [e] at h
    obtain ⟨k, e2, h2⟩ := ne_bind_ok h
    refine ⟨ρ1, k, rfl, e2, fun hk => ?_, fun hk => ?_⟩
    · rw [if_pos hk] at h2
      obtain ⟨y, e3, h3⟩ := ne_bind_ok h2
      obtain ⟨r', e4, h4⟩ := bind_ok h3
      cases h4
      exact ⟨y, r', e3, e4, rfl⟩
    · rw [if_neg (by rw [hk]; exact Bool.false_ne_true)] at h2
      exact h2
theorem dLcL_noerr {b : D → Env → Option Env} {tst : DT} {elt : DE} {ρ0 : Env} {x : Nat} : ∀ {ds : List D}, dLcL b tst elt ρ0 ds ≠ .err x
  | [], h => by cases h
  | d :: ds, h => by
    unfold dLcL at h
    cases e : b d ρ0 with
    | none => rw [e] at h; cases h
    | some ρ1 =>
      rw [e] at h
      simp only [obO_some] at h
      cases e2 : tst ρ1 with
      | err _ => rw [e2] at h; cases h
      | bad => rw [e2] at h; cases h
      | ok k =>
        rw [e2] at h
        simp only [ne_ok, Out.ok_bind] at h
        cases k with
        | false => exact dLcL_noerr (ds := ds) h
        | true =>
          rw [if_pos rfl] at h
          cases e3 : elt ρ1 with
          | err _ => rw [e3] at h; cases h
          | bad => rw [e3] at h; cases h
          | ok y =>
            rw [e3] at h
            simp only [ne_ok, Out.ok_bind] at h
            cases e4 : dLcL b tst elt ρ0 ds with
            | err x' => exact dLcL_noerr (ds := ds) e4
            | bad => rw [e4] at h; cases h
            | ok r => rw [e4] at h; cases h
def dLc (it : DA) (b : D → Env → Option Env) (tst : DT) (elt : DE) (vs : List Nat) : DE := fun ρ => (it ρ).bind fun ds => (dLcL b tst elt (wipeE ρ vs) ds).bind fun r => .ok (.list r)
def dYes : DT := fun _ => .ok true

section
variable {K : PySem.W.Frag} {O : Ow} {F : Fm} {ρ : Env} {σ : St} {H H' : Hp}
abbrev Fm.more (F : Fm) (a : Addr) : Fm := { F with A := a :: F.A }
theorem EnvR.hide {a : Addr} {o : HO} (E : EnvR K O F ρ σ H) (n : H a = none) (s : Same H H') (h : H' a = some o) (hc : celO o = true) : EnvR K O (F.more a) ρ σ H' := by
  have E' := E.up s
  have up : Same (hid (F.A ++ own O σ) H) (hid ((F.more a).A ++ own O σ) H') := fun b o q => by
    obtain ⟨h1, h2⟩ := hid_some q
    refine hid_of (fun z => ?_) (s _ _ h2)
    rcases List.mem_cons.mp (show b ∈ a :: (F.A ++ own O σ) from z) with z | z
    · rw [z, n] at h2
      cases h2
    · exact h1 z
  refine ⟨E.len, fun i d hd nj => ?_, fun i k hi => ?_, E.dis, fun b hb => ?_, E.fix, E.fxO⟩
  · obtain ⟨v, h1, h2⟩ := E.val i d hd nj
    exact ⟨v, h1, h2.up up⟩
  · rcases E.cel i k hi with ⟨d, b, q1, q2, q3, q4⟩ | q
    · obtain ⟨ob, e, _⟩ := q4.some
      refine .inl ⟨d, b, q1, q2, fun z => ?_, q4.up up (by rw [e, s _ _ e])⟩
      rcases List.mem_cons.mp z with z | z
      · rw [z, n] at e
        cases e
      · exact q3 z
    · exact .inr q
  · rcases List.mem_cons.mp hb with z | z
    · exact ⟨o, by rw [z]; exact h, hc⟩
    · exact E'.adom b z
theorem EnvR.wipe {vs : List Nat} (E : EnvR K O F ρ σ H) (hv : ∀ i ∈ vs, ∀ k, (i, k) ∉ O) : EnvR K O F (wipeE ρ vs) (L2.wipe σ vs) H ∧ own O (L2.wipe σ vs) = own O σ := by
  induction vs with
  | nil => exact ⟨E, rfl⟩
  | cons v vs ih =>
    obtain ⟨E1, o1⟩ := ih fun i hi => hv i (List.mem_cons_of_mem _ hi)
    have n := hv v List.mem_cons_self
    exact ⟨E1.forget n, (own_set n).trans o1⟩
end
def allNo (O : Ow) (vs : List Nat) : Bool := vs.all fun i => noOw O i
theorem allNo_of {O : Ow} {vs : List Nat} (h : allNo O vs = true) : ∀ i ∈ vs, ∀ k, (i, k) ∉ O := fun i hi => noOw_of (List.all_eq_true.mp h i hi)
section
variable {X : Cx} {c : Pc} {m : Bool}
theorem lc_wp {it : DA} {b : D → Env → Option Env} {tst : DT} {elt : DE} {is vs : List Nat} {F : Fm} {ρ : Env} {σ : St} {H : Hp} {Q : VK} (hv : ∀ i ∈ is, i ∈ vs) (hvo : ∀ i ∈ vs, ∀ k, (i, k) ∉ c.O) (E : EnvR X.K c.O F ρ σ H)
    (w : (dLc it b tst elt vs ρ).wp (fun d => ∀ r a xs H', d = .list r → Same H H' → H a = none → H' a = some (.lst xs) → xs.length ≤ sizeLine → RpA X.K (hid (a :: hs m F c.O σ) H') xs r → Q (.ref a) H') (erW c σ H)) :
    tLc (rdI X.K c false it) (rdG X.K c is b) (rdT X.K c.w0 tst) (rdE X.K c.w0 m elt) vs σ H Q := by
  refine ⟨F, ρ, E, (Out.wp_bind w).imp (fun ds k J H1 s1 hl itd a na => ?_) fun _ z => z⟩
  cases hr : dLcL b tst elt (wipeE ρ vs) ds with
  | bad => rw [hr] at k; exact k.elim
  | err x => exact absurd hr dLcL_noerr
  | ok rf =>
    rw [hr] at k
    replace k : ∀ r a xs H', D.list rf = .list r → Same H H' → H a = none → H' a = some (.lst xs) → xs.length ≤ sizeLine → RpA X.K (hid (a :: hs m F c.O σ) H') xs r → Q (.ref a) H' := k
    have E1 := E.up s1
    have nH : H a = none := Same.free s1 na
    obtain ⟨Ew, ow⟩ := E1.wipe hvo
    refine ⟨fun i n H2 => n = ds.length - i ∧ i ≤ ds.length ∧ Same H1 H2 ∧ ∃ acc accD r, H2 a = some (.lst acc) ∧ acc.length ≤ i ∧ RpA X.K (hid (a :: hs m F c.O σ) H2) acc accD ∧ dLcL b tst elt (wipeE ρ vs) (ds.drop i) = .ok r ∧ rf = accD ++ r,
      ⟨ds.length, by simp, Nat.zero_le _, same_upd na, [], [], rf, upd_same, Nat.le_refl _, .nil, hr, rfl⟩, ?_⟩
    rintro i n H2 ⟨rfl, hi, s2, acc, accD, r, ha, hacc, racc, hrr, hrf⟩
    have E2 : EnvR X.K c.O (F.more a) (wipeE ρ vs) (wipe σ vs) H2 := Ew.hide na s2 ha rfl
    obtain ⟨g1, g2, g3⟩ := itd H2 ((F.more a).A ++ own c.O (wipe σ vs)) (fun b o _ e => s2 b o e) (fun z hz => by
      rw [ow] at hz
      rcases List.mem_cons.mp (show z ∈ a :: (F.A ++ own c.O σ) from hz) with q | q
      · exact .inr (by rw [q]; exact na)
      · exact .inl q) (E2.hdom true)
    by_cases hlt : i < ds.length
    · have hd : ds.drop i = ds[i] :: ds.drop (i + 1) := List.drop_eq_getElem_cons hlt
      rw [hd] at hrr
      obtain ⟨ρ1, kb, e1, e2, hy, hn⟩ := dLcL_ok hrr
      refine .inr ⟨g1 i hlt, fun H3 => Same H1 H3 ∧ ∃ acc accD r, H3 a = some (.lst acc) ∧ acc.length ≤ i + 1 ∧ RpA X.K (hid (a :: hs m F c.O σ) H3) acc accD ∧ dLcL b tst elt (wipeE ρ vs) (ds.drop (i + 1)) = .ok r ∧ rf = accD ++ r,
        fun H3 q => ⟨ds.length - (i + 1), by omega, rfl, hlt, q⟩, fun x H3 y => ?_⟩
      obtain ⟨s3, r3⟩ := g3 i x H3 ds[i] (List.getElem?_eq_getElem hlt) y
      refine ⟨F.more a, wipeE ρ vs, ds[i], E2.up s3, r3, ρ1, e1, fun σ2 E3 o3 ke le => ⟨?_, ?_⟩⟩
      · refine wipe_eq (fun j hj => ?_) (by rw [le, wipe_length])
        exact ke j fun z => hj (hv j z)
      · refine ⟨F.more a, ρ1, E3, ?_⟩
        rw [e2]
        intro H4 s4
        have s24 := s3.trans s4
        cases kb with
        | false =>
          rw [if_neg Bool.false_ne_true]
          refine ⟨s2.trans s24, acc, accD, r, s24 _ _ ha, Nat.le_succ_of_le hacc, racc.up (hid_mono s24), hn rfl, hrf⟩
        | true =>
          rw [if_pos rfl]
          obtain ⟨yv, r', e5, e6, e7⟩ := hy rfl
          refine ⟨F.more a, ρ1, E3.up s4, ?_⟩
          rw [e5]
          intro v H5 s5 r5
          have s25 := s24.trans s5
          have hs5 : hs m (F.more a) c.O σ2 = a :: hs m F c.O σ := by
            unfold hs
            rw [o3, ow]
            cases m <;> rfl
          have r5' : Rp X.K (hid (a :: hs m F c.O σ) H5) v yv := by
            rw [← hs5]
            exact r5
          refine ⟨acc, s25 _ _ ha, Nat.lt_of_le_of_lt hacc (Nat.lt_of_lt_of_le hlt hl), ?_, acc ++ [v], accD ++ [yv], r', upd_same, ?_, ?_, e6, ?_⟩
          · intro b o e
            by_cases hb : b = a
            · rw [hb, na] at e
              cases e
            · rw [upd_ne hb]
              exact s25 _ _ (s2 _ _ e)
          · rw [List.length_append, List.length_singleton]
            omega
          · rw [hid_upd List.mem_cons_self]
            exact (racc.up (hid_mono s25)).append (.cons r5' .nil)
          · rw [hrf, e7, List.append_assoc]
            rfl
    · have e : i = ds.length := by omega
      subst e
      rw [List.drop_length] at hrr
      cases hrr
      rw [List.append_nil] at hrf
      subst hrf
      exact .inl ⟨g2, k _ a acc H2 rfl (s1.trans s2) nH ha (Nat.le_trans hacc hl) racc⟩
end

section
variable {X : Cx} {c : Pc} {m : Bool} {elt tg iter : Expr} {ifs : List Expr} {scope : Scope} {own' : List (Str × Nat)} {pos : Pos} {it : DA} {b : D → Env → Option Env} {tst : DT} {fe : DE} {is : List Nat}
abbrev PTsD (X : Cx) (c : Pc) (ifs : List Expr) (t : DT) : Prop := PTs X ifs (rdT X.K c t)
theorem pts_nilD : PTsD X c [] dYes := ⟨fun pins s σ H Q I ⟨F, ρ, E, w⟩ => pts_nil.run pins s σ H Q I (w H (Same.refl H))⟩
theorem pts_oneD {e : Expr} {t : DT} (h : PTD X c e t) : PTsD X c [e] t := pts_one h
abbrev LcP (X : Cx) (scope : Scope) (P : Cx → Prop) : Prop := ∀ (s : Shared) (H : Hp) (C : Addr) (cl : List (Str × Addr)) (fp : List Addr), P (X.blk s H scope (compEnvC scope cl C X.env) fp)
def subs (is vs : List Nat) : Bool := is.all fun i => vs.contains i
theorem subs_of {is vs : List Nat} (h : subs is vs = true) : ∀ i ∈ is, i ∈ vs := fun i hi => by
  have := List.all_eq_true.mp h i hi
  simpa using this
theorem pd_lc (hc : X.calm = true) (hN : X.N.Nodup) (hi : PID X c false tg iter it) (ok : BlkOk X.N X.env.scope scope own')
    (hg : LcP X scope fun Y => PGD Y c tg is b) (ht : LcP X scope fun Y => PTsD Y c.w0 ifs tst) (he : LcP X scope fun Y => PD Y c.w0 m elt fe) (hv : subs is (own'.map (·.2)) = true := by rfl) (hvo : allNo c.O (own'.map (·.2)) = true := by rfl) (hs : ∀ x, foldedSetIterable iter X.env x = pure x := by intro _; rfl) :
    PD X c m (.ListComp elt [⟨tg, iter, ifs, 0⟩] scope pos) (dLc it b tst fe (own'.map (·.2))) :=
  PE.imp (pe_lc hc hN hi ok hg ht he hs) fun σ H Q ⟨F, ρ, E, w⟩ => lc_wp (m := m) (subs_of hv) (allNo_of hvo) E (w.imp (fun d k r a xs H' e s n h z rr => by
    subst e
    refine k _ H' s (.list (hid_of (Dom.free (E.hdom m) n) h) z (rr.up (hid_le fun b hb => .inl (List.mem_cons_of_mem _ hb))))) fun _ z => z)
theorem pf_lc (hc : X.calm = true) (hN : X.N.Nodup) (hi : PID X c false tg iter it) (ok : BlkOk X.N X.env.scope scope own')
    (hg : LcP X scope fun Y => PGD Y c tg is b) (ht : LcP X scope fun Y => PTsD Y c.w0 ifs tst) (he : LcP X scope fun Y => PD Y c.w0 true elt fe) (hv : subs is (own'.map (·.2)) = true := by rfl) (hvo : allNo c.O (own'.map (·.2)) = true := by rfl) (hs : ∀ x, foldedSetIterable iter X.env x = pure x := by intro _; rfl) :
    PF X c .l (.ListComp elt [⟨tg, iter, ifs, 0⟩] scope pos) (dLc it b tst fe (own'.map (·.2))) :=
  PE.imp (pe_lc hc hN hi ok hg ht he hs) fun σ H Q ⟨F, ρ, E, w⟩ => lc_wp (m := true) (subs_of hv) (allNo_of hvo) E (w.imp (fun d k r a xs H' e s n h z rr => by
    subst e
    exact k a H' s n ⟨xs, r, rfl, h, z, rr⟩) fun _ z => z)
/-- y = [..], y a local on the same row -/
theorem ps_lcD (i : Nat) {y : Str} {py spos : Pos} (hc : X.calm = true) (hN : X.N.Nodup) (hi : PID X c false tg iter it) (ok : BlkOk X.N X.env.scope scope own')
    (hg : LcP X scope fun Y => PGD Y c tg is b) (ht : LcP X scope fun Y => PTsD Y c.w0 ifs tst) (he : LcP X scope fun Y => PD Y c.w0 true elt fe) (ho : noOw c.O i = true := by rfl) (hv : subs is (own'.map (·.2)) = true := by rfl) (hvo : allNo c.O (own'.map (·.2)) = true := by rfl)
    (ps : ∀ {wi : TI} {g : TG} {tt : TT} {te : TE}, PI X tg iter wi → LcP X scope (fun Y => PG Y tg g) → LcP X scope (fun Y => PTs Y ifs tt) → LcP X scope (fun Y => PE Y elt te) → PS X (.Assign [.Name y py] (.ListComp elt [⟨tg, iter, ifs, 0⟩] scope pos) spos) (tAsg (tLc wi g tt te (own'.map (·.2))) (gName i)) := by
      exact fun h1 h2 h3 h4 => ps_setLc (by assumption) (by assumption) rfl rfl (sw_true rfl rfl rfl (by decide +kernel)) h1 (by assumption) h2 h3 h4) :
    PSD X c (.Assign [.Name y py] (.ListComp elt [⟨tg, iter, ifs, 0⟩] scope pos) spos) (dAsg i (dLc it b tst fe (own'.map (·.2)))) :=
  PS.imp (ps hi hg ht he) fun Dn σ H ⟨F, ρ, E, w⟩ => lc_wp (m := true) (subs_of hv) (allNo_of hvo) E ((lift_wp w).imp (fun d k r a xs H' e s n h z rr => by
    subst e
    have E' := E.up s
    exact asg_wp (k := fun _ => ρ) E' (noOw_of ho) (.list (hid_of (Dom.free (E.hdom true) n) h) z (rr.up (hid_le fun b hb => .inl (List.mem_cons_of_mem _ hb)))) (SO.up (o := .nx _) (Dn := Dn) (.same s) k)) fun x z => erW_of E z)
theorem ps_lcO (i : Nat) {y : Str} {py spos : Pos} (hc : X.calm = true) (hN : X.N.Nodup) (hi : PID X c false tg iter it) (ok : BlkOk X.N X.env.scope scope own')
    (hg : LcP X scope fun Y => PGD Y c tg is b) (ht : LcP X scope fun Y => PTsD Y c.w0 ifs tst) (he : LcP X scope fun Y => PD Y c.w0 true elt fe) (ho : isOw c.O i .l = true := by rfl) (hu : onlyK c.O i .l = true := by rfl) (hv : subs is (own'.map (·.2)) = true := by rfl) (hvo : allNo c.O (own'.map (·.2)) = true := by rfl)
    (ps : ∀ {wi : TI} {g : TG} {tt : TT} {te : TE}, PI X tg iter wi → LcP X scope (fun Y => PG Y tg g) → LcP X scope (fun Y => PTs Y ifs tt) → LcP X scope (fun Y => PE Y elt te) → PS X (.Assign [.Name y py] (.ListComp elt [⟨tg, iter, ifs, 0⟩] scope pos) spos) (tAsg (tLc wi g tt te (own'.map (·.2))) (gName i)) := by
      exact fun h1 h2 h3 h4 => ps_setLc (by assumption) (by assumption) rfl rfl (sw_true rfl rfl rfl (by decide +kernel)) h1 (by assumption) h2 h3 h4) :
    PSD X c (.Assign [.Name y py] (.ListComp elt [⟨tg, iter, ifs, 0⟩] scope pos) spos) (dAsg i (dLc it b tst fe (own'.map (·.2)))) :=
  PS.imp (ps hi hg ht he) fun Dn σ H ⟨F, ρ, E, w⟩ => lc_wp (m := true) (subs_of hv) (allNo_of hvo) E ((lift_wp w).imp (fun d k r a xs H' e s n h z rr => by
    subst e
    exact k _ H' (E.setO (isOw_of ho) hu (by decide) s n ⟨xs, r, rfl, h, z, rr⟩) (stp_setO s n)) fun x z => erW_of E z)
end

/-! ### plain iterators -/
section
variable {X : Cx} {c : Pc} {m lp : Bool} {tg e : Expr} {pos p : Pos} {f : DE}
def keyD : Key → D
  | .inl i => .int i
  | .inr s => .str s
def keyT (kvs : List (List Key × V)) : List D := kvs.map fun p => .tuple (p.1.map keyD)
/-- a dict with tuples as keys, small enough -/
def smallT (kvs : List (List Key × V)) : Bool := decide (kvs.length ≤ 100000) && kvs.all fun p => decide (p.1.length ≤ 1000)
def dSeqI (f : DE) : DA := fun ρ => (f ρ).bind fun d => match d with
  | .list l => .ok l
  | .tuple l => .ok l
  | .ftup l => .ok l
  | .fdt kvs => if smallT kvs = true then .ok (keyT kvs) else .bad
  | _ => .bad
theorem key_R {K : PySem.W.Frag} {H : Hp} (k : Key) : Rp K H (kV k) (keyD k) := by
  cases k with
  | inl i => exact .int i
  | inr s => exact .str s
theorem keysA_R {K : PySem.W.Frag} {H : Hp} : ∀ ks : List Key, RpA K H (ks.map kV) (ks.map keyD)
  | [] => .nil
  | k :: ks => .cons (key_R k) (keysA_R ks)
theorem itd_keyT {K : PySem.W.Frag} {B B' : List Addr} {d : Addr} {o : Obj} {kvs : List (List Key × V)} {H1 : Hp} (h : H1 d = some (.frz o (.dT kvs))) (hk : smallT kvs = true) : ItD K B B' (Itkt d o kvs) (keyT kvs) H1 := fun H2 N k n dm => by
  have h2 := k d _ (.inr rfl) h
  unfold smallT at hk
  rw [Bool.and_eq_true] at hk
  have hl : (keyT kvs).length = kvs.length := by simp [keyT]
  rw [hl]
  refine ⟨fun i hi => ⟨h2, hi⟩, ⟨h2, Nat.le_refl _⟩, fun i x H3 e he y => ?_⟩
  obtain ⟨rfl, ks, v, q, e1, rfl, e2⟩ := y
  have e3 : e = .tuple (ks.map keyD) := by
    unfold keyT at he
    rw [List.getElem?_map, e1] at he
    cases he
    rfl
  subst e3
  have hs : ks.length ≤ 1000 := by
    have := List.all_eq_true.mp hk.2 _ (List.mem_of_getElem? e1)
    simpa using this
  refine ⟨Same.refl _, .tuple (hid_of (fun z => ?_) e2) (small_sz (by rw [List.length_map]; exact hs)) (keysA_R ks)⟩
  obtain ⟨u, e4, e5⟩ := dm q z
  rw [e2] at e4
  cases e4
  cases e5
theorem bOf_sub {lp : Bool} {c : Pc} {σ : St} {F : Fm} : ∀ b, b ∈ bOf lp c σ → b ∈ F.A ++ own c.O σ := fun b hb => by
  unfold bOf at hb
  cases lp
  · cases hb
  · exact List.mem_append_right _ hb
/-- items that stand in the heap -/
theorem itd_of {K : PySem.W.Frag} {B B' : List Addr} {J : It} {xs : List V} {ds : List D} {H1 : Hp} (hB : ∀ b ∈ B, b ∈ B') (r : RpA K (hid B' H1) xs ds) (h : ∀ H2, (∀ b o, b ∉ B ∨ frzO o = true → H1 b = some o → H2 b = some o) → (∀ i, i < xs.length → J.go i H2) ∧ J.stop xs.length H2 ∧ ∀ i x H3, J.yld i H2 x H3 → H3 = H2 ∧ xs[i]? = some x) :
    ItD K B B' J ds H1 := fun H2 N k n d => by
  obtain ⟨h1, h2, h3⟩ := h H2 k
  rw [r.len] at h1 h2
  refine ⟨h1, h2, fun i x H3 d hd y => ?_⟩
  obtain ⟨rfl, hx⟩ := h3 i x H3 y
  refine ⟨Same.refl _, ?_⟩
  obtain ⟨v, hv, rv⟩ := r.get hd
  rw [hx] at hv
  cases hv
  refine rv.up fun b o q => ?_
  obtain ⟨q1, q2⟩ := hid_some q
  refine hid_of (fun z => ?_) (k b o (.inl fun z => q1 (hB b z)) q2)
  rcases n b z with z | z
  · exact q1 z
  · rw [q2] at z
    cases z
theorem pid_seq (h : PD X c true e f) : PID X c lp tg e (dSeqI f) := by
  refine ⟨fun pins s σ H R I hw => ?_⟩
  obtain ⟨F, ρ, E, w⟩ := hw
  have base : ∀ {a : Addr} {H' : Hp} {xs : List V}, SqL X.K (hid (F.A ++ own c.O σ) H') a xs ∨ SqT X.K (hid (F.A ++ own c.O σ) H') a xs → True := fun _ => trivial
  have keepL : ∀ {a : Addr} {H1 H2 : Hp} {xs : List V}, SqL X.K (hid (F.A ++ own c.O σ) H1) a xs → (∀ b o, b ∉ bOf lp c σ ∨ frzO o = true → H1 b = some o → H2 b = some o) → SqL X.K H2 a xs := fun {a H1 H2 xs} h k =>
    Same.seq (fun b o q => by
      obtain ⟨q1, q2⟩ := hid_some q
      exact k b o (.inl fun z => q1 (bOf_sub b z)) q2) h
  have keepT : ∀ {a : Addr} {H1 H2 : Hp} {xs : List V}, SqT X.K (hid (F.A ++ own c.O σ) H1) a xs → (∀ b o, b ∉ bOf lp c σ ∨ frzO o = true → H1 b = some o → H2 b = some o) → SqT X.K H2 a xs := fun {a H1 H2 xs} h k =>
    Same.seqT (fun b o q => by
      obtain ⟨q1, q2⟩ := hid_some q
      exact k b o (.inl fun z => q1 (bOf_sub b z)) q2) h
  cases hf : f ρ with
  | bad =>
    unfold dSeqI at w
    rw [hf] at w
    exact w.elim
  | err x =>
    unfold dSeqI at w
    rw [hf] at w
    exact (pi_list (tg := tg) h).run pins s σ H R I ⟨F, ρ, E, by rw [hf]; exact w⟩
  | ok d =>
    unfold dSeqI at w
    rw [hf] at w
    cases d with
    | list l =>
      refine (pi_list (tg := tg) h).run pins s σ H R I ⟨F, ρ, E, ?_⟩
      rw [hf]
      intro v H1 s1 r
      cases r with
      | @list a xs _ h1 h2 h3 =>
        refine ⟨a, rfl, ⟨xs, SqL.of (hid_sub _ _ h1)⟩, w _ H1 s1 (by rw [← h3.len]; exact h2) (itd_of bOf_sub h3 fun H2 k => ?_)⟩
        have q := keepL (SqL.of h1) k
        exact ⟨fun i hi => walk_list.goes i H2 hi q, walk_list.stops H2 q, fun i x H3 y => ⟨y.1, y.2 xs q⟩⟩
    | tuple l =>
      refine (pi_tup (tg := tg) h).run pins s σ H R I ⟨F, ρ, E, ?_⟩
      rw [hf]
      intro v H1 s1 r
      cases r with
      | @tuple a xs _ h1 h2 h3 =>
        refine ⟨a, rfl, ⟨xs, SqT.of (hid_sub _ _ h1)⟩, w _ H1 s1 (by rw [← h3.len]; exact h2) (itd_of bOf_sub h3 fun H2 k => ?_)⟩
        have q := keepT (SqT.of h1) k
        exact ⟨fun i hi => walk_tup.goes i H2 hi q, walk_tup.stops H2 q, fun i x H3 y => ⟨y.1, y.2 xs q⟩⟩
    | ftup l =>
      refine (pi_tup (tg := tg) h).run pins s σ H R I ⟨F, ρ, E, ?_⟩
      rw [hf]
      intro v H1 s1 r
      cases r with
      | @ftup a o xs _ h1 h0 h2 h3 =>
        have hq : SqT X.K (hid (F.A ++ own c.O σ) H1) a xs := .inl (.inr ⟨o, h1⟩)
        refine ⟨a, rfl, ⟨xs, Same.seqT hid_sub hq⟩, w _ H1 s1 (by rw [← h3.len]; exact h2) (itd_of bOf_sub h3 fun H2 k => ?_)⟩
        have q := keepT hq k
        exact ⟨fun i hi => walk_tup.goes i H2 hi q, walk_tup.stops H2 q, fun i x H3 y => ⟨y.1, y.2 xs q⟩⟩
    | fdt kvs =>
      refine (pi_keys (tg := tg) h).run pins s σ H R I ⟨F, ρ, E, ?_⟩
      rw [hf]
      intro v H1 s1 r
      obtain ⟨hk, w1⟩ := if_wp w
      cases r with
      | @fdt a o _ h1 h2 =>
        refine ⟨a, o, rfl, .inr ⟨kvs, hid_sub _ _ h1, w1 _ H1 s1 ?_ (itd_keyT (hid_sub _ _ h1) hk)⟩⟩
        unfold smallT at hk
        rw [Bool.and_eq_true] at hk
        have := of_decide_eq_true hk.1
        simp only [keyT, List.length_map]
        exact Nat.le_trans this (by decide)
    | none => exact w.elim
    | bool _ => exact w.elim
    | int _ => exact w.elim
    | str _ => exact w.elim
    | dk _ => exact w.elim
    | dt _ => exact w.elim
    | scr _ => exact w.elim
    | ktup _ => exact w.elim
/-- a comprehension over a list that is owned -/
theorem pid_own (i : Nat) (k : Kd) {x : Str} (ho : isOw c.O i k = true := by rfl) (hk : k = .l ∨ k = .p := by first | exact .inl rfl | exact .inr rfl) (hN : X.N[i]? = some x := by rfl) (hv : Vis X.env.scope x := by first | exact Or.inl rfl | exact Or.inr (Or.inl rfl) | exact Or.inr (Or.inr rfl))
    (hd : (x == ("__debug__" : Str)) = false := by decide) (hcd : (x == ("__classdict__" : Str)) = false := by decide) : PID X c false tg (.Name x pos) (dSeqI (dVar i)) :=
  PI.imp (pi_list (pe_var hN hv hd hcd)) fun σ H R ⟨F, ρ, E, w⟩ => by
    obtain ⟨d, e1, w1⟩ := dVar_wp (Out.wp_bind w)
    rcases E.cel i k (isOw_of ho) with ⟨d', a, q1, q2, q3, q4⟩ | ⟨q, _⟩
    · rw [e1] at q1
      cases q1
      obtain ⟨a', xs, ds, rfl, h2, h3, h4, h5⟩ := E.lst (isOw_of ho) hk e1
      rw [q2] at h2
      cases h2
      refine ⟨_, q2, a, rfl, ⟨xs, SqL.of h3⟩, w1 _ H (Same.refl H) (by rw [← h5.len]; exact h4) (itd_of (fun b hb => by cases hb) h5 fun H2 k => ?_)⟩
      have q : SqL X.K H2 a xs := SqL.of (k a _ (.inl fun z => by cases z) h3)
      exact ⟨fun i hi => walk_list.goes i H2 hi q, walk_list.stops H2 q, fun i x H3 y => ⟨y.1, y.2 xs q⟩⟩
    · rw [e1] at q
      cases q
/-- a walk over an owned dict that is known to the object -/
theorem pid_ownT (i : Nat) {x : Str} (ho : isOw c.O i .t = true := by rfl) (hN : X.N[i]? = some x := by rfl) (hv : Vis X.env.scope x := by first | exact Or.inl rfl | exact Or.inr (Or.inl rfl) | exact Or.inr (Or.inr rfl))
    (hd : (x == ("__debug__" : Str)) = false := by decide) (hcd : (x == ("__classdict__" : Str)) = false := by decide) : PID X c lp tg (.Name x pos) (dSeqI (dVar i)) :=
  PI.imp (pi_keys (pe_var hN hv hd hcd)) fun σ H R ⟨F, ρ, E, w⟩ => by
    obtain ⟨d, e1, w1⟩ := dVar_wp (Out.wp_bind w)
    rcases E.cel i .t (isOw_of ho) with ⟨d', a, q1, q2, q3, q4⟩ | ⟨q, _⟩
    · rw [e1] at q1
      cases q1
      rcases q4 with ⟨kvs, rfl, _⟩ | ⟨o, kvs, rfl, h1, h2⟩
      · exact w1.elim
      · obtain ⟨hk, w2⟩ := if_wp w1
        refine ⟨_, q2, a, o, rfl, .inr ⟨kvs, h1, w2 _ H (Same.refl H) ?_ (itd_keyT h1 hk)⟩⟩
        unfold smallT at hk
        rw [Bool.and_eq_true] at hk
        have := of_decide_eq_true hk.1
        simp only [keyT, List.length_map]
        exact Nat.le_trans this (by decide)
    · rw [e1] at q
      cases q
/-- range -/
def dInt1 (d : D) (k : Int → Out (List D)) : Out (List D) := match d with
  | .int i => k i
  | _ => .bad
def rngD (lo : Int) (n : Nat) : List D := (List.range n).map fun i => .int (lo + (i : Nat))
def dRng1 (f : DE) : DA := fun ρ => (f ρ).bind fun d => dInt1 d fun n => if -100000 ≤ n ∧ n ≤ 100000 then .ok (rngD 0 n.toNat) else .bad
theorem itd_rng {K : PySem.W.Frag} {B B' : List Addr} {lo : Int} {n : Nat} {H1 : Hp} : ItD K B B' (Itr lo n) (rngD lo n) H1 := fun H2 N _ _ _ => by
  have hl : (rngD lo n).length = n := by simp [rngD]
  rw [hl]
  refine ⟨fun i hi => hi, Nat.le_refl n, fun i x H3 d hd y => ?_⟩
  obtain ⟨rfl, rfl⟩ := y
  refine ⟨Same.refl _, ?_⟩
  have hi : i < n := by
    have := (List.getElem?_eq_some_iff.mp hd).1
    rw [hl] at this
    exact this
  have e : (rngD lo n)[i]? = some (.int (lo + (i : Nat))) := by simp [rngD, hi]
  rw [e] at hd
  cases hd
  exact .int _
theorem pid_rng1 (hm : X.mg "range" = none) (h : PD X c true e f) (hg : Gl X "range" := by rfl) (hs : starEach [e] X.env = (false, eval e X.env) :: starEach [] X.env := by rfl) (hs2 : starEach [] X.env = [] := by rfl) : PID X c lp tg (.Call (.Name "range" p) [e] [] pos) (dRng1 f) :=
  PI.imp (pi_range1 hg hm (pa_cons h pa_nil hs) (by rw [hs, hs2])) fun σ H R ⟨F, ρ, E, w⟩ => ⟨F, ρ, E, (Out.wp_bind w).imp (fun d k v H1 s1 r => by
    cases d with
    | int i =>
      cases r
      replace k : (if -100000 ≤ i ∧ i ≤ 100000 then Out.ok (rngD 0 i.toNat) else .bad).wp _ _ := k
      obtain ⟨hl, q⟩ := if_wp k
      refine ⟨i, rfl, by omega, by omega, q _ H1 s1 ?_ itd_rng⟩
      have : (rngD 0 i.toNat).length = i.toNat := by simp [rngD]
      rw [this]
      exact Nat.le_trans (show i.toNat ≤ 100000 by omega) (by decide)
    | none => exact k.elim
    | bool _ => exact k.elim
    | str _ => exact k.elim
    | list _ => exact k.elim
    | tuple _ => exact k.elim
    | dk _ => exact k.elim
    | dt _ => exact k.elim
    | scr _ => exact k.elim
    | ktup _ => exact k.elim
    | ftup _ => exact k.elim
    | fdt _ => exact k.elim) fun _ z => z⟩
def dRng2 (f g : DE) : DA := fun ρ => (f ρ).bind fun d => (g ρ).bind fun e => dInt1 d fun i => dInt1 e fun j => if -100000 ≤ i ∧ i ≤ 100000 ∧ -100000 ≤ j ∧ j ≤ 100000 then .ok (rngD i (j - i).toNat) else .bad
theorem dInt1_wp {d : D} {k : Int → Out (List D)} {P : List D → Prop} {E : Nat → Prop} (h : (dInt1 d k).wp P E) : ∃ i, d = .int i ∧ (k i).wp P E := by
  cases d <;> first | exact ⟨_, rfl, h⟩ | exact h.elim
theorem pid_rng2 {e2 : Expr} {g : DE} (hm : X.mg "range" = none) (h : PD X c true e f) (h2 : PD X c true e2 g) (hg : Gl X "range" := by rfl) (hs : starEach [e, e2] X.env = (false, eval e X.env) :: starEach [e2] X.env := by rfl) (hs2 : starEach [e2] X.env = (false, eval e2 X.env) :: starEach [] X.env := by rfl)
    (hs3 : starEach [] X.env = [] := by rfl) : PID X c lp tg (.Call (.Name "range" p) [e, e2] [] pos) (dRng2 f g) :=
  PI.imp (pi_range2 hg hm (pa_cons h (pa_cons h2 pa_nil hs2) hs) (by rw [hs, hs2, hs3]) (by rw [hs2, hs3])) fun σ H R ⟨F, ρ, E, w⟩ => ⟨F, ρ, E, (Out.wp_bind w).imp (fun d k v H1 s1 r => ⟨F, ρ, E.up s1, (Out.wp_bind k).imp (fun d2 k2 v2 H2 s2 r2 => by
    obtain ⟨i, rfl, k3⟩ := dInt1_wp k2
    obtain ⟨j, rfl, k4⟩ := dInt1_wp k3
    obtain ⟨hl, q⟩ := if_wp k4
    cases r
    cases r2
    refine ⟨i, j, rfl, by omega, q _ H2 (s1.trans s2) ?_ itd_rng⟩
    have : (rngD i (j - i).toNat).length = (j - i).toNat := by simp [rngD]
    rw [this]
    exact Nat.le_trans (show (j - i).toNat ≤ 200000 by omega) (by decide)) fun _ z => z.up s1⟩) fun _ z => z⟩
end

/-! ### defs -/
def startE (N : Nat) (ds : List D) : Env := ds.map some ++ List.replicate (N - ds.length) none
def SO.fin (o : SO) : Out D := match o with
  | .rt d _ => .ok d
  | .nx _ => .ok .none
  | .err x _ => .err x
  | _ => .bad
/-- a def: N names, its body's worth -/
def dDef (N : Nat) (t : DS) : List D → Out D := fun ds => (t (startE N ds)).fin
section
variable {P : Program} {w : World} {K : PySem.W.Frag} {mg : Str → Option Value} {base : Heap}
theorem own_start {O : Ow} {N : List Str} {vs : List V} {n : Nat} (hn : vs.length = n) (hO : (O.all fun p => decide (n ≤ p.1)) = true) : own O (L2.start N vs) = [] := by
  refine List.eq_nil_iff_forall_not_mem.mpr fun a ha => ?_
  obtain ⟨i, k, h1, h2⟩ := mem_own.mp ha
  have z := List.all_eq_true.mp hO _ h1
  simp only [decide_eq_true_eq] at z
  unfold L2.start at h2
  rw [List.getElem?_append_right (by rw [List.length_map, hn]; exact z)] at h2
  rw [List.getElem?_replicate] at h2
  split at h2 <;> cases h2
theorem start_env {O : Ow} {N : List Str} {vs : List V} {ds : List D} {A : List Addr} {H : Hp} {n : Nat} (hn : vs.length = n) (hN : n ≤ N.length) (hO : (O.all fun p => decide (n ≤ p.1) && decide (p.1 < N.length)) = true) (hA : Dom A H) (r : RpA K (hid A H) vs ds) :
    EnvR K O ⟨A, []⟩ (startE N.length ds) (L2.start N vs) H := by
  have hd : ds.length = n := by rw [← r.len, hn]
  have hO' : (O.all fun p => decide (n ≤ p.1)) = true := List.all_eq_true.mpr fun p hp => by
    have z := List.all_eq_true.mp hO p hp
    simp only [Bool.and_eq_true] at z
    exact z.1
  have o0 := own_start (N := N) hn hO'
  refine ⟨?_, fun i d h nj => ?_, fun i k h => ?_, fun i k j k' a h _ e _ => ?_, hA, fun p hp => (by cases hp), fun p hp => (by cases hp)⟩
  · unfold startE L2.start
    simp only [List.length_append, List.length_map, List.length_replicate]
    omega
  · rw [o0]
    unfold startE at h
    by_cases hi : i < ds.length
    · rw [List.getElem?_append_left (by rw [List.length_map]; exact hi), List.getElem?_map, List.getElem?_eq_getElem hi] at h
      cases h
      obtain ⟨v, h1, h2⟩ := r.get (List.getElem?_eq_getElem hi)
      refine ⟨v, ?_, ?_⟩
      · unfold L2.start
        rw [List.getElem?_append_left (by rw [List.length_map, hn, ← hd]; exact hi), List.getElem?_map, h1]
        rfl
      · show Rp K (hid (A ++ []) H) v _
        rw [List.append_nil]
        exact h2
    · rw [List.getElem?_append_right (by rw [List.length_map]; omega), List.getElem?_replicate] at h
      split at h <;> cases h
  · have z := List.all_eq_true.mp hO _ h
    simp only [Bool.and_eq_true, decide_eq_true_eq] at z
    refine .inr ⟨?_, ?_⟩
    · unfold startE
      rw [List.getElem?_append_right (by rw [List.length_map]; omega), List.getElem?_replicate, if_pos (by rw [List.length_map]; omega)]
    · unfold L2.start
      rw [List.getElem?_append_right (by rw [List.length_map]; omega), List.getElem?_replicate, if_pos (by rw [List.length_map]; omega)]
  · exfalso
    have : a ∈ own O (L2.start N vs) := mem_own.mpr ⟨i, k, h, e⟩
    rw [o0] at this
    cases this
/-- THE RULE for a def -/
theorem def_ok {x qual : Str} {st : Stmt} {f : Addr} {fd : FuncData} {N ps : List Str} {k : Nat} {cl : Nat → Addr} {t : DS} (O : Ow) (F : Fun K x qual st f fd) (S : FnScope N ps (defScope st)) (hO : (O.all fun p => decide (ps.length ≤ p.1) && decide (p.1 < N.length)) = true) (hl : ps.length ≤ N.length)
    (hbody : ∀ (cdv : Value) (A : Around) (outer : List PySem.Env) (s : Shared) (H : Hp) (E : XK), Room k (A.deeper (PyProof.Rows.envOfC qual (defScope st) s.heap.objs.size f cdv)) → N.Nodup →
      Takes (cxOf (L2.CX P w) P w K mg base N qual (defScope st) f cdv A outer s H E) (fun cls d _ H' => E cls d H') →
      PSsD (cxOf (L2.CX P w) P w K mg base N qual (defScope st) f cdv A outer s H E) ⟨cl, O, fun cls d _ H' => E cls d H'⟩ (defBody st) t) :
    FnOk P w K mg base (L2.CX P w) (k + 1) f fd ps (spD K cl ps.length (dDef N.length t)) := by
  refine F.okX S (fun vs H Q E h => h.1) fun cdv A outer s H vs Q E hr h => ?_
  obtain ⟨hn, A', ds, hA, r, wp⟩ := h
  refine ⟨_, hbody cdv A outer s H E hr S.nd (takes_of rfl rfl rfl rfl), ?_⟩
  have hO' : (O.all fun p => decide (ps.length ≤ p.1)) = true := List.all_eq_true.mpr fun p hp => by
    have z := List.all_eq_true.mp hO p hp
    simp only [Bool.and_eq_true] at z
    exact z.1
  have o0 : own O (L2.start N vs) = [] := own_start hn hO'
  have sm : ∀ {σ' : St} {H' : Hp}, Stp O (L2.start N vs) H σ' H' → Same H H' := fun st b o e => st.keep b o (.inl (by rw [o0]; intro z; cases z)) e
  refine ⟨⟨A', []⟩, startE N.length ds, start_env hn hl hO hA r, ?_⟩
  unfold dDef SO.fin at wp
  cases ht : t (startE N.length ds) with
  | nx ρ' => rw [ht] at wp; exact fun σ' H' E' st => wp .non H' (sm st) .none
  | rt d ρ' => rw [ht] at wp; exact fun v σ' H' E' st rr => wp v H' (sm st) rr
  | err x ρ' => rw [ht] at wp; exact fun σ' H' E' st => wp H' (sm st)
  | bk _ => rw [ht] at wp; exact wp.elim
  | ct _ => rw [ht] at wp; exact wp.elim
  | bad => rw [ht] at wp; exact wp.elim
end
end Pd

/-! Pd4: operators by data. -/
namespace L2
open PySem PySem.Spec PyProof.Rows
theorem tuple_mul1W (l : Addr) (items : Array Value) (n : Nat) (dd : Option Addr) (sl : Array (Option Value)) (x : Int) (u : Tok) (c0 : (decide (x < -(2 ^ 63)) || decide (x ≥ 2 ^ 63)) = false) (c1 : (items.isEmpty || x == 1) = true) :
    Meets (Builtin.«tuple.__mul__» ⟨[.ref l, .int x u], []⟩) (fun _ R s => s.heap.get? l = some { cls := .type "tuple", dict := dd, data := .seq items n, slots := sl } ∧ R (.ok (.ret (.ref l))) s) :=
  .of_wp fun prog w A R s h => by
    obtain ⟨hp, g, d, tk, os⟩ := s
    obtain ⟨hl, h⟩ := h
    have f1 := AutoSeq1.idx_int
    wp_walk using wpAny_loadPart' hl
    repeat (first
      | (refine wpAny_ite_false (decide_eq_false (by rw [c0]; exact Bool.false_ne_true)) ?_; wp_walk using wpAny_loadPart' hl)
      | (refine wpAny_ite_true (decide_eq_true c1) ?_; wp_walk using wpAny_loadPart' hl))
    exact ⟨_, rfl, h⟩
section
variable {X : Cx}
theorem op_rep1 : OpR X (binaryOp .Mult) (fun x y H Q => ∃ l xs k, x = .ref l ∧ y = .int k ∧ SqT X.K H l xs ∧ (k = 1 ∨ xs = []) ∧ -1000 ≤ k ∧ k ≤ 1000 ∧ Q (.ref l) H) := by
  intro pins s σ H x y v u Q I rx ry h
  obtain ⟨l, xs, k, rfl, rfl, hT, hk, k1, k2, q⟩ := h
  cases rx
  obtain ⟨t, rfl⟩ := ry
  obtain ⟨its, r, ⟨⟨cls, dd, data, sl⟩, ho, hc, n, hd⟩, hs⟩ := I.tuple hT
  simp only at hc hd
  subst hc hd
  have c0 : (decide (k < -(2 ^ 63)) || decide (k ≥ 2 ^ 63)) = false := by
    rw [decide_eq_false (by omega), decide_eq_false (by omega)] <;> rfl
  have c1 : (its.toArray.isEmpty || k == 1) = true := by
    rcases hk with h | h
    · rw [h]; simp
    · have hle : its.length = xs.length := r.length.symm
      rw [h] at hle
      have : its = [] := List.eq_nil_of_length_eq_zero hle
      rw [this]; rfl
  refine wpAny_binaryOp_repeat_ref (T := "tuple") (U := "int") (by decide) ⟨_, ho, rfl⟩ (fun s' => typeIs_int s' k t) noFill_tuple_mul F.fills_int_mul F.slot_int_rmul repeat_tuple F.slot_int_index.lookup
    (call_meets F.slot_int_rmul (typeIs_int s k t) F.entry_int_rmul (F.args_int_rmul_2 _ _) (int_rmul_tuple k t l its.toArray n dd sl)
      ⟨ho, rfl, ⟨_, ho, rfl⟩, call_meets F.slot_tuple_mul ⟨_, ho, rfl⟩ F.entry_tuple_mul (F.args_tuple_mul_2 _ _) (tuple_mul1W l its.toArray n dd sl k t c0 c1) ⟨ho, ?_⟩⟩)
  exact ⟨.ref l, H, I, rfl, q⟩
end
end L2
namespace Pd
open PySem L2 PyProof.Rows

/-! ### ints, texts, lists, tuples: + - * // % and so on -/
def mulOk (i j : Int) : Prop := (-(2 ^ 64) < i ∧ i < 2 ^ 64) ∨ (-(2 ^ 64) < j ∧ j < 2 ^ 64)
instance (i j : Int) : Decidable (mulOk i j) := inferInstanceAs (Decidable (_ ∨ _))
def addD : D → D → Option D
  | .int i, .int j => some (.int (i + j))
  | .str a, .str b => if a.length + b.length ≤ 1000000 then some (.str (a ++ b)) else none
  | .list a, .list b => if a.length + b.length ≤ 100000 then some (.list (a ++ b)) else none
  | .tuple a, .tuple b => if a.length + b.length ≤ 100000 then some (.tuple (a ++ b)) else none
  | _, _ => none
def subD : D → D → Option D
  | .int i, .int j => some (.int (i - j))
  | _, _ => none
def mulD : D → D → Option D
  | .int i, .int j => if mulOk i j then some (.int (i * j)) else none
  | .list a, .int k => if k ≤ 1000 ∧ -1000 ≤ k ∧ a.length ≤ 1000 then some (.list (List.replicate k.toNat a).flatten) else none
  | .tuple a, .int k => if 2 ≤ k ∧ k ≤ 1000 ∧ a.length ≤ 1000 ∧ a ≠ [] then some (.tuple (List.replicate k.toNat a).flatten) else if (k = 1 ∨ a = []) ∧ -1000 ≤ k ∧ k ≤ 1000 then some (.tuple a) else none
  | _, _ => none
def fdivD : D → D → Option D
  | .int i, .int j => if 0 < j ∧ j < 1073741824 then some (.int (i / j)) else none
  | _, _ => none
def modD : D → D → Option D
  | .int i, .int j => if 0 < j then some (.int (i % j)) else none
  | _, _ => none
def powD : D → D → Option D
  | .int i, .int j => if 0 ≤ j ∧ j ≤ 1000 ∧ i.natAbs < 2 ^ 64 then some (.int (i ^ j.toNat)) else none
  | _, _ => none
def negD : D → Option D
  | .int i => some (.int (-i))
  | _ => none
section
variable {X : Cx}
theorem if_some {α : Type} {P : Prop} [Decidable P] {a b : α} (h : (if P then some a else none) = some b) : P ∧ a = b := by
  split at h
  · cases h
    exact ⟨by assumption, rfl⟩
  · cases h
theorem hidL {K : PySem.W.Frag} {A : List Addr} {H : Hp} {a : Addr} {xs : List V} (h : SqL K (hid A H) a xs) : SqL K H a xs := Same.seq hid_sub h
theorem hidT {K : PySem.W.Frag} {A : List Addr} {H : Hp} {a : Addr} {xs : List V} (h : SqT K (hid A H) a xs) : SqT K H a xs := Same.seqT hid_sub h
/-- a list, a tuple laid anew -/
theorem new_list {K : PySem.W.Frag} {A : List Addr} {H : Hp} {p : Addr} {xs : List V} {ds : List D} (hA : Dom A H) (hp : H p = none) (hz : xs.length ≤ sizeLine) (r : RpA K (hid A H) xs ds) : Same H (upd H p (.lst xs)) ∧ Rp K (hid A (upd H p (.lst xs))) (.ref p) (.list ds) := by
  have s := same_upd (o := .lst xs) hp
  exact ⟨s, .list (hid_new (Dom.free hA hp)) hz (r.up (hid_mono s))⟩
theorem new_tup {K : PySem.W.Frag} {A : List Addr} {H : Hp} {p : Addr} {xs : List V} {ds : List D} (hA : Dom A H) (hp : H p = none) (hz : xs.length ≤ sizeLine) (r : RpA K (hid A H) xs ds) : Same H (upd H p (.tup xs)) ∧ Rp K (hid A (upd H p (.tup xs))) (.ref p) (.tuple ds) := by
  have s := same_upd (o := .tup xs) hp
  exact ⟨s, .tuple (hid_new (Dom.free hA hp)) hz (r.up (hid_mono s))⟩
variable {X : Cx}
theorem cap_ok {n : Nat} (h : n ≤ 100000) : n ≤ sizeLine := Nat.le_trans h (by decide)
theorem capS_ok {n : Nat} (h : n ≤ 1000000) : n ≤ sizeLine := Nat.le_trans h (by decide)
theorem op_addD : OpR X (binaryOp .Add) (rdO X.K addD) := by
  intro pins s σ H x y v u Q I rx ry h
  obtain ⟨A, dx, dy, hA, r1, r2, d, e, q⟩ := h
  cases r1 with
  | int i =>
    cases r2 with
    | int j =>
      cases e
      exact op_add pins s σ H _ _ v u Q I rx ry ⟨i, j, rfl, rfl, q _ H (Same.refl H) (.int _)⟩
    | _ => cases e
  | str a =>
    cases r2 with
    | str b =>
      obtain ⟨hl, rfl⟩ := if_some e
      exact op_add_str pins s σ H _ _ v u Q I rx ry ⟨a, b, rfl, rfl, capS_ok hl, q _ H (Same.refl H) (.str _)⟩
    | _ => cases e
  | @list a xs ds h1 h2 h3 =>
    cases r2 with
    | @list b ys es g1 g2 g3 =>
      obtain ⟨hl, rfl⟩ := if_some e
      have hz : xs.length + ys.length ≤ sizeLine := cap_ok (by rw [h3.len, g3.len]; exact hl)
      refine op_cat pins s σ H _ _ v u Q I rx ry ⟨a, b, xs, ys, rfl, rfl, hid_sub _ _ h1, hid_sub _ _ g1, hz, fun p hp => ?_⟩
      obtain ⟨s1, r⟩ := new_list hA hp (by rw [List.length_append]; exact hz) (h3.append g3)
      exact q _ _ s1 r
    | _ => cases e
  | @tuple a xs ds h1 h2 h3 =>
    cases r2 with
    | @tuple b ys es g1 g2 g3 =>
      obtain ⟨hl, rfl⟩ := if_some e
      have hz : xs.length + ys.length ≤ sizeLine := cap_ok (by rw [h3.len, g3.len]; exact hl)
      refine op_catA pins s σ H _ _ v u Q I rx ry ⟨a, b, xs, ys, rfl, rfl, SqT.of (hid_sub _ _ h1), SqT.of (hid_sub _ _ g1), hz, fun z => ?_, fun _ z => ?_, fun _ _ p hp => ?_⟩
      · subst z
        cases h3
        exact q _ H (Same.refl H) (.tuple g1 g2 g3)
      · subst z
        cases g3
        rw [List.append_nil] at q
        exact q _ H (Same.refl H) (.tuple h1 h2 h3)
      · obtain ⟨s1, r⟩ := new_tup hA hp (by rw [List.length_append]; exact hz) (h3.append g3)
        exact q _ _ s1 r
    | _ => cases e
  | none => cases e
  | bool _ => cases e
  | dk _ _ => cases e
  | dt _ _ => cases e
  | scr _ _ => cases e
  | ktup _ _ => cases e
  | ftup _ _ _ _ => cases e
  | fdt _ _ => cases e
theorem op_subD : OpR X (binaryOp .Sub) (rdO X.K subD) := by
  intro pins s σ H x y v u Q I rx ry h
  obtain ⟨A, dx, dy, hA, r1, r2, d, e, q⟩ := h
  cases r1 <;> cases r2 <;> cases e
  exact op_sub pins s σ H _ _ v u Q I rx ry ⟨_, _, rfl, rfl, q _ H (Same.refl H) (.int _)⟩
theorem op_mulD : OpR X (binaryOp .Mult) (rdO X.K mulD) := by
  intro pins s σ H x y v u Q I rx ry h
  obtain ⟨A, dx, dy, hA, r1, r2, d, e, q⟩ := h
  cases r2 with
  | int j =>
    cases r1 with
    | int i =>
      obtain ⟨hl, rfl⟩ := if_some e
      exact op_mul pins s σ H _ _ v u Q I rx ry ⟨i, j, rfl, rfl, hl, q _ H (Same.refl H) (.int _)⟩
    | @list a xs ds h1 h2 h3 =>
      obtain ⟨⟨k1, k2, k3⟩, rfl⟩ := if_some e
      have hz : xs.length * j.toNat ≤ sizeLine := by
        have hx : xs.length ≤ 1000 := by rw [h3.len]; exact k3
        exact Nat.le_trans (Nat.mul_le_mul hx (show j.toNat ≤ 1000 by omega)) (by decide)
      refine op_rep pins s σ H _ _ v u Q I rx ry ⟨a, j, xs, rfl, rfl, hid_sub _ _ h1, by omega, by omega, hz, fun p hp => ?_⟩
      obtain ⟨s1, r⟩ := new_list hA hp (by rw [PyProof.Rows.lm_len_rep_flat, Nat.mul_comm]; exact hz) (h3.rep j.toNat)
      exact q _ _ s1 r
    | @tuple a xs ds h1 h2 h3 =>
      by_cases hj1 : 2 ≤ j ∧ j ≤ 1000 ∧ ds.length ≤ 1000 ∧ ds ≠ []
      · have e1 : (if 2 ≤ j ∧ j ≤ 1000 ∧ ds.length ≤ 1000 ∧ ds ≠ [] then some (D.tuple (List.replicate j.toNat ds).flatten) else if (j = 1 ∨ ds = []) ∧ -1000 ≤ j ∧ j ≤ 1000 then some (.tuple ds) else none) = some d := e
        rw [if_pos hj1] at e1
        cases e1
        obtain ⟨k1, k2, k3, k4⟩ := hj1
        have hx : xs.length ≤ 1000 := by rw [h3.len]; exact k3
        have hz : xs.length * j.toNat ≤ sizeLine := Nat.le_trans (Nat.mul_le_mul hx (show j.toNat ≤ 1000 by omega)) (by decide)
        refine op_repT pins s σ H _ _ v u Q I rx ry ⟨a, j, xs, rfl, rfl, SqT.of (hid_sub _ _ h1), fun z => k4 (h3.nil_iff.mp z), k1, k2, hx, fun p hp => ?_⟩
        obtain ⟨s1, r⟩ := new_tup hA hp (by rw [PyProof.Rows.lm_len_rep_flat, Nat.mul_comm]; exact hz) (h3.rep j.toNat)
        exact q _ _ s1 r
      · have e1 : (if 2 ≤ j ∧ j ≤ 1000 ∧ ds.length ≤ 1000 ∧ ds ≠ [] then some (D.tuple (List.replicate j.toNat ds).flatten) else if (j = 1 ∨ ds = []) ∧ -1000 ≤ j ∧ j ≤ 1000 then some (.tuple ds) else none) = some d := e
        rw [if_neg hj1] at e1
        obtain ⟨⟨k1, k2, k3⟩, rfl⟩ := if_some e1
        exact op_rep1 pins s σ H _ _ v u Q I rx ry ⟨a, xs, j, rfl, rfl, SqT.of (hid_sub _ _ h1), k1.imp id fun z => h3.nil_iff.mpr z, k2, k3, q _ H (Same.refl H) (.tuple h1 h2 h3)⟩
    | none => cases e
    | bool _ => cases e
    | str _ => cases e
    | dk _ _ => cases e
    | dt _ _ => cases e
    | scr _ _ => cases e
    | ktup _ _ => cases e
    | ftup _ _ _ _ => cases e
    | fdt _ _ => cases e
  | _ => cases r1 <;> cases e
theorem op_fdivD : OpR X (binaryOp .FloorDiv) (rdO X.K fdivD) := by
  intro pins s σ H x y v u Q I rx ry h
  obtain ⟨A, dx, dy, hA, r1, r2, d, e, q⟩ := h
  cases r1 <;> cases r2 <;> first | cases e | skip
  obtain ⟨hl, rfl⟩ := if_some e
  exact op_fdiv pins s σ H _ _ v u Q I rx ry ⟨_, _, rfl, rfl, hl, q _ H (Same.refl H) (.int _)⟩
theorem op_modD : OpR X (binaryOp .Mod) (rdO X.K modD) := by
  intro pins s σ H x y v u Q I rx ry h
  obtain ⟨A, dx, dy, hA, r1, r2, d, e, q⟩ := h
  cases r1 <;> cases r2 <;> first | cases e | skip
  obtain ⟨hl, rfl⟩ := if_some e
  exact op_mod pins s σ H _ _ v u Q I rx ry ⟨_, _, rfl, rfl, hl, q _ H (Same.refl H) (.int _)⟩
theorem op_powD : OpR X (binaryOp .Pow) (rdO X.K powD) := by
  intro pins s σ H x y v u Q I rx ry h
  obtain ⟨A, dx, dy, hA, r1, r2, d, e, q⟩ := h
  cases r1 <;> cases r2 <;> first | cases e | skip
  obtain ⟨⟨h1, h2, h3⟩, rfl⟩ := if_some e
  exact op_pow pins s σ H _ _ v u Q I rx ry ⟨_, _, rfl, rfl, ⟨h1, by omega, h3⟩, q _ H (Same.refl H) (.int _)⟩
theorem un_negD : UnR X (unaryOp .USub) (rdU X.K negD) := by
  intro pins s σ H x v Q I rx h
  obtain ⟨A, dx, hA, r1, d, e, q⟩ := h
  cases r1 <;> cases e
  exact un_neg pins s σ H _ v Q I rx ⟨_, rfl, q _ H (Same.refl H) (.int _)⟩

/-! ### comparisons -/
def ltD : D → D → Option Bool
  | .int i, .int j => some (decide (i < j))
  | _, _ => none
def leD : D → D → Option Bool
  | .int i, .int j => some (decide (i ≤ j))
  | _, _ => none
def geD : D → D → Option Bool
  | .int i, .int j => some (decide (j ≤ i))
  | _, _ => none
def intsOf : List D → Option (List Int)
  | [] => some []
  | .int i :: l => (intsOf l).map (i :: ·)
  | _ :: _ => none
theorem intsOf_some : ∀ {l : List D} {ns : List Int}, intsOf l = some ns → l = ns.map .int
  | [], ns, h => by cases h; rfl
  | .int i :: l, ns, h => by
    unfold intsOf at h
    cases e : intsOf l with
    | none => rw [e] at h; cases h
    | some ms =>
      rw [e] at h
      cases h
      rw [intsOf_some (l := l) e]
      rfl
  | .none :: _, _, h => by cases h
  | .bool _ :: _, _, h => by cases h
  | .str _ :: _, _, h => by cases h
  | .list _ :: _, _, h => by cases h
  | .tuple _ :: _, _, h => by cases h
  | .dk _ :: _, _, h => by cases h
  | .dt _ :: _, _, h => by cases h
  | .scr _ :: _, _, h => by cases h
  | .ktup _ :: _, _, h => by cases h
  | .ftup _ :: _, _, h => by cases h
  | .fdt _ :: _, _, h => by cases h
@[simp] theorem intsOf_map (ns : List Int) : intsOf (ns.map .int) = some ns := by
  induction ns with
  | nil => rfl
  | cons n ns ih =>
    rw [List.map_cons]
    unfold intsOf
    rw [ih]
    rfl
theorem RpA.ints {K : PySem.W.Frag} {H : Hp} : ∀ {ns : List Int} {vs : List V}, RpA K H vs (ns.map .int) → vs = ns.map V.int
  | [], _, h => by cases h; rfl
  | n :: ns, _, h => by
    cases h with
    | cons r t =>
      cases r
      rw [RpA.ints t]
      rfl
theorem RpA.of_ints {K : PySem.W.Frag} {H : Hp} : ∀ (ns : List Int), RpA K H (ns.map V.int) (ns.map .int)
  | [] => .nil
  | n :: ns => .cons (.int n) (RpA.of_ints ns)
theorem op_ltD : OpR X (compareOp .Lt) (rdC X.K ltD) := by
  intro pins s σ H x y v u Q I rx ry h
  obtain ⟨A, dx, dy, hA, r1, r2, d, e, q⟩ := h
  cases r1 <;> cases r2 <;> cases e
  exact op_lt pins s σ H _ _ v u Q I rx ry ⟨_, _, rfl, rfl, q⟩
theorem op_leD : OpR X (compareOp .LtE) (rdC X.K leD) := by
  intro pins s σ H x y v u Q I rx ry h
  obtain ⟨A, dx, dy, hA, r1, r2, d, e, q⟩ := h
  cases r1 <;> cases r2 <;> cases e
  exact op_le pins s σ H _ _ v u Q I rx ry ⟨_, _, rfl, rfl, q⟩
theorem op_geD : OpR X (compareOp .GtE) (rdC X.K geD) := by
  intro pins s σ H x y v u Q I rx ry h
  obtain ⟨A, dx, dy, hA, r1, r2, d, e, q⟩ := h
  cases r1 <;> cases r2 <;> cases e
  exact op_ge pins s σ H _ _ v u Q I rx ry ⟨_, _, rfl, rfl, q⟩

/-! ### == -/
mutual
def D.py : D → PyData
  | .none => .none
  | .bool b => .bool b
  | .int i => .int i
  | .str s => .str s
  | .list l => .list (D.pyA l)
  | .tuple l => .tuple (D.pyA l)
  | .ktup l => .tuple (l.map .int)
  | .ftup l => .tuple (D.pyA l)
  | _ => .none
def D.pyA : List D → List PyData
  | [] => []
  | d :: l => D.py d :: D.pyA l
end
mutual
/-- no dict, no script within -/
def D.pl : D → Bool
  | .none => true
  | .bool _ => true
  | .int _ => true
  | .str _ => true
  | .list l => D.plA l
  | .tuple l => D.plA l
  | .dk _ => false
  | .dt _ => false
  | .scr _ => false
  | .ktup _ => true
  | .ftup l => D.plA l
  | .fdt _ => false
def D.plA : List D → Bool
  | [] => true
  | d :: l => D.pl d && D.plA l
end
theorem plain_ints : ∀ l : List Int, PyData.plainAll (l.map PyData.int) = true
  | [] => rfl
  | _ :: l => by
    simp only [List.map_cons, PyData.plainAll, PyData.plain, Bool.true_and]
    exact plain_ints l
theorem dp_ints {K : PySem.W.Frag} {H : Hp} : ∀ l : List Int, DpAll K H (l.map V.int) (l.map PyData.int)
  | [] => .nil
  | n :: l => .cons (.int n) (dp_ints l)
mutual
theorem D.py_plain : ∀ d : D, (D.py d).plain = true
  | .none => rfl
  | .bool _ => rfl
  | .int _ => rfl
  | .str _ => rfl
  | .list l => by simp only [D.py, PyData.plain]; exact D.pyA_plain l
  | .tuple l => by simp only [D.py, PyData.plain]; exact D.pyA_plain l
  | .dk _ => rfl
  | .dt _ => rfl
  | .scr _ => rfl
  | .ktup l => by simp only [D.py, PyData.plain]; exact plain_ints l
  | .ftup l => by simp only [D.py, PyData.plain]; exact D.pyA_plain l
  | .fdt _ => rfl
theorem D.pyA_plain : ∀ l : List D, PyData.plainAll (D.pyA l) = true
  | [] => rfl
  | d :: l => by
    simp only [D.pyA, PyData.plainAll, Bool.and_eq_true]
    exact ⟨D.py_plain d, D.pyA_plain l⟩
end
mutual
theorem Rp.dp {K : PySem.W.Frag} {H : Hp} : ∀ (d : D) (v : V), d.pl = true → Rp K H v d → Dp K H v d.py
  | .none, _, _, h => by cases h; exact .non
  | .bool _, _, _, h => by cases h; exact .bl _
  | .int _, _, _, h => by cases h; exact .int _
  | .str _, _, _, h => by cases h; exact .str _
  | .list l, _, z, h => by
    cases h with
    | list h1 h2 h3 =>
      simp only [D.py]
      exact .lst (SqL.of h1) (RpA.dp l _ (by simpa only [D.pl] using z) h3)
  | .tuple l, _, z, h => by
    cases h with
    | tuple h1 h2 h3 =>
      simp only [D.py]
      exact .tup (SqT.of h1) (RpA.dp l _ (by simpa only [D.pl] using z) h3)
  | .dk _, _, z, _ => by cases z
  | .dt _, _, z, _ => by cases z
  | .scr _, _, z, _ => by cases z
  | .ktup l, _, z, h => by
    cases h with
    | ktup h1 h2 =>
      simp only [D.py]
      exact .tup (.inr h1) (dp_ints l)
  | .fdt _, _, z, _ => by cases z
  | .ftup l, _, z, h => by
    cases h with
    | @ftup a o xs _ h1 h0 h2 h3 =>
      simp only [D.py]
      exact .tup (.inl (.inr ⟨o, h1⟩)) (RpA.dp l _ (by simpa only [D.pl] using z) h3)
theorem RpA.dp {K : PySem.W.Frag} {H : Hp} : ∀ (l : List D) (vs : List V), D.plA l = true → RpA K H vs l → DpAll K H vs (D.pyA l)
  | [], _, _, h => by cases h; exact .nil
  | d :: l, _, z, h => by
    simp only [D.plA, Bool.and_eq_true] at z
    cases h with
    | cons h1 h2 =>
      simp only [D.pyA]
      exact .cons (Rp.dp d _ z.1 h1) (RpA.dp l _ z.2 h2)
end
def eqv (a b : D) : Bool := PyData.eqv a.py b.py
def dep (a : D) : Nat := a.py.depth
def eqD (a b : D) : Option Bool := if a.pl = true ∧ b.pl = true ∧ min (dep a) (dep b) ≤ 50 then some (eqv a b) else none
def neD (a b : D) : Option Bool := (eqD a b).map fun k => !k
theorem op_eqDD {k : Nat} (hr : Room k X.A) : OpR X (compareOp .Eq) (rdC X.K eqD) := by
  intro pins s σ H x y v u Q I rx ry h
  obtain ⟨A, dx, dy, hA, r1, r2, b, e, q⟩ := h
  obtain ⟨⟨h1, h2, h3⟩, rfl⟩ := if_some e
  obtain ⟨as, q1⟩ := Dp.reads I _ x v (Rp.dp dx x h1 (r1.up hid_sub)) rx
  obtain ⟨bs, q2⟩ := Dp.reads I _ y u (Rp.dp dy y h2 (r2.up hid_sub)) ry
  have hu := hr.units
  refine SeqAt.eq_plain q1 q2 (D.py_plain _) (D.py_plain _) ?_ ⟨.bl _, H, I, rfl, q⟩
  unfold dep at h3
  omega
theorem op_neDD {k : Nat} (hr : Room k X.A) : OpR X (compareOp .NotEq) (rdC X.K neD) := by
  intro pins s σ H x y v u Q I rx ry h
  obtain ⟨A, dx, dy, hA, r1, r2, b, e, q⟩ := h
  unfold neD at e
  obtain ⟨b', e', rfl⟩ := Option.map_eq_some_iff.mp e
  obtain ⟨⟨h1, h2, h3⟩, rfl⟩ := if_some e'
  obtain ⟨as, q1⟩ := Dp.reads I _ x v (Rp.dp dx x h1 (r1.up hid_sub)) rx
  obtain ⟨bs, q2⟩ := Dp.reads I _ y u (Rp.dp dy y h2 (r2.up hid_sub)) ry
  have hu := hr.units
  refine SeqAt.ne_plain q1 q2 (D.py_plain _) (D.py_plain _) ?_ ⟨.bl _, H, I, rfl, q⟩
  unfold dep at h3
  omega
/-! ### is None -/
def isND : D → D → Option Bool
  | .none, .none => some true
  | _, .none => some false
  | _, _ => none
def notND : D → D → Option Bool
  | .none, .none => some false
  | _, .none => some true
  | _, _ => none
theorem op_isND : OpR X (compareOp .Is) (rdC X.K isND) := by
  intro pins s σ H x y v u Q I rx ry h
  obtain ⟨A, dx, dy, hA, r1, r2, d, e, q⟩ := h
  cases r2 <;> first | (cases r1 <;> cases e; done) | skip
  refine op_isN pins s σ H _ _ v u Q I rx ry ⟨rfl, ?_⟩
  cases r1 <;> cases e <;> exact q
theorem op_notND : OpR X (compareOp .IsNot) (rdC X.K notND) := by
  intro pins s σ H x y v u Q I rx ry h
  obtain ⟨A, dx, dy, hA, r1, r2, d, e, q⟩ := h
  cases r2 <;> first | (cases r1 <;> cases e; done) | skip
  refine op_notN pins s σ H _ _ v u Q I rx ry ⟨rfl, ?_⟩
  cases r1 <;> cases e <;> exact q
end
end Pd

/-! Pd5: in, subscripts, slices by data. -/
namespace Pd
open PySem L2 PyProof.Rows
def dkey : D → Option Key
  | .int i => some (.inl i)
  | .str s => some (.inr s)
  | _ => none
def dkeys : List D → Option (List Key)
  | [] => some []
  | d :: l => (dkey d).bind fun k => (dkeys l).map (k :: ·)
theorem dkey_V {K : PySem.W.Frag} {H : Hp} {v : V} {d : D} {k : Key} (r : Rp K H v d) (e : dkey d = some k) : v = kV k := by
  cases r <;> cases e <;> rfl
theorem dkeys_V {K : PySem.W.Frag} {H : Hp} : ∀ {l : List D} {vs : List V} {ks : List Key}, RpA K H vs l → dkeys l = some ks → vs = ks.map kV
  | [], _, _, h, e => by cases h; cases e; rfl
  | d :: l, _, ks, h, e => by
    cases h with
    | cons r t =>
      unfold dkeys at e
      obtain ⟨k, e1, e2⟩ := Option.bind_eq_some_iff.mp e
      obtain ⟨ks', e3, rfl⟩ := Option.map_eq_some_iff.mp e2
      rw [dkey_V r e1, dkeys_V t e3]
      rfl
def depA (l : List D) : Nat := PyData.depthAll (D.pyA l)
/-- x in c -/
def inD (x c : D) : Option Bool := match c with
  | .list l => if x.pl = true ∧ D.plA l = true ∧ min (depA l) (dep x) ≤ 50 then some (l.any fun y => eqv y x) else none
  | .tuple l => if x.pl = true ∧ D.plA l = true ∧ min (depA l) (dep x) ≤ 50 then some (l.any fun y => eqv y x) else none
  | .ftup l => if x.pl = true ∧ D.plA l = true ∧ min (depA l) (dep x) ≤ 50 then some (l.any fun y => eqv y x) else none
  | .fdt kvs => (match x with
    | .tuple l => (dkeys l).map fun k => (valV kvs k).isSome
    | _ => none)
  | .dk kvs => (dkey x).map fun k => (valV kvs k).isSome
  | .dt kvs => match x with
    | .tuple l => (dkeys l).map fun k => (valV kvs k).isSome
    | _ => none
  | .str z => match x with
    | .str s => if s.cps.size = 1 then some (decide (s.cps.getD 0 0 ∈ z.cps.toList)) else none
    | _ => none
  | _ => none
def ninD (x c : D) : Option Bool := (inD x c).map fun k => !k
theorem pyA_any (x : D) : ∀ l : List D, ((D.pyA l).any fun y => PyData.eqv y x.py) = l.any fun y => eqv y x
  | [] => rfl
  | d :: l => by
    simp only [D.pyA, List.any_cons]
    rw [pyA_any x l]
    rfl
theorem one_sign {s : Str} (h : s.cps.size = 1) : s = ⟨#[s.cps.getD 0 0]⟩ := by
  obtain ⟨⟨l⟩⟩ := s
  match l, h with
  | [c], _ => rfl
section
variable {X : Cx}
theorem op_inDD {k : Nat} (hr : Room k X.A) : OpR X (compareOp .In) (rdC X.K inD) := by
  intro pins s σ H x y v u Q I rx ry h
  obtain ⟨A, dx, dy, hA, r1, r2, b, e, q⟩ := h
  have hu := hr.units
  cases r2 with
  | @list a xs l h1 h2 h3 =>
    obtain ⟨⟨p1, p2, p3⟩, rfl⟩ := if_some e
    obtain ⟨as, q1⟩ := Dp.reads I _ x v (Rp.dp dx x p1 (r1.up hid_sub)) rx
    obtain ⟨bs, q2⟩ := Dp.reads I (D.py (.list l)) (.ref a) u (Rp.dp (.list l) _ (by simp only [D.pl]; exact p2) ((Rp.list h1 h2 h3).up hid_sub)) ry
    simp only [D.py] at q2
    refine SeqAt.in_list_data q2 q1 (D.pyA_plain l) (D.py_plain _) ?_ ⟨.bl _, H, I, rfl, ?_⟩
    · unfold dep depA at p3
      omega
    · rw [pyA_any]
      exact q
  | @tuple a xs l h1 h2 h3 =>
    obtain ⟨⟨p1, p2, p3⟩, rfl⟩ := if_some e
    obtain ⟨as, q1⟩ := Dp.reads I _ x v (Rp.dp dx x p1 (r1.up hid_sub)) rx
    obtain ⟨bs, q2⟩ := Dp.reads I (D.py (.tuple l)) (.ref a) u (Rp.dp (.tuple l) _ (by simp only [D.pl]; exact p2) ((Rp.tuple h1 h2 h3).up hid_sub)) ry
    simp only [D.py] at q2
    refine SeqAt.in_tuple_data q2 q1 (D.pyA_plain l) (D.py_plain _) ?_ ⟨.bl _, H, I, rfl, ?_⟩
    · unfold dep depA at p3
      omega
    · rw [pyA_any]
      exact q
  | @dk a kvs h1 h2 =>
    obtain ⟨k, e1, rfl⟩ := Option.map_eq_some_iff.mp (show (dkey dx).map (fun k => (valV kvs k).isSome) = some b from e)
    cases ry
    have ex := dkey_V r1 e1
    subst ex
    exact d_in (by omega) I (DGet.k (hid_sub _ _ h1)) rx fun s3 I3 => ⟨.bl _, H, I3, rfl, q⟩
  | @dt a kvs h1 h2 =>
    cases r1 with
    | @tuple b' xs l g1 g2 g3 =>
      obtain ⟨k, e1, rfl⟩ := Option.map_eq_some_iff.mp (show (dkeys l).map (fun k => (valV kvs k).isSome) = some b from e)
      cases ry
      have ex := dkeys_V g3 e1
      subst ex
      exact d_in (by omega) I (DGet.t (hid_sub _ _ h1) (hid_sub _ _ g1)) rx fun s3 I3 => ⟨.bl _, H, I3, rfl, q⟩
    | _ => cases e
  | @fdt a o kvs h1 h2 =>
    cases r1 with
    | @tuple b' xs l g1 g2 g3 =>
      obtain ⟨k, e1, rfl⟩ := Option.map_eq_some_iff.mp (show (dkeys l).map (fun k => (valV kvs k).isSome) = some b from e)
      cases ry
      have ex := dkeys_V g3 e1
      subst ex
      exact d_in (by omega) I (.inr ⟨kvs, k, b', .inr ⟨o, hid_sub _ _ h1⟩, rfl, hid_sub _ _ g1, rfl⟩) rx fun s3 I3 => ⟨.bl _, H, I3, rfl, q⟩
    | _ => cases e
  | @ftup a o xs l h1 h0 h2 h3 =>
    obtain ⟨⟨p1, p2, p3⟩, rfl⟩ := if_some e
    obtain ⟨as, q1⟩ := Dp.reads I _ x v (Rp.dp dx x p1 (r1.up hid_sub)) rx
    obtain ⟨bs, q2⟩ := Dp.reads I (D.py (.ftup l)) (.ref a) u (Rp.dp (.ftup l) _ (by simp only [D.pl]; exact p2) ((Rp.ftup h1 h0 h2 h3).up hid_sub)) ry
    simp only [D.py] at q2
    refine SeqAt.in_tuple_data q2 q1 (D.pyA_plain l) (D.py_plain _) ?_ ⟨.bl _, H, I, rfl, ?_⟩
    · unfold dep depA at p3
      omega
    · rw [pyA_any]
      exact q
  | str z =>
    cases r1 with
    | str c =>
      obtain ⟨h1, rfl⟩ := if_some e
      have hc := one_sign h1
      refine op_in_sign pins s σ H _ _ v u Q I rx ry ⟨c.cps.getD 0 0, z, ?_, rfl, q⟩
      rw [← hc]
    | _ => cases e
  | _ => cases e
theorem op_ninDD {k : Nat} (hr : Room k X.A) : OpR X (compareOp .NotIn) (rdC X.K ninD) := by
  intro pins s σ H x y v u Q I rx ry h
  obtain ⟨A, dx, dy, hA, r1, r2, b0, e0, q⟩ := h
  have hu := hr.units
  obtain ⟨b, e, rfl⟩ := Option.map_eq_some_iff.mp e0
  cases r2 with
  | @list a xs l h1 h2 h3 =>
    obtain ⟨⟨p1, p2, p3⟩, rfl⟩ := if_some e
    obtain ⟨as, q1⟩ := Dp.reads I _ x v (Rp.dp dx x p1 (r1.up hid_sub)) rx
    obtain ⟨bs, q2⟩ := Dp.reads I (D.py (.list l)) (.ref a) u (Rp.dp (.list l) _ (by simp only [D.pl]; exact p2) ((Rp.list h1 h2 h3).up hid_sub)) ry
    simp only [D.py] at q2
    refine SeqAt.notIn_list_data q2 q1 (D.pyA_plain l) (D.py_plain _) ?_ ⟨.bl _, H, I, rfl, ?_⟩
    · unfold dep depA at p3
      omega
    · rw [pyA_any]
      exact q
  | @tuple a xs l h1 h2 h3 =>
    obtain ⟨⟨p1, p2, p3⟩, rfl⟩ := if_some e
    obtain ⟨as, q1⟩ := Dp.reads I _ x v (Rp.dp dx x p1 (r1.up hid_sub)) rx
    obtain ⟨bs, q2⟩ := Dp.reads I (D.py (.tuple l)) (.ref a) u (Rp.dp (.tuple l) _ (by simp only [D.pl]; exact p2) ((Rp.tuple h1 h2 h3).up hid_sub)) ry
    simp only [D.py] at q2
    refine SeqAt.notIn_tuple_data q2 q1 (D.pyA_plain l) (D.py_plain _) ?_ ⟨.bl _, H, I, rfl, ?_⟩
    · unfold dep depA at p3
      omega
    · rw [pyA_any]
      exact q
  | @dk a kvs h1 h2 =>
    obtain ⟨k, e1, rfl⟩ := Option.map_eq_some_iff.mp (show (dkey dx).map (fun k => (valV kvs k).isSome) = some b from e)
    cases ry
    have ex := dkey_V r1 e1
    subst ex
    exact d_notIn (by omega) I (DGet.k (hid_sub _ _ h1)) rx fun s3 I3 => ⟨.bl _, H, I3, rfl, q⟩
  | @dt a kvs h1 h2 =>
    cases r1 with
    | @tuple b' xs l g1 g2 g3 =>
      obtain ⟨k, e1, rfl⟩ := Option.map_eq_some_iff.mp (show (dkeys l).map (fun k => (valV kvs k).isSome) = some b from e)
      cases ry
      have ex := dkeys_V g3 e1
      subst ex
      exact d_notIn (by omega) I (DGet.t (hid_sub _ _ h1) (hid_sub _ _ g1)) rx fun s3 I3 => ⟨.bl _, H, I3, rfl, q⟩
    | _ => cases e
  | @fdt a o kvs h1 h2 =>
    cases r1 with
    | @tuple b' xs l g1 g2 g3 =>
      obtain ⟨k, e1, rfl⟩ := Option.map_eq_some_iff.mp (show (dkeys l).map (fun k => (valV kvs k).isSome) = some b from e)
      cases ry
      have ex := dkeys_V g3 e1
      subst ex
      exact d_notIn (by omega) I (.inr ⟨kvs, k, b', .inr ⟨o, hid_sub _ _ h1⟩, rfl, hid_sub _ _ g1, rfl⟩) rx fun s3 I3 => ⟨.bl _, H, I3, rfl, q⟩
    | _ => cases e
  | @ftup a o xs l h1 h0 h2 h3 =>
    obtain ⟨⟨p1, p2, p3⟩, rfl⟩ := if_some e
    obtain ⟨as, q1⟩ := Dp.reads I _ x v (Rp.dp dx x p1 (r1.up hid_sub)) rx
    obtain ⟨bs, q2⟩ := Dp.reads I (D.py (.ftup l)) (.ref a) u (Rp.dp (.ftup l) _ (by simp only [D.pl]; exact p2) ((Rp.ftup h1 h0 h2 h3).up hid_sub)) ry
    simp only [D.py] at q2
    refine SeqAt.notIn_tuple_data q2 q1 (D.pyA_plain l) (D.py_plain _) ?_ ⟨.bl _, H, I, rfl, ?_⟩
    · unfold dep depA at p3
      omega
    · rw [pyA_any]
      exact q
  | str z =>
    cases r1 with
    | str c =>
      obtain ⟨h1, rfl⟩ := if_some e
      have hc := one_sign h1
      refine op_notIn_sign pins s σ H _ _ v u Q I rx ry ⟨c.cps.getD 0 0, z, ?_, rfl, q⟩
      rw [← hc]
    | _ => cases e
  | _ => cases e

/-! ### subscripts -/
def getD : D → D → Option D
  | .list l, .int i => atI l i
  | .tuple l, .int i => atI l i
  | .ftup l, .int i => atI l i
  | .scr l, .int i => (atI l i).map .int
  | .str z, .int i => if z.length ≤ 1000000 then (atI z.cps.toList i).map fun c => .str ⟨#[c]⟩ else none
  | .dk kvs, d => (dkey d).bind fun k => (valV kvs k).map dv
  | _, _ => none
theorem atI_R {K : PySem.W.Frag} {H : Hp} {ds : List D} {vs : List V} {i : Int} {d : D} (r : RpA K H vs ds) (h : atI ds i = some d) : ∃ v, atI vs i = some v ∧ Rp K H v d := by
  unfold atI at h ⊢
  rw [r.len]
  obtain ⟨j, e1, e2⟩ := Option.bind_eq_some_iff.mp h
  obtain ⟨v, h1, h2⟩ := r.get e2
  exact ⟨v, by rw [e1]; exact h1, h2⟩
theorem atI_map {α β : Type} (f : α → β) (l : List α) (i : Int) : atI (l.map f) i = (atI l i).map f := by
  unfold atI
  rw [List.length_map]
  cases ixN l.length i with
  | none => rfl
  | some j => simp
theorem ix_getD : IxR X (rdO X.K fun a b => match a with | .dk _ => none | _ => getD a b) := by
  intro value slice pins s σ H x y v u Q I rx ry h hs
  obtain ⟨A, dx, dy, hA, r1, r2, d, e, q⟩ := h
  cases r1 with
  | @list a xs l h1 h2 h3 =>
    cases r2 with
    | int i =>
      obtain ⟨z, e1, e2⟩ := atI_R h3 e
      exact ix_list value slice pins s σ H _ _ v u Q I rx ry ⟨a, xs, i, z, rfl, rfl, SqL.of (hid_sub _ _ h1), e1, q _ H (Same.refl H) e2⟩ hs
    | _ => cases e
  | @tuple a xs l h1 h2 h3 =>
    cases r2 with
    | int i =>
      obtain ⟨z, e1, e2⟩ := atI_R h3 e
      exact ix_tup value slice pins s σ H _ _ v u Q I rx ry ⟨a, xs, i, z, rfl, rfl, SqT.of (hid_sub _ _ h1), e1, q _ H (Same.refl H) e2⟩ hs
    | _ => cases e
  | @ftup a o xs l h1 h0 h2 h3 =>
    cases r2 with
    | int i =>
      obtain ⟨z, e1, e2⟩ := atI_R h3 e
      exact ix_tup value slice pins s σ H _ _ v u Q I rx ry ⟨a, xs, i, z, rfl, rfl, .inl (.inr ⟨o, hid_sub _ _ h1⟩), e1, q _ H (Same.refl H) e2⟩ hs
    | _ => cases e
  | @scr a ns h1 h2 =>
    cases r2 with
    | int i =>
      obtain ⟨n, e1, rfl⟩ := Option.map_eq_some_iff.mp (show (atI ns i).map D.int = some d from e)
      refine ix_list value slice pins s σ H _ _ v u Q I rx ry ⟨a, _, i, .int n, rfl, rfl, hidL h1, ?_, q _ H (Same.refl H) (.int n)⟩ hs
      rw [atI_map, e1]
      rfl
    | _ => cases e
  | str z =>
    cases r2 with
    | int i =>
      replace e : (if z.length ≤ 1000000 then (atI z.cps.toList i).map fun c => D.str ⟨#[c]⟩ else none) = some d := e
      split at e
      · rename_i hl
        obtain ⟨c, e1, rfl⟩ := Option.map_eq_some_iff.mp e
        exact ix_str value slice pins s σ H _ _ v u Q I rx ry ⟨z, i, c, rfl, rfl, capS_ok hl, e1, q _ H (Same.refl H) (.str _)⟩ hs
      · cases e
    | _ => cases e
  | _ => cases e
variable {c : Pc} {m : Bool} {a b : Expr} {f1 f2 : DE} {pos : Pos}
theorem pd_sub {k : Nat} (hr : Room k X.A) (ha : PD X c m a f1) (hb : PD X c m b f2) (hs : PlainIx b := by exact fun _ _ => rfl) : PD X c m (.Subscript a b pos) (dOp getD f1 f2) := by
  refine ⟨fun pins s σ H Q I hw => ?_⟩
  obtain ⟨F, ρ, E, w⟩ := hw
  have hu := hr.units
  by_cases hk : ∃ kvs, f1 ρ = .ok (.dk kvs)
  · obtain ⟨kvs, hk⟩ := hk
    refine (pe_dget (by omega) ha hb hs).run pins s σ H Q I ⟨F, ρ, E, ?_⟩
    unfold dOp at w
    rw [hk] at w ⊢
    intro v1 H1 s1 r1
    refine ⟨F, ρ, E.up s1, (Out.wp_bind (o := f2 ρ) (f := fun y => Out.of (getD (.dk kvs) y)) w).imp (fun y k2 v2 H2 s2 r2 => ?_) fun _ z => z.up s1⟩
    obtain ⟨d, e, q⟩ := of_wp k2
    cases r1 with
    | @dk ad _ h1 h2 =>
      obtain ⟨ky, e1, e2⟩ := Option.bind_eq_some_iff.mp (show (dkey y).bind (fun k => (valV kvs k).map dv) = some d from e)
      obtain ⟨v0, e3, rfl⟩ := Option.map_eq_some_iff.mp e2
      have ex := dkey_V r2 e1
      subst ex
      have hsc : scV v0 = true := by
        unfold valV at e3
        obtain ⟨p, hp, rfl⟩ := Option.map_eq_some_iff.mp e3
        exact List.all_eq_true.mp h2 p (List.mem_of_find?_eq_some hp)
      refine ⟨ad, v0, rfl, ?_, q _ H2 (s1.trans s2) (Rp.of_scV hsc)⟩
      have := DGet.k (k := ky) (s2 _ _ (hid_sub _ _ h1))
      rw [e3] at this
      exact this
  · refine (pe_ix ix_getD ha hb hs).run pins s σ H Q I (two (m := m) (P := fun _ _ _ _ _ => True) E ?_)
    cases hf : f1 ρ with
    | bad => unfold dOp at w; rw [hf] at w; exact w
    | err x => unfold dOp at w; rw [hf] at w; exact w
    | ok d1 =>
      unfold dOp at w
      rw [hf] at w
      exact (Out.wp_bind (o := f2 ρ) (f := fun y => Out.of (getD d1 y)) w).imp (fun y k2 v u H' s r1 r2 => by
        obtain ⟨d, e, q⟩ := of_wp k2
        refine ⟨_, d1, y, (E.up s).hdom m, r1, r2, d, ?_, fun v' H2 s2 r => q v' H2 (s.trans s2) r⟩
        cases d1 <;> first | exact e | exact absurd hf (fun z => hk ⟨_, z⟩)) fun _ z => z
/-- x[i], x a list that is owned -/
theorem pd_subO (i : Nat) (k : Kd) {x : Str} {p1 : Pos} (hb : PD X c true b f2) (ho : isOw c.O i k = true := by rfl) (hk : k = .l ∨ k = .p := by first | exact .inl rfl | exact .inr rfl) (hs : PlainIx b := by exact fun _ _ => rfl)
    (pe : PE X (.Name x p1) (tVar i) := by exact pv _) : PD X c m (.Subscript (.Name x p1) b pos) (dOp getD (dVar i) f2) :=
  PD.weak (PE.imp (pe_ix ix_list pe hb hs) fun σ H Q ⟨F, ρ, E, w⟩ => by
    obtain ⟨d, e1, w1⟩ := dVar_wp (Out.wp_bind w)
    obtain ⟨a, xs, ds, z, h2, h3, h4, h5⟩ := E.lst (isOw_of ho) hk e1
    subst z
    refine ⟨_, h2, F, ρ, E, (Out.wp_bind w1).imp (fun y k2 v H1 s1 r => ?_) fun _ z => z⟩
    obtain ⟨d, e, q⟩ := of_wp k2
    cases r <;> try (cases e)
    rename_i n
    obtain ⟨z, e3, e4⟩ := atI_R h5 e
    exact ⟨a, xs, n, z, rfl, rfl, SqL.of (s1 _ _ h3), e3, q _ H1 s1 (e4.up (hid_mono s1))⟩)

/-! ### slices -/
def cutD (l : List D) (lo hi : Option Int) : List D := (l.drop (HT.sIx l.length 0 lo)).take (HT.sIx l.length l.length hi - HT.sIx l.length 0 lo)
def sliceD (d : D) (lo hi : Option Int) : Option D := match d with
  | .list l => some (.list (cutD l lo hi))
  | .tuple l => some (.tuple (cutD l lo hi))
  | .scr l => some (.list ((l.drop (HT.sIx l.length 0 lo)).take (HT.sIx l.length l.length hi - HT.sIx l.length 0 lo) |>.map .int))
  | .str z => if z.length ≤ 1000000 then some (.str (cutS z lo hi)) else none
  | _ => none
theorem cut_R {K : PySem.W.Frag} {H : Hp} {ds : List D} {vs : List V} (r : RpA K H vs ds) (lo hi : Option Int) : RpA K H (cutV vs lo hi) (cutD ds lo hi) := by
  unfold cutV cutD
  rw [r.len]
  exact (r.drop _).take _
abbrev DOI := Env → Out (Option Int)
def rdPO (K : PySem.W.Frag) (c : Pc) (f : DOI) : TO := fun σ H Q => ∃ F ρ, EnvR K c.O F ρ σ H ∧ (f ρ).wp (fun o => ∀ H', Same H H' → Q o H') (erW c σ H)
def dNoP : DOI := fun _ => .ok none
def dPart (f : DE) : DOI := fun ρ => (f ρ).bind fun d => match d with
  | .int i => .ok (some i)
  | _ => .bad
abbrev POD (X : Cx) (c : Pc) (e : Option Expr) (f : DOI) : Prop := PO X e (rdPO X.K c f)
theorem PO.imp {e : Option Expr} {t t' : TO} (h : PO X e t) (f : ∀ σ H Q, t' σ H Q → t σ H Q) : PO X e t' := ⟨fun pins s σ H Q I q => h.run pins s σ H Q I (f σ H Q q)⟩
theorem po_noneD : POD X c none dNoP := PO.imp po_none fun σ H Q ⟨F, ρ, E, w⟩ => w H (Same.refl H)
theorem po_someD {e : Expr} {f : DE} (h : PD X c false e f) : POD X c (some e) (dPart f) := PO.imp (po_some h) fun σ H Q ⟨F, ρ, E, w⟩ => ⟨F, ρ, E, (Out.wp_bind w).imp (fun d k v H1 s r => by
  cases r <;> try (exact k.elim)
  exact ⟨_, rfl, k H1 s⟩) fun _ z => z⟩
def dSlice (f : DE) (lo hi : DOI) : DE := fun ρ => (f ρ).bind fun d => (lo ρ).bind fun l => (hi ρ).bind fun h => .of (sliceD d l h)
def rdSl (K : PySem.W.Frag) : V → Option Int → Option Int → Hp → VK → Prop := fun x lo hi H Q => ∃ A dx, Dom A H ∧ Rp K (hid A H) x dx ∧ ∃ d, sliceD dx lo hi = some d ∧ ∀ v H', Same H H' → Rp K (hid A H') v d → Q v H'
theorem sl_D : SlR X (rdSl X.K) := by
  intro pins s σ H x v vl vu lo hi sl Q I rx hsl pl pu h
  obtain ⟨A, dx, hA, r1, d, e, q⟩ := h
  cases r1 with
  | @list a xs l h1 h2 h3 =>
    cases e
    refine sl_list pins s σ H _ v vl vu lo hi sl Q I rx hsl pl pu ⟨a, xs, rfl, SqL.of (hid_sub _ _ h1), fun p hp => ?_⟩
    obtain ⟨s1, r⟩ := new_list hA hp (Nat.le_trans (cutV_length _ _ _) h2) (cut_R h3 lo hi)
    exact q _ _ s1 r
  | @tuple a xs l h1 h2 h3 =>
    cases e
    refine sl_tupA pins s σ H _ v vl vu lo hi sl Q I rx hsl pl pu ⟨a, xs, rfl, SqT.of (hid_sub _ _ h1), fun z => ?_, fun _ p hp => ?_⟩
    · have e2 : cutD l lo hi = l := by
        unfold cutD
        rw [h3.len] at z
        rw [z.1, z.2, Nat.sub_zero, List.drop_zero, List.take_length]
      rw [e2] at q
      exact q _ H (Same.refl H) (.tuple h1 h2 h3)
    · obtain ⟨s1, r⟩ := new_tup hA hp (Nat.le_trans (cutV_length _ _ _) h2) (cut_R h3 lo hi)
      exact q _ _ s1 r
  | @scr a ns h1 h2 =>
    cases e
    refine sl_list pins s σ H _ v vl vu lo hi sl Q I rx hsl pl pu ⟨a, _, rfl, hidL h1, fun p hp => ?_⟩
    have ec : cutV (ns.map V.int) lo hi = ((ns.drop (HT.sIx ns.length 0 lo)).take (HT.sIx ns.length ns.length hi - HT.sIx ns.length 0 lo)).map V.int := by
      unfold cutV
      rw [List.length_map, List.map_take, List.map_drop]
    rw [ec]
    obtain ⟨s1, r⟩ := new_list (K := X.K) hA hp (by rw [← ec]; exact Nat.le_trans (cutV_length _ _ _) (by rw [List.length_map]; exact h2)) (RpA.of_ints ((ns.drop (HT.sIx ns.length 0 lo)).take (HT.sIx ns.length ns.length hi - HT.sIx ns.length 0 lo)))
    exact q _ _ s1 r
  | str z =>
    obtain ⟨hl, rfl⟩ := if_some e
    exact sl_str pins s σ H _ v vl vu lo hi sl Q I rx hsl pl pu ⟨z, rfl, capS_ok hl, q _ H (Same.refl H) (.str _)⟩
  | _ => cases e
theorem pd_slice {e : Expr} {lo hi : Option Expr} {f : DE} {fl fh : DOI} {p2 : Pos} (he : PD X c m e f) (hl : POD X c lo fl) (hh : POD X c hi fh) : PD X c m (.Subscript e (.Slice lo hi none p2) pos) (dSlice f fl fh) :=
  PE.imp (pe_slice sl_D he hl hh) fun σ H Q ⟨F, ρ, E, w⟩ => ⟨F, ρ, E, (Out.wp_bind w).imp (fun d k v H1 s1 r => ⟨F, ρ, E.up s1, (Out.wp_bind k).imp (fun l k2 H2 s2 => ⟨F, ρ, E.up (s1.trans s2), (Out.wp_bind k2).imp (fun h k3 H3 s3 => by
    obtain ⟨d', e', q⟩ := of_wp k3
    have s13 := (s1.trans s2).trans s3
    exact ⟨_, d, (E.up s13).hdom m, (r.up (hid_mono s2)).up (hid_mono s3), d', e', fun v' H' s r' => q v' H' (s13.trans s) r'⟩) fun _ z => z.up (s1.trans s2)⟩) fun _ z => z.up s1⟩) fun _ z => z⟩
end
end Pd

/-! Pd6: built-ins by data. -/
namespace Pd
open PySem L2 PyProof.Rows
def lenD : List D → Option D
  | [.list l] => some (.int l.length)
  | [.tuple l] => some (.int l.length)
  | [.scr l] => some (.int l.length)
  | [.str z] => if z.length ≤ 1000000 then some (.int z.length) else none
  | [.dt kvs] => some (.int kvs.length)
  | [.ftup l] => some (.int l.length)
  | [.fdt kvs] => some (.int kvs.length)
  | _ => none
def intC : List D → Option D
  | [.int i] => some (.int i)
  | [.bool b] => some (.int (if b then 1 else 0))
  | _ => none
def strC : List D → Option D
  | [.int i] => if i.natAbs < 2 ^ 1900 then some (.str (toString i)) else none
  | _ => none
def boolsOf : List D → Option (List Bool)
  | [] => some []
  | .bool b :: l => (boolsOf l).map (b :: ·)
  | _ :: _ => none
theorem boolsOf_some : ∀ {l : List D} {ns : List Bool}, boolsOf l = some ns → l = ns.map .bool
  | [], ns, h => by cases h; rfl
  | d :: l, ns, h => by
    cases d <;> try (cases h; done)
    unfold boolsOf at h
    obtain ⟨ms, e, rfl⟩ := Option.map_eq_some_iff.mp h
    rw [boolsOf_some (l := l) e]
    rfl
@[simp] theorem boolsOf_map (ns : List Bool) : boolsOf (ns.map .bool) = some ns := by
  induction ns with
  | nil => rfl
  | cons n ns ih =>
    rw [List.map_cons]
    unfold boolsOf
    rw [ih]
    rfl
theorem RpA.bools {K : PySem.W.Frag} {H : Hp} : ∀ {ns : List Bool} {vs : List V}, RpA K H vs (ns.map .bool) → vs = ns.map V.bl
  | [], _, h => by cases h; rfl
  | n :: ns, _, h => by
    cases h with
    | cons r t =>
      cases r
      rw [RpA.bools t]
      rfl
def maxC : List D → Option D
  | [.list l] => (intsOf l).bind fun ns => ns.max?.map .int
  | [.int i, .int j] => some (.int (if j > i then j else i))
  | _ => none
def minC : List D → Option D
  | [.list l] => (intsOf l).bind fun ns => ns.min?.map .int
  | [.int i, .int j] => some (.int (if j < i then j else i))
  | _ => none
def sumC : List D → Option D
  | [.list l] => (intsOf l).map fun ns => .int ns.sum
  | _ => none
def allC : List D → Option D
  | [.list l] => (boolsOf l).map fun bs => .bool (bs.all id)
  | _ => none
def anyC : List D → Option D
  | [.list l] => (boolsOf l).map fun bs => .bool (bs.any id)
  | _ => none
/-- the rising list -/
def sortI (ns : List Int) : List Int := ns.mergeSort fun a b => decide (a ≤ b)
theorem sortI_unique {ns ms : List Int} (p : ms.Perm ns) (s : ms.Pairwise (· ≤ ·)) : ms = sortI ns := by
  have h1 : (sortI ns).Pairwise (· ≤ ·) := by
    have := List.pairwise_mergeSort (le := fun a b : Int => decide (a ≤ b)) (fun a b c h1 h2 => by simp at h1 h2 ⊢; omega) (fun a b => by simp; omega) ns
    exact this.imp fun h => by simpa using h
  exact List.Perm.eq_of_pairwise (fun a b _ _ h1 h2 => by omega) s h1 (p.trans (List.mergeSort_perm ns _).symm)
def keysI : List (Key × V) → Option (List Int)
  | [] => some []
  | (.inl i, _) :: l => (keysI l).map (i :: ·)
  | _ :: _ => none
theorem keysI_some : ∀ {l : List (Key × V)} {ns : List Int}, keysI l = some ns → l.map (·.1) = ns.map Sum.inl
  | [], ns, h => by cases h; rfl
  | (.inl i, _) :: l, ns, h => by
    unfold keysI at h
    obtain ⟨ms, e, rfl⟩ := Option.map_eq_some_iff.mp h
    rw [List.map_cons, keysI_some (l := l) e]
    rfl
  | (.inr _, _) :: _, _, h => by cases h
def sortC : List D → Option D
  | [.list l] => (intsOf l).map fun ns => .list ((sortI ns).map .int)
  | [.dk kvs] => (keysI kvs).bind fun ns => if ns.length < 64 then some (.list ((sortI ns).map .int)) else none
  | _ => none
def listC : List D → Option D
  | [.list l] => some (.list l)
  | [.tuple l] => some (.list l)
  | [.dk kvs] => if kvs.length ≤ 100000 then some (.list (kvs.map fun p => keyD p.1)) else none
  | _ => none
def tupC : List D → Option D
  | [.list l] => some (.tuple l)
  | [.tuple l] => some (.tuple l)
  | _ => none
section
variable {X : Cx}
theorem rp1 {K : PySem.W.Frag} {H : Hp} {vs : List V} {d : D} (r : RpA K H vs [d]) : ∃ v, vs = [v] ∧ Rp K H v d := by
  cases r with
  | cons r1 r2 => cases r2; exact ⟨_, rfl, r1⟩
theorem rp2 {K : PySem.W.Frag} {H : Hp} {vs : List V} {d e : D} (r : RpA K H vs [d, e]) : ∃ v u, vs = [v, u] ∧ Rp K H v d ∧ Rp K H u e := by
  cases r with
  | cons r1 r2 =>
    obtain ⟨u, rfl, r3⟩ := rp1 r2
    exact ⟨_, u, rfl, r1, r3⟩
/-- len(d), d a dict with tuples as keys that is known to the object -/
theorem call_len_fT : CallR X (.builtin "len") (fun xs H Q => ∃ (p : Addr) (o : Obj) (kvs : List (List Key × V)), xs = [.ref p] ∧ H p = some (.frz o (.dT kvs)) ∧ Q (.int (kvs.length : Nat)) H) := by
  intro pins s σ H xs us Q I r h
  obtain ⟨p, o, kvs, rfl, hp, q⟩ := h
  rw [Vals.ref1 r]
  obtain ⟨z, hd, ys, rel, dd⟩ := dt_rd I.hok (.inr ⟨o, hp⟩)
  have hl : kvs.length = ys.length := Paired.length rel
  refine call_len_dictH hd dd (by rw [← hl]; have := sizeLine_eq; omega) ?_
  rw [← hl]
  exact ⟨.int (kvs.length : Nat), H, I.tok _, ⟨_, rfl⟩, q⟩
theorem cr_lenD : CallR X (.builtin "len") (rdL X.K lenD) := by
  intro pins s σ H xs us Q I r h
  obtain ⟨A, ds, hA, ra, d, e, q⟩ := h
  unfold lenD at e
  split at e
  · cases e
    obtain ⟨v, rfl, rv⟩ := rp1 ra
    cases rv with
    | list h1 h2 h3 => exact call_len pins s σ H _ us Q I r ⟨_, _, rfl, .inl ⟨_, SqL.of (hid_sub _ _ h1), rfl⟩, by rw [h3.len]; exact q _ H (Same.refl H) (.int _)⟩
  · cases e
    obtain ⟨v, rfl, rv⟩ := rp1 ra
    cases rv with
    | tuple h1 h2 h3 => exact call_len pins s σ H _ us Q I r ⟨_, _, rfl, .inr ⟨_, SqT.of (hid_sub _ _ h1), rfl⟩, by rw [h3.len]; exact q _ H (Same.refl H) (.int _)⟩
  · cases e
    obtain ⟨v, rfl, rv⟩ := rp1 ra
    cases rv with
    | scr h1 h2 => exact call_len pins s σ H _ us Q I r ⟨_, _, rfl, .inl ⟨_, hidL h1, rfl⟩, by rw [List.length_map]; exact q _ H (Same.refl H) (.int _)⟩
  · obtain ⟨hl, rfl⟩ := if_some e
    obtain ⟨v, rfl, rv⟩ := rp1 ra
    cases rv
    exact call_len pins s σ H _ us Q I r ⟨_, _, rfl, ⟨capS_ok hl, rfl⟩, q _ H (Same.refl H) (.int _)⟩
  · cases e
    obtain ⟨v, rfl, rv⟩ := rp1 ra
    cases rv with
    | dt h1 h2 => exact call_len_dT pins s σ H _ us Q I r ⟨_, _, rfl, hid_sub _ _ h1, q _ H (Same.refl H) (.int _)⟩
  · cases e
    obtain ⟨v, rfl, rv⟩ := rp1 ra
    cases rv with
    | @ftup a o xs _ h1 h0 h2 h3 => exact call_len pins s σ H _ us Q I r ⟨_, _, rfl, .inr ⟨_, .inl (.inr ⟨o, hid_sub _ _ h1⟩), rfl⟩, by rw [h3.len]; exact q _ H (Same.refl H) (.int _)⟩
  · cases e
    obtain ⟨v, rfl, rv⟩ := rp1 ra
    cases rv with
    | fdt h1 h2 => exact call_len_fT pins s σ H _ us Q I r ⟨_, _, _, rfl, hid_sub _ _ h1, q _ H (Same.refl H) (.int _)⟩
  · cases e
theorem cr_intD : CallR X (.type "int") (rdL X.K intC) := by
  intro pins s σ H xs us Q I r h
  obtain ⟨A, ds, hA, ra, d, e, q⟩ := h
  unfold intC at e
  split at e
  · cases e
    obtain ⟨v, rfl, rv⟩ := rp1 ra
    cases rv
    exact call_int1 pins s σ H _ us Q I r (.inl ⟨_, rfl, q _ H (Same.refl H) (.int _)⟩)
  · cases e
    obtain ⟨v, rfl, rv⟩ := rp1 ra
    cases rv
    exact call_int1 pins s σ H _ us Q I r (.inr ⟨_, rfl, q _ H (Same.refl H) (.int _)⟩)
  · cases e
theorem cr_strD : CallR X (.type "str") (rdL X.K strC) := by
  intro pins s σ H xs us Q I r h
  obtain ⟨A, ds, hA, ra, d, e, q⟩ := h
  unfold strC at e
  split at e
  · obtain ⟨hl, rfl⟩ := if_some e
    obtain ⟨v, rfl, rv⟩ := rp1 ra
    cases rv
    rename_i i
    refine call_str_int pins s σ H _ us Q I r ⟨i, rfl, ?_, q _ H (Same.refl H) (.str _)⟩
    by_cases h0 : i.natAbs = 0
    · rw [h0]
      decide
    · have := (Nat.log2_lt h0).mpr hl
      omega
  · cases e
theorem cr_maxD (hc : X.calm = true) : CallR X (.builtin "max") (rdL X.K maxC) := by
  intro pins s σ H xs us Q I r h
  obtain ⟨A, ds, hA, ra, d, e, q⟩ := h
  unfold maxC at e
  split at e
  · obtain ⟨v, rfl, rv⟩ := rp1 ra
    obtain ⟨ns, e1, e2⟩ := Option.bind_eq_some_iff.mp e
    obtain ⟨m, e3, rfl⟩ := Option.map_eq_some_iff.mp e2
    have el := intsOf_some e1
    subst el
    cases rv with
    | list h1 h2 h3 =>
      have ex := h3.ints
      subst ex
      obtain ⟨m1, m2⟩ := List.max?_eq_some_iff.mp e3
      refine cr_max hc pins s σ H _ us Q I r ⟨_, ns, rfl, SqL.of (hid_sub _ _ h1), ?_, fun m' k1 k2 => ?_⟩
      · cases ns with
        | nil => cases m1
        | cons _ _ => exact Nat.succ_pos _
      · have : m' = m := Int.le_antisymm (m2 m' k1) (k2 m m1)
        rw [this]
        exact q _ H (Same.refl H) (.int _)
  · cases e
    obtain ⟨v, u, rfl, rv, ru⟩ := rp2 ra
    cases rv
    cases ru
    exact call_max2 hc pins s σ H _ us Q I r ⟨_, _, rfl, q _ H (Same.refl H) (.int _)⟩
  · cases e
theorem cr_minD (hc : X.calm = true) : CallR X (.builtin "min") (rdL X.K minC) := by
  intro pins s σ H xs us Q I r h
  obtain ⟨A, ds, hA, ra, d, e, q⟩ := h
  unfold minC at e
  split at e
  · obtain ⟨v, rfl, rv⟩ := rp1 ra
    obtain ⟨ns, e1, e2⟩ := Option.bind_eq_some_iff.mp e
    obtain ⟨m, e3, rfl⟩ := Option.map_eq_some_iff.mp e2
    have el := intsOf_some e1
    subst el
    cases rv with
    | list h1 h2 h3 =>
      have ex := h3.ints
      subst ex
      obtain ⟨m1, m2⟩ := List.min?_eq_some_iff.mp e3
      refine cr_min hc pins s σ H _ us Q I r ⟨_, ns, rfl, SqL.of (hid_sub _ _ h1), ?_, fun m' k1 k2 => ?_⟩
      · cases ns with
        | nil => cases m1
        | cons _ _ => exact Nat.succ_pos _
      · have : m' = m := Int.le_antisymm (k2 m m1) (m2 m' k1)
        rw [this]
        exact q _ H (Same.refl H) (.int _)
  · cases e
    obtain ⟨v, u, rfl, rv, ru⟩ := rp2 ra
    cases rv
    cases ru
    exact call_min2 hc pins s σ H _ us Q I r ⟨_, _, rfl, q _ H (Same.refl H) (.int _)⟩
  · cases e
theorem cr_sumD (hc : X.calm = true) : CallR X (.builtin "sum") (rdL X.K sumC) := by
  intro pins s σ H xs us Q I r h
  obtain ⟨A, ds, hA, ra, d, e, q⟩ := h
  unfold sumC at e
  split at e
  · obtain ⟨v, rfl, rv⟩ := rp1 ra
    obtain ⟨ns, e1, rfl⟩ := Option.map_eq_some_iff.mp e
    have el := intsOf_some e1
    subst el
    cases rv with
    | list h1 h2 h3 =>
      have ex := h3.ints
      subst ex
      exact cr_sum hc pins s σ H _ us Q I r ⟨_, ns, rfl, SqL.of (hid_sub _ _ h1), q _ H (Same.refl H) (.int _)⟩
  · cases e
theorem cr_allD (hc : X.calm = true) : CallR X (.builtin "all") (rdL X.K allC) := by
  intro pins s σ H xs us Q I r h
  obtain ⟨A, ds, hA, ra, d, e, q⟩ := h
  unfold allC at e
  split at e
  · obtain ⟨v, rfl, rv⟩ := rp1 ra
    obtain ⟨ns, e1, rfl⟩ := Option.map_eq_some_iff.mp e
    have el := boolsOf_some e1
    subst el
    cases rv with
    | list h1 h2 h3 =>
      have ex := h3.bools
      subst ex
      exact cr_all hc pins s σ H _ us Q I r ⟨_, ns, rfl, SqL.of (hid_sub _ _ h1), q _ H (Same.refl H) (.bool _)⟩
  · cases e
theorem cr_anyD (hc : X.calm = true) : CallR X (.builtin "any") (rdL X.K anyC) := by
  intro pins s σ H xs us Q I r h
  obtain ⟨A, ds, hA, ra, d, e, q⟩ := h
  unfold anyC at e
  split at e
  · obtain ⟨v, rfl, rv⟩ := rp1 ra
    obtain ⟨ns, e1, rfl⟩ := Option.map_eq_some_iff.mp e
    have el := boolsOf_some e1
    subst el
    cases rv with
    | list h1 h2 h3 =>
      have ex := h3.bools
      subst ex
      exact cr_any hc pins s σ H _ us Q I r ⟨_, ns, rfl, SqL.of (hid_sub _ _ h1), q _ H (Same.refl H) (.bool _)⟩
  · cases e
theorem cr_sortD (hc : X.calm = true) : CallR X (.builtin "sorted") (rdL X.K sortC) := by
  intro pins s σ H xs us Q I r h
  obtain ⟨A, ds, hA, ra, d, e, q⟩ := h
  unfold sortC at e
  split at e
  · obtain ⟨v, rfl, rv⟩ := rp1 ra
    obtain ⟨ns, e1, rfl⟩ := Option.map_eq_some_iff.mp e
    have el := intsOf_some e1
    subst el
    cases rv with
    | list h1 h2 h3 =>
      have ex := h3.ints
      subst ex
      refine cr_sortedI pins s σ H _ us Q I r ⟨_, ns, rfl, SqL.of (hid_sub _ _ h1), fun ns' p k1 k2 hp => ?_⟩
      have := sortI_unique k1 k2
      subst this
      obtain ⟨s1, r1⟩ := new_list (K := X.K) hA hp (by rw [List.length_map, k1.length_eq, ← List.length_map (as := ns) (f := V.int)]; exact h2) (RpA.of_ints (sortI ns))
      exact q _ _ s1 r1
  · obtain ⟨v, rfl, rv⟩ := rp1 ra
    obtain ⟨ns, e1, e2⟩ := Option.bind_eq_some_iff.mp e
    obtain ⟨hl, rfl⟩ := if_some e2
    cases rv with
    | dk h1 h2 =>
      refine call_sortedDI hc pins s σ H _ us Q I r ⟨_, _, ns, rfl, .inl (hid_sub _ _ h1), keysI_some e1, hl, fun ns' p k1 k2 hp => ?_⟩
      have := sortI_unique k1 k2
      subst this
      obtain ⟨s1, r1⟩ := new_list (K := X.K) hA hp (by rw [List.length_map, k1.length_eq]; exact cap_ok (by omega)) (RpA.of_ints (sortI ns))
      exact q _ _ s1 r1
  · cases e
theorem kV_R {K : PySem.W.Frag} {H : Hp} (k : Key) : Rp K H (kV k) (keyD k) := by
  cases k with
  | inl i => exact .int i
  | inr s => exact .str s
theorem kVs_R {K : PySem.W.Frag} {H : Hp} : ∀ ks : List Key, RpA K H (ks.map kV) (ks.map keyD)
  | [] => .nil
  | k :: ks => .cons (kV_R k) (kVs_R ks)
theorem keys_R {K : PySem.W.Frag} {H : Hp} : ∀ kvs : List (Key × V), RpA K H (kvs.map fun kv => kV kv.1) (kvs.map fun p => keyD p.1)
  | [] => .nil
  | p :: kvs => .cons (kV_R p.1) (keys_R kvs)
theorem isKeys_R {K : PySem.W.Frag} {A : List Addr} {H : Hp} (hA : ∀ b ∈ A, ∀ xs, H b ≠ some (.tup xs)) : ∀ {kvs : List (List Key × V)} {bs : List Addr}, IsKeys H kvs bs → (∀ p ∈ kvs, p.1.length ≤ sizeLine) → RpA K (hid A H) (bs.map V.ref) (kvs.map fun p => .tuple (p.1.map keyD))
  | [], _, .nil, _ => .nil
  | p :: kvs, b :: bs, .cons h t, hz => .cons (.tuple (hid_of (fun z => hA b z _ h) h) (by rw [List.length_map]; exact hz p List.mem_cons_self) (kVs_R p.1)) (isKeys_R hA t fun q hq => hz q (List.mem_cons_of_mem _ hq))
theorem cr_listD (hc : X.calm = true) : CallR X (.type "list") (rdL X.K listC) := by
  intro pins s σ H xs us Q I r h
  obtain ⟨A, ds, hA, ra, d, e, q⟩ := h
  unfold listC at e
  split at e
  · cases e
    obtain ⟨v, rfl, rv⟩ := rp1 ra
    cases rv with
    | list h1 h2 h3 =>
      refine call_list_of pins s σ H _ us Q I r ⟨_, _, rfl, .inl (SqL.of (hid_sub _ _ h1)), fun p hp => ?_⟩
      obtain ⟨s1, r1⟩ := new_list (K := X.K) hA hp h2 h3
      exact q _ _ s1 r1
  · cases e
    obtain ⟨v, rfl, rv⟩ := rp1 ra
    cases rv with
    | tuple h1 h2 h3 =>
      refine call_list_of pins s σ H _ us Q I r ⟨_, _, rfl, .inr (SqT.of (hid_sub _ _ h1)), fun p hp => ?_⟩
      obtain ⟨s1, r1⟩ := new_list (K := X.K) hA hp h2 h3
      exact q _ _ s1 r1
  · obtain ⟨hl, rfl⟩ := if_some e
    obtain ⟨v, rfl, rv⟩ := rp1 ra
    cases rv with
    | dk h1 h2 =>
      refine call_list_dK hc pins s σ H _ us Q I r ⟨_, _, rfl, hid_sub _ _ h1, fun p hp => ?_⟩
      obtain ⟨s1, r1⟩ := new_list (K := X.K) hA hp (by rw [List.length_map]; exact cap_ok hl) (keys_R _)
      exact q _ _ s1 r1
  · cases e
theorem cr_tupD : CallR X (.type "tuple") (rdL X.K tupC) := by
  intro pins s σ H xs us Q I r h
  obtain ⟨A, ds, hA, ra, d, e, q⟩ := h
  unfold tupC at e
  split at e
  · cases e
    obtain ⟨v, rfl, rv⟩ := rp1 ra
    cases rv with
    | list h1 h2 h3 =>
      refine call_tuple_of pins s σ H _ us Q I r ⟨_, _, rfl, .inl ⟨SqL.of (hid_sub _ _ h1), fun p hp => ?_⟩⟩
      obtain ⟨s1, r1⟩ := new_tup (K := X.K) hA hp h2 h3
      exact q _ _ s1 r1
  · cases e
    obtain ⟨v, rfl, rv⟩ := rp1 ra
    cases rv with
    | tuple h1 h2 h3 => exact call_tuple_of pins s σ H _ us Q I r ⟨_, _, rfl, .inr ⟨SqT.of (hid_sub _ _ h1), q _ H (Same.refl H) (.tuple h1 h2 h3)⟩⟩
  · cases e

/-! ### isinstance -/
def tyD : D → String
  | .none => "NoneType"
  | .bool _ => "bool"
  | .int _ => "int"
  | .str _ => "str"
  | .list _ => "list"
  | .tuple _ => "tuple"
  | .dk _ => "dict"
  | .dt _ => "dict"
  | .scr _ => "list"
  | .ktup _ => "tuple"
  | .ftup _ => "tuple"
  | .fdt _ => "dict"
/-- the type of a value, known dicts as well -/
def TyY (K : PySem.W.Frag) (H : Hp) (x : V) (t : Value) : Prop := TyX K H x t ∨ ∃ a o kvs, x = .ref a ∧ t = .type "dict" ∧ H a = some (.frz o (.dT kvs))
theorem kit_ofY {pins : List (Addr × Obj)} {σ : L2.St} {H : Hp} {s : Shared} {x : V} {u t : Value} (I : Inv X pins σ H s) (rx : RelV x u) (ty : TyY X.K H x t) : ∃ P : Heap → Prop, PySem.W.KitX X.K u t P ∧ P s.heap ∧ u ≠ .builtin "__main__.__loader__#opaque" := by
  rcases ty with ty | ⟨a, o, kvs, rfl, rfl, h⟩
  · exact kit_of I rx ty
  · cases (show u = Value.ref a from rx)
    obtain ⟨_, _, _, xs, _, o2, es, ep, h1, h2, _⟩ := (show ObjOk X.prog X.w H s.heap a (.frz o (.dT kvs)) from I.hok a _ h)
    exact ⟨_, PySem.W.kitx_dict, ⟨o2, h1, h2.1⟩, fun z => nomatch z⟩
theorem call_isiY : CallR X (.builtin "isinstance") (fun xs H Q => ∃ (x c : V) (t u : Value) (b : Bool), xs = [x, c] ∧ ClsV c u ∧ TyY X.K H x t ∧ PySem.W.kitOne X.K t u = some b ∧ Q (.bl b) H) := by
  intro pins s σ H xs us Q I r h
  obtain ⟨x, c, t, u, b, rfl, k, ty, e, q⟩ := h
  obtain ⟨u1, u2, rfl, r1, r2⟩ := vals2 r
  cases k.eq r2
  obtain ⟨P, Z, p, hx⟩ := kit_ofY I r1 ty
  exact PySem.W.kia_one Z I.kIn p e hx fun tk => ⟨.bl b, H, I.tok tk, rfl, q⟩
theorem Rp.ty {K : PySem.W.Frag} {A : List Addr} {H : Hp} {v : V} {d : D} (r : Rp K (hid A H) v d) : TyY K H v (.type (tyD d)) := by
  cases r with
  | none => exact .inl (.base .non)
  | bool b => exact .inl (.base (.bl b))
  | int i => exact .inl (.base (.int i))
  | str s => exact .inl (.base (.str s))
  | list h1 _ _ => exact .inl (.base (.lst (hid_sub _ _ h1)))
  | tuple h1 _ _ => exact .inl (.base (.tup (hid_sub _ _ h1)))
  | dk h1 _ => exact .inl (.base (.dK (hid_sub _ _ h1)))
  | dt h1 _ => exact .inl (.base (.dT (hid_sub _ _ h1)))
  | ftup h1 _ _ _ => exact .inl (.fTuple (hid_sub _ _ h1))
  | fdt h1 _ => exact .inr ⟨_, _, _, rfl, rfl, hid_sub _ _ h1⟩
  | scr h1 _ =>
    rcases h1 with (h | ⟨o, h⟩) | ⟨o, its, n, h, c, _⟩
    · exact .inl (.base (.lst (hid_sub _ _ h)))
    · exact .inl (.base (.frz (hid_sub _ _ h)))
    · exact .inl (.kList h c)
  | ktup h1 _ =>
    obtain ⟨o, its, n, h, c, _⟩ := h1
    exact .inl (.kTuple h c)
/-- the answers for the types that stand in the texts -/
def isiD (T : String) (d : D) : Option Bool := kitB (tyD d) T
variable {c : Pc} {m : Bool} {e : Expr} {f : DE} {p p2 pos : Pos}
def dIsI (T : String) (f : DE) : DE := fun ρ => (f ρ).bind fun d => Out.of ((isiD T d).map .bool)
theorem pd_isi (T : String) {x y : Str} (hm : X.mg "isinstance" = none) (hm2 : X.mg y = none) (hv2 : bootBuiltins y = some (.type T)) (h : PD X c false e f) (hx : x = "isinstance" := by rfl) (hg : Gl X x := by rfl) (hg2 : Gl X y := by rfl) (hn2 : y ≠ "__name__" := by decide) (hd2 : (y == ("__debug__" : Str)) = false := by decide)
    (he : starEach [e, .Name y p2] X.env = (false, eval e X.env) :: starEach [.Name y p2] X.env := by rfl) (he2 : starEach [.Name y p2] X.env = (false, eval (.Name y p2) X.env) :: starEach [] X.env := by rfl) (hpl : (backTo pos (starEach [.Name y p2] X.env)).any (·.1) = false := by rfl) : PD X c m (.Call (.Name x p) [e, .Name y p2] [] pos) (dIsI T f) := by
  subst hx
  have hb : PE X (.Name y p2) (tC (.ty T)) := pe_bltn hg2 hm2 hv2 rfl hn2 hd2
  exact PE.imp (pe_callB call_isiY hg hm (by decide +kernel) (pa_cons h (pa_cons hb pa_nil he2) he) (by decide) (by decide) he hpl) fun σ H Q ⟨F, ρ, E, w⟩ => ⟨F, ρ, E, (Out.wp_bind w).imp (fun d k v H1 s r => by
    obtain ⟨d', e', q⟩ := of_wp k
    obtain ⟨b, e1, rfl⟩ := Option.map_eq_some_iff.mp e'
    exact ⟨v, .ty T, _, _, b, rfl, .ty T, r.ty, kit_ty e1, q _ H1 s (.bool b)⟩) fun _ z => z⟩
end
end Pd

/-! Pd7: t[::-1], dicts. -/
namespace Pd
open PySem L2 PyProof.Rows HT
/-! ### t[::-1] of a tuple -/
section
variable {prog : Program} {w : World} {A : Around} {E : Value → Shared → Prop} {s : Shared}
theorem sliceApplied_back {sl : Addr} {t : Tok} {n : Nat} {Q : Int × Int × Nat → Shared → Prop} (hs : s.heap.IsSliceOf sl .none .none (.int (-1) t)) (h : Q ((n : Int) - 1, -1, n) s) : wpAny (model prog w) A (Builtin.Slice.sliceApplied (.ref sl) (pure (n : Int))) Q E s := by
  obtain ⟨os, hos, hcs, hds⟩ := id hs
  unfold Builtin.Slice.sliceApplied Builtin.Slice.sliceFields
  refine wpAny_bind (wpAny_bind (wpAny_field hos hds (x := .none) rfl (wpAny_bind (wpAny_field hos hds (x := .none) rfl (wpAny_bind (wpAny_field hos hds (x := .int (-1) t) rfl (wpAny_pure ?_)))))))
  refine wpAny_bind (slicePart_int ?_)
  show wpAny _ _ (if ((-1 : Int) == 0) = true then _ else _) _ _ s
  rw [if_neg (by decide)]
  refine wpAny_bind (slicePart_none (wpAny_bind (slicePart_none (wpAny_bind (wpAny_pure ?_)))))
  show wpAny _ _ (pure ((n : Int) - 1, (-1 : Int), Builtin.Slice.slicePlaces ((n : Int) - 1) (-1) (-1))) _ _ s
  have e : Builtin.Slice.slicePlaces ((n : Int) - 1) (-1) (-1) = n := by
    unfold Builtin.Slice.slicePlaces
    rw [if_neg (by omega)]
    by_cases hn : n = 0
    · subst hn
      decide
    · rw [if_pos (by omega), show (- -1 : Int) = 1 by decide, Int.ediv_one]
      omega
  rw [e]
  exact wpAny_pure h
theorem pick_back (xs : Array Value) : ((List.range xs.size).filterMap fun (m : Nat) => xs[(((xs.size : Int) - 1) + (m : Int) * (-1)).toNat]?).toArray = xs.toList.reverse.toArray := by
  have e : (List.range xs.size).filterMap (fun (m : Nat) => xs[(((xs.size : Int) - 1) + (m : Int) * (-1)).toNat]?) = ((List.range xs.size).map fun k => xs.size - 1 - k).filterMap (xs[·]?) := by
    rw [List.filterMap_map]
    refine filterMap_eq fun m hm => ?_
    have hm' := List.mem_range.mp hm
    have : (((xs.size : Int) - 1) + (m : Int) * (-1)).toNat = xs.size - 1 - m := by omega
    rw [this]
    rfl
  rw [e, PySem.W.krv_range, List.filterMap_reverse, PySem.W.krv_all]
theorem getItem_tuple_back {t sl : Addr} {items : Array Value} {tk : Tok} {Q : Value → Shared → Prop} (ht : IsTup s.heap t items) (hs : s.heap.IsSliceOf sl .none .none (.int (-1) tk))
    (h : Q (.ref s.heap.objs.size) { s with heap := s.heap.push { cls := .type "tuple", data := .seq items.toList.reverse.toArray } }) (hsz : items.size ≤ sizeLine) : wpAny (model prog w) A (getItem (.ref t) (.ref sl)) Q E s := by
  have htake : sizeOk (.seq items.toList.reverse.toArray) := by
    show items.toList.reverse.toArray.size ≤ sizeLine
    rw [List.size_toArray, List.length_reverse, Array.length_toList]
    exact hsz
  obtain ⟨os, hos, hcs, hds⟩ := id hs
  have hTs : s.TypeIs (.ref sl) "slice" := ⟨os, hos, hcs⟩
  unfold getItem
  try with_reducible refine wpAny_holding ?_
  first | refine wpAny_bind (wpAny_pure ?_) | skip
  refine wpAny_bind (wpAny_sequenceKey ht.typeIs (by decide) ?_)
  refine wpAny_bind (wpAny_callSpecial?_slot (name := Str.ofString "__getitem__") ht.typeIs PyProof.Rows.slot_tuple_getitem
    (wpAny_call_entry PyProof.Rows.slot_tuple_getitem ht.typeIs entry_tuple_getitem ?_ (args_tuple_getitem _ _)))
  show wpAny _ _ (Builtin.Tuple.tupleItemsOf (.ref t) >>= _) _ _ s
  refine wpAny_bind (tupleItemsOf_ ht ?_)
  refine wpAny_bind (wpAny_typeOf hTs ?_)
  rw [if_pos (by decide)]
  refine wpAny_bind (sliceApplied_back hs ?_)
  have hno : ¬ ((((items.size : Int) - 1) == 0 && (-1 : Int) == 1 && items.size == items.size) = true) := by
    intro q
    rw [Bool.and_eq_true, Bool.and_eq_true] at q
    exact absurd q.1.2 (by decide)
  show wpAny _ _ (if (((items.size : Int) - 1) == 0 && (-1 : Int) == 1 && items.size == items.size) = true then _ else _) _ _ s
  rw [if_neg hno, pick_back]
  first
    | exact wpAny_bind (m := Builtin.Tuple.tupleExact _) (wpAny_newObj_type (wpAny_pure ⟨_, rfl, wpAny_pure h⟩) htake)
    | exact wpAny_bind (m := Builtin.Tuple.tupleExact _) (wpAny_newObj_type (wpAny_bind (wpAny_pure (wpAny_pure ⟨_, rfl, wpAny_pure h⟩))) htake)
    | exact wpAny_bind (wpAny_bind (m := Builtin.Tuple.tupleExact _) (wpAny_newObj_type (wpAny_pure (wpAny_pure ⟨_, rfl, wpAny_pure h⟩)) htake))
    | exact wpAny_bind (wpAny_bind (m := Builtin.Tuple.tupleExact _) (wpAny_newObj_type (wpAny_pure ⟨_, rfl, wpAny_pure h⟩) htake))
end
section
variable {X : Cx} {c : Pc} {m : Bool}
def tRevT (K : PySem.W.Frag) (te : TE) : TE := fun σ H Q => te σ H fun x H1 => ∃ a xs, x = .ref a ∧ SqT K H1 a xs ∧ ∀ p, H1 p = none → Q (.ref p) (upd H1 p (.tup xs.reverse))
theorem pe_revT {e : Expr} {te : TE} {k : Nat} {p1 p2 p3 pos : Pos} (he : PE X e te) : PE X (.Subscript e (.Slice none none (some (.UnaryOp .USub (.Constant (.int 1) k p1) p2)) p3) pos) (tRevT X.K te) := by
  refine ⟨fun pins s σ H Q I h => ?_⟩
  refine Subscript_ (thn (he.run pins s σ H _ I h) fun v s1 ⟨x, H1, I1, r1, q1⟩ => ?_)
  obtain ⟨a, xs, ex, hx, q⟩ := q1
  subst ex
  cases r1
  have hst : PO X (some (.UnaryOp .USub (.Constant (.int 1) k p1) p2)) (tPart (tUn (rU fun i => .int (-i)) (tC (.int 1)))) := po_some (pe_un un_neg pe_int)
  refine wpAny_Slice (thn (po_none.run pins s1 σ H1 (fun o H2 => o = none ∧ H2 = H1) I1 ⟨rfl, rfl⟩) fun vl s2 ⟨l, H2, I2, pl, el, e2⟩ => ?_)
  subst el e2
  refine thn (po_none.run pins s2 σ H2 (fun o H3 => o = none ∧ H3 = H2) I2 ⟨rfl, rfl⟩) fun vu s3 ⟨u, H3, I3, pu, eu, e3⟩ => ?_
  subst eu e3
  refine thn (hst.run pins s3 σ H3 (fun o H4 => o = some (-1) ∧ H4 = H3) I3 ⟨1, rfl, -1, rfl, rfl, rfl⟩) fun vs s4 ⟨o, H4, I4, ps, eo, e4⟩ => ?_
  subst eo e4
  cases pl
  cases pu
  cases ps with
  | int _ tk =>
  have I5 : Inv X pins σ H4 { s4 with heap := s4.heap.push { cls := .type "slice", data := .fields #[.none, .none, .int (-1) tk] } } := I4.kept (t' := s4.toks) fun b ob q => Heap.get?_push_of_some _ q
  obtain ⟨its, r, ht, hz⟩ := I5.tuple hx
  have hlen := r.length
  show wpAny (model X.prog X.w) X.A (subscriptTail e (.Slice none none (some (.UnaryOp .USub (.Constant (.int 1) k p1) p2)) p3) (.ref a) (.ref s4.heap.objs.size)) (EP X pins σ Q) X.xe { s4 with heap := s4.heap.push { cls := .type "slice", data := .fields #[.none, .none, .int (-1) tk] } }
  refine tail_any (ops := [.ref a, .ref s4.heap.objs.size]) ht.typeIs (PyProof.Rows.slot_tuple_getitem.lookup) ?_ (by with_unfolding_all rfl)
  refine getItem_tuple_back ht (Heap.IsSliceOf.new _ _ _ _) ?_ (by rw [List.size_toArray]; omega)
  refine ⟨.ref _, _, I5.laid (t' := s4.toks) (o := .tup xs.reverse) (fun b ob q => Heap.get?_push_of_some _ q) (Nat.le_refl _) ?_, rfl, q _ (I5.hok.fresh (Nat.le_refl _))⟩
  exact ⟨by rw [List.length_reverse]; exact hz, _, r.reverse, ⟨_, Heap.get?_push_size _ rfl, rfl, _, rfl⟩⟩
def revD : D → Option D
  | .tuple l => some (.tuple l.reverse)
  | .list l => some (.list l.reverse)
  | _ => none
/-- t[::-1], t a tuple or a list -/
theorem pd_rev {e : Expr} {f : DE} {k : Nat} {p1 p2 p3 pos : Pos} (h : PD X c m e f) : PD X c m (.Subscript e (.Slice none none (some (.UnaryOp .USub (.Constant (.int 1) k p1) p2)) p3) pos) (dUn revD f) := by
  refine ⟨fun pins s σ H Q I hw => ?_⟩
  obtain ⟨F, ρ, E, w⟩ := hw
  unfold dUn at w
  by_cases hk : ∃ l, f ρ = .ok (.list l)
  · obtain ⟨l, hk⟩ := hk
    refine (pe_revL h).run pins s σ H Q I ⟨F, ρ, E, ?_⟩
    rw [hk] at w ⊢
    intro v H1 s1 r
    cases r with
    | list h1 h2 h3 =>
      refine ⟨_, _, rfl, SqL.of (hid_sub _ _ h1), fun p hp => ?_⟩
      obtain ⟨s2, r2⟩ := new_list (K := X.K) ((E.up s1).hdom m) hp (by rw [List.length_reverse]; exact h2) h3.rev
      exact w _ _ (s1.trans s2) r2
  · refine (pe_revT h).run pins s σ H Q I ⟨F, ρ, E, ?_⟩
    cases hf : f ρ with
    | bad => rw [hf] at w; exact w
    | err x => rw [hf] at w; exact w
    | ok d =>
      rw [hf] at w
      intro v H1 s1 r
      obtain ⟨d', e', q⟩ := of_wp (show (Out.of (revD d)).wp _ _ from w)
      cases r with
      | @tuple a xs l h1 h2 h3 =>
        cases e'
        refine ⟨a, xs, rfl, SqT.of (hid_sub _ _ h1), fun p hp => ?_⟩
        obtain ⟨s2, r2⟩ := new_tup (K := X.K) ((E.up s1).hdom m) hp (by rw [List.length_reverse]; exact h2) h3.rev
        exact q _ _ (s1.trans s2) r2
      | list h1 h2 h3 => exact absurd hf fun z => hk ⟨_, z⟩
      | _ => cases e'

/-! ### dicts -/
def dNew (k : Kd) : DE := fun _ => .ok (match k with | .t => .dt [] | _ => .dk [])
theorem pf_dictK {pos : Pos} : PF X c .k (.Dict [] [] pos) (dNew .k) := PE.imp pe_dnewK fun σ H Q ⟨F, ρ, E, w⟩ p hp => w p _ (same_upd hp) hp ⟨[], rfl, upd_same, rfl⟩
theorem pf_dictT {pos : Pos} : PF X c .t (.Dict [] [] pos) (dNew .t) := PE.imp pe_dnewT fun σ H Q ⟨F, ρ, E, w⟩ p hp => w p _ (same_upd hp) hp (.inl ⟨[], rfl, upd_same, rfl⟩)
def atK (ρ : Env) (i : Nat) (k : List (Key × V) → SO) : SO := match ρ[i]? with
  | some (some (.dk l)) => k l
  | _ => .bad
def atT (ρ : Env) (i : Nat) (k : List (List Key × V) → SO) : SO := match ρ[i]? with
  | some (some (.dt l)) => k l
  | _ => .bad
theorem atK_wp {i : Nat} {ρ : Env} {k : List (Key × V) → SO} {P B C : Env → Prop} {R : D → Env → Prop} {E : Nat → Env → Prop} (h : (atK ρ i k).wp P B C R E) : ∃ l, ρ[i]? = some (some (.dk l)) ∧ (k l).wp P B C R E := by
  unfold atK at h
  split at h
  · rename_i l e
    exact ⟨l, e, h⟩
  · exact h.elim
theorem atT_wp {i : Nat} {ρ : Env} {k : List (List Key × V) → SO} {P B C : Env → Prop} {R : D → Env → Prop} {E : Nat → Env → Prop} (h : (atT ρ i k).wp P B C R E) : ∃ l, ρ[i]? = some (some (.dt l)) ∧ (k l).wp P B C R E := by
  unfold atT at h
  split at h
  · rename_i l e
    exact ⟨l, e, h⟩
  · exact h.elim
/-- d[k] = v, d a dict of the def's -/
def dPutK (i : Nat) (fv fk : DE) : DS := fun ρ => atK ρ i fun l => lift (fv ρ) ρ fun d => lift (fk ρ) ρ fun z => match d.sc, dkey z with
  | some v, some k => if l.length ≤ 100000 then .nx (ρ.set i (some (.dk (putK l k v)))) else .bad
  | _, _ => .bad
def dPutT (i : Nat) (fv fk : DE) : DS := fun ρ => atT ρ i fun l => lift (fv ρ) ρ fun d => lift (fk ρ) ρ fun z => match d.sc, z with
  | some v, .tuple ks => (match dkeys ks with
    | some k => if l.length ≤ 100000 then .nx (ρ.set i (some (.dt (putK l k v)))) else .bad
    | none => .bad)
  | _, _ => .bad
theorem all_putK {κ : Type} [DecidableEq κ] {l : List (κ × V)} {k : κ} {v : V} (h : (l.all fun p => scV p.2) = true) (hv : scV v = true) : ((putK l k v).all fun p => scV p.2) = true := by
  unfold putK
  split
  · refine List.all_eq_true.mpr fun p hp => ?_
    obtain ⟨q, hq, rfl⟩ := List.mem_map.mp hp
    split
    · exact hv
    · exact List.all_eq_true.mp h q hq
  · rw [List.all_append, h]
    simp [hv]
theorem ps_putK (i : Nat) {kk : Nat} (hr : Room kk X.A) {x : Str} {e o : Expr} {f g : DE} {p1 p2 pos : Pos} (h : PD X c true e f) (hg : PD X c true o g) (ho : isOw c.O i .k = true := by rfl) (hu : onlyK c.O i .k = true := by rfl)
    (hs : swapsWith e (some (.Subscript (.Name x p1) o p2)) pos.line X.env = pure false := by rfl) (pe : PE X (.Name x p1) (tVar i) := by exact pv _) : PSD X c (.Assign [.Subscript (.Name x p1) o p2] e pos) (dPutK i f g) :=
  have hur := hr.units
  PS.imp (ps_dput (by omega) pe hg h hs) fun Dn σ H ⟨F, ρ, E, w⟩ => by
    have hi := isOw_of ho
    obtain ⟨l, e1, w1⟩ := atK_wp w
    rcases E.cel i .k hi with ⟨d, a, q1, q2, q3, q4⟩ | ⟨q, _⟩
    · rw [e1] at q1
      cases q1
      obtain ⟨kvs, z, h3, h4⟩ := q4
      cases z
      refine ex_wp E w1 fun d v H' s E' r w2 => ⟨_, q2, ex_wp E' w2 fun dz vz H2 s2 E2 r2 w3 => ?_⟩
      have s12 := s.trans s2
      cases hd : d.sc with
      | none => rw [hd] at w3; exact w3.elim
      | some v0 =>
        cases hk : dkey dz with
        | none => rw [hd, hk] at w3; exact w3.elim
        | some k =>
          rw [hd, hk] at w3
          obtain ⟨hl, w4⟩ := ifS_wp w3
          have ev := r.sc hd
          subst ev
          have ek := dkey_V r2 hk
          subst ek
          refine ⟨a, _, rfl, DPut.k (s12 _ _ h3) (Nat.lt_of_le_of_lt hl (by decide)), w4 σ _ (E2.cell hi hu q2 ⟨_, rfl, upd_same, all_putK h4 (scV_of_sc hd)⟩) (stp_cell hi q2 ⟨_, s12 _ _ h3, rfl⟩)⟩
    · rw [e1] at q
      cases q
theorem ps_putT (i : Nat) {kk : Nat} (hr : Room kk X.A) {x : Str} {e o : Expr} {f g : DE} {p1 p2 pos : Pos} (h : PD X c true e f) (hg : PD X c true o g) (ho : isOw c.O i .t = true := by rfl) (hu : onlyK c.O i .t = true := by rfl)
    (hs : swapsWith e (some (.Subscript (.Name x p1) o p2)) pos.line X.env = pure false := by rfl) (pe : PE X (.Name x p1) (tVar i) := by exact pv _) : PSD X c (.Assign [.Subscript (.Name x p1) o p2] e pos) (dPutT i f g) :=
  have hur := hr.units
  PS.imp (ps_dput (by omega) pe hg h hs) fun Dn σ H ⟨F, ρ, E, w⟩ => by
    have hi := isOw_of ho
    obtain ⟨l, e1, w1⟩ := atT_wp w
    rcases E.cel i .t hi with ⟨d, a, q1, q2, q3, q4⟩ | ⟨q, _⟩
    · rw [e1] at q1
      cases q1
      rcases q4 with ⟨kvs, z, h3, h4⟩ | ⟨_, _, z, _⟩
      rotate_left
      · cases z
      cases z
      refine ex_wp E w1 fun d v H' s E' r w2 => ⟨_, q2, ex_wp E' w2 fun dz vz H2 s2 E2 r2 w3 => ?_⟩
      have s12 := s.trans s2
      cases hd : d.sc with
      | none => rw [hd] at w3; exact w3.elim
      | some v0 =>
        rw [hd] at w3
        cases r2 <;> try (exact w3.elim)
        rename_i b xs ks g1 g2 g3
        replace w3 := w3
        cases hk : dkeys ks with
        | none => simp only [hk] at w3; exact w3.elim
        | some k =>
          simp only [hk] at w3
          obtain ⟨hl, w4⟩ := ifS_wp w3
          have ev := r.sc hd
          subst ev
          have ek := dkeys_V g3 hk
          subst ek
          refine ⟨a, _, rfl, DPut.t (s12 _ _ h3) (hid_sub _ _ g1) (Nat.lt_of_le_of_lt hl (by decide)), w4 σ _ (E2.cell hi hu q2 (.inl ⟨_, rfl, upd_same, all_putK h4 (scV_of_sc hd)⟩)) (stp_cell hi q2 ⟨_, s12 _ _ h3, rfl⟩)⟩
    · rw [e1] at q
      cases q
end
end Pd

/-! Pd8: new lists for owned slots; a slot's list given away; defs, once more with what loops want; the law's end. -/
namespace Pd
open PySem L2 PyProof.Rows
section
variable {X : Cx} {c : Pc} {m : Bool} {e a b : Expr} {f g : DE} {p pos : Pos}
/-- [..] * n -/
theorem pf_mul (ha : PD X c true a f) (hb : PD X c true b g) : PF X c .l (.BinOp a .Mult b pos) (fun ρ => (dOp mulD f g ρ).bind fun d => match d with | .list l => .ok (.list l) | _ => .bad) := by
  refine ⟨fun pins s σ H Q I hw => ?_⟩
  obtain ⟨F, ρ, E, w⟩ := hw
  refine (pe_op (r := fun x y H Q => rRep x y H Q ∨ False) (fun pins s σ H x y v u Q I rx ry h => op_rep pins s σ H x y v u Q I rx ry (h.elim id False.elim)) ha hb).run pins s σ H Q I ?_
  refine two (m := true) (P := fun _ _ _ _ _ => True) E ((Out.wp_bind (Out.wp_bind w)).imp (fun x k => (Out.wp_bind k).imp (fun y k2 v u H' s r1 r2 => .inl ?_) fun _ z => z) fun _ z => z)
  obtain ⟨d, e, q⟩ := of_wp k2
  cases d <;> try (exact q.elim)
  rename_i l
  cases r2 <;> try (cases r1 <;> cases e; done)
  rename_i j
  cases r1 <;> try (cases e; done)
  · exfalso
    obtain ⟨_, z⟩ := if_some e
    cases z
  · rename_i a' xs ds h1 h2 h3
    obtain ⟨⟨k1, k2, k3⟩, z⟩ := if_some e
    cases z
    have hz : xs.length * j.toNat ≤ sizeLine := by
      have hx : xs.length ≤ 1000 := by rw [h3.len]; exact k3
      exact Nat.le_trans (Nat.mul_le_mul hx (show j.toNat ≤ 1000 by omega)) (by decide)
    refine ⟨a', j, xs, rfl, rfl, hid_sub _ _ h1, by omega, by omega, hz, fun p hp => ?_⟩
    refine q p _ (s.trans (same_upd hp)) (Same.free s hp) ⟨_, _, rfl, upd_same, by rw [PyProof.Rows.lm_len_rep_flat, Nat.mul_comm]; exact hz, ?_⟩
    rw [hid_upd List.mem_cons_self]
    refine (h3.rep j.toNat).up (hid_le fun b hb => ?_)
    rcases List.mem_cons.mp hb with z | z
    · exact .inr (by rw [z]; exact hp)
    · exact .inl z
  · exfalso
    rename_i ds _ _ _
    have e' : (if 2 ≤ j ∧ j ≤ 1000 ∧ ds.length ≤ 1000 ∧ ds ≠ [] then some (D.tuple (List.replicate j.toNat ds).flatten) else if (j = 1 ∨ ds = []) ∧ -1000 ≤ j ∧ j ≤ 1000 then some (.tuple ds) else none) = some (.list l) := e
    split at e'
    · cases e'
    · split at e' <;> cases e'
/-- list(e), e a list or a tuple -/
def dListF (f : DE) : DE := fun ρ => (f ρ).bind fun d => match d with
  | .list l => .ok (.list l)
  | .tuple l => .ok (.list l)
  | _ => .bad
theorem pf_list (hm : X.mg "list" = none) (ha : PD X c true e f) {x : Str} (hx : x = "list" := by rfl) (hg : Gl X x := by rfl) (he : starEach [e] X.env = (false, eval e X.env) :: starEach [] X.env := by rfl) (hpl : (backTo pos (starEach [] X.env)).any (·.1) = false := by rfl) : PF X c .l (.Call (.Name x p) [e] [] pos) (dListF f) := by
  subst hx
  exact PE.imp (pe_callTy call_list_of hg hm (by decide +kernel) (pa_cons ha pa_nil he) (by decide) (by decide) he hpl) fun σ H Q ⟨F, ρ, E, w⟩ => ⟨F, ρ, E, (Out.wp_bind w).imp (fun d k v H1 s r => by
    have fin : ∀ {xs : List V} {l : List D}, xs.length ≤ sizeLine → RpA X.K (hid (Pd.hs true F c.O σ) H1) xs l → (∀ a H', Same H H' → H a = none → Cel X.K (hid (a :: (F.A ++ own c.O σ)) H') H' .l a (.list l) → Q (.ref a) H') → ∀ l', H1 l' = none → Q (.ref l') (upd H1 l' (.lst xs)) := fun {xs l} hz r q l' hp => by
      refine q l' _ (s.trans (same_upd hp)) (Same.free s hp) ⟨_, _, rfl, upd_same, hz, ?_⟩
      rw [hid_upd List.mem_cons_self]
      refine r.up (hid_le fun b hb => ?_)
      rcases List.mem_cons.mp hb with z | z
      · exact .inr (by rw [z]; exact hp)
      · exact .inl z
    cases r with
    | list h1 h2 h3 => exact ⟨_, _, rfl, .inl (SqL.of (hid_sub _ _ h1)), fin h2 h3 k⟩
    | tuple h1 h2 h3 => exact ⟨_, _, rfl, .inr (SqT.of (hid_sub _ _ h1)), fin h2 h3 k⟩
    | _ => exact k.elim) fun _ z => z⟩

/-! ### a list is given from an owned slot to a plain one -/
theorem PS.weakN {st : Stmt} {t : TS} (h : PS X st t) (j : Nat) : PS X st (fun Dn σ H => t { Dn with nx := fun σ' H' => Dn.nx (σ'.set j none) H' } σ H) := by
  refine ⟨fun pins s σ H Dn I q => thn (h.run pins s σ H _ I q) fun f s' z => ?_⟩
  cases f with
  | next =>
    obtain ⟨σ', H', I', q'⟩ := z
    refine ⟨σ'.set j none, H', I'.weak (List.length_set ..) (fun i v hv => ?_), q'⟩
    by_cases hij : j = i
    · subst hij
      by_cases hl : j < σ'.length
      · rw [List.getElem?_set_self hl] at hv; cases hv
      · rw [List.getElem?_eq_none (by rw [List.length_set]; omega)] at hv; cases hv
    · rw [List.getElem?_set_ne hij] at hv
      exact hv
  | brk => exact z
  | cont => exact z
  | ret u => exact z
theorem own_drop {O : Ow} {σ : L2.St} {j : Nat} : ∀ b ∈ own O (σ.set j none), b ∈ own O σ ∧ σ[j]? ≠ some (some (.ref b)) ∨ (b ∈ own O σ ∧ ∃ i k, i ≠ j ∧ (i, k) ∈ O ∧ σ[i]? = some (some (.ref b))) := fun b hb => by
  obtain ⟨i, k, h1, h2⟩ := mem_own.mp hb
  by_cases hij : j = i
  · subst hij
    by_cases hl : j < σ.length
    · rw [List.getElem?_set_self hl] at h2; cases h2
    · rw [List.getElem?_eq_none (by rw [List.length_set]; omega)] at h2; cases h2
  · rw [List.getElem?_set_ne hij] at h2
    exact .inr ⟨mem_own.mpr ⟨i, k, h1, h2⟩, i, k, fun z => hij z.symm, h1, h2⟩
theorem EnvR.drop {K : PySem.W.Frag} {O : Ow} {F : Fm} {ρ : Env} {σ : L2.St} {H : Hp} {j : Nat} {k : Kd} (E : EnvR K O F ρ σ H) (hj : (j, k) ∈ O) (hu : onlyK O j k = true) (hk : k ≠ .p) : EnvR K O F (ρ.set j none) (σ.set j none) H := by
  have hl : j < ρ.length := by
    rcases E.cel j k hj with ⟨_, _, q, _⟩ | ⟨q, _⟩
    · exact (List.getElem?_eq_some_iff.mp q).1
    · exact (List.getElem?_eq_some_iff.mp q).1
  have up : Same (hid (F.A ++ own O σ) H) (hid (F.A ++ own O (σ.set j none)) H) := hid_le fun b hb => .inl (by
    rcases List.mem_append.mp hb with z | z
    · exact List.mem_append_left _ z
    · rcases own_drop b z with q | q
      · exact List.mem_append_right _ q.1
      · exact List.mem_append_right _ q.1)
  refine ⟨by rw [List.length_set, List.length_set, E.len], fun i d h n => ?_, fun i k' h => ?_, fun i ki i' ki' b h h' e e' => ?_, E.adom, fun q hq => ?_, E.fxO⟩
  · have hij : j ≠ i := fun z => n k (by rw [← z]; exact hj)
    rw [List.getElem?_set_ne hij] at h ⊢
    obtain ⟨v, h1, h2⟩ := E.val i d h n
    exact ⟨v, h1, h2.up up⟩
  · by_cases hij : j = i
    · subst hij
      exact .inr ⟨List.getElem?_set_self hl, List.getElem?_set_self (by rw [← E.len]; exact hl)⟩
    · rw [List.getElem?_set_ne hij, List.getElem?_set_ne hij]
      rcases E.cel i k' h with ⟨d, b, q1, q2, q3, q4⟩ | q
      · exact .inl ⟨d, b, q1, q2, q3, q4.up up rfl⟩
      · exact .inr q
  · have ne : ∀ {x : Nat} {z : Addr}, (σ.set j none)[x]? = some (some (.ref z)) → σ[x]? = some (some (.ref z)) := fun {x z} h => by
      by_cases hx : j = x
      · subst hx
        by_cases hl' : j < σ.length
        · rw [List.getElem?_set_self hl'] at h; cases h
        · rw [List.getElem?_eq_none (by rw [List.length_set]; omega)] at h; cases h
      · rw [List.getElem?_set_ne hx] at h
        exact h
    exact E.dis i ki i' ki' b h h' (ne e) (ne e')
  · have hq' : j ≠ q.1 := fun z => hk (onlyK_of hu (by rw [z]; exact E.fxO q hq)).symm
    rw [List.getElem?_set_ne hq']
    exact E.fix q hq
/-- y = x, x's list from now on y's and never changed again -/
def dFrz (i j : Nat) : DS := fun ρ => match ρ[j]? with
  | some (some d) => .nx ((ρ.set j none).set i (some d))
  | _ => .bad
theorem ps_frz (i j : Nat) (k : Kd) {x y : Str} {py : Pos} (hN : X.N.Nodup) (hi : noOw c.O i = true := by rfl) (hj : isOw c.O j k = true := by rfl) (hu : onlyK c.O j k = true := by rfl) (hk : k ≠ .p := by decide)
    (ps : PS X (.Assign [.Name y py] (.Name x p) pos) (tAsg (tVar j) (gName i)) := by exact ps_set (by assumption) rfl (by first | exact Or.inl rfl | exact Or.inr rfl) (pv _)) : PSD X c (.Assign [.Name y py] (.Name x p) pos) (dFrz i j) :=
  PS.imp (PS.weakN ps j) fun Dn σ H ⟨F, ρ, E, w⟩ => by
    unfold dFrz at w
    split at w
    · rename_i d e
      have hj' := isOw_of hj
      rcases E.cel j k hj' with ⟨d', a, q1, q2, q3, q4⟩ | ⟨q, _⟩
      · rw [e] at q1
        cases q1
        have hij : i ≠ j := fun z => noOw_of hi k (by rw [z]; exact hj')
        have E1 := E.drop hj' hu hk
        have na : a ∉ own c.O (σ.set j none) := fun z => by
          rcases own_drop a z with q | q
          · exact q.2 q2
          · obtain ⟨_, i', k', h1, h2, h3⟩ := q
            exact h1 (E.dis i' k' j k a h2 hj' h3 q2)
        refine ⟨_, q2, ?_⟩
        show Dn.nx ((σ.set i (some (.ref a))).set j none) H
        rw [List.set_comm _ _ (by exact hij)]
        refine w _ H (E1.set (noOw_of hi) (q4.rp ?_ ?_)) ⟨fun _ _ _ q => q, fun b hb => ?_⟩
        · exact hid_le fun b hb => .inl (by
            rcases List.mem_append.mp hb with z | z
            · exact List.mem_append_left _ z
            · rcases own_drop b z with q | q
              · exact List.mem_append_right _ q.1
              · exact List.mem_append_right _ q.1)
        · obtain ⟨o, e, _⟩ := q4.some
          rw [e]
          exact hid_of (fun z => by
            rcases List.mem_append.mp z with z | z
            · exact q3 z
            · exact na z) e
        · rw [own_set (noOw_of hi)] at hb
          rcases own_drop b hb with q | q
          · exact .inl q.1
          · exact .inl q.1
      · rw [e] at q
        cases q
    · exact w.elim

/-! ### tuple(range(..)) -/
def dRngT (f : DE) : DE := fun ρ => (f ρ).bind fun d => match d with
  | .int n => if -100000 ≤ n ∧ n ≤ 100000 then .ok (.tuple (rngD 0 n.toNat)) else .bad
  | _ => .bad
theorem rng_R {K : PySem.W.Frag} {H : Hp} (a b : Int) : RpA K H (rgV a b) (rngD a (b - a).toNat) := by
  unfold rgV rngD
  generalize (b - a).toNat = n
  induction n with
  | zero => exact .nil
  | succ n ih =>
    rw [List.range_succ, List.map_append, List.map_append]
    exact ih.append (.cons (.int _) .nil)
theorem pd_tupRng {e : Expr} {p2 pos2 : Pos} (hc : X.calm = true) (hm : X.mg "tuple" = none) (hm2 : X.mg "range" = none) (h : PD X c true e f) {x y : Str} (hx : x = "tuple" := by rfl) (hy : y = "range" := by rfl) (hg : Gl X x := by rfl) (hg2 : Gl X y := by rfl)
    (he : starEach [e] X.env = (false, eval e X.env) :: starEach [] X.env := by rfl) (he2 : starEach [.Call (.Name y p2) [e] [] pos2] X.env = (false, eval (.Call (.Name y p2) [e] [] pos2) X.env) :: starEach [] X.env := by rfl) : PD X c m (.Call (.Name x p) [.Call (.Name y p2) [e] [] pos2] [] pos) (dRngT f) := by
  subst hx
  subst hy
  exact PD.weak (PE.imp (pe_tupRg hc hg hm (prg_1 hg2 hm2 h he) he2) fun σ H Q ⟨F, ρ, E, w⟩ => ⟨F, ρ, E, (Out.wp_bind w).imp (fun d k v H1 s r => by
    cases r <;> try (exact k.elim)
    rename_i n
    obtain ⟨hl, q⟩ := if_wp (show (if -100000 ≤ n ∧ n ≤ 100000 then Out.ok (D.tuple (rngD 0 n.toNat)) else .bad).wp _ _ from k)
    refine ⟨n, rfl, ⟨by omega, by omega, by omega, by omega, by omega⟩, fun p hp => ?_⟩
    have hz : (rgV 0 n).length ≤ sizeLine := by rw [rgV_length]; exact cap_ok (by omega)
    have rr := rng_R (K := X.K) (H := hid (Pd.hs true F c.O σ) H1) 0 n
    rw [Int.sub_zero] at rr
    obtain ⟨s1, r1⟩ := new_tup ((E.up s).hdom true) hp hz rr
    exact q _ _ (s.trans s1) r1) fun _ z => z⟩)
end

section
variable {P : Program} {w : World} {K : PySem.W.Frag} {mg : Str → Option Value} {base : Heap}
theorem law_end {l : PySem.W.OpenLaw} {w : World} {H : Hp} {e : Value} {s s' : Shared} (h : L2.CX l.prog w [] H s (fun _ _ _ => False) e s') : False := by
  obtain ⟨_, _, _, _, _, _, _, _, _, _, _, _, z⟩ := h
  exact z.elim
/-- the law's own promise -/
theorem law_sp {cl : Nat → Addr} {g : List D → Out D} {H : Hp} {a : Addr} {ns : List Int} (hl : ns.length ≤ 63) (hS : SqL K H a (ns.map V.int)) (h : g [.scr ns] = .ok (.bool true)) : spD K cl 1 g [.ref a] H (fun v _ => v = .bl true) fun _ _ _ => False := by
  refine ⟨rfl, [], [.scr ns], fun _ z => (by cases z), .cons (.scr ?_ (Nat.le_trans hl (by decide))) .nil, ?_⟩
  · have : hid [] H = H := by funext b; unfold hid; rw [if_neg (by intro z; cases z)]
    rw [this]
    exact hS
  · rw [h]
    intro v H' s r
    cases r
    rfl
end
end Pd

/-! Pd9: a def as the text writes it; promises of calls. -/
namespace Pd
open PySem L2 PyProof.Rows
def gtD : D → D → Option Bool
  | .int i, .int j => some (decide (j < i))
  | _, _ => none
theorem op_gtD {X : Cx} : OpR X (compareOp .Gt) (rdC X.K gtD) := by
  intro pins s σ H x y v u Q I rx ry h
  obtain ⟨A, dx, dy, hA, r1, r2, d, e, q⟩ := h
  cases r1 <;> cases r2 <;> cases e
  exact op_gt pins s σ H _ _ v u Q I rx ry ⟨_, _, rfl, rfl, q⟩
/-- a module's constants -/
def KC (K : PySem.W.Frag) (mg : Str → Option Value) (x : Str) (d : D) : Prop := ∃ (v : V) (u : Value), mg x = some u ∧ RelV v u ∧ ∀ H, Rp K H v d
theorem pd_globK {X : Cx} {c : Pc} {m : Bool} {pos : Pos} {x : Str} {d : D} (h : KC X.K X.mg x d) (hg : Gl X x := by rfl) (hd : (x == ("__debug__" : Str)) = false := by decide) : PD X c m (.Name x pos) (dC d) := by
  obtain ⟨v, u, h1, h2, h3⟩ := h
  exact pd_glob h1 h2 h3 hg hd
theorem kc_int {K : PySem.W.Frag} {h : Heap} {mg : Str → Option Value} {x : Str} {n : Int} {t : Tok} (X : K.In h) (G : h.Ns mainGlobals mg) (e : PySem.W.nsIn K mainGlobals x = some (some (.int n t))) : KC K mg x (.int n) := ⟨.int n, _, PySem.W.mg_of X G e, ⟨_, rfl⟩, fun _ => .int _⟩
theorem takes0 {X : Cx} : Takes X W0 := fun u s' ⟨_, _, _, _, _, _, _, _, _, _, _, _, _, _, _, _, w⟩ => w.elim
section
variable {P : Program} {w : World} {K : PySem.W.Frag} {mg : Str → Option Value} {base : Heap}
/-- a def that the top has written -/
structure Fd (K : PySem.W.Frag) (mg : Str → Option Value) (x : Str) (st : Stmt) (ps : List Str) where
  a : Addr
  fd : FuncData
  F : Fun K x x st a fd
  b : Binds K fd ps []
  m : mg x = some (.ref a)
abbrev OkD (P : Program) (w : World) (base : Heap) (cl : Nat → Addr) (k : Nat) {x : Str} {st : Stmt} {ps : List Str} (f : Fd K mg x st ps) (g : List D → Out D) : Prop := FnOk P w K mg base (L2.CX P w) k f.a f.fd ps (spD K cl ps.length g)
theorem fn_bad {cl : Nat → Addr} {k : Nat} {x : Str} {st : Stmt} {ps : List Str} {f : Fd K mg x st ps} : OkD P w base cl k f (fun _ => .bad) :=
  ⟨fun vs H Q E h => h.1, fun A outer s H args us vs Q E hr he hb hv hs => by
    obtain ⟨_, _, _, _, _, z⟩ := hs
    exact z.elim⟩
theorem okD {x : Str} {st : Stmt} {N ps : List Str} {k n : Nat} {cl : Nat → Addr} {t : DS} (O : Ow) (f : Fd K mg x st ps) (S : FnScope N ps (defScope st)) (hO : (O.all fun p => decide (ps.length ≤ p.1) && decide (p.1 < N.length)) = true) (hl : ps.length ≤ N.length) (hn : N.length = n)
    (hbody : ∀ (cdv : Value) (A : Around) (outer : List PySem.Env) (s : Shared) (H : Hp) (E : XK), Room k (A.deeper (PyProof.Rows.envOfC x (defScope st) s.heap.objs.size f.a cdv)) → N.Nodup →
      Takes (cxOf (L2.CX P w) P w K mg base N x (defScope st) f.a cdv A outer s H E) (fun cls d _ H' => E cls d H') →
      PSsD (cxOf (L2.CX P w) P w K mg base N x (defScope st) f.a cdv A outer s H E) ⟨cl, O, fun cls d _ H' => E cls d H'⟩ (defBody st) t) :
    OkD P w base cl (k + 1) f (dDef n t) := by
  subst hn
  exact def_ok O f.F S hO hl hbody
end
section
variable {X : Cx} {c : Pc} {m : Bool} {e : Expr} {pos p : Pos}
theorem pd_callF {x : Str} {st : Stmt} {j k n : Nat} {ps : List Str} {g : List D → Out D} {es : List Expr} {ga : DA} (f : Fd X.K X.mg x st ps) (F : OkD X.prog X.w X.base c.cl j f g) (hr : Room k X.A) (hj : j ≤ k) (hn : ps.length = n)
    (tk : Takes X c.W) (ha : PAD X c m (e :: es) ga) (hg : Gl X x) (hdb : (x == ("__debug__" : Str)) = false)
    (he : starEach (e :: es) X.env = (false, eval e X.env) :: starEach es X.env) (hpl : (backTo pos (starEach es X.env)).any (·.1) = false) :
    PD X c m (.Call (.Name x p) (e :: es) [] pos) (dUse n g ga) := by
  subst hn
  exact pd_call (F.mono hj) hr f.m f.F.kp f.b tk ha hg hdb he hpl
end
section
variable {X : Cx} {c : Pc} {m : Bool} {elt tg iter : Expr} {ifs : List Expr} {scope : Scope} {pos : Pos} {it : DA} {b : D → Env → Option Env} {tst : DT} {fe : DE} {is vs : List Nat}
theorem pd_lcV (own' : List (Str × Nat)) (hc : X.calm = true) (hN : X.N.Nodup) (hi : PID X c false tg iter it) (ok : BlkOk X.N X.env.scope scope own') (hvs : own'.map (·.2) = vs)
    (hg : LcP X scope fun Y => PGD Y c tg is b) (ht : LcP X scope fun Y => PTsD Y c.w0 ifs tst) (he : LcP X scope fun Y => PD Y c.w0 m elt fe) (hv : subs is vs = true) (hvo : allNo c.O vs = true) (hs : ∀ x, foldedSetIterable iter X.env x = pure x) :
    PD X c m (.ListComp elt [⟨tg, iter, ifs, 0⟩] scope pos) (dLc it b tst fe vs) := by
  subst hvs
  exact pd_lc hc hN hi ok hg ht he hv hvo hs
theorem pf_lcV (own' : List (Str × Nat)) (hc : X.calm = true) (hN : X.N.Nodup) (hi : PID X c false tg iter it) (ok : BlkOk X.N X.env.scope scope own') (hvs : own'.map (·.2) = vs)
    (hg : LcP X scope fun Y => PGD Y c tg is b) (ht : LcP X scope fun Y => PTsD Y c.w0 ifs tst) (he : LcP X scope fun Y => PD Y c.w0 true elt fe) (hv : subs is vs = true) (hvo : allNo c.O vs = true) (hs : ∀ x, foldedSetIterable iter X.env x = pure x) :
    PF X c .l (.ListComp elt [⟨tg, iter, ifs, 0⟩] scope pos) (dLc it b tst fe vs) := by
  subst hvs
  exact pf_lc hc hN hi ok hg ht he hv hvo hs
theorem ps_lcDV (i : Nat) {y : Str} {py spos : Pos} (own' : List (Str × Nat)) (hc : X.calm = true) (hN : X.N.Nodup) (hi : PID X c false tg iter it) (ok : BlkOk X.N X.env.scope scope own') (hvs : own'.map (·.2) = vs)
    (hg : LcP X scope fun Y => PGD Y c tg is b) (ht : LcP X scope fun Y => PTsD Y c.w0 ifs tst) (he : LcP X scope fun Y => PD Y c.w0 true elt fe) (hv : subs is vs = true) (hvo : allNo c.O vs = true) (hs : ∀ x, foldedSetIterable iter X.env x = pure x) (ho : noOw c.O i = true)
    (ps : ∀ {wi : TI} {g : TG} {tt : TT} {te : TE}, PI X tg iter wi → LcP X scope (fun Y => PG Y tg g) → LcP X scope (fun Y => PTs Y ifs tt) → LcP X scope (fun Y => PE Y elt te) → PS X (.Assign [.Name y py] (.ListComp elt [⟨tg, iter, ifs, 0⟩] scope pos) spos) (tAsg (tLc wi g tt te (own'.map (·.2))) (gName i))) :
    PSD X c (.Assign [.Name y py] (.ListComp elt [⟨tg, iter, ifs, 0⟩] scope pos) spos) (dAsg i (dLc it b tst fe vs)) := by
  subst hvs
  exact ps_lcD i hc hN hi ok hg ht he ho hv hvo ps
theorem ps_lcOV (i : Nat) {y : Str} {py spos : Pos} (own' : List (Str × Nat)) (hc : X.calm = true) (hN : X.N.Nodup) (hi : PID X c false tg iter it) (ok : BlkOk X.N X.env.scope scope own') (hvs : own'.map (·.2) = vs)
    (hg : LcP X scope fun Y => PGD Y c tg is b) (ht : LcP X scope fun Y => PTsD Y c.w0 ifs tst) (he : LcP X scope fun Y => PD Y c.w0 true elt fe) (hv : subs is vs = true) (hvo : allNo c.O vs = true) (hs : ∀ x, foldedSetIterable iter X.env x = pure x) (ho : isOw c.O i .l = true) (hu : onlyK c.O i .l = true)
    (ps : ∀ {wi : TI} {g : TG} {tt : TT} {te : TE}, PI X tg iter wi → LcP X scope (fun Y => PG Y tg g) → LcP X scope (fun Y => PTs Y ifs tt) → LcP X scope (fun Y => PE Y elt te) → PS X (.Assign [.Name y py] (.ListComp elt [⟨tg, iter, ifs, 0⟩] scope pos) spos) (tAsg (tLc wi g tt te (own'.map (·.2))) (gName i))) :
    PSD X c (.Assign [.Name y py] (.ListComp elt [⟨tg, iter, ifs, 0⟩] scope pos) spos) (dAsg i (dLc it b tst fe vs)) := by
  subst hvs
  exact ps_lcO i hc hN hi ok hg ht he ho hu hv hvo ps
end
section
variable {K : PySem.W.Frag} {h : Heap} {mg : Str → Option Value} {x : Str} {st : Stmt} {ps : List Str} {f : Addr} {oc : Value} {od an : Option Addr} {osl : Array (Option Value)} {kV doc pm cdv ct : Value}
theorem fd_ne (X : K.In h) (G : h.Ns mainGlobals mg)
    (a : PySem.W.nsIn K mainGlobals x = some (some (.ref f))) (l : K.lookup f = some ⟨oc, od, .func (PySem.W.fnOf x x (defArgs st) (defBody st) (defScope st) .none kV doc pm an cdv ct), osl⟩) (c : PySem.W.codeIn K cdv x = true) (k : PySem.W.keepIn K (.ref f) = true)
    (hb : ∀ (kV doc pm : Value) (an : Option Addr) (cdv ct : Value) (us : List Value), us.length = ps.length → bindArgs (PySem.W.fnOf x x (defArgs st) (defBody st) (defScope st) .none kV doc pm an cdv ct) ⟨us, []⟩ = pure (ps.zip us)) : Nonempty (Fd K mg x st ps) :=
  ⟨⟨f, _, fun_mk l c k, (fun_mk l c k).binds hb, PySem.W.mg_of X G a⟩⟩
theorem fd_law {p : Str} {fa : Addr} (X : K.In h) (G : h.Ns mainGlobals mg) (hfa : mg x = some (.ref fa))
    (a : PySem.W.nsIn K mainGlobals x = some (some (.ref f))) (l : K.lookup f = some ⟨oc, od, .func (PySem.W.fnOf x x (defArgs st) (defBody st) (defScope st) .none kV doc pm an cdv ct), osl⟩) (c : PySem.W.codeIn K cdv x = true) (k : PySem.W.keepIn K (.ref f) = true)
    (hb : ∀ (kV doc pm : Value) (an : Option Addr) (cdv ct : Value) (us : List Value), us.length = [p].length → bindArgs (PySem.W.fnOf x x (defArgs st) (defBody st) (defScope st) .none kV doc pm an cdv ct) ⟨us, []⟩ = pure ([p].zip us)) : ∃ F : Fd K mg x st [p], F.a = fa ∧ ∀ (s : Shared) (v : Value), BindsTo s F.fd ⟨[v], []⟩ [(p, v)] :=
  ⟨⟨f, _, fun_mk l c k, (fun_mk l c k).binds hb, PySem.W.mg_of X G a⟩, by have z := hfa.symm.trans (PySem.W.mg_of X G a); cases z; rfl, fun s v => .of_eq (hb kV doc pm an cdv ct [v] rfl)⟩
end
end Pd

/-! Pe: enumerate and zip over lists and tuples. -/
namespace Pd
open PySem PySem.Spec PyProof.Rows L2
open PySem.Sem (wp)
def SqK (K : PySem.W.Frag) (k : Bool) (H : Hp) (a : Addr) (xs : List V) : Prop := match k with
  | true => SqL K H a xs
  | false => SqT K H a xs
def itK (k : Bool) (h : Heap) (it a : Addr) (i : Nat) : Prop := match k with
  | true => h.IsListIter it a i
  | false => h.IsTupleIter it a i
def sqH (k : Bool) (h : Heap) (a : Addr) (items : Array Value) : Prop := match k with
  | true => h.IsList a items
  | false => h.IsTuple a items
def itO (k : Bool) (a : Addr) : Obj := match k with
  | true => { cls := .type "list_iterator", data := .fields #[.ref a, .int 0 0] }
  | false => { cls := .type "tuple_iterator", data := .fields #[.ref a, .int 0 0] }
theorem draws_K {prog : Program} {w : World} {A : Around} (hh : A.handled = none) (k : Bool) (it a : Addr) (hne : a ≠ it) (items : Array Value) :
    Draws prog w A it [it, a] items.size (fun i v => items[i]? = some v) (fun i h => itK k h it a i ∧ sqH k h a items) := by
  cases k
  · exact Draws.tuple hh it a hne items
  · exact Draws.list hh it a hne items
theorem begins_K (k : Bool) (a : Addr) (items : Array Value) : Begins (.ref a) (itO k a) (fun h => sqH k h a items) := by
  cases k
  · exact begins_tuple a items
  · exact begins_list a items
theorem itK_obj {k : Bool} {h : Heap} {it a : Addr} {i : Nat} (st : itK k h it a i) : ∃ o, h.get? it = some o ∧ ∀ v, o.data ≠ .cell v := by
  cases k <;> obtain ⟨o, e, _, d⟩ := st <;> exact ⟨o, e, fun v q => by rw [d] at q; cases q⟩
theorem itK_at {k : Bool} {h h' : Heap} {it a : Addr} {i : Nat} (st : itK k h it a i) (kp : ∀ o, h.get? it = some o → h'.get? it = some o) : itK k h' it a i := by
  cases k <;> obtain ⟨o, e, q⟩ := st <;> exact ⟨o, kp o e, q⟩
theorem itK_new {k : Bool} {h : Heap} {it a : Addr} (e : h.get? it = some (itO k a)) : itK k h it a 0 := by
  cases k <;> exact ⟨_, e, rfl, rfl⟩
section
variable {X : Cx} {pins : List (Addr × Obj)} {σ : L2.St} {H : Hp} {s : Shared}
theorem inv_K {k : Bool} {a : Addr} {xs : List V} (I : Inv X pins σ H s) (h : SqK X.K k H a xs) : ∃ its : List Value, Vals xs its ∧ sqH k s.heap a its.toArray ∧ a < s.heap.objs.size := by
  cases k
  · obtain ⟨its, r, p, _⟩ := I.tuple h
    obtain ⟨o, ho, _⟩ := id p
    exact ⟨its, r, p, Heap.lt_size ho⟩
  · obtain ⟨its, r, p, _⟩ := I.list h
    exact ⟨its, r, p.isList, p.lt⟩
theorem inv_inj {k : Bool} {a : Addr} {xs ys : List V} (I : Inv X pins σ H s) (h : SqK X.K k H a xs) (h' : SqK X.K k H a ys) : xs = ys := by
  cases k
  · exact I.tuple_inj h h'
  · exact I.list_inj h h'
variable {I : Addr} {fp wr cells : List Addr} {n i : Nat} {Pt : Nat → Array Value → Prop} {Sx : Nat → Heap → Prop} {Mid : Nat → Addr → Heap → Prop} {elts : List Expr} {kk : Nat} {tpos : Pos} {J : It} {tn : Nat → Heap → Prop} {E : Value → Shared → Prop}
theorem item_W (W : WalksT X.prog X.w X.A I fp wr n Pt Sx Mid) (In : Inv X pins σ H s) (hw : ∀ b ∈ wr, b ∈ cells) (hf : ∀ b ∈ cells, FpOk X pins H b) (hc : ∀ b ∈ cells, ∃ o, s.heap.get? b = some o)
    (hi : i < n) (st : Sx i s.heap) (htn : ∀ h', Sx (i + 1) h' → tn (i + 1) h')
    (hy : ∀ vals, Pt i vals → ∃ xs : List V, Vals xs vals.toList ∧ xs.length ≤ sizeLine ∧ ∀ T, H T = none → J.yld i H (.ref T) (upd H T (.tup xs))) :
    wpAny (model X.prog X.w) X.A (pyNext (.ref I)) (fun r s1 => ∃ u, r = some u ∧
      wpAny (model X.prog X.w) X.A (letOwnedTupleGo (.Tuple elts kk tpos) (.ref I) u) (fun _ s2 => ∃ x H', Inv X pins σ H' s2 ∧ RelV x u ∧ J.yld i H x H' ∧ tn (i + 1) s2.heap ∧ ∀ b ∈ cells, H' b = none) E s1) E s := by
  refine W.item i s _ _ hi st fun T vals h' tk hP hT hIs hm hk => ⟨.ref T, rfl, W.go elts kk tpos i T _ _ _ hm fun h'' st' hk2 => ?_⟩
  obtain ⟨xs, rv, hz, hy⟩ := hy vals hP
  have hIs2 : h''.IsTuple T vals := hIs.at fun o e => hk2 T o (W.apart i T h' hm) e
  have new : ObjOk X.prog X.w (upd H T (.tup xs)) h'' T (.tup xs) := ⟨hz, vals.toList, rv, by rw [show vals.toList.toArray = vals by simp]; exact hIs2⟩
  have I1 := In.turnedNew (t' := tk) (ch := wr) (h' := h'') (fun c o hb q => hk2 c o hb (hk c o hb q)) (fun b hb => hf b (hw b hb)) hT new
  exact ⟨.ref T, _, I1, rfl, hy T (In.hok.fresh hT), htn h'' st', fun b hb => by
    obtain ⟨o, e⟩ := hc b hb
    rw [upd_ne (Nat.ne_of_lt (Nat.lt_of_lt_of_le (Heap.lt_size e) hT))]
    exact (hf b hb).1⟩
theorem done_W (W : WalksT X.prog X.w X.A I fp wr n Pt Sx Mid) (In : Inv X pins σ H s) (hw : ∀ b ∈ wr, b ∈ cells) (hf : ∀ b ∈ cells, FpOk X pins H b) (st : Sx n s.heap) :
    wpAny (model X.prog X.w) X.A (pyNext (.ref I)) (fun r s1 => r = none ∧ Inv X pins σ H s1) E s :=
  W.done s _ _ st fun h' tk hk => ⟨rfl, In.turnedL (t' := tk) (ch := wr) hk (fun b hb => hf b (hw b hb))⟩
end

/-! ### enumerate -/
def ItE (K : PySem.W.Frag) (k : Bool) (a : Addr) : It :=
  ⟨fun i H => ∃ (xs : List V) (x : V), SqK K k H a xs ∧ xs[i]? = some x, fun i H v H' => ∃ T x, v = .ref T ∧ H T = none ∧ H' = upd H T (.tup [.int (i : Nat), x]) ∧ ∀ xs, SqK K k H a xs → xs[i]? = some x, fun i H => ∃ xs : List V, SqK K k H a xs ∧ xs.length = i⟩
theorem turn_enumK {P : Program} {w : World} {K : PySem.W.Frag} {elts : List Expr} {kk : Nat} {tpos : Pos} (k : Bool) (a e it : Addr) (hei : e ≠ it) (hea : e ≠ a) (hia : a ≠ it) :
    Turn P w K (.Tuple elts kk tpos) (ItE K k a) [e, it] e (fun i h => (∃ old, IsEnum h e it (0 + ((i : Nat) : Int)) old) ∧ itK k h it a i) where
  mem := by simp
  obj := fun i h st b hb => by
    obtain ⟨⟨old, he⟩, hi⟩ := st
    have e' : b = e ∨ b = it := by simpa using hb
    rcases e' with z | z
    · rw [z]; exact ⟨_, he, fun v q => nomatch q⟩
    · rw [z]; exact itK_obj hi
  keep := fun i h h' st kp => let ⟨⟨old, he⟩, hi⟩ := st; ⟨⟨old, kp e (by simp) _ he⟩, itK_at hi fun o q => kp it (by simp) o q⟩
  item := by
    intro X hP hw hK hc i pins s σ H E I hf st hg
    subst hP hw hK
    obtain ⟨⟨old, he⟩, hit⟩ := st
    obtain ⟨xs, x, hq, hx⟩ := hg
    obtain ⟨its, rv, p, _⟩ := inv_K I hq
    obtain ⟨u, hu, ru⟩ := rv.get hx
    have hh : X.A.in1.handled = none := I.ok.hd hc
    refine item_W (n := its.toArray.size) (J := ItE X.K k a) (tn := fun i h => (∃ old, IsEnum h e it (0 + ((i : Nat) : Int)) old) ∧ itK k h it a i) (WalksT.enumFrom 0 (draws_K hh k it a hia its.toArray) e hei (by simp [hei, hea]) (by simp)) I (fun b hb => hb) hf (fun b hb => ?_) ?_ ⟨⟨old, he⟩, hit, p⟩ (fun h' q => ⟨q.1, q.2.1⟩) (fun vals q => ?_)
    · have e' : b = e ∨ b = it := by simpa using hb
      rcases e' with z | z
      · rw [z]; exact ⟨_, he⟩
      · rw [z]; obtain ⟨o, e, _⟩ := itK_obj hit; exact ⟨o, e⟩
    · rw [List.size_toArray]
      exact (List.getElem?_eq_some_iff.mp hu).1
    · obtain ⟨t, y, hy, rfl⟩ := q
      have ey : y = u := by
        rw [List.getElem?_toArray] at hy
        rw [hu] at hy
        exact (Option.some.inj hy).symm
      subst ey
      refine ⟨[.int (i : Nat), x], .cons ⟨t, by rw [Int.zero_add]⟩ (.cons ru .nil), by show 2 ≤ sizeLine; decide, fun T hT => ⟨T, x, rfl, hT, rfl, fun ys hy => by rw [inv_inj I hy hq]; exact hx⟩⟩
  done := by
    intro X hP hw hK hc i pins s σ H E I hf st hg
    subst hP hw hK
    obtain ⟨⟨old, he⟩, hit⟩ := st
    obtain ⟨xs, hq, hx⟩ := hg
    obtain ⟨its, rv, p, _⟩ := inv_K I hq
    have hh : X.A.in1.handled = none := I.ok.hd hc
    have hl : i = its.toArray.size := by rw [List.size_toArray, ← rv.length, hx]
    subst hl
    exact done_W (WalksT.enumFrom 0 (draws_K hh k it a hia its.toArray) e hei (by simp [hei, hea]) (by simp)) I (fun b hb => hb) hf ⟨⟨old, he⟩, hit, p⟩
  self := fun A i s Q E st h => let ⟨⟨_, he⟩, _⟩ := st; wpAny_pyIter_enum he h
set_option maxHeartbeats 8000000 in
theorem meets_enumB1 {v : Value} {o : Obj} {H : Heap → Prop} (B : Begins v o H) :
    Meets (Builtin.«enumerate.__new__» ⟨[.type "enumerate", v], []⟩) (fun _ R s => H s.heap ∧
      R (.ok (.ret (.ref (s.heap.push o).objs.size))) { s with heap := (s.heap.push o).push { cls := .type "enumerate", data := .fields #[.none, .bool false, .ref s.heap.objs.size, rawInt 0, .none, .none] } }) :=
  .of_wp fun prog w A R s h => by
    obtain ⟨hp, g, d, tk, os⟩ := s; obtain ⟨h1, h⟩ := h
    have hsub := sub_enumerate
    have q1 : ∀ {A' : Around} {E : Value → Shared → Prop} {Q : Value → Shared → Prop}, Q (.ref hp.objs.size) ⟨hp.push o, g, d, tk, os⟩ → wpAny (model prog w) A' (pyIter v) Q E ⟨hp, g, d, tk, os⟩ :=
      fun q => B.iter prog w _ _ ⟨hp, g, d, tk, os⟩ _ h1 q
    wp_walk using q1
    refine wpAny_stack_any fun st => wpAny_pure ?_
    split
    · rename_i c _ _ _ _ _
      cases (c == Value.type "enumerate")
      · wp_walk using q1
        exact ⟨_, rfl, h⟩
      · wp_walk using q1
        exact ⟨_, rfl, h⟩
    · wp_walk using q1
      exact ⟨_, rfl, h⟩
theorem enum_begins1 {prog : Program} {w : World} {A : Around} {E : Value → Shared → Prop} {s : Shared} {v : Value} {o : Obj} {H : Heap → Prop} {Q : Value → Shared → Prop} (B : Begins v o H) (h1 : H s.heap)
    (h : ∀ h', IsEnum h' (s.heap.objs.size + 1) s.heap.objs.size 0 .none → h'.get? s.heap.objs.size = some o →
      (∀ b o, s.heap.get? b = some o → h'.get? b = some o) → Q (.ref (s.heap.objs.size + 1)) { s with heap := h' }) :
    wpAny (model prog w) A (call (.type "enumerate") [v]) Q E s := by
  refine callType_new F.called_enumerate (by decide) (F.typeCall_enumerate_1 _) (F.newCall_enumerate_1 _) (fun obj => F.args_object_init_2 obj _) F.entry_enumerate_new
    (meets_enumB1 B) ⟨h1, ?_⟩
  have hz : (s.heap.push o).objs.size = s.heap.objs.size + 1 := Heap.size_push ..
  show _ ∧ _
  rw [hz]
  have he : IsEnum ((s.heap.push o).push { cls := .type "enumerate", data := .fields #[.none, .bool false, .ref s.heap.objs.size, rawInt 0, .none, .none] }) (s.heap.objs.size + 1) s.heap.objs.size 0 .none := by
    have := Heap.get?_push_size (s.heap.push o) (o := { cls := .type "enumerate", data := .fields #[.none, .bool false, .ref s.heap.objs.size, rawInt 0, .none, .none] }) rfl
    rw [hz] at this; exact this
  exact ⟨⟨_, he, rfl⟩, h _ he (Heap.get?_push_of_some _ (Heap.get?_push_size _ B.free)) fun b o x => Heap.get?_push_of_some _ (Heap.get?_push_of_some _ x)⟩
def iEnumK (K : PySem.W.Frag) (ta : TA) : TI := fun σ H R => ta σ H fun vs H1 => ∃ k a xs, vs = [.ref a] ∧ SqK K k H1 a xs ∧ R (ItE K k a) H1
theorem pi_enumK {X : Cx} {e : Expr} {ta : TA} {p pos tpos : Pos} {elts : List Expr} {kk : Nat} (hg : Gl X "enumerate") (hm : X.mg "enumerate" = none) (ha : PA X [e] ta) (hs : starEach [e] X.env = [(false, eval e X.env)] := by rfl) :
    PI X (.Tuple elts kk tpos) (.Call (.Name "enumerate" p) [e] [] pos) (iEnumK X.K ta) := by
  refine ⟨fun pins s σ H R I h => ?_⟩
  refine Call_ (ld_blt I hg hm boot_enumerate (PyProof.Rows.callWith_type1 (thn (ha.run pos pins s σ H _ I h) fun us s1 ⟨vs, H1, I1, r1, q1⟩ => ?_) hs rfl))
  obtain ⟨k, a, xs, ex, hq, q⟩ := q1
  subst ex
  cases r1 with
  | cons r rr =>
    cases rr
    cases r
    obtain ⟨its, rv, p', hlt⟩ := inv_K I1 hq
    refine enum_begins1 (begins_K k a its.toArray) p' fun h' he hit hk => wpAny_pyIter_enum he ?_
    have I2 : Inv X pins σ H1 { s1 with heap := h' } := I1.kept (t' := s1.toks) hk
    refine ⟨s1.heap.objs.size + 1, [s1.heap.objs.size + 1, s1.heap.objs.size], _, _, H1, rfl, I2, turn_enumK k a (s1.heap.objs.size + 1) s1.heap.objs.size (Nat.succ_ne_self _) (Nat.ne_of_gt (Nat.lt_succ_of_lt hlt)) (Nat.ne_of_lt hlt), ⟨⟨.none, by rw [show (0 + ((0 : Nat) : Int)) = 0 from rfl]; exact he⟩, itK_new hit⟩, fun b hb => ?_, q⟩
    have e' : b = s1.heap.objs.size + 1 ∨ b = s1.heap.objs.size := by simpa using hb
    have hle : s1.heap.objs.size ≤ b := by
      rcases e' with z | z
      · rw [z]; exact Nat.le_add_right _ _
      · rw [z]; exact Nat.le_refl _
    exact I1.fpOk hle (I1.hok.fresh hle)

/-! ### zip -/
def ItZ2 (K : PySem.W.Frag) (k1 k2 : Bool) (a1 a2 : Addr) : It :=
  ⟨fun i H => ∃ (x1 x2 : List V) (y1 y2 : V), SqK K k1 H a1 x1 ∧ SqK K k2 H a2 x2 ∧ x1[i]? = some y1 ∧ x2[i]? = some y2,
   fun i H v H' => ∃ (T : Addr) (y1 y2 : V), v = .ref T ∧ H T = none ∧ H' = upd H T (.tup [y1, y2]) ∧ (∀ x1, SqK K k1 H a1 x1 → x1[i]? = some y1) ∧ (∀ x2, SqK K k2 H a2 x2 → x2[i]? = some y2),
   fun i H => ∃ x1 x2 : List V, SqK K k1 H a1 x1 ∧ SqK K k2 H a2 x2 ∧ i = min x1.length x2.length⟩
theorem turn_z2 {P : Program} {w : World} {K : PySem.W.Frag} {elts : List Expr} {kk : Nat} {tpos : Pos} (k1 k2 : Bool) {a1 a2 z TI TO i1 i2 : Addr} (D : ZipSep2 z TI TO i1 i2 [i1, a1] [i2, a2]) (hn : a1 ≠ i1 ∧ a2 ≠ i2) :
    Turn P w K (.Tuple elts kk tpos) (ItZ2 K k1 k2 a1 a2) [z, TI, TO, i1, i2] z (fun i h => IsZip h z TI TO .none ∧ IsTupOf2 h TI (.ref i1) (.ref i2) ∧ (∃ u1 u2, IsTupOf2 h TO u1 u2) ∧ itK k1 h i1 a1 i ∧ itK k2 h i2 a2 i) where
  mem := by simp
  obj := fun i h st b hb => by
    obtain ⟨hz, hTI, ⟨w1, w2, hTO⟩, h1, h2⟩ := st
    have e' : b = z ∨ b = TI ∨ b = TO ∨ b = i1 ∨ b = i2 := by simpa using hb
    rcases e' with q | q | q | q | q
    · rw [q]; exact ⟨_, hz, fun v q => nomatch q⟩
    · rw [q]; exact ⟨_, hTI, fun v q => nomatch q⟩
    · rw [q]; exact ⟨_, hTO, fun v q => nomatch q⟩
    · rw [q]; exact itK_obj h1
    · rw [q]; exact itK_obj h2
  keep := fun i h h' st kp => by
    obtain ⟨hz, hTI, ⟨w1, w2, hTO⟩, h1, h2⟩ := st
    exact ⟨kp z (by simp) _ hz, kp TI (by simp) _ hTI, ⟨w1, w2, kp TO (by simp) _ hTO⟩, itK_at h1 fun o q => kp i1 (by simp) o q, itK_at h2 fun o q => kp i2 (by simp) o q⟩
  item := by
    intro X hP hw hK hc i pins s σ H E I hf st hg
    subst hP hw hK
    obtain ⟨hz, hTI, ⟨w1, w2, hTO⟩, h1, h2⟩ := st
    obtain ⟨x1, x2, y1, y2, hq1, hq2, hx1, hx2⟩ := hg
    obtain ⟨t1, rv1, p1, _⟩ := inv_K I hq1
    obtain ⟨u1, hu1, ru1⟩ := rv1.get hx1
    obtain ⟨t2, rv2, p2, _⟩ := inv_K I hq2
    obtain ⟨u2, hu2, ru2⟩ := rv2.get hx2
    have hh : X.A.in1.handled = none := I.ok.hd hc
    refine item_W (J := ItZ2 X.K k1 k2 a1 a2) (tn := fun i h => IsZip h z TI TO .none ∧ IsTupOf2 h TI (.ref i1) (.ref i2) ∧ (∃ u1 u2, IsTupOf2 h TO u1 u2) ∧ itK k1 h i1 a1 i ∧ itK k2 h i2 a2 i) (WalksT.zipD2 D (draws_K hh k1 i1 a1 hn.1 t1.toArray) (draws_K hh k2 i2 a2 hn.2 t2.toArray)) I (fun b hb => ?_) hf (fun b hb => ?_) ?_ ⟨hz, hTI, ⟨w1, w2, hTO⟩, ⟨h1, p1⟩, ⟨h2, p2⟩⟩ (fun h' q => ?_) (fun vals q => ?_)
    · simp only [List.mem_cons, List.not_mem_nil, or_false] at hb ⊢
      rcases hb with q | q | q | q <;> simp [q]
    · have e' : b = z ∨ b = TI ∨ b = TO ∨ b = i1 ∨ b = i2 := by simpa using hb
      rcases e' with q | q | q | q | q
      · rw [q]; exact ⟨_, hz⟩
      · rw [q]; exact ⟨_, hTI⟩
      · rw [q]; exact ⟨_, hTO⟩
      · rw [q]; obtain ⟨o, e, _⟩ := itK_obj h1; exact ⟨o, e⟩
      · rw [q]; obtain ⟨o, e, _⟩ := itK_obj h2; exact ⟨o, e⟩
    · have l1 := (List.getElem?_eq_some_iff.mp hu1).1
      have l2 := (List.getElem?_eq_some_iff.mp hu2).1
      simp only [List.size_toArray]
      omega
    · obtain ⟨q1, q2, q3, q4, q5⟩ := q
      exact ⟨q1, q2, q3, q4.1, q5.1⟩
    · obtain ⟨v1, v2, hv1, hv2, rfl⟩ := q
      have ev1 : v1 = u1 := by
        rw [List.getElem?_toArray, hu1] at hv1
        exact (Option.some.inj hv1).symm
      subst ev1
      have ev2 : v2 = u2 := by
        rw [List.getElem?_toArray, hu2] at hv2
        exact (Option.some.inj hv2).symm
      subst ev2
      exact ⟨[y1, y2], (.cons ru1 (.cons ru2 .nil)), by show 2 ≤ sizeLine; decide, fun T hT => ⟨T, y1, y2, rfl, hT, rfl, fun ys hy => by rw [inv_inj I hy hq1]; exact hx1, fun ys hy => by rw [inv_inj I hy hq2]; exact hx2⟩⟩
  done := by
    intro X hP hw hK hc i pins s σ H E I hf st hg
    subst hP hw hK
    obtain ⟨hz, hTI, ⟨w1, w2, hTO⟩, h1, h2⟩ := st
    obtain ⟨x1, x2, hq1, hq2, hi⟩ := hg
    obtain ⟨t1, rv1, p1, _⟩ := inv_K I hq1
    have l1 := rv1.length
    obtain ⟨t2, rv2, p2, _⟩ := inv_K I hq2
    have l2 := rv2.length
    have hh : X.A.in1.handled = none := I.ok.hd hc
    have ei : i = min t1.toArray.size t2.toArray.size := by simp only [List.size_toArray]; omega
    subst ei
    refine done_W (WalksT.zipD2 D (draws_K hh k1 i1 a1 hn.1 t1.toArray) (draws_K hh k2 i2 a2 hn.2 t2.toArray)) I (fun b hb => ?_) hf ⟨hz, hTI, ⟨w1, w2, hTO⟩, ⟨h1, p1⟩, ⟨h2, p2⟩⟩
    simp only [List.mem_cons, List.not_mem_nil, or_false] at hb ⊢
    rcases hb with q | q | q | q <;> simp [q]
  self := fun A i s Q E st h => wpAny_pyIter_zip st.1 h
def iZ2 (K : PySem.W.Frag) (ta : TA) : TI := fun σ H R => ta σ H fun vs H1 => ∃ k1 k2 a1 a2 x1 x2, vs = [.ref a1, .ref a2] ∧ SqK K k1 H1 a1 x1 ∧ SqK K k2 H1 a2 x2 ∧ R (ItZ2 K k1 k2 a1 a2) H1
theorem pi_z2 {X : Cx} {e1 e2 : Expr} {ta : TA} {p pos tpos : Pos} {elts : List Expr} {kk : Nat} (hg : Gl X "zip") (hm : X.mg "zip" = none) (ha : PA X [e1, e2] ta)
    (hs : starEach [e1, e2] X.env = (false, eval e1 X.env) :: starEach [e2] X.env := by rfl) (hpl : (backTo pos (starEach [e2] X.env)).any (·.1) = false := by rfl) :
    PI X (.Tuple elts kk tpos) (.Call (.Name "zip" p) [e1, e2] [] pos) (iZ2 X.K ta) := by
  refine ⟨fun pins s σ H R I h => ?_⟩
  refine Call_ (ld_blt I hg hm PyProof.Rows.boot_zip (PyProof.Rows.callWith_type1 (thn (ha.run pos pins s σ H _ I h) fun us s1 ⟨vs, H1, I1, r1, q1⟩ => ?_) hs hpl))
  obtain ⟨k1, k2, a1, a2, x1, x2, ex, hq1, hq2, q⟩ := q1
  subst ex
  rcases r1 with _ | ⟨r1', r1⟩
  cases r1'
  rcases r1 with _ | ⟨r2', r1⟩
  cases r2'
  cases r1
  obtain ⟨t1, rv1, p1, lt1⟩ := inv_K I1 hq1
  obtain ⟨t2, rv2, p2, lt2⟩ := inv_K I1 hq2
  refine zip_begins2 (begins_K k1 a1 t1.toArray) (begins_K k2 a2 t2.toArray) p1 p2 fun h' hz hTI hTO g1 g2 hsz hk => wpAny_pyIter_zip hz ?_
  have I2 : Inv X pins σ H1 { s1 with heap := h' } := I1.kept (t' := s1.toks) hk
  refine ⟨s1.heap.objs.size + 4, [s1.heap.objs.size + 4, s1.heap.objs.size + 2, s1.heap.objs.size + 3, s1.heap.objs.size, s1.heap.objs.size + 1], _, _, H1, rfl, I2, turn_z2 k1 k2 (zip_sep2 (N := s1.heap.objs.size) (fp1 := [a1]) (fp2 := [a2]) (fun b hb => by rw [List.mem_singleton.mp hb]; exact lt1) (fun b hb => by rw [List.mem_singleton.mp hb]; exact lt2)) ⟨Nat.ne_of_lt (Nat.lt_of_lt_of_le lt1 (by omega)), Nat.ne_of_lt (Nat.lt_of_lt_of_le lt2 (by omega))⟩, ⟨hz, hTI, ⟨_, _,  hTO⟩, itK_new g1, itK_new g2⟩, fun c hcm => ?_, q⟩
  have hle : s1.heap.objs.size ≤ c := by
    simp only [List.mem_cons, List.not_mem_nil, or_false] at hcm
    rcases hcm with q | q | q | q | q <;> (rw [q]; first | exact Nat.le_add_right _ _ | exact Nat.le_refl _)
  exact I1.fpOk hle (I1.hok.fresh hle)
def ItZ3 (K : PySem.W.Frag) (k1 k2 k3 : Bool) (a1 a2 a3 : Addr) : It :=
  ⟨fun i H => ∃ (x1 x2 x3 : List V) (y1 y2 y3 : V), SqK K k1 H a1 x1 ∧ SqK K k2 H a2 x2 ∧ SqK K k3 H a3 x3 ∧ x1[i]? = some y1 ∧ x2[i]? = some y2 ∧ x3[i]? = some y3,
   fun i H v H' => ∃ (T : Addr) (y1 y2 y3 : V), v = .ref T ∧ H T = none ∧ H' = upd H T (.tup [y1, y2, y3]) ∧ (∀ x1, SqK K k1 H a1 x1 → x1[i]? = some y1) ∧ (∀ x2, SqK K k2 H a2 x2 → x2[i]? = some y2) ∧ (∀ x3, SqK K k3 H a3 x3 → x3[i]? = some y3),
   fun i H => ∃ x1 x2 x3 : List V, SqK K k1 H a1 x1 ∧ SqK K k2 H a2 x2 ∧ SqK K k3 H a3 x3 ∧ i = min (min x1.length x2.length) x3.length⟩
theorem turn_z3 {P : Program} {w : World} {K : PySem.W.Frag} {elts : List Expr} {kk : Nat} {tpos : Pos} (k1 k2 k3 : Bool) {a1 a2 a3 z TI TO i1 i2 i3 : Addr} (D : ZipSep3 z TI TO i1 i2 i3 [i1, a1] [i2, a2] [i3, a3]) (hn : a1 ≠ i1 ∧ a2 ≠ i2 ∧ a3 ≠ i3) :
    Turn P w K (.Tuple elts kk tpos) (ItZ3 K k1 k2 k3 a1 a2 a3) [z, TI, TO, i1, i2, i3] z (fun i h => IsZip h z TI TO .none ∧ IsTupOf3 h TI (.ref i1) (.ref i2) (.ref i3) ∧ (∃ u1 u2 u3, IsTupOf3 h TO u1 u2 u3) ∧ itK k1 h i1 a1 i ∧ itK k2 h i2 a2 i ∧ itK k3 h i3 a3 i) where
  mem := by simp
  obj := fun i h st b hb => by
    obtain ⟨hz, hTI, ⟨w1, w2, w3, hTO⟩, h1, h2, h3⟩ := st
    have e' : b = z ∨ b = TI ∨ b = TO ∨ b = i1 ∨ b = i2 ∨ b = i3 := by simpa using hb
    rcases e' with q | q | q | q | q | q
    · rw [q]; exact ⟨_, hz, fun v q => nomatch q⟩
    · rw [q]; exact ⟨_, hTI, fun v q => nomatch q⟩
    · rw [q]; exact ⟨_, hTO, fun v q => nomatch q⟩
    · rw [q]; exact itK_obj h1
    · rw [q]; exact itK_obj h2
    · rw [q]; exact itK_obj h3
  keep := fun i h h' st kp => by
    obtain ⟨hz, hTI, ⟨w1, w2, w3, hTO⟩, h1, h2, h3⟩ := st
    exact ⟨kp z (by simp) _ hz, kp TI (by simp) _ hTI, ⟨w1, w2, w3, kp TO (by simp) _ hTO⟩, itK_at h1 fun o q => kp i1 (by simp) o q, itK_at h2 fun o q => kp i2 (by simp) o q, itK_at h3 fun o q => kp i3 (by simp) o q⟩
  item := by
    intro X hP hw hK hc i pins s σ H E I hf st hg
    subst hP hw hK
    obtain ⟨hz, hTI, ⟨w1, w2, w3, hTO⟩, h1, h2, h3⟩ := st
    obtain ⟨x1, x2, x3, y1, y2, y3, hq1, hq2, hq3, hx1, hx2, hx3⟩ := hg
    obtain ⟨t1, rv1, p1, _⟩ := inv_K I hq1
    obtain ⟨u1, hu1, ru1⟩ := rv1.get hx1
    obtain ⟨t2, rv2, p2, _⟩ := inv_K I hq2
    obtain ⟨u2, hu2, ru2⟩ := rv2.get hx2
    obtain ⟨t3, rv3, p3, _⟩ := inv_K I hq3
    obtain ⟨u3, hu3, ru3⟩ := rv3.get hx3
    have hh : X.A.in1.handled = none := I.ok.hd hc
    refine item_W (J := ItZ3 X.K k1 k2 k3 a1 a2 a3) (tn := fun i h => IsZip h z TI TO .none ∧ IsTupOf3 h TI (.ref i1) (.ref i2) (.ref i3) ∧ (∃ u1 u2 u3, IsTupOf3 h TO u1 u2 u3) ∧ itK k1 h i1 a1 i ∧ itK k2 h i2 a2 i ∧ itK k3 h i3 a3 i) (WalksT.zipD3 D (draws_K hh k1 i1 a1 hn.1 t1.toArray) (draws_K hh k2 i2 a2 hn.2.1 t2.toArray) (draws_K hh k3 i3 a3 hn.2.2 t3.toArray)) I (fun b hb => ?_) hf (fun b hb => ?_) ?_ ⟨hz, hTI, ⟨w1, w2, w3, hTO⟩, ⟨h1, p1⟩, ⟨h2, p2⟩, ⟨h3, p3⟩⟩ (fun h' q => ?_) (fun vals q => ?_)
    · simp only [List.mem_cons, List.not_mem_nil, or_false] at hb ⊢
      rcases hb with q | q | q | q | q <;> simp [q]
    · have e' : b = z ∨ b = TI ∨ b = TO ∨ b = i1 ∨ b = i2 ∨ b = i3 := by simpa using hb
      rcases e' with q | q | q | q | q | q
      · rw [q]; exact ⟨_, hz⟩
      · rw [q]; exact ⟨_, hTI⟩
      · rw [q]; exact ⟨_, hTO⟩
      · rw [q]; obtain ⟨o, e, _⟩ := itK_obj h1; exact ⟨o, e⟩
      · rw [q]; obtain ⟨o, e, _⟩ := itK_obj h2; exact ⟨o, e⟩
      · rw [q]; obtain ⟨o, e, _⟩ := itK_obj h3; exact ⟨o, e⟩
    · have l1 := (List.getElem?_eq_some_iff.mp hu1).1
      have l2 := (List.getElem?_eq_some_iff.mp hu2).1
      have l3 := (List.getElem?_eq_some_iff.mp hu3).1
      simp only [List.size_toArray]
      omega
    · obtain ⟨q1, q2, q3, q4, q5, q6⟩ := q
      exact ⟨q1, q2, q3, q4.1, q5.1, q6.1⟩
    · obtain ⟨v1, v2, v3, hv1, hv2, hv3, rfl⟩ := q
      have ev1 : v1 = u1 := by
        rw [List.getElem?_toArray, hu1] at hv1
        exact (Option.some.inj hv1).symm
      subst ev1
      have ev2 : v2 = u2 := by
        rw [List.getElem?_toArray, hu2] at hv2
        exact (Option.some.inj hv2).symm
      subst ev2
      have ev3 : v3 = u3 := by
        rw [List.getElem?_toArray, hu3] at hv3
        exact (Option.some.inj hv3).symm
      subst ev3
      exact ⟨[y1, y2, y3], (.cons ru1 (.cons ru2 (.cons ru3 .nil))), by show 3 ≤ sizeLine; decide, fun T hT => ⟨T, y1, y2, y3, rfl, hT, rfl, fun ys hy => by rw [inv_inj I hy hq1]; exact hx1, fun ys hy => by rw [inv_inj I hy hq2]; exact hx2, fun ys hy => by rw [inv_inj I hy hq3]; exact hx3⟩⟩
  done := by
    intro X hP hw hK hc i pins s σ H E I hf st hg
    subst hP hw hK
    obtain ⟨hz, hTI, ⟨w1, w2, w3, hTO⟩, h1, h2, h3⟩ := st
    obtain ⟨x1, x2, x3, hq1, hq2, hq3, hi⟩ := hg
    obtain ⟨t1, rv1, p1, _⟩ := inv_K I hq1
    have l1 := rv1.length
    obtain ⟨t2, rv2, p2, _⟩ := inv_K I hq2
    have l2 := rv2.length
    obtain ⟨t3, rv3, p3, _⟩ := inv_K I hq3
    have l3 := rv3.length
    have hh : X.A.in1.handled = none := I.ok.hd hc
    have ei : i = min (min t1.toArray.size t2.toArray.size) t3.toArray.size := by simp only [List.size_toArray]; omega
    subst ei
    refine done_W (WalksT.zipD3 D (draws_K hh k1 i1 a1 hn.1 t1.toArray) (draws_K hh k2 i2 a2 hn.2.1 t2.toArray) (draws_K hh k3 i3 a3 hn.2.2 t3.toArray)) I (fun b hb => ?_) hf ⟨hz, hTI, ⟨w1, w2, w3, hTO⟩, ⟨h1, p1⟩, ⟨h2, p2⟩, ⟨h3, p3⟩⟩
    simp only [List.mem_cons, List.not_mem_nil, or_false] at hb ⊢
    rcases hb with q | q | q | q | q <;> simp [q]
  self := fun A i s Q E st h => wpAny_pyIter_zip st.1 h
def iZ3 (K : PySem.W.Frag) (ta : TA) : TI := fun σ H R => ta σ H fun vs H1 => ∃ k1 k2 k3 a1 a2 a3 x1 x2 x3, vs = [.ref a1, .ref a2, .ref a3] ∧ SqK K k1 H1 a1 x1 ∧ SqK K k2 H1 a2 x2 ∧ SqK K k3 H1 a3 x3 ∧ R (ItZ3 K k1 k2 k3 a1 a2 a3) H1
theorem pi_z3 {X : Cx} {e1 e2 e3 : Expr} {ta : TA} {p pos tpos : Pos} {elts : List Expr} {kk : Nat} (hg : Gl X "zip") (hm : X.mg "zip" = none) (ha : PA X [e1, e2, e3] ta)
    (hs : starEach [e1, e2, e3] X.env = (false, eval e1 X.env) :: starEach [e2, e3] X.env := by rfl) (hpl : (backTo pos (starEach [e2, e3] X.env)).any (·.1) = false := by rfl) :
    PI X (.Tuple elts kk tpos) (.Call (.Name "zip" p) [e1, e2, e3] [] pos) (iZ3 X.K ta) := by
  refine ⟨fun pins s σ H R I h => ?_⟩
  refine Call_ (ld_blt I hg hm PyProof.Rows.boot_zip (PyProof.Rows.callWith_type1 (thn (ha.run pos pins s σ H _ I h) fun us s1 ⟨vs, H1, I1, r1, q1⟩ => ?_) hs hpl))
  obtain ⟨k1, k2, k3, a1, a2, a3, x1, x2, x3, ex, hq1, hq2, hq3, q⟩ := q1
  subst ex
  rcases r1 with _ | ⟨r1', r1⟩
  cases r1'
  rcases r1 with _ | ⟨r2', r1⟩
  cases r2'
  rcases r1 with _ | ⟨r3', r1⟩
  cases r3'
  cases r1
  obtain ⟨t1, rv1, p1, lt1⟩ := inv_K I1 hq1
  obtain ⟨t2, rv2, p2, lt2⟩ := inv_K I1 hq2
  obtain ⟨t3, rv3, p3, lt3⟩ := inv_K I1 hq3
  refine zip_begins3 (begins_K k1 a1 t1.toArray) (begins_K k2 a2 t2.toArray) (begins_K k3 a3 t3.toArray) p1 p2 p3 fun h' hz hTI hTO g1 g2 g3 hsz hk => wpAny_pyIter_zip hz ?_
  have I2 : Inv X pins σ H1 { s1 with heap := h' } := I1.kept (t' := s1.toks) hk
  refine ⟨s1.heap.objs.size + 5, [s1.heap.objs.size + 5, s1.heap.objs.size + 3, s1.heap.objs.size + 4, s1.heap.objs.size, s1.heap.objs.size + 1, s1.heap.objs.size + 2], _, _, H1, rfl, I2, turn_z3 k1 k2 k3 (zip_sep3 (N := s1.heap.objs.size) (fp1 := [a1]) (fp2 := [a2]) (fp3 := [a3]) (fun b hb => by rw [List.mem_singleton.mp hb]; exact lt1) (fun b hb => by rw [List.mem_singleton.mp hb]; exact lt2) (fun b hb => by rw [List.mem_singleton.mp hb]; exact lt3)) ⟨Nat.ne_of_lt (Nat.lt_of_lt_of_le lt1 (by omega)), Nat.ne_of_lt (Nat.lt_of_lt_of_le lt2 (by omega)), Nat.ne_of_lt (Nat.lt_of_lt_of_le lt3 (by omega))⟩, ⟨hz, hTI, ⟨_, _, _,  hTO⟩, itK_new g1, itK_new g2, itK_new g3⟩, fun c hcm => ?_, q⟩
  have hle : s1.heap.objs.size ≤ c := by
    simp only [List.mem_cons, List.not_mem_nil, or_false] at hcm
    rcases hcm with q | q | q | q | q | q <;> (rw [q]; first | exact Nat.le_add_right _ _ | exact Nat.le_refl _)
  exact I1.fpOk hle (I1.hok.fresh hle)
end Pd

/-! Pi: enumerate and zip by data. -/
namespace Pd
open PySem L2 PyProof.Rows
def seqO : D → Option (List D)
  | .list l => some l
  | .tuple l => some l
  | .ftup l => some l
  | _ => none
def enumD : Nat → List D → List D
  | _, [] => []
  | i, d :: l => .tuple [.int (i : Nat), d] :: enumD (i + 1) l
def zipD2 : List D → List D → List D
  | a :: l, b :: m => .tuple [a, b] :: zipD2 l m
  | _, _ => []
def zipD3 : List D → List D → List D → List D
  | a :: l, b :: m, c :: n => .tuple [a, b, c] :: zipD3 l m n
  | _, _, _ => []
theorem enumD_len : ∀ (i : Nat) (l : List D), (enumD i l).length = l.length
  | _, [] => rfl
  | i, _ :: l => by simp only [enumD, List.length_cons, enumD_len (i + 1) l]
theorem zipD2_len : ∀ (l m : List D), (zipD2 l m).length = min l.length m.length
  | [], m => by simp [zipD2]
  | a :: l, [] => by simp [zipD2]
  | a :: l, b :: m => by simp only [zipD2, List.length_cons, zipD2_len l m]; omega
theorem zipD3_len : ∀ (l m n : List D), (zipD3 l m n).length = min (min l.length m.length) n.length
  | [], m, n => by simp [zipD3]
  | a :: l, [], n => by simp [zipD3]
  | a :: l, b :: m, [] => by simp [zipD3]
  | a :: l, b :: m, c :: n => by simp only [zipD3, List.length_cons, zipD3_len l m n]; omega
theorem enumD_get : ∀ {j i : Nat} {l : List D} {d : D}, (enumD j l)[i]? = some d → ∃ e, l[i]? = some e ∧ d = .tuple [.int (j + i : Nat), e]
  | j, i, [], d, h => by simp [enumD] at h
  | j, 0, e :: l, d, h => by simp [enumD] at h; exact ⟨e, rfl, h.symm⟩
  | j, i + 1, e :: l, d, h => by
    simp only [enumD, List.getElem?_cons_succ] at h ⊢
    obtain ⟨e', h1, h2⟩ := enumD_get h
    exact ⟨e', h1, by rw [h2, show j + 1 + i = j + (i + 1) by omega]⟩
theorem zipD2_get : ∀ {i : Nat} {l m : List D} {d : D}, (zipD2 l m)[i]? = some d → ∃ a b, l[i]? = some a ∧ m[i]? = some b ∧ d = .tuple [a, b]
  | i, [], m, d, h => by simp [zipD2] at h
  | i, a :: l, [], d, h => by simp [zipD2] at h
  | 0, a :: l, b :: m, d, h => by simp [zipD2] at h; exact ⟨a, b, rfl, rfl, h.symm⟩
  | i + 1, a :: l, b :: m, d, h => by
    simp only [zipD2, List.getElem?_cons_succ] at h ⊢
    exact zipD2_get h
theorem zipD3_get : ∀ {i : Nat} {l m n : List D} {d : D}, (zipD3 l m n)[i]? = some d → ∃ a b c, l[i]? = some a ∧ m[i]? = some b ∧ n[i]? = some c ∧ d = .tuple [a, b, c]
  | i, [], m, n, d, h => by simp [zipD3] at h
  | i, a :: l, [], n, d, h => by simp [zipD3] at h
  | i, a :: l, b :: m, [], d, h => by simp [zipD3] at h
  | 0, a :: l, b :: m, c :: n, d, h => by simp [zipD3] at h; exact ⟨a, b, c, rfl, rfl, rfl, h.symm⟩
  | i + 1, a :: l, b :: m, c :: n, d, h => by
    simp only [zipD3, List.getElem?_cons_succ] at h ⊢
    exact zipD3_get h
section
variable {K : PySem.W.Frag}
theorem rp_seq {Hh : Hp} {v : V} {d : D} {l : List D} (r : Rp K Hh v d) (hd : seqO d = some l) : ∃ k a xs, v = .ref a ∧ SqK K k Hh a xs ∧ RpA K Hh xs l ∧ xs.length ≤ sizeLine := by
  cases r <;> cases hd
  · rename_i a xs h1 h2 h3
    exact ⟨true, a, xs, rfl, SqL.of h1, h3, h2⟩
  · rename_i a xs h1 h2 h3
    exact ⟨false, a, xs, rfl, SqT.of h1, h3, h2⟩
  · rename_i a o xs h1 h0 h2 h3
    exact ⟨false, a, xs, rfl, .inl (.inr ⟨o, h1⟩), h3, h2⟩
theorem sqK_up {k : Bool} {H H' : Hp} {a : Addr} {xs : List V} (h : SqK K k H a xs) (s : Same H H') : SqK K k H' a xs := by
  cases k
  · exact Same.seqT s h
  · exact Same.seq s h
theorem sqK_keep {k : Bool} {B B' : List Addr} {H1 H2 : Hp} {a : Addr} {xs : List V} (hB : ∀ b ∈ B, b ∈ B') (h : SqK K k (hid B' H1) a xs) (kp : ∀ b o, b ∉ B ∨ frzO o = true → H1 b = some o → H2 b = some o) : SqK K k H2 a xs :=
  sqK_up h fun b o q => by
    obtain ⟨q1, q2⟩ := hid_some q
    exact kp b o (.inl fun z => q1 (hB b z)) q2
theorem itd_new {B B' : List Addr} {J : It} {ds : List D} {H1 : Hp} (hB : ∀ b ∈ B, b ∈ B')
    (h : ∀ H2, (∀ b o, b ∉ B ∨ frzO o = true → H1 b = some o → H2 b = some o) → (∀ i, i < ds.length → J.go i H2) ∧ J.stop ds.length H2 ∧ ∀ i x H3, J.yld i H2 x H3 → ∃ T ys, x = .ref T ∧ H2 T = none ∧ H3 = upd H2 T (.tup ys) ∧ ys.length ≤ sizeLine ∧ ∀ d, ds[i]? = some d → ∃ es, d = .tuple es ∧ RpA K (hid B' H1) ys es) :
    ItD K B B' J ds H1 := fun H2 N k n dm => by
  obtain ⟨h1, h2, h3⟩ := h H2 k
  refine ⟨h1, h2, fun i x H3 d hd y => ?_⟩
  obtain ⟨T, ys, rfl, hT, rfl, hz, q⟩ := h3 i x H3 y
  obtain ⟨es, rfl, r⟩ := q d hd
  refine ⟨same_upd hT, .tuple (hid_of (dm.free hT) upd_same) hz (r.up fun b o q => ?_)⟩
  obtain ⟨q1, q2⟩ := hid_some q
  have q3 := k b o (.inl fun z => q1 (hB b z)) q2
  refine hid_of (fun z => ?_) (same_upd hT b o q3)
  rcases n b z with z | z
  · exact q1 z
  · rw [q2] at z
    cases z
end
section
variable {X : Cx} {c : Pc} {lp : Bool} {e e1 e2 e3 : Expr} {elts : List Expr} {kk : Nat} {pos p tpos : Pos} {f f1 f2 f3 : DE}
def ofSeq (d : D) (k : List D → Out (List D)) : Out (List D) := match seqO d with
  | some l => k l
  | none => .bad
theorem ofSeq_wp {d : D} {k : List D → Out (List D)} {P : List D → Prop} {E : Nat → Prop} (h : (ofSeq d k).wp P E) : ∃ l, seqO d = some l ∧ (k l).wp P E := by
  unfold ofSeq at h
  cases e : seqO d with
  | none => rw [e] at h; exact h.elim
  | some l => rw [e] at h; exact ⟨l, rfl, h⟩
def dEnum (f : DE) : DA := fun ρ => (f ρ).bind fun d => ofSeq d fun l => .ok (enumD 0 l)
def dZip2 (f g : DE) : DA := fun ρ => (f ρ).bind fun d => (g ρ).bind fun e => ofSeq d fun l => ofSeq e fun m => .ok (zipD2 l m)
def dZip3 (f g h : DE) : DA := fun ρ => (f ρ).bind fun d => (g ρ).bind fun e => (h ρ).bind fun u => ofSeq d fun l => ofSeq e fun m => ofSeq u fun n => .ok (zipD3 l m n)
theorem pid_enum (hm : X.mg "enumerate" = none) (h : PD X c true e f) (hg : Gl X "enumerate" := by rfl) (hs : starEach [e] X.env = (false, eval e X.env) :: starEach [] X.env := by rfl) (hs2 : starEach [] X.env = [] := by rfl) : PID X c lp (.Tuple elts kk tpos) (.Call (.Name "enumerate" p) [e] [] pos) (dEnum f) :=
  PI.imp (pi_enumK hg hm (pa_cons h pa_nil hs) (by rw [hs, hs2])) fun σ H R ⟨F, ρ, E, w⟩ => ⟨F, ρ, E, (Out.wp_bind w).imp (fun d k v H1 s1 r => by
    obtain ⟨l, hd, q⟩ := ofSeq_wp k
    obtain ⟨kd, a, xs, rfl, hq, hr, hz⟩ := rp_seq r hd
    refine ⟨kd, a, xs, rfl, sqK_up hq hid_sub, q _ H1 s1 (by rw [enumD_len, ← hr.len]; exact hz) (itd_new bOf_sub fun H2 kp => ?_)⟩
    have hq2 := sqK_keep bOf_sub hq kp
    rw [enumD_len]
    refine ⟨fun i hi => ?_, ⟨xs, hq2, hr.len⟩, fun i x H3 y => ?_⟩
    · exact ⟨xs, xs[i]'(by rw [hr.len]; exact hi), hq2, List.getElem?_eq_getElem _⟩
    · obtain ⟨T, y1, rfl, hT, rfl, fx⟩ := y
      refine ⟨T, _, rfl, hT, rfl, by show 2 ≤ sizeLine; decide, fun d' hd' => ?_⟩
      obtain ⟨e', g1, rfl⟩ := enumD_get hd'
      obtain ⟨v', g2, g3⟩ := hr.get g1
      have := fx xs hq2
      rw [g2] at this
      cases this
      rw [Nat.zero_add]
      exact ⟨_, rfl, .cons (.int _) (.cons g3 .nil)⟩) fun _ z => z⟩
theorem pid_zip2 (hm : X.mg "zip" = none) (h1 : PD X c true e1 f1) (h2 : PD X c true e2 f2) (hg : Gl X "zip" := by rfl) (hs : starEach [e1, e2] X.env = (false, eval e1 X.env) :: starEach [e2] X.env := by rfl) (hs2 : starEach [e2] X.env = (false, eval e2 X.env) :: starEach [] X.env := by rfl)
    (hpl : (backTo pos (starEach [e2] X.env)).any (·.1) = false := by rfl) : PID X c lp (.Tuple elts kk tpos) (.Call (.Name "zip" p) [e1, e2] [] pos) (dZip2 f1 f2) :=
  PI.imp (pi_z2 hg hm (pa_cons h1 (pa_cons h2 pa_nil hs2) hs) hs hpl) fun σ H R ⟨F, ρ, E, w⟩ => ⟨F, ρ, E, (Out.wp_bind w).imp (fun d k v H1 s1 r => ⟨F, ρ, E.up s1, (Out.wp_bind k).imp (fun d2 k2 v2 H2 s2 r2 => by
    obtain ⟨l, hd, k3⟩ := ofSeq_wp k2
    obtain ⟨m, hd2, q⟩ := ofSeq_wp k3
    obtain ⟨ka, a, xs, rfl, hq, hr, hz⟩ := rp_seq (r.up (hid_mono s2)) hd
    obtain ⟨kb, b, ys, rfl, hq', hr', hz'⟩ := rp_seq r2 hd2
    refine ⟨ka, kb, a, b, xs, ys, rfl, sqK_up hq hid_sub, sqK_up hq' hid_sub, q _ H2 (s1.trans s2) (by rw [zipD2_len, ← hr.len]; omega) (itd_new bOf_sub fun H3 kp => ?_)⟩
    have g1 := sqK_keep bOf_sub hq kp
    have g2 := sqK_keep bOf_sub hq' kp
    rw [zipD2_len]
    refine ⟨fun i hi => ?_, ⟨xs, ys, g1, g2, by rw [hr.len, hr'.len]⟩, fun i x H4 y => ?_⟩
    · exact ⟨xs, ys, xs[i]'(by rw [hr.len]; omega), ys[i]'(by rw [hr'.len]; omega), g1, g2, List.getElem?_eq_getElem _, List.getElem?_eq_getElem _⟩
    · obtain ⟨T, y1, y2, rfl, hT, rfl, fx, fy⟩ := y
      refine ⟨T, _, rfl, hT, rfl, by show 2 ≤ sizeLine; decide, fun d' hd' => ?_⟩
      obtain ⟨a', b', u1, u2, rfl⟩ := zipD2_get hd'
      obtain ⟨v1, w1, w2⟩ := hr.get u1
      obtain ⟨v2, w3, w4⟩ := hr'.get u2
      have z1 := fx xs g1
      have z2 := fy ys g2
      rw [w1] at z1
      rw [w3] at z2
      cases z1
      cases z2
      exact ⟨_, rfl, .cons w2 (.cons w4 .nil)⟩) fun _ z => z.up s1⟩) fun _ z => z⟩
theorem pid_zip3 (hm : X.mg "zip" = none) (h1 : PD X c true e1 f1) (h2 : PD X c true e2 f2) (h3 : PD X c true e3 f3) (hg : Gl X "zip" := by rfl) (hs : starEach [e1, e2, e3] X.env = (false, eval e1 X.env) :: starEach [e2, e3] X.env := by rfl) (hs2 : starEach [e2, e3] X.env = (false, eval e2 X.env) :: starEach [e3] X.env := by rfl)
    (hs3 : starEach [e3] X.env = (false, eval e3 X.env) :: starEach [] X.env := by rfl) (hpl : (backTo pos (starEach [e2, e3] X.env)).any (·.1) = false := by rfl) : PID X c lp (.Tuple elts kk tpos) (.Call (.Name "zip" p) [e1, e2, e3] [] pos) (dZip3 f1 f2 f3) :=
  PI.imp (pi_z3 hg hm (pa_cons h1 (pa_cons h2 (pa_cons h3 pa_nil hs3) hs2) hs) hs hpl) fun σ H R ⟨F, ρ, E, w⟩ => ⟨F, ρ, E, (Out.wp_bind w).imp (fun d k v H1 s1 r => ⟨F, ρ, E.up s1, (Out.wp_bind k).imp (fun d2 k2 v2 H2 s2 r2 => ⟨F, ρ, E.up (s1.trans s2), (Out.wp_bind k2).imp (fun d3 k3 v3 H3 s3 r3 => by
    obtain ⟨l, hd, k4⟩ := ofSeq_wp k3
    obtain ⟨m, hd2, k5⟩ := ofSeq_wp k4
    obtain ⟨n, hd3, q⟩ := ofSeq_wp k5
    obtain ⟨ka, a, xs, rfl, hq, hr, hz⟩ := rp_seq (r.up (hid_mono (s2.trans s3))) hd
    obtain ⟨kb, b, ys, rfl, hq', hr', hz'⟩ := rp_seq (r2.up (hid_mono s3)) hd2
    obtain ⟨kc, b3, zs, rfl, hq3, hr3, hz3⟩ := rp_seq r3 hd3
    refine ⟨ka, kb, kc, a, b, b3, xs, ys, zs, rfl, sqK_up hq hid_sub, sqK_up hq' hid_sub, sqK_up hq3 hid_sub, q _ H3 ((s1.trans s2).trans s3) (by rw [zipD3_len, ← hr.len]; omega) (itd_new bOf_sub fun H4 kp => ?_)⟩
    have g1 := sqK_keep bOf_sub hq kp
    have g2 := sqK_keep bOf_sub hq' kp
    have g3 := sqK_keep bOf_sub hq3 kp
    rw [zipD3_len]
    refine ⟨fun i hi => ?_, ⟨xs, ys, zs, g1, g2, g3, by rw [hr.len, hr'.len, hr3.len]⟩, fun i x H5 y => ?_⟩
    · exact ⟨xs, ys, zs, xs[i]'(by rw [hr.len]; omega), ys[i]'(by rw [hr'.len]; omega), zs[i]'(by rw [hr3.len]; omega), g1, g2, g3, List.getElem?_eq_getElem _, List.getElem?_eq_getElem _, List.getElem?_eq_getElem _⟩
    · obtain ⟨T, y1, y2, y3, rfl, hT, rfl, fx, fy, fz⟩ := y
      refine ⟨T, _, rfl, hT, rfl, by show 3 ≤ sizeLine; decide, fun d' hd' => ?_⟩
      obtain ⟨a', b', c', u1, u2, u3, rfl⟩ := zipD3_get hd'
      obtain ⟨v1, w1, w2⟩ := hr.get u1
      obtain ⟨v2, w3, w4⟩ := hr'.get u2
      obtain ⟨v3, w5, w6⟩ := hr3.get u3
      have z1 := fx xs g1
      have z2 := fy ys g2
      have z3 := fz zs g3
      rw [w1] at z1
      rw [w3] at z2
      rw [w5] at z3
      cases z1
      cases z2
      cases z3
      exact ⟨_, rfl, .cons w2 (.cons w4 (.cons w6 .nil))⟩) fun _ z => z.up (s1.trans s2)⟩) fun _ z => z.up s1⟩) fun _ z => z⟩
end
end Pd

/-! Pj: d.get, list of a dict, what is never reached. -/
namespace Pd
open PySem L2 PyProof.Rows
section
variable {X : Cx} {c : Pc} {m : Bool} {e e1 e2 : Expr} {pos p apos cpos : Pos} {f g h : DE}
def dMulF (f g : DE) : DE := fun ρ => (dOp mulD f g ρ).bind fun d => match d with | .list l => .ok (.list l) | _ => .bad
theorem pf_mulF {a b : Expr} (ha : PD X c true a f) (hb : PD X c true b g) : PF X c .l (.BinOp a .Mult b pos) (dMulF f g) := pf_mul ha hb
def dBadS : DS := fun _ => .bad
def dBadE : DE := fun _ => .bad
theorem ps_asgGV {tg e' : Expr} {is : List Nat} {b : D → Env → Option Env} (h : PD X c true e' f) (hg : PGD X c tg is b) (ho : allNo c.O is = true) (ps : ∀ {u : TE} {g : TG}, PE X e' u → PG X tg g → PS X (.Assign [tg] e' pos) (tAsg u g)) : PSD X c (.Assign [tg] e' pos) (dAsgG b f) :=
  ps_asgG h hg (fun i hi => List.all_eq_true.mp ho i hi) ps
/-- a statement that is never come to -/
theorem ps_bad {st : Stmt} : PSD X c st dBadS := ⟨fun pins s σ H Dn I q => by
  obtain ⟨_, _, _, w⟩ := q
  exact w.elim⟩
theorem pd_bad : PD X c m e dBadE := ⟨fun pins s σ H Q I q => by
  obtain ⟨_, _, _, w⟩ := q
  exact w.elim⟩
def getO (d k x : D) : Option D := match d with
  | .dk kvs => (dkey k).map fun k => match valV kvs k with
    | some v => dv v
    | none => x
  | _ => none
def dGet1 (f g : DE) : DE := fun ρ => (f ρ).bind fun d => match d with
  | .dk kvs => (g ρ).bind fun k => .of (getO (.dk kvs) k .none)
  | _ => .bad
def dGet2 (f g h : DE) : DE := fun ρ => (f ρ).bind fun d => match d with
  | .dk kvs => (g ρ).bind fun k => (h ρ).bind fun x => if x.sc.isSome = true then .of (getO (.dk kvs) k x) else .bad
  | _ => .bad
theorem val_sc {kvs : List (Key × V)} {k : Key} {v : V} (h2 : (kvs.all fun p => scV p.2) = true) (e3 : valV kvs k = some v) : scV v = true := by
  unfold valV at e3
  obtain ⟨p, hp, rfl⟩ := Option.map_eq_some_iff.mp e3
  exact List.all_eq_true.mp h2 p (List.mem_of_find?_eq_some hp)
theorem rp_sc {K : PySem.W.Frag} {H H' : Hp} {v : V} {d : D} (r : Rp K H v d) (h : d.sc.isSome = true) : Rp K H' v d := by
  cases r <;> first | exact .none | exact .bool _ | exact .int _ | exact .str _ | cases h
theorem pd_get1 {k : Nat} (hr : Room k X.A) (ho : PD X c false e f) (he : PD X c false e1 g) (m1 : M1 X e "get" apos e1 cpos) : PD X c m (.Call (.Attribute e "get" apos) [e1] [] cpos) (dGet1 f g) := by
  have hu := hr.units
  exact PE.imp (pe_dget1 (by omega) ho he m1) fun σ H Q ⟨F, ρ, E, w⟩ => ⟨F, ρ, E, (Out.wp_bind w).imp (fun d k v H1 s1 r => by
    cases d with
    | dk kvs =>
      cases r with
      | @dk a _ h1 h2 =>
        refine ⟨a, rfl, .inl ⟨kvs, .inl (hid_sub _ _ h1)⟩, F, ρ, E.up s1, (Out.wp_bind k).imp (fun y k2 u H2 s2 r2 => ?_) fun _ z => z.up s1⟩
        obtain ⟨d', e', q⟩ := of_wp k2
        obtain ⟨ky, e1, rfl⟩ := Option.map_eq_some_iff.mp (show (dkey y).map _ = some d' from e')
        have ex := dkey_V r2 e1
        subst ex
        refine ⟨valV kvs ky, DGet.k (k := ky) (s2 _ _ (hid_sub _ _ h1)), ?_⟩
        cases hv : valV kvs ky with
        | none => rw [hv] at q; exact q _ H2 (s1.trans s2) .none
        | some v0 => rw [hv] at q; exact q _ H2 (s1.trans s2) (Rp.of_scV (val_sc h2 hv))
    | _ => exact k.elim) fun _ z => z⟩
theorem pd_get2 {k : Nat} (hr : Room k X.A) (ho : PD X c false e f) (he : PD X c false e1 g) (hf : PD X c false e2 h) (m2 : M2 X e "get" apos e1 e2 cpos) : PD X c m (.Call (.Attribute e "get" apos) [e1, e2] [] cpos) (dGet2 f g h) := by
  have hu := hr.units
  exact PE.imp (pe_dget2 (by omega) ho he hf m2) fun σ H Q ⟨F, ρ, E, w⟩ => ⟨F, ρ, E, (Out.wp_bind w).imp (fun d k v H1 s1 r => by
    cases d with
    | dk kvs =>
      cases r with
      | @dk a _ h1 h2 =>
        refine ⟨a, rfl, .inl ⟨kvs, .inl (hid_sub _ _ h1)⟩, F, ρ, E.up s1, (Out.wp_bind k).imp (fun y k2 u H2 s2 r2 => ⟨F, ρ, E.up (s1.trans s2), (Out.wp_bind k2).imp (fun x k3 u3 H3 s3 r3 => ?_) fun _ z => z.up (s1.trans s2)⟩) fun _ z => z.up s1⟩
        by_cases hx : x.sc.isSome = true
        · rw [if_pos hx] at k3
          obtain ⟨d', e', q⟩ := of_wp k3
          obtain ⟨ky, e1, rfl⟩ := Option.map_eq_some_iff.mp (show (dkey y).map _ = some d' from e')
          have ex := dkey_V r2 e1
          subst ex
          refine ⟨valV kvs ky, DGet.k (k := ky) (s3 _ _ (s2 _ _ (hid_sub _ _ h1))), ?_⟩
          cases hv : valV kvs ky with
          | none => rw [hv] at q; exact q _ H3 ((s1.trans s2).trans s3) (rp_sc r3 hx)
          | some v0 => rw [hv] at q; exact q _ H3 ((s1.trans s2).trans s3) (Rp.of_scV (val_sc h2 hv))
        · rw [if_neg hx] at k3
          exact k3.elim
    | _ => exact k.elim) fun _ z => z⟩
def dKeys (f : DE) : DE := fun ρ => (f ρ).bind fun d => match d with
  | .dk kvs => if kvs.length ≤ 100000 then .ok (.list (kvs.map fun p => keyD p.1)) else .bad
  | _ => .bad
/-- list(d), d a dict (owned or not) -/
theorem pd_keys (hc : X.calm = true) (hm : X.mg "list" = none) (ho : PD X c false e f) {x : Str} (hx : x = "list") (hg : Gl X x) (he : starEach [e] X.env = (false, eval e X.env) :: starEach [] X.env) (hpl : (backTo pos (starEach [] X.env)).any (·.1) = false) : PD X c m (.Call (.Name x p) [e] [] pos) (dKeys f) := by
  subst hx
  exact PD.weak (PE.imp (pe_callTy (call_list_dK hc) hg hm (by decide +kernel) (pa_cons ho pa_nil he) (by decide) (by decide) he hpl) fun σ H Q ⟨F, ρ, E, w⟩ => ⟨F, ρ, E, (Out.wp_bind w).imp (fun d k v H1 s1 r => by
    cases d with
    | dk kvs =>
      obtain ⟨hl, q⟩ := if_wp (show (if kvs.length ≤ 100000 then Out.ok (D.list (kvs.map fun p => keyD p.1)) else .bad).wp _ _ from k)
      cases r with
      | @dk a _ h1 h2 =>
        refine ⟨_, _, rfl, hid_sub _ _ h1, fun p hp => ?_⟩
        obtain ⟨s2, r2⟩ := new_list (K := X.K) ((E.up s1).hdom true) hp (by rw [List.length_map]; exact cap_ok hl) (keys_R kvs)
        exact q _ _ (s1.trans s2) r2
    | _ => exact k.elim) fun _ z => z⟩)
end
end Pd

/-! Pk0: list.index on ints. -/
namespace Pd
open PySem L2 PyProof.Rows
section
variable {X : Cx} {c : Pc} {m : Bool} {e e1 : Expr} {apos cpos : Pos} {f g : DE}
def idxD (d x : D) : Option D := match d, x with
  | .list l, .int i => (intsOf l).bind fun ns => if i ∈ ns then some (.int (ns.findIdx fun n => decide (n = i))) else none
  | _, _ => none
def dIndex (f g : DE) : DE := fun ρ => (f ρ).bind fun d => match d with
  | .list l => (g ρ).bind fun y => .of (idxD (.list l) y)
  | _ => .bad
theorem pd_index (ho : PD X c false e f) (he : PD X c false e1 g) (hb : attributeBase e "index" X.env (eval e X.env) = eval e X.env)
    (hfew : ((backTo cpos (starEach (e1 :: []) X.env)).all (fun x => !x.1) && (backToKw cpos (keywordEach [] X.env)).all (fun x => x.1.isSome)
      && decide ((e1 :: []).length + ([] : List Keyword).length + (if ([] : List Keyword).isEmpty then 0 else 1) < 30)) = true)
    (hline : (apos.endLine == cpos.line) = true) (hs : starEach (e1 :: []) X.env = (false, eval e1 X.env) :: starEach [] X.env) (hplain : (backTo cpos (starEach [] X.env)).any (·.1) = false) : PD X c m (.Call (.Attribute e "index" apos) [e1] [] cpos) (dIndex f g) :=
  PE.imp (pe_bm PySem.F.plainAttrs_list PySem.F.slot_list_index PySem.F.type_list_index mt_index ho (pa_cons he pa_nil hs) hb hfew hline hs hplain) fun σ H Q ⟨F, ρ, E, w⟩ => ⟨F, ρ, E, (Out.wp_bind w).imp (fun d k v H1 s1 r => by
    cases d with
    | list l =>
      cases r with
      | @list a xs _ h1 h2 h3 =>
        refine ⟨.inl ⟨rfl, _, SqL.of (hid_sub _ _ h1)⟩, F, ρ, E.up s1, (Out.wp_bind k).imp (fun y k2 u H2 s2 r2 => ?_) fun _ z => z.up s1⟩
        obtain ⟨d', e', q⟩ := of_wp k2
        cases y <;> try (cases e'; done)
        rename_i i
        cases r2
        obtain ⟨ns, en, e2⟩ := Option.bind_eq_some_iff.mp (show (intsOf l).bind (fun ns => if i ∈ ns then some (D.int (ns.findIdx fun n => decide (n = i))) else none) = some d' from e')
        obtain ⟨hi, rfl⟩ := if_some e2
        have el := intsOf_some en
        subst el
        have ex := RpA.ints h3
        subst ex
        have hlt : (ns.findIdx fun n => decide (n = i)) < ns.length := List.findIdx_lt_length_of_exists ⟨i, hi, by simp⟩
        refine ⟨a, _, .int i, _, .int i, rfl, rfl, SqL.of (s2 _ _ (hid_sub _ _ h1)), rfl, ?_, ?_, ?_, fun m z' hm hz => ?_, q _ H2 (s1.trans s2) (.int _)⟩
        · rw [List.all_map]
          exact List.all_eq_true.mpr fun _ _ => rfl
        · have := List.findIdx_getElem (w := hlt)
          rw [List.getElem?_map, List.getElem?_eq_getElem hlt]
          simpa using this
        · simp [eqV]
        · rw [List.getElem?_map] at hz
          obtain ⟨n, hn, rfl⟩ := Option.map_eq_some_iff.mp hz
          obtain ⟨hl, rfl⟩ := List.getElem?_eq_some_iff.mp hn
          have := List.not_of_lt_findIdx hm
          simp at this
          simp [eqV, this]
    | _ => exact k.elim) fun _ z => z⟩
end
end Pd

/-! Pl: raise, try by data. -/
namespace Pd
open PySem L2 PyProof.Rows
/-- what the text's head says of an own class of errors -/
structure ExF (K : PySem.W.Frag) (mg : Str → Option Value) (x : Str) (C : Addr) : Prop where
  q : PySem.W.excIn K C [.type "ValueError", .type "Exception", .type "BaseException", .type "object"] "ValueError.__new__" = true
  g : mg x = some (.ref C)
  k : PySem.W.keepIn K (.ref C) = true
  b : PySem.W.subIn K (.ref C) (.type "BaseException") = some true
  t : PySem.W.typeIn K (.ref C) = some (.type "type")
def dRaise (n : Nat) : DS := fun ρ => .err n ρ
section
variable {X : Cx} {c : Pc} {pos p p2 p3 : Pos}
theorem ps_raiseD (n : Nat) {x msg : Str} {j : Nat} (tk : Takes X c.W) (h : ExF X.K X.mg x (c.cl n)) (hc : X.calm = true) (hg : Gl X x) (hdb : (x == ("__debug__" : Str)) = false) : PSD X c (.Raise (some (.Call (.Name x p) [.Constant (.str msg) j p2] [] p3)) none pos) (dRaise n) :=
  PS.imp (ps_raise hc tk (pmk_own PySem.F.excBase_ValueError h.q h.g h.k (raises_own h.b h.t) hg hdb)) fun Dn σ H ⟨F, ρ, E, w⟩ => (show xW X.K c F σ H n ρ from w) σ H E .refl
/-! ### expressions of an except suite -/
def SE (X : Cx) (cl : Nat → Addr) (i : Nat) (e : Expr) (f : Nat → Option V) : Prop :=
  ∀ (n : Nat) (v : V) (a : Addr) (oe : Obj) (pn : List (Addr × Obj)), f n = some v → Zc (.ref (cl n)) none oe → (∃ vs, oe.data = .fields vs) → PE (X.suite a ((a, oe) :: pn)) e (fun σ H Q => σ[i]? = some (some (.ref a)) ∧ ∀ H', Same H H' → Q v H')
variable {cl : Nat → Addr} {i : Nat} {e e1 e2 : Expr} {f g : Nat → Option V}
theorem se_bl {b : Bool} {j : Nat} : SE X cl i (.Constant (.bool b) j pos) (fun _ => some (.bl b)) := fun n v a oe pn h _ _ => by
  cases h
  exact PE.imp pe_bl fun σ H Q q => q.2 H (Same.refl H)
theorem se_int {b : Int} {j : Nat} : SE X cl i (.Constant (.int b) j pos) (fun _ => some (.int b)) := fun n v a oe pn h _ _ => by
  cases h
  exact PE.imp pe_int fun σ H Q q => q.2 H (Same.refl H)
theorem se_str {b : Str} {j : Nat} : SE X cl i (.Constant (.str b) j pos) (fun _ => some (.str b)) := fun n v a oe pn h _ _ => by
  cases h
  exact PE.imp pe_str fun σ H Q q => q.2 H (Same.refl H)
theorem se_non {j : Nat} : SE X cl i (.Constant .none j pos) (fun _ => some .non) := fun n v a oe pn h _ _ => by
  cases h
  exact PE.imp pe_non fun σ H Q q => q.2 H (Same.refl H)
def blO : Option V → Option Bool
  | some (.bl b) => some b
  | _ => none
theorem blO_some {o : Option V} {b : Bool} (h : blO o = some b) : o = some (.bl b) := by
  unfold blO at h
  split at h
  · cases h; rfl
  · cases h
def seAnd (f g : Nat → Option V) : Nat → Option V := fun n => match blO (f n) with
  | some true => g n
  | some false => some (.bl false)
  | none => none
theorem se_one {op : BoolOp} (h : SE X cl i e f) : SE X cl i (.BoolOp op [e] pos) f := fun n v a oe pn q z d => pe_one (h n v a oe pn q z d)
theorem se_and {r : List Expr} (h : SE X cl i e f) (h2 : SE X cl i (.BoolOp .And (e1 :: r) pos) g) : SE X cl i (.BoolOp .And (e :: e1 :: r) pos) (seAnd f g) := fun n v a oe pn q z d => by
  unfold seAnd at q
  cases hb : blO (f n) with
  | none => rw [hb] at q; cases q
  | some b =>
    rw [hb] at q
    have h1 := h n _ a oe pn (blO_some hb) z d
    cases b with
    | false =>
      cases q
      exact PE.imp (pe_and (tb := fun _ _ _ => False) h1 ⟨fun _ _ _ _ _ _ z => z.elim⟩) fun σ H Q w => ⟨w.1, fun H' s => ⟨false, rfl, by rw [if_neg Bool.false_ne_true]; exact w.2 H' s⟩⟩
    | true => exact PE.imp (pe_and h1 (h2 n v a oe pn q z d)) fun σ H Q w => ⟨w.1, fun H' s => ⟨true, rfl, by rw [if_pos rfl]; exact ⟨w.1, fun H2 s2 => w.2 H2 (s.trans s2)⟩⟩⟩
def seNot (f : Nat → Option V) : Nat → Option V := fun n => (blO (f n)).map fun b => .bl (!b)
theorem se_not (h : SE X cl i e f) : SE X cl i (.UnaryOp .Not e pos) (seNot f) := fun n v a oe pn q z d => by
  obtain ⟨b, hb, rfl⟩ := Option.map_eq_some_iff.mp q
  exact PE.imp (pe_not (h n _ a oe pn (blO_some hb) z d)) fun σ H Q w => ⟨w.1, fun H' s => ⟨b, rfl, w.2 H' s⟩⟩
/-- 'text' * int(e), e a truth value -/
theorem op_mulS01 : OpR X (binaryOp .Mult) (fun x y H Q => ∃ z, x = .str z ∧ ∃ b : Bool, y = .int (if b then 1 else 0) ∧ Q (.str (if b then z else Str.empty)) H) := by
  intro pins s σ H x y v u Q I rx ry h
  obtain ⟨z, ex, b, ey, q⟩ := h
  subst ex
  subst ey
  obtain ⟨t, ev⟩ := rx
  obtain ⟨t', eu⟩ := ry
  subst ev
  subst eu
  have hm : Txt.mul z (if b then 1 else 0) = if b then z else Str.empty := by cases b <;> rfl
  refine SB.mul ?_ fun t2 k => ⟨.str _, H, I.tok k, ⟨t2, by rw [hm]⟩, q⟩
  cases b
  · exact ⟨by decide, fun h => absurd (by decide) h, fun h => absurd (by decide) h⟩
  · exact ⟨by decide, fun _ h => by simp at h, fun _ h => by simp at h⟩
def seMul (z : Str) (f : Nat → Option V) : Nat → Option V := fun n => (blO (f n)).map fun b => .str (if b then z else Str.empty)
theorem se_mul {z : Str} {j : Nat} {x : Str} (hm : X.mg "int" = none) (h : SE X cl i e f) (hx : x = "int") (hg : Gl X x) (he : starEach [e] X.env = (false, eval e X.env) :: starEach [] X.env) (hpl : (backTo p3 (starEach [] X.env)).any (·.1) = false) :
    SE X cl i (.BinOp (.Constant (.str z) j p) .Mult (.Call (.Name x p2) [e] [] p3) pos) (seMul z f) := fun n v a oe pn q hz d => by
  subst hx
  obtain ⟨b, hb, rfl⟩ := Option.map_eq_some_iff.mp q
  have pI : PE (X.suite a ((a, oe) :: pn)) (.Call (.Name "int" p2) [e] [] p3) _ := pe_callTy call_int1 hg hm (by decide +kernel) (pa_cons (h n _ a oe pn (blO_some hb) hz d) pa_nil he) (by decide) (by decide) he hpl
  exact PE.imp (pe_op op_mulS01 pe_str pI) fun σ H Q w => ⟨w.1, fun H' s => .inr ⟨b, rfl, z, rfl, b, rfl, w.2 H' s⟩⟩
/-- isinstance(e, B), by a table -/
def seIs (bs : List (Nat × Bool)) : Nat → Option V := fun n => (bs.lookup n).map .bl
theorem lookup_mem {α : Type} {bs : List (Nat × α)} {n : Nat} {b : α} (h : bs.lookup n = some b) : (n, b) ∈ bs := by
  induction bs with
  | nil => cases h
  | cons p bs ih =>
    obtain ⟨m, c⟩ := p
    rw [List.lookup_cons] at h
    by_cases hm : n = m
    · subst hm
      simp at h
      subst h
      exact List.mem_cons_self
    · have : (n == m) = false := by simpa using hm
      rw [this] at h
      exact List.mem_cons_of_mem _ (ih h)
/-- a class by its name -/
structure ClN (X : Cx) (y : Str) (cv : Value) : Prop where
  pe : ∀ (a : Addr) (oe : Obj) (pn : List (Addr × Obj)) (p : Pos), ∃ v, PE (X.suite a ((a, oe) :: pn)) (.Name y p) (tC v) ∧ ∀ u, RelV v u → u = cv
theorem cln_own {y : Str} {C : Addr} (hm : X.mg y = some (.ref C)) (hg : Gl X y) (hd : (y == ("__debug__" : Str)) = false) : ClN X y (.ref C) := ⟨fun a oe pn p => ⟨.ref C, pe_glob hg hm rfl hd, fun u r => r⟩⟩
theorem cln_bltn {y : Str} {T : String} (hm : X.mg y = none) (hv : bootBuiltins y = some (.type T)) (hg : Gl X y) (hn : y ≠ "__name__") (hd : (y == ("__debug__" : Str)) = false) : ClN X y (.type T) := ⟨fun a oe pn p => ⟨.ty T, pe_bltn hg hm hv rfl hn hd, fun u r => r⟩⟩
theorem se_isi {n y : Str} {cv : Value} (bs : List (Nat × Bool)) (hm : X.mg "isinstance" = none) (hy : ClN X y cv) (hN : X.N[i]? = some n) (hv : Vis X.env.scope n) (hd : (n == ("__debug__" : Str)) = false) (hcd : (n == ("__classdict__" : Str)) = false)
    (hE : ∀ p ∈ bs, ExcC X.K (cl p.1)) (hk : ∀ p ∈ bs, PySem.W.kitOne X.K (.ref (cl p.1)) cv = some p.2) {x : Str} (hx : x = "isinstance") (hg : Gl X x)
    (he : starEach [.Name n p2, .Name y p3] X.env = (false, eval (.Name n p2) X.env) :: starEach [.Name y p3] X.env) (he2 : starEach [.Name y p3] X.env = (false, eval (.Name y p3) X.env) :: starEach [] X.env) (hpl : (backTo pos (starEach [.Name y p3] X.env)).any (·.1) = false) :
    SE X cl i (.Call (.Name x p) [.Name n p2, .Name y p3] [] pos) (seIs bs) := fun k v a oe pn q z d => by
  subst hx
  obtain ⟨b, hb, rfl⟩ := Option.map_eq_some_iff.mp q
  have hmem := lookup_mem hb
  obtain ⟨u, pu, hu⟩ := hy.pe a oe pn p3
  have pe1 : PE (X.suite a ((a, oe) :: pn)) (.Name n p2) (tVar i) := pe_var hN hv hd hcd
  exact PE.imp (pe_callB (call_isE (hE _ hmem) z d) hg hm (by decide +kernel) (pa_cons pe1 (pa_cons pu pa_nil he2) he) (by decide) (by decide) he hpl) fun σ H Q w => ⟨_, w.1, u, cv, b, rfl, hu, hk _ hmem, w.2 H (Same.refl H)⟩
/-- isinstance(e, (B1, B2)) -/
theorem cr_isE2 {a D tp : Addr} {oe : Obj} {pn : List (Addr × Obj)} (C : ExcC X.K D) (hz : Zc (.ref D) none oe) (hf : ∃ vs, oe.data = .fields vs) : CallR (X.suite a ((a, oe) :: pn)) (.builtin "isinstance") (fun xs H Q => ∃ (t : Addr) (cs : List V) (ws : List Value) (b : Bool), xs = [.ref a, .ref t] ∧ H t = some (.tup cs) ∧ (∀ us, Vals cs us → us = ws) ∧ PySem.W.kitAny X.K (.ref D) ws = some b ∧ Q (.bl b) H) := by
  intro pins s σ H xs us Q I r h
  obtain ⟨t, cs, ws, b, exs, hT, hws, e, q⟩ := h
  subst exs
  obtain ⟨u1, u2, eu, r1, r2⟩ := vals2 r
  subst eu
  cases (show u1 = Value.ref a from r1)
  cases (show u2 = Value.ref t from r2)
  obtain ⟨hget, _⟩ := I.pin (a, oe) (List.mem_append.mpr (.inl List.mem_cons_self))
  obtain ⟨vs, hv⟩ := hf
  have J : PySem.W.InstAt s.heap a oe D none := by
    obtain ⟨oc, od, oda, osl⟩ := oe
    obtain ⟨h1, h2⟩ := hz
    dsimp only at h1 h2 hv
    subst h1 h2 hv
    exact ⟨hget, rfl, rfl, trivial⟩
  obtain ⟨_, its, rv, o, g1, g2, m, g3⟩ := (show ObjOk X.prog X.w H s.heap t (.tup cs) from I.hok t _ hT)
  have e3 := hws _ rv
  subst e3
  obtain ⟨oc, od, dt, sl⟩ := o
  simp only at g2 g3
  subst g2 g3
  exact PySem.W.kia_tup (PySem.W.handS_kitx_exc C.hg C.hk C.hs C.hd C.ha C.hn C.ht C.hm) I.kIn J g1 e (fun z => nomatch z) fun tk => ⟨.bl b, H, I.kept (t' := tk) fun _ _ z => z, rfl, q⟩
theorem se_isi2 {n y1 y2 : Str} {c1 c2 : Value} {p4 p5 : Pos} {kk : Nat} (bs : List (Nat × Bool)) (hm : X.mg "isinstance" = none) (hy1 : ClN X y1 c1) (hy2 : ClN X y2 c2) (hN : X.N[i]? = some n) (hv : Vis X.env.scope n) (hd : (n == ("__debug__" : Str)) = false) (hcd : (n == ("__classdict__" : Str)) = false)
    (hE : ∀ p ∈ bs, ExcC X.K (cl p.1)) (hk : ∀ p ∈ bs, PySem.W.kitAny X.K (.ref (cl p.1)) [c1, c2] = some p.2) {x : Str} (hx : x = "isinstance") (hg : Gl X x)
    (he : starEach [.Name n p2, .Tuple [.Name y1 p4, .Name y2 p5] kk p3] X.env = (false, eval (.Name n p2) X.env) :: starEach [.Tuple [.Name y1 p4, .Name y2 p5] kk p3] X.env) (he2 : starEach [.Tuple [.Name y1 p4, .Name y2 p5] kk p3] X.env = (false, eval (.Tuple [.Name y1 p4, .Name y2 p5] kk p3) X.env) :: starEach [] X.env)
    (he3 : starEach [.Name y1 p4, .Name y2 p5] X.env = (false, eval (.Name y1 p4) X.env) :: starEach [.Name y2 p5] X.env) (he4 : starEach [.Name y2 p5] X.env = (false, eval (.Name y2 p5) X.env) :: starEach [] X.env)
    (hpl : (backTo pos (starEach [.Tuple [.Name y1 p4, .Name y2 p5] kk p3] X.env)).any (·.1) = false) :
    SE X cl i (.Call (.Name x p) [.Name n p2, .Tuple [.Name y1 p4, .Name y2 p5] kk p3] [] pos) (seIs bs) := fun k v a oe pn q z d => by
  subst hx
  obtain ⟨b, hb, rfl⟩ := Option.map_eq_some_iff.mp q
  have hmem := lookup_mem hb
  obtain ⟨u1, pu1, hu1⟩ := hy1.pe a oe pn p4
  obtain ⟨u2, pu2, hu2⟩ := hy2.pe a oe pn p5
  have pe1 : PE (X.suite a ((a, oe) :: pn)) (.Name n p2) (tVar i) := pe_var hN hv hd hcd
  exact PE.imp (pe_callB (cr_isE2 (tp := 0) (hE _ hmem) z d) hg hm (by decide +kernel) (pa_cons pe1 (pa_cons (pe_tup (pa_cons pu1 (pa_cons pu2 pa_nil he4) he3)) pa_nil he2) he) (by decide) (by decide) he hpl) fun σ H Q w => ⟨_, w.1, by show 2 ≤ sizeLine; decide, fun t ht => ⟨t, [u1, u2], [c1, c2], b, rfl, upd_same, fun us r => by
    obtain ⟨v1, v2, ev, r1, r2⟩ := vals2 r
    subst ev
    rw [hu1 _ r1, hu2 _ r2], hk _ hmem, w.2 _ (same_upd ht)⟩⟩
/-! ### facts of classes -/
theorem al_nil {α : Type} {P : α → Prop} : ∀ p ∈ ([] : List α), P p := fun p hp => by cases hp
theorem al_cons {α : Type} {P : α → Prop} {a : α} {l : List α} (h : P a) (t : ∀ p ∈ l, P p) : ∀ p ∈ a :: l, P p := fun p hp => by
  rcases List.mem_cons.mp hp with e | e
  · rw [e]; exact h
  · exact t p e
theorem kit_self {K : PySem.W.Frag} {t : Value} : PySem.W.kitOne K t t = some true := by
  unfold PySem.W.kitOne
  rw [if_pos (by simp)]
theorem kit_own {K : PySem.W.Frag} {D C : Addr} {b : Bool} (hd : PySem.W.hasDictIn K C = true) (ht : PySem.W.typeIn K (.ref C) = some (.type "type")) (h : PySem.W.subIn K (.ref D) (.ref C) = some b) (hs : PySem.W.subIn K (.ref C) (.ref C) = some true) : PySem.W.kitOne K (.ref D) (.ref C) = some b := by
  obtain ⟨cd, hc, _⟩ := PySem.W.any_some hd
  unfold PySem.W.kitOne
  split
  · rename_i e
    have e2 : (Value.ref D) = .ref C := by simpa using e
    cases e2
    rw [hs] at h
    exact h
  · show (if ((PySem.W.clsIn K C).isSome && PySem.W.typeIn K (.ref C) == some (.type "type")) = true then PySem.W.subIn K (.ref D) (.ref C) else none) = some b
    rw [hc, ht, if_pos (by simp)]
    exact h
theorem kit_ty2 {K : PySem.W.Frag} {D : Addr} {T : String} {b : Bool} (hT : PySem.W.kitMeta T = true) (h : PySem.W.subIn K (.ref D) (.type T) = some b) : PySem.W.kitOne K (.ref D) (.type T) = some b := by
  unfold PySem.W.kitOne
  rw [if_neg (by simp)]
  show (if PySem.W.kitMeta T = true then PySem.W.subIn K (.ref D) (.type T) else none) = some b
  rw [if_pos hT]
  exact h
theorem kit_any2 {K : PySem.W.Frag} {t c1 c2 : Value} {x y b : Bool} (h1 : PySem.W.kitOne K t c1 = some x) (h2 : PySem.W.kitOne K t c2 = some y) (hb : (x || y) = b) : PySem.W.kitAny K t [c1, c2] = some b := by
  unfold PySem.W.kitAny
  rw [h1]
  cases x with
  | true => simp at hb; rw [hb]
  | false =>
    unfold PySem.W.kitAny
    rw [h2]
    cases y <;> simp at hb <;> rw [hb]
    rfl
/-! ### try: body, except C as n: return e -/
def dTry (i : Nat) (bs : List (Nat × Bool)) (f : Nat → Option V) (t : DS) : DS := fun ρ => match t ρ with
  | .err x ρ' => (match bs.lookup x with
    | some true => (match ρ'[i]?, f x with
      | some _, some v => if scV v = true then .rt (dv v) (ρ'.set i none) else .bad
      | _, _ => .bad)
    | some false => .err x ρ'
    | none => .bad)
  | o => o
theorem ps_tryD (i : Nat) {n y : Str} {C : Addr} {np pos' rp : Pos} {body : List Stmt} {t : DS} (bs : List (Nat × Bool)) (tk : Takes X c.W) (hNd : X.N.Nodup) (hm : X.mg y = some (.ref C)) (hx : ∀ p ∈ bs, PySem.W.exmOne X.K (.ref (c.cl p.1)) (.ref C) = some p.2)
    (hb : ∀ (W : WX) (pn : List (Addr × Obj)) (xe : Value → Shared → Prop), Takes (X.tr pn xe) W → PassesOwn (model X.prog X.w) X.A X.env xe → PSsD (X.tr pn xe) { c with W := W } body t)
    (hs : X.stack = X.env :: X.outer) (hf : X.env.frame = some X.env.locals) (hi : X.N[i]? = some n) (hln : X.env.kindOf n = some .local) (hg : Gl X y) (hdb : (y == ("__debug__" : Str)) = false) (ho : noOw c.O i = true)
    (se : SE X c.cl i e f) : PSD X c (.Try body [.ExceptHandler (some (.Name y np)) (some n) [.Return (some e) rp] pos'] [] [] pos) (dTry i bs f t) := by
  let ts : Addr → Value → Option Addr → TS := fun a cls d D σ H => σ[i]? = some (some (.ref a)) ∧ d = none ∧ ∃ k v, cls = .ref (c.cl k) ∧ f k = some v ∧ ∀ H', Same H H' → D.rt v H'
  refine PS.imp (ps_try_as (tb := fun W => rdS X.K { c with W := W } t) (ts := ts) hs hf hNd hi hln ⟨hg, hdb, .inl hm⟩ tk hb fun a oe cls d pn hz hf' => ⟨fun pins s σ H D I q => ?_⟩) fun Dn σ H ⟨F, ρ, E, w⟩ => ⟨F, ρ, E, ?_⟩
  · obtain ⟨h1, rfl, k, v, rfl, h2, h3⟩ := q
    exact (pss_one (ps_ret (se k v a oe pn h2 hz hf'))).run pins s σ H D I ⟨h1, h3⟩
  · unfold dTry at w
    cases ht : t ρ with
    | nx _ => rw [ht] at w; exact w
    | bk _ => rw [ht] at w; exact w
    | ct _ => rw [ht] at w; exact w
    | rt _ _ => rw [ht] at w; exact w
    | bad => rw [ht] at w; exact w
    | err x ρ' =>
      rw [ht] at w
      dsimp only at w
      intro σ' H' E' st
      cases hl : bs.lookup x with
      | none => rw [hl] at w; exact w.elim
      | some b =>
        rw [hl] at w
        refine ⟨b, hx _ (lookup_mem hl), fun hb' a ha => ?_, fun hb' => ?_⟩
        · subst hb'
          dsimp only at w
          cases hρ : ρ'[i]? with
          | none => rw [hρ] at w; exact w.elim
          | some o =>
            cases hv : f x with
            | none => rw [hρ, hv] at w; exact w.elim
            | some v =>
              rw [hρ, hv] at w
              obtain ⟨hsc, w2⟩ := ifS_wp w
              have hil : i < σ'.length := by rw [← E'.len]; exact (List.getElem?_eq_some_iff.mp hρ).1
              refine ⟨List.getElem?_set_self hil, rfl, x, v, rfl, hv, ?_⟩
              exact fun H2 s2 => w2 v (σ'.set i none) H2 ((E'.forget (noOw_of ho)).up s2) ((st.trans (stp_set (noOw_of ho))).trans (.same s2)) (Rp.of_scV hsc)
        · subst hb'
          exact (show xW X.K c F σ H x ρ' from w) σ' H' E' st
/-! ### try: body, except C: return a constant -/
def SE0 (X : Cx) (e : Expr) (v : V) : Prop := ∀ (a : Addr) (oe : Obj) (pn : List (Addr × Obj)), PE (X.suite a ((a, oe) :: pn)) e (fun σ H Q => Q v H)
theorem se0_bl {b : Bool} {j : Nat} : SE0 X (.Constant (.bool b) j pos) (.bl b) := fun a oe pn => pe_bl
theorem se0_non {j : Nat} : SE0 X (.Constant .none j pos) .non := fun a oe pn => pe_non
theorem se0_str {b : Str} {j : Nat} : SE0 X (.Constant (.str b) j pos) (.str b) := fun a oe pn => pe_str
def dTry0 (bs : List (Nat × Bool)) (v : V) (t : DS) : DS := fun ρ => match t ρ with
  | .err x ρ' => (match bs.lookup x with
    | some true => if scV v = true then .rt (dv v) ρ' else .bad
    | some false => .err x ρ'
    | none => .bad)
  | o => o
theorem ps_try0D {y : Str} {C : Addr} {np pos' rp : Pos} {body : List Stmt} {t : DS} {v : V} (bs : List (Nat × Bool)) (tk : Takes X c.W) (hm : X.mg y = some (.ref C)) (hx : ∀ p ∈ bs, PySem.W.exmOne X.K (.ref (c.cl p.1)) (.ref C) = some p.2)
    (hb : ∀ (W : WX) (pn : List (Addr × Obj)) (xe : Value → Shared → Prop), Takes (X.tr pn xe) W → PassesOwn (model X.prog X.w) X.A X.env xe → PSsD (X.tr pn xe) { c with W := W } body t)
    (hs : X.stack = X.env :: X.outer) (hf : X.env.frame = some X.env.locals) (hg : Gl X y) (hdb : (y == ("__debug__" : Str)) = false)
    (se : SE0 X e v) : PSD X c (.Try body [.ExceptHandler (some (.Name y np)) none [.Return (some e) rp] pos'] [] [] pos) (dTry0 bs v t) := by
  let ts : Addr → Value → Option Addr → TS := fun a cls d D σ H => D.rt v H
  refine PS.imp (ps_try_only (tb := fun W => rdS X.K { c with W := W } t) (ts := ts) hs hf ⟨hg, hdb, .inl hm⟩ tk hb fun a oe cls d pn hz hf' => ⟨fun pins s σ H D I q => ?_⟩) fun Dn σ H ⟨F, ρ, E, w⟩ => ⟨F, ρ, E, ?_⟩
  · exact (pss_one (ps_ret (se a oe pn))).run pins s σ H D I q
  · unfold dTry0 at w
    cases ht : t ρ with
    | nx _ => rw [ht] at w; exact w
    | bk _ => rw [ht] at w; exact w
    | ct _ => rw [ht] at w; exact w
    | rt _ _ => rw [ht] at w; exact w
    | bad => rw [ht] at w; exact w
    | err x ρ' =>
      rw [ht] at w
      dsimp only at w
      intro σ' H' E' st
      cases hl : bs.lookup x with
      | none => rw [hl] at w; exact w.elim
      | some b =>
        rw [hl] at w
        refine ⟨b, hx _ (lookup_mem hl), fun hb' a ha => ?_, fun hb' => ?_⟩
        · subst hb'
          obtain ⟨hsc, w2⟩ := ifS_wp w
          exact w2 v σ' H' E' st (Rp.of_scV hsc)
        · subst hb'
          exact (show xW X.K c F σ H x ρ' from w) σ' H' E' st
end
/-! ### the law's own promise without classes -/
def spL (K : PySem.W.Frag) (n : Nat) (g : List D → Out D) : Sp := fun vs H Q E => vs.length = n ∧ ∃ A ds, Dom A H ∧ RpA K (hid A H) vs ds ∧ ∃ d, g ds = .ok d ∧ ∀ v H', Same H H' → Rp K (hid A H') v d → Q v H'
theorem fn_spL {P : Program} {w : World} {K : PySem.W.Frag} {mg : Str → Option Value} {base : Heap} {CX : CXT} {k : Nat} {f : Addr} {fd : FuncData} {ps : List Str} {cl : Nat → Addr} {n : Nat} {g : List D → Out D} (F : FnOk P w K mg base CX k f fd ps (spD K cl n g)) : FnOk P w K mg base CX k f fd ps (spL K n g) :=
  have conv : ∀ {vs : List V} {H : Hp} {Q : VK} {E : XK}, spL K n g vs H Q E → spD K cl n g vs H Q E := fun ⟨h1, A, ds, h2, h3, d, h4, h5⟩ => ⟨h1, A, ds, h2, h3, by rw [h4]; exact h5⟩
  ⟨fun vs H Q E q => F.len vs H Q E (conv q), fun A outer s H args us vs Q E hr he hb hv hs => F.run A outer s H args us vs Q E hr he hb hv (conv hs)⟩
theorem law_spL {K : PySem.W.Frag} {g : List D → Out D} {H : Hp} {a : Addr} {ns : List Int} (hl : ns.length ≤ 63) (hS : SqL K H a (ns.map V.int)) (h : g [.scr ns] = .ok (.bool true)) : spL K 1 g [.ref a] H (fun v _ => v = .bl true) fun _ _ _ => False := by
  refine ⟨rfl, [], [.scr ns], fun _ z => (by cases z), .cons (.scr ?_ (Nat.le_trans hl (by decide))) .nil, _, h, fun v H' s r => by cases r; rfl⟩
  have : hid [] H = H := by funext b; unfold hid; rw [if_neg (by intro z; cases z)]
  rw [this]
  exact hS
end Pd

/-! Pm: try with two clauses that name what they catch. -/
namespace Pd
open PySem PySem.Spec L2 PyProof.Rows
/-- what two clauses 'except c as n' wish of what the body lets out -/
def wTwo (K : PySem.W.Frag) (i : Nat) (Wo : WX) (D : Ends) : List (Value × (Addr → Value → Option Addr → TS)) → WX
  | [] => Wo
  | (c, ts) :: r => fun k d σ H => ∃ b, PySem.W.exmOne K k c = some b ∧
      (b = true → ∀ a, H a = none → ts a k d { nx := fun σ' H' => D.nx (σ'.set i none) H', rt := D.rt, bk := fun σ' H' => D.bk (σ'.set i none) H', ct := fun σ' H' => D.ct (σ'.set i none) H' } (σ.set i (some (.ref a))) H) ∧
      (b = false → wTwo K i Wo D r k d σ H)
inductive ClsOk (X : Cx) (i : Nat) (n : Str) : List ExceptHandler → List (Value × (Addr → Value → Option Addr → TS)) → Prop
  | nil : ClsOk X i n [] []
  | cons {x : Str} {c : Value} {ts : Addr → Value → Option Addr → TS} {b0 : Stmt} {bl : List Stmt} {np p1 : Pos} {hds : List ExceptHandler} {l : List (Value × (Addr → Value → Option Addr → TS))} (hc : Names X x c)
      (su : ∀ (a : Addr) (oe : Obj) (k : Value) (d : Option Addr) (pn : List (Addr × Obj)), Zc k d oe → (∃ vs, oe.data = .fields vs) → PSs (X.suite a ((a, oe) :: pn)) (b0 :: bl) (ts a k d)) (r : ClsOk X i n hds l) :
      ClsOk X i n (.ExceptHandler (some (.Name x np)) (some n) (b0 :: bl) p1 :: hds) ((c, ts) :: l)
section
variable {X : Cx} {n : Str} {i : Nat} {body : List Stmt} {h0 : ExceptHandler} {hds : List ExceptHandler} {l : List (Value × (Addr → Value → Option Addr → TS))} {pos : Pos} {tb : WX → TS} {Wo : WX}
theorem ps_try_two (stk : X.stack = X.env :: X.outer) (fr : X.env.frame = some X.env.locals) (nd : X.N.Nodup) (hi : X.N[i]? = some n) (kl : X.env.kindOf n = some .local) (tk : Takes X Wo)
    (bd : ∀ (W : WX) (pn : List (Addr × Obj)) (xe : Value → Shared → Prop), Takes (X.tr pn xe) W → PassesOwn (model X.prog X.w) X.A X.env xe → PSs (X.tr pn xe) body (tb W))
    (cs : ClsOk X i n (h0 :: hds) l) : PS X (.Try body (h0 :: hds) [] [] pos) (fun D σ H => tb (wTwo X.K i Wo D l) D σ H) := by
  constructor
  intro pins s σ H D I hw
  have OK := I.ok
  have hA : X.A.frames = some (X.env :: X.outer) := by rw [OK.frames, stk]
  have lc : Loc X.env.scope n := .inl kl
  refine wpAny_Try_except ?_
  have run := (bd (wTwo X.K i Wo D l) (X.pn ++ pins) (fun e s1 => wpAny (model X.prog X.w) X.A (noteFrame e X.env) (fun _ s2 => wpAny (model X.prog X.w) X.A (setFlight e none) (fun _ s3 => wpAny (model X.prog X.w) X.A (handleBy e X.env (h0 :: hds)) (SP X pins D) X.xe s3) X.xe s2) X.xe s1)
    (by
      rintro u s' ⟨a, B, sI, pins', σ', H', k, d, rfl, J', nb, up, sky, na, os, ag, w⟩
      have J : Inv X pins σ' H' sI := J'.ofTry OK
      have sk : Sky B (X.env :: X.outer) a (Zc k d) X.env.locals s'.heap := stk ▸ sky
      refine Sky.land Zc.steady hA fr sk fun h3 fl3 up3 => ?_
      have J3 : Inv X pins σ' H' { s' with heap := h3 } := J.landed nb fl3.1 (up.trans up3) os ag
      obtain ⟨o3, v3, e3, z3, d3⟩ := fl3.there
      have nfr : a ∉ frs (X.env :: X.outer) := fun hm => by
        obtain ⟨_, o', q1, q2⟩ := fl3.2.2.1.mem hm
        have := e3.symm.trans q1
        cases this
        exact q2 _ d3
      have nL : a ≠ X.env.locals := fun z => nfr (List.mem_filterMap.mpr ⟨X.env, List.mem_cons_self, fr.trans (congrArg some z.symm)⟩)
      have nF : a ∉ X.fs := fun hm => by
        obtain ⟨e, q1, q2⟩ := List.mem_filterMap.mp hm
        exact nfr (List.mem_filterMap.mpr ⟨e, List.mem_cons_of_mem _ q1, q2⟩)
      have S3 := J3.suite e3 d3 na nL nF
      have go : ∀ {hs' : List ExceptHandler} {l' : List (Value × (Addr → Value → Option Addr → TS))}, ClsOk X i n hs' l' → wTwo X.K i Wo D l' k d σ' H' → wpAny (model X.prog X.w) X.A (handleBy (.ref a) X.env hs') (SP X pins D) X.xe { s' with heap := h3 } := by
        intro hs' l' ck
        induction ck with
        | nil =>
          intro w
          refine wpAny_handleBy_nil ?_
          obtain ⟨k1, k2, k3, oe, vs, T, oT, tsv, he, hz, hd, g1, hr⟩ := id fl3
          unfold PySem.passOn
          refine wpAny_bind (wpAny_field he hd g1 ?_)
          rw [if_neg (show ¬ ((Value.ref T == Value.none) = true) by simp)]
          have out : wpAny (model X.prog X.w) X.A (setFlight (.ref a) X.env.frame) (fun _ s4 => wpAny (model X.prog X.w) X.A (throw (.ref a) : Sem Flow) (SP X pins D) X.xe s4) X.xe { s' with heap := h3 } := by
            rw [fr]
            exact HandSPX.setFlight_upZ fl3 fun h4 q4 up4 => wpAny_throw (tk _ _ ⟨a, B, sI, pins, σ', H', k, d, rfl, J, nb, (up.trans up3).trans up4, .inr (.inr (stk ▸ q4)), na, os, ag, w⟩)
          first
            | exact wpAny_bind (wpAny_pure (wpAny_bind out))
            | exact wpAny_bind out
        | @cons x c ts b0 bl np p1 hds2 l2 hc su r ih =>
          rintro ⟨b, hb, yes, no⟩
          refine wpAny_handleBy_cons (codeAny_handlers_test ?_) (by intro q; cases q)
          have LT : PySem.W.Looks (model X.prog X.w) h3 (typeOf (.ref a)) k := fun A Q E s kk q => wpAny_typeOf_ref (kk _ _ e3) (by rw [z3.1]; exact q)
          have LM := PySem.W.exm_one (M := model X.prog X.w) (J3.kIn) LT hb
          have tst : ∀ {Q E : Value → Shared → Prop}, Q c { s' with heap := h3 } → wpAny (model X.prog X.w) (X.A.mark (some (.ref a))) (eval (.Name x np) X.env) Q E { s' with heap := h3 } := fun {Q E} q => by
            obtain ⟨g1, g2, g3 | ⟨g3, g4, g5⟩⟩ := hc
            · exact ld_glob (X := X.suite a ((a, o3) :: (X.pn ++ pins))) S3 g1 g3 q g2
            · exact ld_blt (X := X.suite a ((a, o3) :: (X.pn ++ pins))) S3 g1 g3 g4 q g5 g2
          refine tst (LM.here ?_)
          cases b with
          | false =>
            show wpAny _ X.A (handleBy (.ref a) X.env hds2) _ _ _
            exact ih (no rfl)
          | true =>
            refine codeAny_handlers_suite_as ?_
            refine HandSPX.lands_againZ fl3 fun h4 fl4 up4 => ?_
            have J4 : Inv X pins σ' H' { s' with heap := h4 } := J.landed nb fl4.1 ((up.trans up3).trans up4) os ag
            obtain ⟨o4, v4, e4, z4, d4⟩ := fl4.there
            have S4 := J4.suite e4 d4 na nL nF
            refine store_ok (X := X.suite a ((a, o4) :: (X.pn ++ pins))) (v := .ref a) S4 nd hi lc rfl (fun s5 S5 => ?_) (.inr kl)
            refine wpAny_mono ((su a o4 k d (X.pn ++ pins) z4 ⟨_, d4⟩).run [] s5 _ H' _ S5 (yes rfl a na)) (fun f s6 q => ?_) (fun _ _ z => z.elim)
            have fin : ∀ {σ6 : L2.St} {H6 : Hp} {Q : Shared → Prop}, Inv (X.suite a ((a, o4) :: (X.pn ++ pins))) [] σ6 H6 s6 → (∀ s7, Inv X pins (σ6.set i none) H6 s7 → Q s7) → wpAny (model X.prog X.w) X.A (do bindName X.env n .none; unbindBehindTheSuite X.env n p1) (fun _ s7 => Q s7) X.xe s6 := fun {σ6 H6 Q} S6 hq => gone_ok (S6.unsuite OK) nd hi kl hq
            cases f with
            | ret u =>
              obtain ⟨v6, σ6, H6, S6, r6, q6⟩ := q
              exact fin S6 fun s7 J7 => ⟨_, _, _, J7, r6, q6⟩
            | next => obtain ⟨σ6, H6, S6, q6⟩ := q; exact fin S6 fun s7 J7 => ⟨_, _, J7, q6⟩
            | brk => obtain ⟨σ6, H6, S6, q6⟩ := q; exact fin S6 fun s7 J7 => ⟨_, _, J7, q6⟩
            | cont => obtain ⟨σ6, H6, S6, q6⟩ := q; exact fin S6 fun s7 J7 => ⟨_, _, J7, q6⟩
      exact go cs w) PassesOwn.looking).run [] s σ H D (I.toTry _) hw
  refine wpAny_mono run (fun f s1 q => ?_) (fun e s1 he => he)
  cases f with
  | ret u =>
    obtain ⟨v, σ', H', J', r, q⟩ := q
    exact ⟨v, σ', H', J'.ofTry OK, r, q⟩
  | next =>
    obtain ⟨σ', H', J', q⟩ := q
    exact wpAny_execs_nil ⟨σ', H', J'.ofTry OK, q⟩
  | brk => obtain ⟨σ', H', J', q⟩ := q; exact ⟨σ', H', J'.ofTry OK, q⟩
  | cont => obtain ⟨σ', H', J', q⟩ := q; exact ⟨σ', H', J'.ofTry OK, q⟩
end
/-- try: body / except C1 as n: return e1 / except C2 as n: return e2 -/
def dTry2 (i : Nat) (bs1 bs2 : List (Nat × Bool)) (f1 f2 : Nat → Option V) (t : DS) : DS := fun ρ => match t ρ with
  | .err x ρ' => (match bs1.lookup x with
    | some true => (match ρ'[i]?, f1 x with
      | some _, some v => if scV v = true then .rt (dv v) (ρ'.set i none) else .bad
      | _, _ => .bad)
    | some false => (match bs2.lookup x with
      | some true => (match ρ'[i]?, f2 x with
        | some _, some v => if scV v = true then .rt (dv v) (ρ'.set i none) else .bad
        | _, _ => .bad)
      | some false => .err x ρ'
      | none => .bad)
    | none => .bad)
  | o => o
section
variable {X : Cx} {c : Pc} {pos : Pos} {e1 e2 : Expr} {f1 f2 : Nat → Option V}
theorem ps_try2D (i : Nat) {n y1 y2 : Str} {C1 C2 : Addr} {np1 np2 q1 q2 rp1 rp2 : Pos} {body : List Stmt} {t : DS} (bs1 bs2 : List (Nat × Bool)) (tk : Takes X c.W) (hNd : X.N.Nodup) (hm1 : X.mg y1 = some (.ref C1)) (hm2 : X.mg y2 = some (.ref C2))
    (hx1 : ∀ p ∈ bs1, PySem.W.exmOne X.K (.ref (c.cl p.1)) (.ref C1) = some p.2) (hx2 : ∀ p ∈ bs2, PySem.W.exmOne X.K (.ref (c.cl p.1)) (.ref C2) = some p.2)
    (hb : ∀ (W : WX) (pn : List (Addr × Obj)) (xe : Value → Shared → Prop), Takes (X.tr pn xe) W → PassesOwn (model X.prog X.w) X.A X.env xe → PSsD (X.tr pn xe) { c with W := W } body t)
    (hs : X.stack = X.env :: X.outer) (hf : X.env.frame = some X.env.locals) (hi : X.N[i]? = some n) (hln : X.env.kindOf n = some .local) (hg1 : Gl X y1) (hd1 : (y1 == ("__debug__" : Str)) = false) (hg2 : Gl X y2) (hd2 : (y2 == ("__debug__" : Str)) = false) (ho : noOw c.O i = true)
    (se1 : SE X c.cl i e1 f1) (se2 : SE X c.cl i e2 f2) : PSD X c (.Try body [.ExceptHandler (some (.Name y1 np1)) (some n) [.Return (some e1) rp1] q1, .ExceptHandler (some (.Name y2 np2)) (some n) [.Return (some e2) rp2] q2] [] [] pos) (dTry2 i bs1 bs2 f1 f2 t) := by
  let ts : (Nat → Option V) → Addr → Value → Option Addr → TS := fun f a cls d D σ H => σ[i]? = some (some (.ref a)) ∧ d = none ∧ ∃ k v, cls = .ref (c.cl k) ∧ f k = some v ∧ ∀ H', Same H H' → D.rt v H'
  have su : ∀ {e : Expr} {f : Nat → Option V} {rp : Pos}, SE X c.cl i e f → ∀ (a : Addr) (oe : Obj) (k : Value) (d : Option Addr) (pn : List (Addr × Obj)), Zc k d oe → (∃ vs, oe.data = .fields vs) → PSs (X.suite a ((a, oe) :: pn)) [.Return (some e) rp] (ts f a k d) := fun {e f rp} se a oe k d pn hz hf' => ⟨fun pins s σ H D I q => by
    obtain ⟨h1, rfl, k, v, rfl, h2, h3⟩ := q
    exact (pss_one (ps_ret (se k v a oe pn h2 hz hf'))).run pins s σ H D I ⟨h1, h3⟩⟩
  refine PS.imp (ps_try_two (tb := fun W => rdS X.K { c with W := W } t) hs hf hNd hi hln tk hb (.cons ⟨hg1, hd1, .inl hm1⟩ (su se1) (.cons ⟨hg2, hd2, .inl hm2⟩ (su se2) .nil))) fun Dn σ H ⟨F, ρ, E, w⟩ => ⟨F, ρ, E, ?_⟩
  unfold dTry2 at w
  cases ht : t ρ with
  | nx _ => rw [ht] at w; exact w
  | bk _ => rw [ht] at w; exact w
  | ct _ => rw [ht] at w; exact w
  | rt _ _ => rw [ht] at w; exact w
  | bad => rw [ht] at w; exact w
  | err x ρ' =>
    rw [ht] at w
    dsimp only at w
    intro σ' H' E' st
    have fin : ∀ {f : Nat → Option V}, (match ρ'[i]?, f x with
        | some _, some v => if scV v = true then SO.rt (dv v) (ρ'.set i none) else .bad
        | _, _ => .bad).wp (nxW X.K c F σ H Dn.nx) (nxW X.K c F σ H Dn.bk) (nxW X.K c F σ H Dn.ct) (rtW X.K c F σ H Dn.rt) (xW X.K c F σ H) → ∀ (a : Addr), ts f a (.ref (c.cl x)) none { nx := fun σ' H' => Dn.nx (σ'.set i none) H', rt := Dn.rt, bk := fun σ' H' => Dn.bk (σ'.set i none) H', ct := fun σ' H' => Dn.ct (σ'.set i none) H' } (σ'.set i (some (.ref a))) H' := fun {f} w a => by
      cases hρ : ρ'[i]? with
      | none => rw [hρ] at w; exact w.elim
      | some o =>
        cases hv : f x with
        | none => rw [hρ, hv] at w; exact w.elim
        | some v =>
          rw [hρ, hv] at w
          obtain ⟨hsc, w2⟩ := ifS_wp w
          have hil : i < σ'.length := by rw [← E'.len]; exact (List.getElem?_eq_some_iff.mp hρ).1
          exact ⟨List.getElem?_set_self hil, rfl, x, v, rfl, hv, fun H2 s2 => w2 v (σ'.set i none) H2 ((E'.forget (noOw_of ho)).up s2) ((st.trans (stp_set (noOw_of ho))).trans (.same s2)) (Rp.of_scV hsc)⟩
    cases hl : bs1.lookup x with
    | none => rw [hl] at w; exact w.elim
    | some b =>
      rw [hl] at w
      refine ⟨b, hx1 _ (lookup_mem hl), fun hb' a ha => ?_, fun hb' => ?_⟩
      · subst hb'
        exact fin w a
      · subst hb'
        dsimp only at w
        cases hl2 : bs2.lookup x with
        | none => rw [hl2] at w; exact w.elim
        | some b2 =>
          rw [hl2] at w
          refine ⟨b2, hx2 _ (lookup_mem hl2), fun hb2 a ha => ?_, fun hb2 => ?_⟩
          · subst hb2
            exact fin w a
          · subst hb2
            exact (show xW X.K c F σ H x ρ' from w) σ' H' E' st
end
end Pd

/-! Pn: defs that change two lists of their caller in place. -/
namespace Pd
open PySem L2 PyProof.Rows
/-- a list at a, as data -/
def LsA (K : PySem.W.Frag) (B : List Addr) (H : Hp) (a : Addr) (l : List D) : Prop := ∃ xs, H a = some (.lst xs) ∧ xs.length ≤ sizeLine ∧ RpA K (hid B H) xs l
/-- the promise: the lists at the places p and q are changed in place, nothing else; None is given back, nothing is raised -/
def spIO (K : PySem.W.Frag) (n p q : Nat) (g : List D → Out (List D × List D)) : Sp := fun vs H Q _ => vs.length = n ∧ ∃ (A : List Addr) (a b : Addr) (ds l m : List D),
  Dom A H ∧ a ≠ b ∧ a ∉ A ∧ b ∉ A ∧ vs[p]? = some (.ref a) ∧ vs[q]? = some (.ref b) ∧ ds.length = n ∧ ds[p]? = some (D.list l) ∧ ds[q]? = some (D.list m) ∧
  LsA K (A ++ [a, b]) H a l ∧ LsA K (A ++ [a, b]) H b m ∧ (∀ i d v, i ≠ p → i ≠ q → ds[i]? = some d → vs[i]? = some v → Rp K (hid (A ++ [a, b]) H) v d) ∧
  ∃ l' m', g ds = .ok (l', m') ∧ ∀ H', (∀ z o, z ≠ a → z ≠ b → H z = some o → H' z = some o) → LsA K (A ++ [a, b]) H' a l' → LsA K (A ++ [a, b]) H' b m' → Q .non H'
def ioOf (ρ : Env) (p q : Nat) : Out (List D × List D) := match ρ[p]?, ρ[q]? with
  | some (some (.list l)), some (some (.list m)) => .ok (l, m)
  | _, _ => .bad
theorem ioOf_ok {ρ : Env} {p q : Nat} {l m : List D} (h : ioOf ρ p q = .ok (l, m)) : ρ[p]? = some (some (.list l)) ∧ ρ[q]? = some (some (.list m)) := by
  unfold ioOf at h
  split at h
  · cases h
    exact ⟨by assumption, by assumption⟩
  · cases h
def SO.finIO (o : SO) (p q : Nat) : Out (List D × List D) := match o with
  | .nx ρ => ioOf ρ p q
  | .rt .none ρ => ioOf ρ p q
  | _ => .bad
def dDefIO (N p q : Nat) (t : DS) : List D → Out (List D × List D) := fun ds => (t (startE N ds)).finIO p q
def okIO (O : Ow) (n N p q : Nat) : Bool := O.all (fun e => (e.1 == p && e.2 == .p) || (e.1 == q && e.2 == .p) || (decide (n ≤ e.1) && decide (e.1 < N))) && decide (p < n) && decide (q < n) && p != q && isOw O p .p && isOw O q .p
section
variable {P : Program} {w : World} {K : PySem.W.Frag} {mg : Str → Option Value} {base : Heap}
theorem start_get {N : List Str} {vs : List V} {i : Nat} (h : i < vs.length) : (L2.start N vs)[i]? = vs[i]?.map some := by
  unfold L2.start
  rw [List.getElem?_append_left (by rw [List.length_map]; exact h), List.getElem?_map]
theorem start_none {N : List Str} {vs : List V} {i : Nat} (h : vs.length ≤ i) (h2 : i < N.length) : (L2.start N vs)[i]? = some none := by
  unfold L2.start
  rw [List.getElem?_append_right (by rw [List.length_map]; exact h), List.getElem?_replicate, if_pos (by rw [List.length_map]; omega)]
theorem startE_get {n : Nat} {ds : List D} {i : Nat} (h : i < ds.length) : (startE n ds)[i]? = ds[i]?.map some := by
  unfold startE
  rw [List.getElem?_append_left (by rw [List.length_map]; exact h), List.getElem?_map]
theorem startE_none {n : Nat} {ds : List D} {i : Nat} (h : ds.length ≤ i) (h2 : i < n) : (startE n ds)[i]? = some none := by
  unfold startE
  rw [List.getElem?_append_right (by rw [List.length_map]; exact h), List.getElem?_replicate, if_pos (by rw [List.length_map]; omega)]
theorem def_okIO {x qual : Str} {st : Stmt} {f : Addr} {fd : FuncData} {N ps : List Str} {k p q : Nat} {cl : Nat → Addr} {t : DS} (O : Ow) (F : Fun K x qual st f fd) (S : FnScope N ps (defScope st)) (hO : okIO O ps.length N.length p q = true) (hl : ps.length ≤ N.length)
    (hbody : ∀ (cdv : Value) (A : Around) (outer : List PySem.Env) (s : Shared) (H : Hp) (E : XK), Room k (A.deeper (PyProof.Rows.envOfC qual (defScope st) s.heap.objs.size f cdv)) → N.Nodup →
      Takes (cxOf (L2.CX P w) P w K mg base N qual (defScope st) f cdv A outer s H E) (fun cls d _ H' => E cls d H') →
      PSsD (cxOf (L2.CX P w) P w K mg base N qual (defScope st) f cdv A outer s H E) ⟨cl, O, fun cls d _ H' => E cls d H'⟩ (defBody st) t) :
    FnOk P w K mg base (L2.CX P w) (k + 1) f fd ps (spIO K ps.length p q (dDefIO N.length p q t)) := by
  refine F.okX S (fun vs H Q E h => h.1) fun cdv A0 outer s H vs Q E hr h => ?_
  obtain ⟨hn, A, a, b, ds, l, m, hA, hab, ha, hb, hvp, hvq, hdn, hdp, hdq, ⟨xs, x1, x2, x3⟩, ⟨ys, y1, y2, y3⟩, hv, l', m', hg, hQ⟩ := h
  refine ⟨_, hbody cdv A0 outer s H E hr S.nd (takes_of rfl rfl rfl rfl), ?_⟩
  unfold okIO at hO
  simp only [Bool.and_eq_true, decide_eq_true_eq, bne_iff_ne, ne_eq] at hO
  obtain ⟨⟨⟨⟨⟨hall, hp⟩, hq⟩, hpq⟩, hip⟩, hiq⟩ := hO
  have hip := isOw_of hip
  have hiq := isOw_of hiq
  have cls : ∀ i k', (i, k') ∈ O → (i = p ∧ k' = .p) ∨ (i = q ∧ k' = .p) ∨ (ps.length ≤ i ∧ i < N.length) := fun i k' hi => by
    have z := List.all_eq_true.mp hall _ hi
    simp only [Bool.or_eq_true, Bool.and_eq_true, beq_iff_eq, decide_eq_true_eq] at z
    rcases z with (z | z) | z
    · exact .inl z
    · exact .inr (.inl z)
    · exact .inr (.inr z)
  have sp : (L2.start N vs)[p]? = some (some (.ref a)) := by rw [start_get (by omega), hvp]; rfl
  have sq : (L2.start N vs)[q]? = some (some (.ref b)) := by rw [start_get (by omega), hvq]; rfl
  have own1 : ∀ z, z ∈ own O (L2.start N vs) → z = a ∨ z = b := fun z hz => by
    obtain ⟨i, k', h1, h2⟩ := mem_own.mp hz
    rcases cls i k' h1 with ⟨rfl, _⟩ | ⟨rfl, _⟩ | ⟨h3, h4⟩
    · rw [sp] at h2; cases h2; exact .inl rfl
    · rw [sq] at h2; cases h2; exact .inr rfl
    · rw [start_none (by omega) h4] at h2; cases h2
  have ain : a ∈ own O (L2.start N vs) := mem_own.mpr ⟨p, _, hip, sp⟩
  have bin : b ∈ own O (L2.start N vs) := mem_own.mpr ⟨q, _, hiq, sq⟩
  have hsame : Same (hid (A ++ [a, b]) H) (hid (A ++ own O (L2.start N vs)) H) := hid_le fun z hz => .inl (by
    rcases List.mem_append.mp hz with u | u
    · exact List.mem_append_left _ u
    · rcases own1 z u with e | e <;> (rw [e]; simp))
  have E0 : EnvR K O ⟨A, [(p, a), (q, b)]⟩ (startE N.length ds) (L2.start N vs) H := by
    refine ⟨?_, fun i d h nj => ?_, fun i k' hi => ?_, fun i ki j kj c hi hj e1 e2 => ?_, hA, fun u hu => ?_, fun u hu => ?_⟩
    · unfold startE L2.start
      simp only [List.length_append, List.length_map, List.length_replicate]
      omega
    · by_cases hi : i < ps.length
      · rw [startE_get (by omega)] at h
        obtain ⟨d', e1, e2⟩ := Option.map_eq_some_iff.mp h
        cases e2
        have hiv : i < vs.length := by omega
        refine ⟨vs[i], by rw [start_get hiv, List.getElem?_eq_getElem hiv]; rfl, ?_⟩
        exact (hv i d vs[i] (fun z => nj .p (by rw [z]; exact hip)) (fun z => nj .p (by rw [z]; exact hiq)) e1 (List.getElem?_eq_getElem hiv)).up hsame
      · by_cases hi2 : i < N.length
        · rw [startE_none (by omega) hi2] at h; cases h
        · rw [List.getElem?_eq_none (by unfold startE; simp only [List.length_append, List.length_map, List.length_replicate]; omega)] at h; cases h
    · rcases cls i k' hi with ⟨rfl, rfl⟩ | ⟨rfl, rfl⟩ | ⟨h3, h4⟩
      · exact .inl ⟨.list l, a, by rw [startE_get (by omega), hdp]; rfl, sp, ha, xs, l, rfl, x1, x2, x3.up hsame⟩
      · exact .inl ⟨.list m, b, by rw [startE_get (by omega), hdq]; rfl, sq, hb, ys, m, rfl, y1, y2, y3.up hsame⟩
      · exact .inr ⟨startE_none (by omega) h4, start_none (by omega) h4⟩
    · rcases cls i ki hi with ⟨rfl, _⟩ | ⟨rfl, _⟩ | ⟨h3, h4⟩
      · rcases cls j kj hj with ⟨rfl, _⟩ | ⟨rfl, _⟩ | ⟨h5, h6⟩
        · rfl
        · rw [sp] at e1; rw [sq] at e2; cases e1; cases e2; exact absurd rfl hab
        · rw [start_none (by omega) h6] at e2; cases e2
      · rcases cls j kj hj with ⟨rfl, _⟩ | ⟨rfl, _⟩ | ⟨h5, h6⟩
        · rw [sq] at e1; rw [sp] at e2; cases e1; cases e2; exact absurd rfl hab
        · rfl
        · rw [start_none (by omega) h6] at e2; cases e2
      · rw [start_none (by omega) h4] at e1; cases e1
    · rcases List.mem_cons.mp hu with e | hu
      · rw [e]; exact sp
      · rcases List.mem_cons.mp hu with e | hu
        · rw [e]; exact sq
        · cases hu
    · rcases List.mem_cons.mp hu with e | hu
      · rw [e]; exact hip
      · rcases List.mem_cons.mp hu with e | hu
        · rw [e]; exact hiq
        · cases hu
  have fin : ∀ {ρ' : Env} {σ' : L2.St} {H' : Hp}, ioOf ρ' p q = .ok (l', m') → EnvR K O ⟨A, [(p, a), (q, b)]⟩ ρ' σ' H' → Stp O (L2.start N vs) H σ' H' → Q .non H' := fun {ρ' σ' H'} hio E' st => by
    obtain ⟨r1, r2⟩ := ioOf_ok hio
    have fp : σ'[p]? = some (some (.ref a)) := E'.fix (p, a) List.mem_cons_self
    have fq : σ'[q]? = some (some (.ref b)) := E'.fix (q, b) (List.mem_cons_of_mem _ List.mem_cons_self)
    have up : Same (hid (A ++ own O σ') H') (hid (A ++ [a, b]) H') := hid_le fun z hz => .inl (by
      rcases List.mem_append.mp hz with u | u
      · exact List.mem_append_left _ u
      · refine List.mem_append_right _ ?_
        rcases List.mem_cons.mp u with e | u
        · rw [e]; exact mem_own.mpr ⟨p, _, hip, fp⟩
        · rcases List.mem_cons.mp u with e | u
          · rw [e]; exact mem_own.mpr ⟨q, _, hiq, fq⟩
          · cases u)
    refine hQ H' (fun z o h1 h2 e => st.keep z o (.inl fun hz => by rcases own1 z hz with e | e; exact h1 e; exact h2 e) e) ?_ ?_
    · obtain ⟨a', xs', ds', e0, e1, e2, e3, e4⟩ := EnvR.lst (c := ⟨cl, O, W0⟩) E' hip (.inr rfl) r1
      cases e0
      rw [fp] at e1
      cases e1
      exact ⟨xs', e2, e3, e4.up up⟩
    · obtain ⟨a', xs', ds', e0, e1, e2, e3, e4⟩ := EnvR.lst (c := ⟨cl, O, W0⟩) E' hiq (.inr rfl) r2
      cases e0
      rw [fq] at e1
      cases e1
      exact ⟨xs', e2, e3, e4.up up⟩
  refine ⟨⟨A, [(p, a), (q, b)]⟩, startE N.length ds, E0, ?_⟩
  unfold dDefIO SO.finIO at hg
  cases ht : t (startE N.length ds) with
  | nx ρ' => rw [ht] at hg; exact fun σ' H' E' st => fin hg E' st
  | rt d ρ' =>
    rw [ht] at hg
    cases d <;> try (cases hg; done)
    exact fun v σ' H' E' st r => by
      cases r
      exact fin hg E' st
  | err x ρ' => rw [ht] at hg; cases hg
  | bk _ => rw [ht] at hg; cases hg
  | ct _ => rw [ht] at hg; cases hg
  | bad => rw [ht] at hg; cases hg
abbrev OkIO (P : Program) (w : World) (base : Heap) (k p q : Nat) {x : Str} {st : Stmt} {ps : List Str} (f : Fd K mg x st ps) (g : List D → Out (List D × List D)) : Prop := FnOk P w K mg base (L2.CX P w) k f.a f.fd ps (spIO K ps.length p q g)
theorem fn_badIO {k p q : Nat} {x : Str} {st : Stmt} {ps : List Str} {f : Fd K mg x st ps} : OkIO P w base k p q f (fun _ => .bad) :=
  ⟨fun vs H Q E h => h.1, fun A outer s H args us vs Q E hr he hb hv hs => by
    obtain ⟨_, _, _, _, _, _, _, _, _, _, _, _, _, _, _, _, _, _, _, _, _, z, _⟩ := hs
    cases z⟩
theorem okIOD {x : Str} {st : Stmt} {N ps : List Str} {k n p q : Nat} {cl : Nat → Addr} {t : DS} (O : Ow) (f : Fd K mg x st ps) (S : FnScope N ps (defScope st)) (hO : okIO O ps.length N.length p q = true) (hl : ps.length ≤ N.length) (hn : N.length = n)
    (hbody : ∀ (cdv : Value) (A : Around) (outer : List PySem.Env) (s : Shared) (H : Hp) (E : XK), Room k (A.deeper (PyProof.Rows.envOfC x (defScope st) s.heap.objs.size f.a cdv)) → N.Nodup →
      Takes (cxOf (L2.CX P w) P w K mg base N x (defScope st) f.a cdv A outer s H E) (fun cls d _ H' => E cls d H') →
      PSsD (cxOf (L2.CX P w) P w K mg base N x (defScope st) f.a cdv A outer s H E) ⟨cl, O, fun cls d _ H' => E cls d H'⟩ (defBody st) t) :
    OkIO P w base (k + 1) p q f (dDefIO n p q t) := by
  subst hn
  exact def_okIO O f.F S hO hl hbody
end
/-! ### the call -/
/-- what arguments come to: a slot's own list, or a value -/
def RpX (K : PySem.W.Frag) (B : List Addr) (ρ : Env) (σ : L2.St) (H : Hp) : List (Option Nat) → List V → List D → Prop
  | [], [], [] => True
  | none :: xs, v :: vs, d :: ds => Rp K (hid B H) v d ∧ RpX K B ρ σ H xs vs ds
  | some j :: xs, v :: vs, d :: ds => (σ[j]? = some (some v) ∧ ρ[j]? = some (some d)) ∧ RpX K B ρ σ H xs vs ds
  | _, _, _ => False
def rdAX (K : PySem.W.Frag) (c : Pc) (xs : List (Option Nat)) (f : DA) : TA := fun σ H Q => ∃ F ρ, EnvR K c.O F ρ σ H ∧ (f ρ).wp (fun ds => ∀ vs H', Same H H' → RpX K (F.A ++ own c.O σ) ρ σ H' xs vs ds → Q vs H') (erW c σ H)
abbrev PAX (X : Cx) (c : Pc) (es : List Expr) (xs : List (Option Nat)) (f : DA) : Prop := PA X es (rdAX X.K c xs f)
section
variable {X : Cx} {c : Pc} {e : Expr} {es : List Expr} {f : DE} {g : DA} {xs : List (Option Nat)} {pos p : Pos}
theorem pax_nil : PAX X c [] [] dNil := PA.imp pa_nil fun σ H Q ⟨F, ρ, E, w⟩ => w [] H (Same.refl H) trivial
theorem pax_cons (ha : PD X c true e f) (hr : PAX X c es xs g) (hs : starEach (e :: es) X.env = (false, eval e X.env) :: starEach es X.env := by rfl) : PAX X c (e :: es) (none :: xs) (dCons f g) :=
  PA.imp (pa_cons ha hr hs) fun σ H Q ⟨F, ρ, E, w⟩ => ⟨F, ρ, E, (Out.wp_bind w).imp (fun d k v H1 s1 r1 => ⟨F, ρ, E.up s1, (Out.wp_bind k).imp (fun ds k2 vs H2 s2 r2 =>
    k2 (v :: vs) H2 (s1.trans s2) ⟨r1.up (hid_mono s2), r2⟩) fun x z => z.up s1⟩) fun x z => z⟩
theorem pax_slot (j : Nat) (k : Kd) {x : Str} (ho : isOw c.O j k = true) (pe : PE X (.Name x p) (tVar j)) (hr : PAX X c es xs g) (hs : starEach (.Name x p :: es) X.env = (false, eval (.Name x p) X.env) :: starEach es X.env) : PAX X c (.Name x p :: es) (some j :: xs) (dCons (dVar j) g) :=
  PA.imp (pa_cons pe hr hs) fun σ H Q ⟨F, ρ, E, w⟩ => by
    obtain ⟨d, e1, w1⟩ := dVar_wp (Out.wp_bind w)
    rcases E.cel j k (isOw_of ho) with ⟨d', a, q1, q2, q3, q4⟩ | ⟨q, _⟩
    · exact ⟨_, q2, F, ρ, E, (Out.wp_bind w1).imp (fun ds k2 vs H2 s2 r2 => k2 (_ :: vs) H2 s2 ⟨⟨q2, e1⟩, r2⟩) fun x z => z⟩
    · rw [e1] at q; cases q
theorem RpX.len {K : PySem.W.Frag} {B : List Addr} {ρ : Env} {σ : L2.St} {H : Hp} : ∀ {xs : List (Option Nat)} {vs : List V} {ds : List D}, RpX K B ρ σ H xs vs ds → vs.length = ds.length
  | [], [], [], _ => rfl
  | none :: xs, v :: vs, d :: ds, h => by rw [List.length_cons, List.length_cons, RpX.len (xs := xs) h.2]
  | some j :: xs, v :: vs, d :: ds, h => by rw [List.length_cons, List.length_cons, RpX.len (xs := xs) h.2]
theorem RpX.get {K : PySem.W.Frag} {B : List Addr} {ρ : Env} {σ : L2.St} {H : Hp} : ∀ {xs : List (Option Nat)} {vs : List V} {ds : List D} {i : Nat} {v : V} {d : D}, RpX K B ρ σ H xs vs ds → vs[i]? = some v → ds[i]? = some d →
    (xs[i]? = some none ∧ Rp K (hid B H) v d) ∨ ∃ j, xs[i]? = some (some j) ∧ σ[j]? = some (some v) ∧ ρ[j]? = some (some d)
  | [], [], [], i, v, d, _, h1, _ => by simp at h1
  | none :: xs, v0 :: vs, d0 :: ds, 0, v, d, h, h1, h2 => by
    simp at h1 h2; subst h1; subst h2
    exact .inl ⟨rfl, h.1⟩
  | some j :: xs, v0 :: vs, d0 :: ds, 0, v, d, h, h1, h2 => by
    simp at h1 h2; subst h1; subst h2
    exact .inr ⟨j, rfl, h.1.1, h.1.2⟩
  | none :: xs, v0 :: vs, d0 :: ds, i + 1, v, d, h, h1, h2 => by
    simp only [List.getElem?_cons_succ] at h1 h2 ⊢
    exact RpX.get (xs := xs) h.2 h1 h2
  | some j :: xs, v0 :: vs, d0 :: ds, i + 1, v, d, h, h1, h2 => by
    simp only [List.getElem?_cons_succ] at h1 h2 ⊢
    exact RpX.get (xs := xs) h.2 h1 h2
/-- two owned lists are changed by a call -/
theorem EnvR.two {K : PySem.W.Frag} {O : Ow} {F : Fm} {ρ : Env} {σ : L2.St} {H H' : Hp} {j1 j2 : Nat} {k1 k2 : Kd} {a1 a2 : Addr} {l m : List D} (E : EnvR K O F ρ σ H) (h1 : (j1, k1) ∈ O) (u1 : onlyK O j1 k1 = true) (q1 : k1 = .l ∨ k1 = .p) (h2 : (j2, k2) ∈ O) (u2 : onlyK O j2 k2 = true) (q2 : k2 = .l ∨ k2 = .p) (hj : j1 ≠ j2)
    (s1 : σ[j1]? = some (some (.ref a1))) (s2 : σ[j2]? = some (some (.ref a2))) (kp : ∀ z o, z ≠ a1 → z ≠ a2 → H z = some o → H' z = some o) (r1 : LsA K (F.A ++ own O σ) H' a1 l) (r2 : LsA K (F.A ++ own O σ) H' a2 m) :
    EnvR K O F ((ρ.set j1 (some (.list l))).set j2 (some (.list m))) σ H' ∧ Stp O σ H σ H' := by
  have m1 : a1 ∈ own O σ := mem_own.mpr ⟨j1, k1, h1, s1⟩
  have m2 : a2 ∈ own O σ := mem_own.mpr ⟨j2, k2, h2, s2⟩
  have n1 : a1 ∉ F.A := by
    rcases E.cel j1 k1 h1 with ⟨_, b, _, q, q', _⟩ | ⟨_, q⟩
    · rw [s1] at q; cases q; exact q'
    · rw [s1] at q; cases q
  have n2 : a2 ∉ F.A := by
    rcases E.cel j2 k2 h2 with ⟨_, b, _, q, q', _⟩ | ⟨_, q⟩
    · rw [s2] at q; cases q; exact q'
    · rw [s2] at q; cases q
  have nfz : ∀ {j k a}, (j, k) ∈ O → (k = .l ∨ k = .p) → σ[j]? = some (some (.ref a)) → ∀ o, H a = some o → frzO o = false := fun {j k a} hj hk hs o e => by
    rcases E.cel j k hj with ⟨d, b, _, q, _, q'⟩ | ⟨_, q⟩
    · rw [hs] at q
      cases q
      rcases hk with rfl | rfl
      · obtain ⟨_, _, _, e', _⟩ := q'
        rw [e] at e'
        cases e'
        rfl
      · obtain ⟨_, _, _, e', _⟩ := q'
        rw [e] at e'
        cases e'
        rfl
    · rw [hs] at q
      cases q
  have up : Same (hid (F.A ++ own O σ) H) (hid (F.A ++ own O σ) H') := fun z o q => by
    obtain ⟨g1, g2⟩ := hid_some q
    exact hid_of g1 (kp z o (fun e => g1 (by rw [e]; exact List.mem_append_right _ m1)) (fun e => g1 (by rw [e]; exact List.mem_append_right _ m2)) g2)
  have l1 : j1 < ρ.length := by rw [E.len]; exact (List.getElem?_eq_some_iff.mp s1).1
  have l2 : j2 < ρ.length := by rw [E.len]; exact (List.getElem?_eq_some_iff.mp s2).1
  refine ⟨⟨by rw [List.length_set, List.length_set, E.len], fun i d hd nj => ?_, fun i k hi => ?_, E.dis, fun z hz => ?_, E.fix, E.fxO⟩, ⟨fun z o nz e => kp z o (fun q => ?_) (fun q => ?_) e, fun z hz => .inl hz⟩⟩
  · have e1 : j1 ≠ i := fun z => nj k1 (by rw [← z]; exact h1)
    have e2 : j2 ≠ i := fun z => nj k2 (by rw [← z]; exact h2)
    rw [List.getElem?_set_ne e2, List.getElem?_set_ne e1] at hd
    obtain ⟨v, g1, g2⟩ := E.val i d hd nj
    exact ⟨v, g1, g2.up up⟩
  · by_cases e2 : j2 = i
    · subst e2
      obtain rfl := onlyK_of u2 hi
      obtain ⟨xs, g1, g2, g3⟩ := r2
      exact .inl ⟨_, a2, List.getElem?_set_self (by rw [List.length_set]; exact l2), s2, n2, cel_l q2 g1 g2 g3⟩
    · rw [List.getElem?_set_ne e2]
      by_cases e1 : j1 = i
      · subst e1
        obtain rfl := onlyK_of u1 hi
        obtain ⟨xs, g1, g2, g3⟩ := r1
        exact .inl ⟨_, a1, List.getElem?_set_self l1, s1, n1, cel_l q1 g1 g2 g3⟩
      · rw [List.getElem?_set_ne e1]
        rcases E.cel i k hi with ⟨d, z, g1, g2, g3, g4⟩ | g
        · refine .inl ⟨d, z, g1, g2, g3, g4.up up ?_⟩
          obtain ⟨o, eo, _⟩ := g4.some
          rw [eo]
          exact kp z o (fun e => e1 (E.dis j1 k1 i k a1 h1 hi s1 (by rw [← e]; exact g2))) (fun e => e2 (E.dis j2 k2 i k a2 h2 hi s2 (by rw [← e]; exact g2))) eo
        · exact .inr g
  · obtain ⟨o, q, t⟩ := E.adom z hz
    exact ⟨o, kp z o (fun u => n1 (by rw [← u]; exact hz)) (fun u => n2 (by rw [← u]; exact hz)) q, t⟩
  · rcases nz with nz | nz
    · exact nz (by rw [q]; exact m1)
    · rw [nfz h1 q1 s1 o (by rw [← q]; exact e)] at nz
      cases nz
  · rcases nz with nz | nz
    · exact nz (by rw [q]; exact m2)
    · rw [nfz h2 q2 s2 o (by rw [← q]; exact e)] at nz
      cases nz
def dCallIO (n j1 j2 : Nat) (g : List D → Out (List D × List D)) (ga : DA) : DS := fun ρ => lift (ga ρ) ρ fun ds => if ds.length = n then (match g ds with
  | .ok (l, m) => .nx ((ρ.set j1 (some (.list l))).set j2 (some (.list m)))
  | _ => .bad) else .bad
def slotsIO (xs : List (Option Nat)) (p q j1 j2 : Nat) : Bool := xs[p]? == some (some j1) && xs[q]? == some (some j2) && j1 != j2 && (List.range xs.length).all fun i => i == p || i == q || xs[i]? == some none
theorem ps_callIO {pos2 : Pos} {x : Str} {st : Stmt} {j k n p' q' j1 j2 : Nat} {k1 k2 : Kd} {ps : List Str} {gg : List D → Out (List D × List D)} {ga : DA} (f : Fd X.K X.mg x st ps) (F : OkIO X.prog X.w X.base j p' q' f gg) (hr : Room k X.A) (hjk : j ≤ k) (hn : ps.length = n) (tk : Takes X c.W)
    (ha : PAX X c (e :: es) xs ga) (hx : slotsIO xs p' q' j1 j2 = true) (hxl : xs.length = n) (o1 : isOw c.O j1 k1 = true) (u1 : onlyK c.O j1 k1 = true) (c1 : k1 = .l ∨ k1 = .p) (o2 : isOw c.O j2 k2 = true) (u2 : onlyK c.O j2 k2 = true) (c2 : k2 = .l ∨ k2 = .p)
    (hg : Gl X x) (hdb : (x == ("__debug__" : Str)) = false) (he : starEach (e :: es) X.env = (false, eval e X.env) :: starEach es X.env) (hpl : (backTo p (starEach es X.env)).any (·.1) = false)
    (hs : swapsWith (.Call (.Name x pos) (e :: es) [] p) none pos2.line X.env = pure false) :
    PSD X c (.Expr (.Call (.Name x pos) (e :: es) [] p) pos2) (dCallIO n j1 j2 gg ga) := by
  subst hn
  refine PS.imp (ps_expr (pe_callS (F.mono hjk) hr hg f.m f.F.kp f.b (fun σ => passAt tk σ) ha hdb he hpl) hs) fun Dn σ H ⟨Fm, ρ, E, w⟩ => ⟨Fm, ρ, E, (lift_wp w).imp (fun ds w1 vs H1 s1 r => ?_) fun x z => erW_of E z⟩
  obtain ⟨hl, w2⟩ := ifS_wp w1
  have E1 := E.up s1
  unfold slotsIO at hx
  simp only [Bool.and_eq_true, beq_iff_eq, bne_iff_ne, ne_eq, List.all_eq_true, List.mem_range, Bool.or_eq_true] at hx
  obtain ⟨⟨⟨hxp, hxq⟩, hj⟩, hrest⟩ := hx
  have hvl : vs.length = ps.length := by rw [r.len, hl]
  have pl : p' < ps.length := by rw [← hxl]; exact (List.getElem?_eq_some_iff.mp hxp).1
  have ql : q' < ps.length := by rw [← hxl]; exact (List.getElem?_eq_some_iff.mp hxq).1
  have at' : ∀ {i jj : Nat} {kk : Kd}, i < ps.length → xs[i]? = some (some jj) → (jj, kk) ∈ c.O → (kk = .l ∨ kk = .p) → ∃ a l, vs[i]? = some (.ref a) ∧ ds[i]? = some (.list l) ∧ σ[jj]? = some (some (.ref a)) ∧ a ∉ Fm.A ∧ LsA X.K (Fm.A ++ own c.O σ) H1 a l := fun {i jj kk} hi hxi ho hk => by
    have hi1 : i < vs.length := by omega
    have hi2 : i < ds.length := by omega
    rcases r.get (List.getElem?_eq_getElem hi1) (List.getElem?_eq_getElem hi2) with ⟨z, _⟩ | ⟨j', z, g1, g2⟩
    · rw [hxi] at z; cases z
    · rw [hxi] at z
      cases z
      obtain ⟨a, xs', l, e0, e1, e2, e3, e4⟩ := E1.lst ho hk g2
      rw [g1] at e1
      injection e1 with e1
      injection e1 with e1
      refine ⟨a, l, by rw [List.getElem?_eq_getElem hi1, e1], by rw [List.getElem?_eq_getElem hi2, e0], by rw [g1, e1], ?_, xs', e2, e3, e4⟩
      rcases E1.cel jj kk ho with ⟨_, b, _, q, q', _⟩ | ⟨_, q⟩
      · rw [g1, e1] at q; cases q; exact q'
      · rw [g1] at q; cases q
  obtain ⟨a1, l1, v1, d1, t1, n1, L1⟩ := at' pl hxp (isOw_of o1) c1
  obtain ⟨a2, l2, v2, d2, t2, n2, L2'⟩ := at' ql hxq (isOw_of o2) c2
  have hne : a1 ≠ a2 := fun z => hj (E1.dis j1 k1 j2 k2 a1 (isOw_of o1) (isOw_of o2) t1 (by rw [z]; exact t2))
  have m1 : a1 ∈ Fm.A ++ own c.O σ := List.mem_append_right _ (mem_own.mpr ⟨j1, k1, isOw_of o1, t1⟩)
  have m2 : a2 ∈ Fm.A ++ own c.O σ := List.mem_append_right _ (mem_own.mpr ⟨j2, k2, isOw_of o2, t2⟩)
  cases hgg : gg ds with
  | bad => rw [hgg] at w2; exact w2.elim
  | err _ => rw [hgg] at w2; exact w2.elim
  | ok lm =>
    obtain ⟨l', m'⟩ := lm
    rw [hgg] at w2
    let A := (Fm.A ++ own c.O σ).filter fun z => decide (z ≠ a1) && decide (z ≠ a2)
    have mA : ∀ z, z ∈ A ↔ z ∈ Fm.A ++ own c.O σ ∧ z ≠ a1 ∧ z ≠ a2 := fun z => by simp only [A, List.mem_filter, Bool.and_eq_true, decide_eq_true_eq]
    have le1 : ∀ {H : Hp}, Same (hid (Fm.A ++ own c.O σ) H) (hid (A ++ [a1, a2]) H) := fun {H} => hid_le fun z hz => .inl (by
      rcases List.mem_append.mp hz with u | u
      · exact ((mA z).mp u).1
      · rcases List.mem_cons.mp u with e | u
        · rw [e]; exact m1
        · rcases List.mem_cons.mp u with e | u
          · rw [e]; exact m2
          · cases u)
    have le2 : ∀ {H : Hp}, Same (hid (A ++ [a1, a2]) H) (hid (Fm.A ++ own c.O σ) H) := fun {H} => hid_le fun z hz => .inl (by
      by_cases e1 : z = a1
      · rw [e1]; simp
      · by_cases e2 : z = a2
        · rw [e2]; simp
        · exact List.mem_append_left _ ((mA z).mpr ⟨hz, e1, e2⟩))
    have lsu : ∀ {H : Hp} {a : Addr} {l : List D} {B B' : List Addr}, Same (hid B H) (hid B' H) → LsA X.K B H a l → LsA X.K B' H a l := fun s ⟨xs, g1, g2, g3⟩ => ⟨xs, g1, g2, g3.up s⟩
    refine ⟨hvl, A, a1, a2, ds, l1, l2, fun z hz => E1.hdom true z ((mA z).mp hz).1, hne, fun z => ((mA _).mp z).2.1 rfl, fun z => ((mA _).mp z).2.2 rfl, v1, v2, hl, d1, d2, lsu le1 L1, lsu le1 L2', fun i d v ip iq hd hv => ?_, l', m', hgg, fun H' kp r1 r2 => ?_⟩
    · rcases r.get hv hd with ⟨_, z⟩ | ⟨jj, z, _⟩
      · exact z.up le1
      · have hi : i < xs.length := (List.getElem?_eq_some_iff.mp z).1
        rcases hrest i hi with (u | u) | u
        · exact absurd u ip
        · exact absurd u iq
        · rw [u] at z; cases z
    · obtain ⟨E2, st2⟩ := E1.two (isOw_of o1) u1 c1 (isOw_of o2) u2 c2 hj t1 t2 kp (lsu le2 r1) (lsu le2 r2)
      exact (show nxW X.K c Fm σ H Dn.nx _ from w2) σ H' E2 ((Stp.same s1).trans st2)
end
end Pd

/-! Po: defs that give a new list; + of lists as a new one; extend; a dict or list handed from one owned slot to another. -/
namespace Pd
open PySem L2 PyProof.Rows

/-! ### defs that give a new list -/
def dSeqF (t u : DS) : DS := fun ρ => match t ρ with
  | .nx ρ' => u ρ'
  | .err x ρ' => .err x ρ'
  | _ => .bad
def SO.finF (o : SO) : Out D := match o with
  | .rt d _ => .ok d
  | .err x _ => .err x
  | _ => .bad
def dDefF (N : Nat) (t : DS) : List D → Out D := fun ds => (t (startE N ds)).finF
theorem hid_none {A : List Addr} {H : Hp} {a : Addr} (h : H a = none) : hid A H a = none := by
  unfold hid
  split
  · rfl
  · exact h
theorem fresh_back {O : Ow} {σ σ1 : L2.St} {H H1 : Hp} {a : Addr} (s : Stp O σ H σ1 H1) (h : hid (own O σ1) H1 a = none) : hid (own O σ) H a = none := by
  refine Classical.byContradiction fun z => ?_
  cases e : hid (own O σ) H a with
  | none => exact z e
  | some o =>
    obtain ⟨h1, h2⟩ := hid_some e
    have h3 := s.keep a o (.inl h1) h2
    have h4 : a ∈ own O σ1 := Classical.byContradiction fun q => by
      rw [hid_of q h3] at h
      cases h
    rcases s.new a h4 with q | q
    · exact h1 q
    · rw [h2] at q; cases q
section
variable (K : PySem.W.Frag) (c : Pc)
def rtF (F : Fm) (σ : L2.St) (H : Hp) (q : VK) : D → Env → Prop := fun d ρ' => ∀ a σ' H', EnvR K c.O F ρ' σ' H' → Stp c.O σ H σ' H' → hid (own c.O σ) H a = none → Cel K (hid (a :: F.A) H') H' .l a d → q (.ref a) H'
def rdSF (t : DS) : TS := fun Dn σ H => ∃ F ρ, EnvR K c.O F ρ σ H ∧ (t ρ).wp (nxW K c F σ H Dn.nx) (fun _ => False) (fun _ => False) (rtF K c F σ H Dn.rt) (xW K c F σ H)
end
section
variable {X : Cx} {c : Pc} {st : Stmt} {sts : List Stmt} {pos p : Pos} {m : Bool} {K : PySem.W.Frag} {F : Fm} {σ : L2.St} {H : Hp}
theorem rtF.up {q : VK} {d : D} {ρ' : Env} {σ1 : L2.St} {H1 : Hp} (h : rtF K c F σ H q d ρ') (s : Stp c.O σ H σ1 H1) : rtF K c F σ1 H1 q d ρ' := fun a σ' H' E t n r => h a σ' H' E (s.trans t) (fresh_back s n) r
theorem SO.upF {o : SO} {Dn : Ends} {σ1 : L2.St} {H1 : Hp} (s : Stp c.O σ H σ1 H1) (h : o.wp (nxW K c F σ H Dn.nx) (fun _ => False) (fun _ => False) (rtF K c F σ H Dn.rt) (xW K c F σ H)) :
    o.wp (nxW K c F σ1 H1 Dn.nx) (fun _ => False) (fun _ => False) (rtF K c F σ1 H1 Dn.rt) (xW K c F σ1 H1) := by
  cases o with
  | nx _ => exact nxW.up h s
  | bk _ => exact h
  | ct _ => exact h
  | rt _ _ => exact rtF.up h s
  | err _ _ => exact xW.up h s
  | bad => exact h
abbrev PSsF (X : Cx) (c : Pc) (sts : List Stmt) (t : DS) : Prop := PSs X sts (rdSF X.K c t)
theorem pss_retF {e : Expr} {f : DE} (h : PF X c .l e f) : PSsF X c [.Return (some e) pos] (dRet f) :=
  PSs.imp (pss_one (ps_ret h)) fun Dn σ H ⟨F, ρ, E, w⟩ => ⟨F, ρ, E, (lift_wp w).imp (fun d k a H' s n r => k a σ H' (E.up s) (.same s) (hid_none n) (r.up (hid_le fun b hb => .inl (by
    rcases List.mem_cons.mp hb with z | z
    · exact List.mem_cons.mpr (.inl z)
    · exact List.mem_cons_of_mem _ (List.mem_append_left _ z))) rfl)) fun x z => erW_of E z⟩
theorem pss_consF {t u : DS} (h1 : PSD X c st t) (h2 : PSsF X c sts u) : PSsF X c (st :: sts) (dSeqF t u) :=
  PSs.imp (pss_cons h1 h2) fun Dn σ H ⟨F, ρ, E, w⟩ => by
    refine ⟨F, ρ, E, ?_⟩
    unfold dSeqF at w
    cases e : t ρ with
    | nx ρ' =>
      rw [e] at w
      exact fun σ' H' E' s => ⟨F, ρ', E', SO.upF s w⟩
    | bk _ => rw [e] at w; exact w.elim
    | ct _ => rw [e] at w; exact w.elim
    | rt _ _ => rw [e] at w; exact w.elim
    | err _ _ => rw [e] at w; exact w
    | bad => rw [e] at w; exact w
end
/-- a def's promise: a new list -/
def spF (K : PySem.W.Frag) (cl : Nat → Addr) (n : Nat) (g : List D → Out D) : Sp := fun vs H Q E => vs.length = n ∧ ∃ A ds, Dom A H ∧ RpA K (hid A H) vs ds ∧
  (g ds).wp (fun d => ∀ a H', Same H H' → H a = none → Cel K (hid (a :: A) H') H' .l a d → Q (.ref a) H') fun x => ∀ H', Same H H' → E (.ref (cl x)) none H'
section
variable {P : Program} {w : World} {K : PySem.W.Frag} {mg : Str → Option Value} {base : Heap}
theorem def_okF {x qual : Str} {st : Stmt} {f : Addr} {fd : FuncData} {N ps : List Str} {k : Nat} {cl : Nat → Addr} {t : DS} (O : Ow) (F : Fun K x qual st f fd) (S : FnScope N ps (defScope st)) (hO : (O.all fun p => decide (ps.length ≤ p.1) && decide (p.1 < N.length)) = true) (hl : ps.length ≤ N.length)
    (hbody : ∀ (cdv : Value) (A : Around) (outer : List PySem.Env) (s : Shared) (H : Hp) (E : XK), Room k (A.deeper (PyProof.Rows.envOfC qual (defScope st) s.heap.objs.size f cdv)) → N.Nodup →
      Takes (cxOf (L2.CX P w) P w K mg base N qual (defScope st) f cdv A outer s H E) (fun cls d _ H' => E cls d H') →
      PSsF (cxOf (L2.CX P w) P w K mg base N qual (defScope st) f cdv A outer s H E) ⟨cl, O, fun cls d _ H' => E cls d H'⟩ (defBody st) t) :
    FnOk P w K mg base (L2.CX P w) (k + 1) f fd ps (spF K cl ps.length (dDefF N.length t)) := by
  refine F.okX S (fun vs H Q E h => h.1) fun cdv A outer s H vs Q E hr h => ?_
  obtain ⟨hn, A', ds, hA, r, wp⟩ := h
  refine ⟨_, hbody cdv A outer s H E hr S.nd (takes_of rfl rfl rfl rfl), ?_⟩
  have hO' : (O.all fun p => decide (ps.length ≤ p.1)) = true := List.all_eq_true.mpr fun p hp => by
    have z := List.all_eq_true.mp hO p hp
    simp only [Bool.and_eq_true] at z
    exact z.1
  have o0 : own O (L2.start N vs) = [] := own_start hn hO'
  have sm : ∀ {σ' : L2.St} {H' : Hp}, Stp O (L2.start N vs) H σ' H' → Same H H' := fun st b o e => st.keep b o (.inl (by rw [o0]; intro z; cases z)) e
  have fr : ∀ {a : Addr}, hid (own O (L2.start N vs)) H a = none → H a = none := fun {a} h => by
    rw [o0] at h
    unfold hid at h
    rw [if_neg (by intro z; cases z)] at h
    exact h
  refine ⟨⟨A', []⟩, startE N.length ds, start_env hn hl hO hA r, ?_⟩
  unfold dDefF SO.finF at wp
  cases ht : t (startE N.length ds) with
  | nx ρ' => rw [ht] at wp; exact wp.elim
  | rt d ρ' => rw [ht] at wp; exact fun a σ' H' E' st n rr => wp a H' (sm st) (fr n) rr
  | err x ρ' => rw [ht] at wp; exact fun σ' H' E' st => wp H' (sm st)
  | bk _ => rw [ht] at wp; exact wp.elim
  | ct _ => rw [ht] at wp; exact wp.elim
  | bad => rw [ht] at wp; exact wp.elim
abbrev OkF (P : Program) (w : World) (base : Heap) (cl : Nat → Addr) (k : Nat) {x : Str} {st : Stmt} {ps : List Str} (f : Fd K mg x st ps) (g : List D → Out D) : Prop := FnOk P w K mg base (L2.CX P w) k f.a f.fd ps (spF K cl ps.length g)
theorem okF {x : Str} {st : Stmt} {N ps : List Str} {k n : Nat} {cl : Nat → Addr} {t : DS} (O : Ow) (f : Fd K mg x st ps) (S : FnScope N ps (defScope st)) (hO : (O.all fun p => decide (ps.length ≤ p.1) && decide (p.1 < N.length)) = true) (hl : ps.length ≤ N.length) (hn : N.length = n)
    (hbody : ∀ (cdv : Value) (A : Around) (outer : List PySem.Env) (s : Shared) (H : Hp) (E : XK), Room k (A.deeper (PyProof.Rows.envOfC x (defScope st) s.heap.objs.size f.a cdv)) → N.Nodup →
      Takes (cxOf (L2.CX P w) P w K mg base N x (defScope st) f.a cdv A outer s H E) (fun cls d _ H' => E cls d H') →
      PSsF (cxOf (L2.CX P w) P w K mg base N x (defScope st) f.a cdv A outer s H E) ⟨cl, O, fun cls d _ H' => E cls d H'⟩ (defBody st) t) :
    OkF P w base cl (k + 1) f (dDefF n t) := by
  subst hn
  exact def_okF O f.F S hO hl hbody
end
section
variable {X : Cx} {c : Pc} {m : Bool} {e a b : Expr} {f g : DE} {pos p : Pos}
theorem pf_callF {x : Str} {st : Stmt} {j k n : Nat} {ps : List Str} {g : List D → Out D} {es : List Expr} {ga : DA} (f : Fd X.K X.mg x st ps) (F : OkF X.prog X.w X.base c.cl j f g) (hr : Room k X.A) (hj : j ≤ k) (hn : ps.length = n)
    (tk : Takes X c.W) (ha : PAD X c true (e :: es) ga) (hg : Gl X x) (hdb : (x == ("__debug__" : Str)) = false)
    (he : starEach (e :: es) X.env = (false, eval e X.env) :: starEach es X.env) (hpl : (backTo pos (starEach es X.env)).any (·.1) = false) :
    PF X c .l (.Call (.Name x p) (e :: es) [] pos) (dUse n g ga) := by
  subst hn
  exact PE.imp (pe_callS (F.mono hj) hr hg f.m f.F.kp f.b (fun σ => passAt tk σ) ha hdb he hpl) fun σ H Q ⟨Fm, ρ, E, w⟩ => ⟨Fm, ρ, E, (Out.wp_bind w).imp (fun ds k vs H1 s r => by
    by_cases hl : ds.length = ps.length
    · rw [if_pos hl] at k
      exact ⟨by rw [r.len, hl], _, ds, (E.up s).hdom true, r, k.imp (fun d q a H2 s2 n2 r2 => q a H2 (s.trans s2) (Same.free s n2) r2) fun x z H2 s2 => z H2 (s.trans s2)⟩
    · rw [if_neg hl] at k
      exact k.elim) fun _ z => z⟩
/-! ### + of lists as a new one -/
def lstFx (d : D) : Out D := match d with
  | .list l => if D.fixA l = true then .ok (.list l) else .bad
  | _ => .bad
def dAddF (f g : DE) : DE := fun ρ => (dOp addD f g ρ).bind lstFx
theorem pf_add (ha : PD X c false a f) (hb : PD X c false b g) : PF X c .l (.BinOp a .Add b pos) (dAddF f g) := by
  refine PE.imp (pe_op op_cat ha hb) fun σ H Q ⟨F, ρ, E, w⟩ => ?_
  refine two (m := false) (P := fun _ _ _ _ _ => True) E ((Out.wp_bind (Out.wp_bind w)).imp (fun x k => (Out.wp_bind k).imp (fun y k2 v u H' s r1 r2 => ?_) fun _ z => z) fun _ z => z)
  obtain ⟨d, e, q⟩ := of_wp k2
  cases d <;> try (exact q.elim)
  rename_i l
  obtain ⟨hf, q⟩ := if_wp (show (if D.fixA l = true then Out.ok (D.list l) else .bad).wp _ _ from q)
  cases r1 <;> cases r2 <;> first | (cases e; done) | (obtain ⟨_, z⟩ := if_some e; cases z; done) | skip
  rename_i a' xs ds h1 h2 h3 b' ys es g1 g2 g3
  obtain ⟨hl, z⟩ := if_some e
  cases z
  have hz : xs.length + ys.length ≤ sizeLine := cap_ok (by rw [h3.len, g3.len]; exact hl)
  refine ⟨a', b', xs, ys, rfl, rfl, hid_sub _ _ h1, hid_sub _ _ g1, hz, fun p hp => ?_⟩
  have rr := RpA.keep (E.up s).ocel _ _ hf (h3.append g3)
  refine q p _ (s.trans (same_upd hp)) (Same.free s hp) ⟨_, _, rfl, upd_same, by rw [List.length_append]; exact hz, ?_⟩
  rw [hid_upd List.mem_cons_self]
  refine rr.up (hid_le fun b hb => ?_)
  rcases List.mem_cons.mp hb with z | z
  · exact .inr (by rw [z]; exact hp)
  · exact .inl z
/-! ### x.extend(e), e a list or a tuple -/
theorem ext_tup (l b : Addr) (its its2 : Array Value) (n : Nat) (h1 : its.size + its2.size ≤ sizeLine) :
    Meets (Builtin.«list.extend» ⟨[.ref l, .ref b], []⟩) (fun _ R s => s.heap.get? l = some { cls := .type "list", data := .seq its n } ∧ s.heap.IsTuple b its2 ∧ R (.ok (.ret Value.none)) { s with heap := s.heap.update l (Obj.mapSeq (· ++ its2)) }) := by
  rintro prog w A R s ⟨hl, ⟨o, ho, hc, n2, hd⟩, hR⟩
  have hz : its.size ≤ sizeLine := by omega
  have hz2 : (its ++ its2).size ≤ sizeLine + 1 := by rw [Array.size_append]; omega
  have hlong : (!its.isEmpty && Builtin.List.listTooLong (its.size + its2.size)) = false := by rw [notLongL h1, Bool.and_false]
  show wpAny _ A.in1 (Builtin.List.listExtendWith (.ref l) (.ref b) .none) _ _ s
  have hT : (Builtin.List.listSameRef (.ref l) (.ref b) || Value.type "tuple" == Value.type "list" || Value.type "tuple" == Value.type "tuple") = true := by simp
  unfold Builtin.List.listExtendWith
  refine wpAny_bind (wpAny_typeOf ⟨o, ho, hc⟩ ?_)
  rw [if_pos hT]
  unfold Builtin.List.listItems Builtin.List.listUpdate
  refine wpAny_bind (wpAny_bind (wpAny_seqItems ho hd (wpAny_pure (wpAny_bind (wpAny_bind (wpAny_seqItems hl rfl (wpAny_pure ?_)))))))
  rw [if_neg (by rw [hlong]; exact Bool.false_ne_true)]
  refine wpAny_bind (wpAny_updateSeq hl rfl (hz := hz) (_hz' := hz2) ?_)
  exact wpAny_pure hR
def rExtA (K : PySem.W.Frag) : V → List V → Hp → VK → Prop := fun x vs H Q => ∃ l b xs zs, x = .ref l ∧ vs = [.ref b] ∧ H l = some (.lst xs) ∧ (H b = some (.lst zs) ∨ SqT K H b zs) ∧ xs.length + zs.length ≤ sizeLine ∧ Q .non (upd H l (.lst (xs ++ zs)))
theorem mt_extA : MtM X "list.extend" (rExtA X.K) := by
  intro pins s σ H x vs v us Q I rx rv h
  obtain ⟨l, b, xs, zs, rfl, rfl, hH, hB | hB, hz, q⟩ := h
  · exact mt_extend pins s σ H _ _ v us Q I rx rv ⟨l, b, xs, zs, rfl, rfl, hH, hB, hz, q⟩
  · cases rx
    obtain ⟨u, rfl, ru⟩ := rv.one
    cases ru
    obtain ⟨_, its, n, r, hl, e⟩ := I.lstM hH
    obtain ⟨its2, r2, t2, _⟩ := I.tuple hB
    refine call_meets PySem.F.slot_list_extend ⟨_, e, rfl⟩ PySem.F.entry_list_extend (PySem.F.args_list_extend_2 _ _) (ext_tup l b its.toArray its2.toArray n (by rw [List.size_toArray, List.size_toArray, ← hl, ← r2.length]; exact hz)) ⟨e, t2, ?_⟩
    exact ⟨.non, _, I.lset (its' := its ++ its2) hH e (by simp) (r.append r2) (by rw [List.length_append]; exact hz), rfl, q⟩
def ofSq (d : D) (k : List D → SO) : SO := match d with
  | .list l => k l
  | .tuple l => k l
  | _ => .bad
def dExt (i : Nat) (f : DE) : DS := fun ρ => atL ρ i fun l => lift (f ρ) ρ fun d => ofSq d fun m => if l.length + m.length ≤ 100000 then .nx (ρ.set i (some (.list (l ++ m)))) else .bad
theorem ps_ext (i : Nat) (k : Kd) {x : Str} {e : Expr} {f : DE} {p1 p2 p3 : Pos} (h : PD X c true e f) (ho : isOw c.O i k = true := by rfl) (hu : onlyK c.O i k = true := by rfl) (hk : k = .l ∨ k = .p := by first | exact .inl rfl | exact .inr rfl) (hN : X.N[i]? = some x := by rfl)
    (hv : Vis X.env.scope x := by first | exact Or.inl rfl | exact Or.inr (Or.inl rfl) | exact Or.inr (Or.inr rfl)) (hd : (x == ("__debug__" : Str)) = false := by decide) (hcd : (x == ("__classdict__" : Str)) = false := by decide)
    (hs : swapsWith (.Call (.Attribute (.Name x p1) "extend" p2) [e] [] p3) none pos.line X.env = pure false := by rfl)
    (pe : ∀ {t : TE}, PE X e t → PE X (.Call (.Attribute (.Name x p1) "extend" p2) [e] [] p3) (tBM X.K "list" (rExtA X.K) (tVar i) (tCons t tNil)) := by exact fun h => (pe_bm PySem.F.plainAttrs_list PySem.F.slot_list_extend PySem.F.type_list_extend mt_extA (pv _) (pa_cons h pa_nil))) : PSD X c (.Expr (.Call (.Attribute (.Name x p1) "extend" p2) [e] [] p3) pos) (dExt i f) :=
  PS.imp (ps_expr (pe h) hs) fun Dn σ H ⟨F, ρ, E, w⟩ => by
    have hi := isOw_of ho
    obtain ⟨l, e1, w1⟩ := atL_wp w
    obtain ⟨a, xs, ds, z, h2, h3, h4, h5⟩ := E.lst hi hk e1
    cases z
    refine ⟨_, h2, .inl ⟨rfl, _, SqL.of h3⟩, ex_wp E w1 fun d v H' s E' r w2 => ?_⟩
    have fin : ∀ {b : Addr} {zs : List V} {es : List D}, (H' b = some (.lst zs) ∨ SqT X.K H' b zs) → RpA X.K (hid (Pd.hs true F c.O σ) H') zs es → (if l.length + es.length ≤ 100000 then SO.nx (ρ.set i (some (.list (l ++ es)))) else .bad).wp (nxW X.K c F σ H' Dn.nx) (nxW X.K c F σ H' Dn.bk) (nxW X.K c F σ H' Dn.ct) (rtW X.K c F σ H' Dn.rt) (xW X.K c F σ H') →
        rExtA X.K (.ref a) [.ref b] H' fun _ H2 => Dn.nx σ H2 := fun {b zs es} hb rr w3 => by
      obtain ⟨hl, w4⟩ := ifS_wp w3
      have hz : xs.length + zs.length ≤ sizeLine := cap_ok (by rw [h5.len, rr.len]; exact hl)
      refine ⟨a, b, xs, zs, rfl, rfl, s _ _ h3, hb, hz, ?_⟩
      refine w4 σ _ (E'.cell hi hu h2 (cel_l hk upd_same (by rw [List.length_append]; exact hz) ((h5.up (hid_mono s)).append rr))) (stp_cell hi h2 ⟨_, s _ _ h3, rfl⟩)
    cases r with
    | list g1 g2 g3 => exact fin (.inl (hid_sub _ _ g1)) g3 w2
    | tuple g1 g2 g3 => exact fin (.inr (SqT.of (hid_sub _ _ g1))) g3 w2
    | _ => exact w2.elim
/-! ### a list or dict handed over -/
def dMov (i j : Nat) : DS := fun ρ => match ρ[j]? with
  | some (some d) => .nx ((ρ.set j none).set i (some d))
  | _ => .bad
theorem EnvR.give {K : PySem.W.Frag} {O : Ow} {F : Fm} {ρ : Env} {σ : L2.St} {H : Hp} {i j : Nat} {k : Kd} {d : D} {a : Addr} (E : EnvR K O F ρ σ H) (hi : (i, k) ∈ O) (hui : onlyK O i k = true) (hj : (j, k) ∈ O) (hu : onlyK O j k = true) (hk : k ≠ .p) (hij : i ≠ j) (e : ρ[j]? = some (some d)) (e2 : σ[j]? = some (some (.ref a))) :
    EnvR K O F ((ρ.set j none).set i (some d)) ((σ.set j none).set i (some (.ref a))) H := by
  obtain ⟨d', a', q1, q2, q3, q4⟩ : ∃ d' a', ρ[j]? = some (some d') ∧ σ[j]? = some (some (.ref a')) ∧ a' ∉ F.A ∧ Cel K (hid (F.A ++ own O σ) H) H k a' d' := by
    rcases E.cel j k hj with q | ⟨q, _⟩
    · exact q
    · rw [e] at q; cases q
  rw [e] at q1; cases q1
  rw [e2] at q2; cases q2
  have E1 := E.drop hj hu hk
  have li : i < ρ.length := by
    rcases E.cel i k hi with ⟨_, _, q, _⟩ | ⟨q, _⟩
    · exact (List.getElem?_eq_some_iff.mp q).1
    · exact (List.getElem?_eq_some_iff.mp q).1
  have li' : i < σ.length := by rw [← E.len]; exact li
  have na : a ∉ own O (σ.set j none) := fun z => by
    rcases own_drop a z with q | ⟨_, i', k', h1, h2, h3⟩
    · exact q.2 e2
    · exact h1 (E.dis i' k' j k a h2 hj h3 e2)
  have sub : ∀ b ∈ own O ((σ.set j none).set i (some (.ref a))), b ∈ own O σ := fun b hb => by
    rcases mem_own_set hb with z | ⟨x, kx, _, h1, h2⟩
    · rw [z]; exact mem_own.mpr ⟨j, k, hj, e2⟩
    · have : b ∈ own O (σ.set j none) := mem_own.mpr ⟨x, kx, h1, h2⟩
      rcases own_drop b this with q | q
      · exact q.1
      · exact q.1
  have up : Same (hid (F.A ++ own O σ) H) (hid (F.A ++ own O ((σ.set j none).set i (some (.ref a)))) H) := hid_le fun b hb => .inl (by
    rcases List.mem_append.mp hb with z | z
    · exact List.mem_append_left _ z
    · exact List.mem_append_right _ (sub b z))
  have ci := List.getElem?_set_self (a := (some d : Option D)) (l := ρ.set j none) (i := i) (by rw [List.length_set]; exact li)
  have si := List.getElem?_set_self (a := (some (V.ref a) : Option V)) (l := σ.set j none) (i := i) (by rw [List.length_set]; exact li')
  have ne : ∀ {x : Nat}, x ≠ i → ((σ.set j none).set i (some (V.ref a)))[x]? = (σ.set j none)[x]? := fun h => List.getElem?_set_ne (Ne.symm h)
  have neρ : ∀ {x : Nat}, x ≠ i → ((ρ.set j none).set i (some d))[x]? = (ρ.set j none)[x]? := fun h => List.getElem?_set_ne (Ne.symm h)
  have gone : ∀ {x : Nat} {b : Addr}, (σ.set j none)[x]? = some (some (.ref b)) → x ≠ j ∧ σ[x]? = some (some (.ref b)) := fun {x b} h => by
    by_cases hx : j = x
    · subst hx
      by_cases hl' : j < σ.length
      · rw [List.getElem?_set_self hl'] at h; cases h
      · rw [List.getElem?_eq_none (by rw [List.length_set]; omega)] at h; cases h
    · rw [List.getElem?_set_ne hx] at h
      exact ⟨fun z => hx z.symm, h⟩
  refine ⟨by simp only [List.length_set]; exact E.len, fun x dx h n => ?_, fun x kx h => ?_, fun x kx y ky b h h' ex ey => ?_, E.adom, fun q hq => ?_, E.fxO⟩
  · have hxi : x ≠ i := fun z => n k (by rw [z]; exact hi)
    have hxj : j ≠ x := fun z => n k (by rw [← z]; exact hj)
    rw [neρ hxi, List.getElem?_set_ne hxj] at h
    rw [ne hxi, List.getElem?_set_ne hxj]
    obtain ⟨v, h1, h2⟩ := E.val x dx h n
    exact ⟨v, h1, h2.up up⟩
  · by_cases hxi : x = i
    · subst hxi
      obtain rfl := onlyK_of hui h
      exact .inl ⟨d, a, ci, si, q3, q4.up up rfl⟩
    · rw [neρ hxi, ne hxi]
      rcases E1.cel x kx h with ⟨dx, b, p1, p2, p3, p4⟩ | q
      · obtain ⟨hxj, p2'⟩ := gone p2
        rcases E.cel x kx h with ⟨dy, b2, r1, r2, r3, r4⟩ | ⟨_, r⟩
        · rw [p2'] at r2; cases r2
          rw [List.getElem?_set_ne (Ne.symm hxj)] at p1
          rw [p1] at r1; cases r1
          exact .inl ⟨dx, b, by rw [List.getElem?_set_ne (Ne.symm hxj)]; exact p1, p2, p3, r4.up up rfl⟩
        · rw [p2'] at r; cases r
      · exact .inr q
  · by_cases hxi : x = i
    · by_cases hyi : y = i
      · rw [hxi, hyi]
      · exfalso
        rw [hxi, si] at ex; cases ex
        rw [ne hyi] at ey
        obtain ⟨h1, h2⟩ := gone ey
        exact h1 (E.dis y ky j k a h' hj h2 e2)
    · by_cases hyi : y = i
      · exfalso
        rw [hyi, si] at ey; cases ey
        rw [ne hxi] at ex
        obtain ⟨h1, h2⟩ := gone ex
        exact h1 (E.dis x kx j k a h hj h2 e2)
      · rw [ne hxi] at ex
        rw [ne hyi] at ey
        exact E.dis x kx y ky b h h' (gone ex).2 (gone ey).2
  · have h1 : q.1 ≠ i := fun z => hk (onlyK_of hui (by rw [← z]; exact E.fxO q hq)).symm
    have h2 : j ≠ q.1 := fun z => hk (onlyK_of hu (by rw [z]; exact E.fxO q hq)).symm
    rw [ne h1, List.getElem?_set_ne h2]
    exact E.fix q hq
theorem ps_mov (i j : Nat) (k : Kd) {x y : Str} {py : Pos} (hN : X.N.Nodup) (hi : isOw c.O i k = true := by rfl) (hui : onlyK c.O i k = true := by rfl) (hj : isOw c.O j k = true := by rfl) (hu : onlyK c.O j k = true := by rfl) (hk : k ≠ .p := by decide) (hij : i ≠ j := by decide)
    (ps : PS X (.Assign [.Name y py] (.Name x p) pos) (tAsg (tVar j) (gName i)) := by exact ps_set (by assumption) rfl (by first | exact Or.inl rfl | exact Or.inr rfl) (pv _)) : PSD X c (.Assign [.Name y py] (.Name x p) pos) (dMov i j) :=
  PS.imp (PS.weakN ps j) fun Dn σ H ⟨F, ρ, E, w⟩ => by
    unfold dMov at w
    split at w
    · rename_i d e
      have hj' := isOw_of hj
      rcases E.cel j k hj' with ⟨d', a, q1, q2, q3, q4⟩ | ⟨q, _⟩
      · refine ⟨_, q2, ?_⟩
        show Dn.nx ((σ.set i (some (.ref a))).set j none) H
        rw [List.set_comm _ _ hij]
        have E2 := E.give (isOw_of hi) hui hj' hu hk hij e q2
        refine w _ H E2 ⟨fun _ _ _ q => q, fun b hb => ?_⟩
        rcases mem_own_set hb with z | ⟨x, kx, _, h1, h2⟩
        · rw [z]; exact .inl (mem_own.mpr ⟨j, k, hj', q2⟩)
        · have : b ∈ own c.O (σ.set j none) := mem_own.mpr ⟨x, kx, h1, h2⟩
          rcases own_drop b this with q | q
          · exact .inl q.1
          · exact .inl q.1
      · rw [e] at q; cases q
    · exact w.elim
end
end Pd

/-! Pq: sorted(set(..)) of ints; index of tuples, of lists of data. -/
namespace Pd
open PySem L2 PyProof.Rows

/-! ### set(x), x a list of ints -/
section
variable {prog : Program} {w : World} {A : Around} {E : Value → Shared → Prop} {s : Shared}
/-- a class called, the check of the call of its __init__ told by itself -/
theorem call_chk {T nid iid : String} {B : Builtin} {args : List Value} {Q Q1 : Value → Shared → Prop} (ft : TypeCalled T nid iid) (hct : checkTypeCall T ⟨args, []⟩ = pure ()) (hB : entryFor table iid = some B)
    (hnew : codeAny (model prog w) A.in1 (.call (.builtin nid) ⟨.type T :: args, []⟩) (wants Q1 E) s)
    (hin : ∀ ob s1, Q1 ob s1 → s1.TypeIs ob T ∧ codeAny (model prog w) A.in1 (.call (.builtin iid) ⟨ob :: args, []⟩) (wants (fun r s2 => r = .none ∧ Q ob s2) E) s1) :
    wpAny (model prog w) A (call (.type T) args) Q E s := by
  have ⟨c, tl, hmro⟩ := ft.mro
  have a1 := ft.made
  have a2 := ft.sub
  have a3 := ft.notType
  have a4 := ft.canCreate
  apply wpAny_call; apply codeAny_of_tree
  show wpAny _ _ (callAny (.type T) _) _ _ s
  apply wpAny_pure
  refine ⟨Code.quiet_builtin _ (by decide +kernel), ?_⟩
  apply codeAny_builtin PySem.F.entry_type_call
  rw [Around.under_plain (weight_type_call_type T args []) rfl]
  repeat (any_goals first | assumption | wp_step)
  apply codeAny_mono hnew
  rintro (e | fl) s1 hr
  · exact hr
  · cases fl with
    | ret ob =>
      obtain ⟨hT, hc⟩ := hin ob s1 hr
      have b1 := ft.init.lookup
      have b2 := ft.init.bind ob
      repeat (any_goals first | assumption | wp_step)
      apply codeAny_mono hc
      rintro (e | f2) s2 h2
      · exact h2
      · cases f2 with
        | ret r =>
          obtain ⟨rfl, hq⟩ := h2
          repeat (any_goals first | assumption | wp_step)
        | _ => exact h2.elim
    | _ => exact hr.elim
/-- a set that is new and empty -/
abbrev eo (w : World) : Obj := { cls := .type "set", dict := none, data := .set #[] 0 (.fresh 0 0 (!w.params.followText "set-order")) }
theorem set_list {l : Addr} {its : Array Value} (ns : List Int) {Q : Value → Shared → Prop} (hh : A.handled = none) (hl : s.heap.IsList l its) (hi : IntsAre its.toList ns) (hb : ns.length + 1 < scanBound)
    (h : ∀ (h' : Heap) (tk c : Nat), SetR w h' s.heap.objs.size (fun j => decide (j ∈ ns)) c → c ≤ ns.length → (∀ b o, s.heap.get? b = some o → h'.get? b = some o) → Q (.ref s.heap.objs.size) { s with heap := h', toks := tk }) :
    wpAny (model prog w) A (call (.type "set") [.ref l]) Q E s := by
  have hz : its.size = ns.length := by
    have := IntsAre.length hi
    rwa [Array.length_toList] at this
  refine call_chk (Q1 := fun ob s1 => ob = .ref s.heap.objs.size ∧ s1 = { s with heap := s.heap.push (eo w) }) PySem.F.called_set (PySem.F.typeCall_set_1 _) PySem.F.entry_set_init (code_set_led1 _ ⟨rfl, rfl⟩) ?_
  rintro _ _ ⟨rfl, rfl⟩
  obtain ⟨H, g, d, tk, os⟩ := s
  dsimp only at hl h ⊢
  have g0 : (H.push (eo w)).get? H.objs.size = some (eo w) := Heap.get?_push_size _ rfl
  have hT : Shared.TypeIs ⟨H.push (eo w), g, d, tk, os⟩ (.ref H.objs.size) "set" := ⟨_, g0, rfl⟩
  refine ⟨hT, codeAny_call_builtin PySem.F.called_set.init.plain PySem.F.entry_set_init (check_set_init_1 hT ?_)⟩
  obtain ⟨⟨oc, od, oda, osl⟩, ho, hc, n, hd⟩ := hl
  dsimp only at hc hd
  subst hc hd
  have q1 : (H.push (eo w)).get? l = some { cls := .type "list", dict := od, data := .seq its n, slots := osl } := Heap.get?_push_of_some _ ho
  have q2 := PySem.F.sub_list_set
  have q3 := PySem.F.sub_list_frozenset
  have q4 : (Value.type "list" == Value.type "dict") = false := by decide
  have L1 : (H.push (eo w)).IsList l its := ⟨_, q1, rfl, n, rfl⟩
  unfold Builtin.«set.__init__»; unfold noKeywords; unfold Builtin.Frozenset.updateFrom
  generalize hpi : pyIter = PI
  wp_walk
  subst hpi
  apply wpAny_pyIter_list L1
  apply wpAny_bind; apply wpAny_runValue
  have lt : l < H.objs.size := Heap.lt_size ho
  have sz : (H.push (eo w)).objs.size = H.objs.size + 1 := Heap.size_push ..
  have hA : A.in1.in1.in1.handled = none := by simp [hh]
  have ne1 : l ≠ (H.push (eo w)).objs.size := fun z => by rw [z, sz] at lt; exact Nat.lt_irrefl _ (Nat.lt_of_succ_lt lt)
  have ne2 : H.objs.size ∉ [(H.push (eo w)).objs.size, l] := fun z => by
    rcases List.mem_cons.mp z with z | z
    · rw [sz] at z; exact Nat.ne_of_lt (Nat.lt_succ_self _) z
    · rw [List.mem_singleton.mp z] at lt; exact Nat.lt_irrefl _ lt
  have hv : ∀ (i : Nat) (v : Value), its[i]? = some v → ∃ k t, ns[i]? = some k ∧ v = .int k t := fun i v hv => by
    have hlt : i < ns.length := by rw [← hz]; exact (Array.getElem?_eq_some_iff.mp hv).1
    obtain ⟨t, e⟩ := IntsAre.int_at hi i v (by rw [Array.getElem?_toList]; exact hv)
    rw [List.getD_eq_getElem?_getD, List.getElem?_eq_getElem hlt] at e
    exact ⟨ns[i], t, List.getElem?_eq_getElem hlt, e⟩
  have g1 : ((H.push (eo w)).push { cls := .type "list_iterator", data := .fields #[.ref l, .int 0 0] }).get? H.objs.size = some (eo w) := Heap.get?_push_of_some _ g0
  refine set_update_ints ((Walks.list hA _ l ne1 its).toS) H.objs.size ne2 ns hz hb hv (its.size - 0) 0 _ (by omega) (Nat.zero_le _) ⟨⟨_, Heap.get?_push_size _ rfl, rfl, rfl⟩, L1.push _⟩ ⟨0, Nat.le_refl 0, setR_new_at g1⟩ ?_
  rintro ⟨H2, g2, d2, tk2, os2⟩ c hm hc2 hS
  obtain rfl : g2 = g := hm.gens
  obtain rfl : d2 = d := hm.drawn
  obtain rfl : os2 = os := hm.os
  show wpAny _ _ _ _ _ _
  apply wpAny_pure
  show wpAny _ _ (ret Value.none) _ _ _
  apply wpAny_pure
  refine ⟨rfl, h H2 tk2 c hS (by omega) fun b o e => ?_⟩
  have lb := Heap.lt_size e
  refine hm.heap b o (fun z => ?_) (Heap.get?_push_of_some _ (Heap.get?_push_of_some _ e))
  rcases List.mem_cons.mp z with z | z
  · rw [z] at lb; exact Nat.lt_irrefl _ lb
  · rw [List.mem_singleton.mp z, sz] at lb; exact Nat.lt_irrefl _ (Nat.lt_of_succ_lt lb)
end
/-! ### sorted(set(x)) -/
section
variable {X : Cx} {c : Pc} {m : Bool} {e : Expr} {f : DE} {p p2 pos pos2 : Pos}
def rSetI (K : PySem.W.Frag) (w : World) : List V → Hp → VK → Prop := fun xs H Q => ∃ (l : Addr) (ns : List Int), xs = [.ref l] ∧ (SqL K H l (ns.map V.int) ∨ SqT K H l (ns.map V.int)) ∧ ns.length ≤ 1000 ∧
  ∀ q n, H q = none → n ≤ ns.length → Q (.ref q) (upd H q (SetO w q (fun j => decide (j ∈ ns)) n))
theorem cr_setI (hc : X.calm = true) : CallR X (.type "set") (rSetI X.K X.w) := by
  intro pins s σ H xs us Q I r h
  obtain ⟨l, ns, rfl, hq, hn, q⟩ := h
  rw [Vals.ref1 r]
  have hd := I.ok.hd hc
  have hb : ns.length + 1 < scanBound := by unfold scanBound; omega
  have fin : ∀ (h' : Heap) (tk n : Nat), SetR X.w h' s.heap.objs.size (fun j => decide (j ∈ ns)) n → n ≤ ns.length → (∀ b o, s.heap.get? b = some o → h'.get? b = some o) → EP X pins σ Q (.ref s.heap.objs.size) { s with heap := h', toks := tk } := fun h' tk n R hn2 k =>
    ⟨.ref _, upd H s.heap.objs.size (SetO X.w s.heap.objs.size (fun j => decide (j ∈ ns)) n), I.laid (t' := tk) k (Nat.le_refl _) (setO_new R), rfl, q _ n (I.hok.fresh (Nat.le_refl _)) hn2⟩
  rcases hq with hq | hq
  · obtain ⟨its, rv, pl, hz⟩ := I.list hq
    exact set_list (its := its.toArray) ns hd pl.isList (by simpa using ints_of_vals rv) hb fin
  · obtain ⟨its, rv, pt, hz⟩ := I.tuple hq
    exact call_set_tupI ns hd pt (by simpa using ints_of_vals rv) hb fin
def dedI (ns : List Int) : List Int := ns.foldr (fun i l => if i ∈ l then l else i :: l) []
theorem mem_ded {i : Int} : ∀ {ns : List Int}, i ∈ dedI ns ↔ i ∈ ns
  | [] => Iff.rfl
  | n :: ns => by
    have ih := mem_ded (i := i) (ns := ns)
    show i ∈ (if n ∈ dedI ns then dedI ns else n :: dedI ns) ↔ _
    split
    · rename_i hn
      rw [ih, List.mem_cons]
      exact ⟨.inr, fun h => h.elim (fun z => by rw [z]; exact mem_ded.mp hn) id⟩
    · rw [List.mem_cons, List.mem_cons, ih]
theorem ded_nd : ∀ ns : List Int, (dedI ns).Nodup
  | [] => .nil
  | n :: ns => by
    show (if n ∈ dedI ns then dedI ns else n :: dedI ns).Nodup
    split
    · exact ded_nd ns
    · exact List.nodup_cons.mpr ⟨by assumption, ded_nd ns⟩
/-- sorted, each once -/
def srtI (ns : List Int) : List Int := sortI (dedI ns)
theorem mem_srt {i : Int} {ns : List Int} : i ∈ srtI ns ↔ i ∈ ns := by
  unfold srtI sortI
  rw [(List.mergeSort_perm _ _).mem_iff, mem_ded]
theorem srt_lt (ns : List Int) : (srtI ns).Pairwise (· < ·) := by
  have h1 : (srtI ns).Pairwise (· ≤ ·) := by
    have := List.pairwise_mergeSort (le := fun a b : Int => decide (a ≤ b)) (fun a b c h1 h2 => by simp at *; omega) (fun a b => by simp; omega) (dedI ns)
    exact this.imp fun h => by simpa using h
  have h2 : (srtI ns).Nodup := ((List.mergeSort_perm (dedI ns) fun a b => decide (a ≤ b)).nodup_iff).mpr (ded_nd ns)
  exact (h1.and h2).imp fun h => by have := h.1; have := h.2; omega
theorem lt_ext : ∀ {A B : List Int}, A.Pairwise (· < ·) → B.Pairwise (· < ·) → (∀ i, i ∈ A ↔ i ∈ B) → A = B
  | [], [], _, _, _ => rfl
  | [], b :: B, _, _, h => absurd ((h b).mpr List.mem_cons_self) (by simp)
  | a :: A, [], _, _, h => absurd ((h a).mp List.mem_cons_self) (by simp)
  | a :: A, b :: B, hA, hB, h => by
    have pa := List.pairwise_cons.mp hA
    have pb := List.pairwise_cons.mp hB
    have e : a = b := by
      rcases List.mem_cons.mp ((h a).mp List.mem_cons_self) with z | z
      · exact z
      · rcases List.mem_cons.mp ((h b).mpr List.mem_cons_self) with y | y
        · exact y.symm
        · have := pb.1 a z; have := pa.1 b y; omega
    subst e
    rw [lt_ext pa.2 pb.2 fun i => ?_]
    constructor
    · intro hi
      rcases List.mem_cons.mp ((h i).mp (List.mem_cons_of_mem _ hi)) with z | z
      · have := pa.1 i hi; omega
      · exact z
    · intro hi
      rcases List.mem_cons.mp ((h i).mpr (List.mem_cons_of_mem _ hi)) with z | z
      · have := pb.1 i hi; omega
      · exact z
def ofI (d : D) : Option (List Int) := match d with
  | .list l => intsOf l
  | .tuple l => intsOf l
  | _ => none
/-- sorted(set(x)), fewer than 64 -/
def srtC (d : D) : Option D := (ofI d).bind fun ns => if ns.length < 64 then some (.list ((srtI ns).map .int)) else none
theorem pf_srt (hc : X.calm = true) (hm : X.mg "sorted" = none) (hm2 : X.mg "set" = none) (h : PD X c false e f) {x y : Str} (hx : x = "sorted") (hy : y = "set") (hg : Gl X x) (hg2 : Gl X y)
    (he : starEach [e] X.env = (false, eval e X.env) :: starEach [] X.env) (he2 : starEach [.Call (.Name y p2) [e] [] pos2] X.env = (false, eval (.Call (.Name y p2) [e] [] pos2) X.env) :: starEach [] X.env) (hpl : (backTo pos2 (starEach [] X.env)).any (·.1) = false) (hpl2 : (backTo pos (starEach [] X.env)).any (·.1) = false) :
    PF X c .l (.Call (.Name x p) [.Call (.Name y p2) [e] [] pos2] [] pos) (dUn srtC f) := by
  subst hx hy
  exact PE.imp (pe_callB (cr_sortedSet hc) hg hm (by decide +kernel) (pa_cons (pe_callTy (cr_setI hc) hg2 hm2 (by decide +kernel) (pa_cons h pa_nil he) (by decide) (by decide) he hpl) pa_nil he2) (by decide) (by decide) he2 hpl2) fun σ H Q ⟨F, ρ, E, w⟩ => ⟨F, ρ, E, (Out.wp_bind w).imp (fun d k v H1 s r => by
    obtain ⟨d', e', q⟩ := of_wp k
    obtain ⟨ns, e1, e2⟩ := Option.bind_eq_some_iff.mp e'
    obtain ⟨hl, rfl⟩ := if_some e2
    have fin : ∀ {l : Addr}, (SqL X.K H1 l (ns.map V.int) ∨ SqT X.K H1 l (ns.map V.int)) → rSetI X.K X.w [.ref l] H1 fun v H2 => rSortedSet X.w [v] H2 Q := fun {l} hq => by
      refine ⟨l, ns, rfl, hq, by omega, fun q0 n hq0 hn => ⟨q0, _, n, rfl, upd_same, by omega, fun ms p0 k1 k2 k3 hp0 => ?_⟩⟩
      have em : ms = srtI ns := lt_ext k1 (srt_lt ns) fun i => by rw [k2, mem_srt]; simp
      subst em
      have s1 : Same H1 (upd H1 q0 (SetO X.w q0 (fun j => decide (j ∈ ns)) n)) := same_upd hq0
      have n1 : H1 p0 = none := Same.free s1 hp0
      refine q p0 _ ((s.trans s1).trans (same_upd hp0)) (Same.free s n1) ⟨_, _, rfl, upd_same, ?_, RpA.of_ints _⟩
      rw [List.length_map, k3]
      exact cap_ok (by omega)
    cases r with
    | list h1 h2 h3 =>
      have el := intsOf_some e1
      subst el
      have ex := h3.ints
      subst ex
      exact fin (.inl (SqL.of (hid_sub _ _ h1)))
    | tuple h1 h2 h3 =>
      have el := intsOf_some e1
      subst el
      have ex := h3.ints
      subst ex
      exact fin (.inr (SqT.of (hid_sub _ _ h1)))
    | _ => cases e1) fun _ z => z⟩
end
/-! ### x.index(y), data in a list -/
section
variable {X : Cx} {c : Pc} {m : Bool} {e e1 : Expr} {f g : DE} {apos cpos : Pos}
def layD (d : D) : Bool := d.pl && SeqAt.shaped d.py
def ixD (l : List D) (x : D) : Option D := if layD (.list l) = true ∧ layD x = true ∧ (l.any fun y => eqv y x) = true then some (.int (l.findIdx fun y => eqv y x)) else none
def dIdx (f g : DE) : DE := fun ρ => (f ρ).bind fun d => match d with
  | .list l => (g ρ).bind fun y => .of (ixD l y)
  | _ => .bad
theorem pyA_get : ∀ (l : List D) (j : Nat), (D.pyA l)[j]? = (l[j]?).map D.py
  | [], j => by simp [D.pyA]
  | d :: l, 0 => rfl
  | d :: l, j + 1 => by
    simp only [D.pyA, List.getElem?_cons_succ]
    exact pyA_get l j
theorem pd_idx {k : Nat} (hr : Room k X.A) (ho : PD X c false e f) (he : PD X c false e1 g) (hb : attributeBase e "index" X.env (eval e X.env) = eval e X.env)
    (hfew : ((backTo cpos (starEach (e1 :: []) X.env)).all (fun x => !x.1) && (backToKw cpos (keywordEach [] X.env)).all (fun x => x.1.isSome)
      && decide ((e1 :: []).length + ([] : List Keyword).length + (if ([] : List Keyword).isEmpty then 0 else 1) < 30)) = true)
    (hline : (apos.endLine == cpos.line) = true) (hs : starEach (e1 :: []) X.env = (false, eval e1 X.env) :: starEach [] X.env) (hplain : (backTo cpos (starEach [] X.env)).any (·.1) = false) : PD X c m (.Call (.Attribute e "index" apos) [e1] [] cpos) (dIdx f g) := by
  have hu := hr.un
  exact PE.imp (pe_bm PySem.F.plainAttrs_list PySem.F.slot_list_index PySem.F.type_list_index (mt_indexD (by omega)) ho (pa_cons he pa_nil hs) hb hfew hline hs hplain) fun σ H Q ⟨F, ρ, E, w⟩ => ⟨F, ρ, E, (Out.wp_bind w).imp (fun d k v H1 s1 r => by
    cases d with
    | list l =>
      cases r with
      | @list a xs _ h1 h2 h3 =>
        refine ⟨.inl ⟨rfl, _, SqL.of (hid_sub _ _ h1)⟩, F, ρ, E.up s1, (Out.wp_bind k).imp (fun y k2 u H2 s2 r2 => ?_) fun _ z => z.up s1⟩
        obtain ⟨d', e', q⟩ := of_wp k2
        obtain ⟨⟨p1, p2, p3⟩, rfl⟩ := if_some e'
        unfold layD at p1 p2
        simp only [Bool.and_eq_true] at p1 p2
        obtain ⟨x0, hx0, hx1⟩ := List.any_eq_true.mp p3
        have hlt : (l.findIdx fun z => eqv z y) < l.length := List.findIdx_lt_length_of_exists ⟨x0, hx0, hx1⟩
        have hj : (D.pyA l)[l.findIdx fun z => eqv z y]? = some (l[l.findIdx fun z => eqv z y]'hlt).py := by rw [pyA_get, List.getElem?_eq_getElem hlt]; rfl
        refine ⟨a, u, y.py, D.pyA l, _, _, rfl, rfl, Rp.dp (.list l) _ p1.1 ((Rp.list h1 h2 h3).up ((hid_mono s2).trans hid_sub)), Rp.dp y u p2.1 (r2.up hid_sub), p1.2, p2.2, hj, List.findIdx_getElem (w := hlt), fun m' z' hm hz => ?_, q _ H2 (s1.trans s2) (.int _)⟩
        rw [pyA_get] at hz
        obtain ⟨z, hz1, rfl⟩ := Option.map_eq_some_iff.mp hz
        obtain ⟨hl', rfl⟩ := List.getElem?_eq_some_iff.mp hz1
        have := List.not_of_lt_findIdx hm
        exact this
    | _ => exact k.elim) fun _ z => z⟩
end
/-! ### a comprehension within a comprehension -/
def relS (scope sc : Scope) : Scope := { scope with names := scope.names.map fun (n, k) => if (k == .free && sc.kind == .function && sc.names.lookup n == some .cell) then (n, .cell) else (n, k) }
theorem blk_in {N : List Str} {X : Cx} {sc scope inner : Scope} {own : List (Str × Nat)} (hs : X.env.scope = sc) (h : blkC N (relS scope sc) inner own = true) {s : Shared} {H : Hp} {C : Addr} {cl : List (Str × Addr)} {fp : List Addr} : BlkOk N (X.blk s H scope (compEnvC scope cl C X.env) fp).env.scope inner own := by
  subst hs
  exact blkOk_by h
end Pd

/-! Pr: sep.join(texts). -/
namespace Pd
open PySem L2 PyProof.Rows
def strsOf : List D → Option (List Str)
  | [] => some []
  | .str s :: l => (strsOf l).map (s :: ·)
  | _ :: _ => none
theorem strsOf_some : ∀ {l : List D} {ys : List Str}, strsOf l = some ys → l = ys.map .str
  | [], ys, h => by cases h; rfl
  | d :: l, ys, h => by
    cases d <;> try (cases h; done)
    rename_i s
    unfold strsOf at h
    obtain ⟨zs, e, rfl⟩ := Option.map_eq_some_iff.mp h
    rw [strsOf_some e]
    rfl
@[simp] theorem strsOf_map (ys : List Str) : strsOf (ys.map .str) = some ys := by
  induction ys with
  | nil => rfl
  | cons y ys ih =>
    rw [List.map_cons]
    unfold strsOf
    rw [ih]
    rfl
theorem RpA.strs {K : PySem.W.Frag} {H : Hp} : ∀ {ys : List Str} {vs : List V}, RpA K H vs (ys.map .str) → vs = ys.map V.str
  | [], _, h => by cases h; rfl
  | y :: ys, _, h => by
    cases h with
    | cons r t =>
      cases r
      rw [RpA.strs t]
      rfl
def ofTx (d : D) : Option (List Str) := match d with
  | .list l => strsOf l
  | .tuple l => strsOf l
  | _ => none
def joinS (a : Str) (d : D) : Option D := (ofTx d).bind fun ys => if (ys.map (·.length)).sum + ys.length * a.length ≤ 1000000 then some (.str (Str.join a ys)) else none
def dJoin (f g : DE) : DE := fun ρ => (f ρ).bind fun d => match d with
  | .str a => (g ρ).bind fun y => .of (joinS a y)
  | _ => .bad
section
variable {X : Cx} {c : Pc} {m : Bool} {o e : Expr} {f g : DE} {apos pos : Pos}
theorem pd_join (ho : PD X c m o f) (he : PD X c false e g) (hs : starEach [e] X.env = [(false, eval e X.env)]) (hbase : attributeBase o "join" X.env (eval o X.env) = eval o X.env) (hline : (apos.endLine == pos.line) = true) :
    PD X c m (.Call (.Attribute o "join" apos) [e] [] pos) (dJoin f g) :=
  PE.imp (pe_join ho he hs hbase hline) fun σ H Q ⟨F, ρ, E, w⟩ => ⟨F, ρ, E, (Out.wp_bind w).imp (fun d k v H1 s1 r => by
    cases d <;> try (exact k.elim)
    rename_i a
    cases r
    refine ⟨⟨a, rfl⟩, F, ρ, E.up s1, (Out.wp_bind k).imp (fun y k2 u H2 s2 r2 => ?_) fun _ z => z.up s1⟩
    obtain ⟨d', e', q⟩ := of_wp k2
    obtain ⟨ys, e1, e2⟩ := Option.bind_eq_some_iff.mp e'
    obtain ⟨hl, rfl⟩ := if_some e2
    have hz : (ys.map (·.length)).sum + ys.length * a.length ≤ 16777216 := Nat.le_trans hl (by decide)
    cases r2 with
    | list h1 h2 h3 =>
      have el := strsOf_some e1
      subst el
      have ex := h3.strs
      subst ex
      exact ⟨a, _, ys, rfl, rfl, .inl (SqL.of (hid_sub _ _ h1)), hz, by rw [show Txt.join a ys = Str.join a ys from StrLaws.glued_eq_join a ys]; exact q _ H2 (s1.trans s2) (.str _)⟩
    | tuple h1 h2 h3 =>
      have el := strsOf_some e1
      subst el
      have ex := h3.strs
      subst ex
      exact ⟨a, _, ys, rfl, rfl, .inr (SqT.of (hid_sub _ _ h1)), hz, by rw [show Txt.join a ys = Str.join a ys from StrLaws.glued_eq_join a ys]; exact q _ H2 (s1.trans s2) (.str _)⟩
    | _ => cases e1) fun _ z => z⟩
end
end Pd

/-! Pt: a dict that is no longer changed is held still; list(d) of a dict with tuples as keys. -/
namespace Pd
open PySem L2 PyProof.Rows
section
variable {X : Cx} {c : Pc} {m : Bool} {e : Expr} {pos p : Pos} {f : DE} {st : Stmt}
/-- from here on the dict at slot i is read only -/
def dLock (i : Nat) : DS := fun ρ => match ρ[i]? with
  | some (some (.dt kvs)) => .nx (ρ.set i (some (.fdt kvs)))
  | some (some (.fdt _)) => .nx ρ
  | _ => .bad
theorem ps_lockD (i : Nat) {t : DS} (h : PSD X c st t) (ho : isOw c.O i .t = true) (hu : onlyK c.O i .t = true) : PSD X c st (dSeq (dLock i) t) := by
  refine ⟨fun pins s σ H Dn I hw => ?_⟩
  obtain ⟨F, ρ, E, w⟩ := hw
  unfold dSeq dLock at w
  have hi := isOw_of ho
  cases hr : ρ[i]? with
  | none => rw [hr] at w; exact w.elim
  | some od =>
    rw [hr] at w
    cases od with
    | none => exact w.elim
    | some d =>
      cases d with
      | fdt kvs => exact h.run pins s σ H Dn I ⟨F, ρ, E, w⟩
      | dt kvs =>
        rcases E.cel i .t hi with ⟨d', a, q1, q2, q3, q4⟩ | ⟨q, _⟩
        · rw [hr] at q1
          cases q1
          rcases q4 with ⟨kvs', z, h1, h2⟩ | ⟨o, kvs', z, _⟩
          · cases z
            obtain ⟨ob, I1⟩ := I.lock h1 trivial
            have E1 := E.cell hi hu q2 (d := .fdt kvs) (o := .frz ob (.dT kvs)) (.inr ⟨ob, kvs, rfl, upd_same, h2⟩)
            exact h.run pins s σ _ Dn I1 ⟨F, _, E1, SO.up (stp_cell hi q2 ⟨_, h1, rfl⟩) w⟩
          · cases z
        · rw [hr] at q
          cases q
      | _ => exact w.elim
def dKeysT (f : DE) : DE := fun ρ => (f ρ).bind fun d => match d with
  | .fdt kvs => if smallT kvs = true then .ok (.list (keyT kvs)) else .bad
  | _ => .bad
/-- list(d), d a dict with tuples as keys that is held still -/
theorem pd_keysT (hc : X.calm = true) (hm : X.mg "list" = none) (ho : PD X c false e f) {x : Str} (hx : x = "list") (hg : Gl X x) (he : starEach [e] X.env = (false, eval e X.env) :: starEach [] X.env) (hpl : (backTo pos (starEach [] X.env)).any (·.1) = false) : PD X c m (.Call (.Name x p) [e] [] pos) (dKeysT f) := by
  subst hx
  exact PD.weak (PE.imp (pe_callTy (call_list_dT hc) hg hm (by decide +kernel) (pa_cons ho pa_nil he) (by decide) (by decide) he hpl) fun σ H Q ⟨F, ρ, E, w⟩ => ⟨F, ρ, E, (Out.wp_bind w).imp (fun d k v H1 s1 r => by
    cases d with
    | fdt kvs =>
      obtain ⟨hl, q⟩ := if_wp (show (if smallT kvs = true then Out.ok (D.list (keyT kvs)) else .bad).wp _ _ from k)
      unfold smallT at hl
      rw [Bool.and_eq_true] at hl
      have hl1 := of_decide_eq_true hl.1
      cases r with
      | @fdt a o _ h1 h2 =>
        refine ⟨_, _, rfl, .inr ⟨o, hid_sub _ _ h1⟩, fun p bs hp hk => ?_⟩
        have nt : ∀ b ∈ hs true F c.O σ, ∀ xs, H1 b ≠ some (.tup xs) := fun b hb xs z => by
          obtain ⟨u, e4, e5⟩ := (E.up s1).hdom true b hb
          rw [z] at e4
          cases e4
          cases e5
        have rr := isKeys_R (K := X.K) nt hk fun q hq => by
          have := List.all_eq_true.mp hl.2 q hq
          exact cap_ok (Nat.le_trans (of_decide_eq_true this) (by decide))
        have hlen : (bs.map V.ref).length ≤ sizeLine := by
          rw [rr.len, List.length_map]
          exact cap_ok hl1
        obtain ⟨s2, r2⟩ := new_list (K := X.K) ((E.up s1).hdom true) hp hlen rr
        exact q _ _ (s1.trans s2) r2
    | _ => exact k.elim) fun _ z => z⟩)
end
end Pd

/-! Pu: tuples known to the object: tuple(x), x.index(i). -/
namespace L2
open PySem PySem.Spec PyProof.Rows
section
variable {X : Cx}
theorem call_tuple_frz : CallR X (.type "tuple") (fun xs H Q => ∃ p ys, xs = [.ref p] ∧ SqL X.K H p ys ∧ ∀ l o, H l = none → o.dict = none → Q (.ref l) (upd H l (.frz o (.tup ys)))) := by
  intro pins s σ H xs us Q I r h
  obtain ⟨p, ys, rfl, hq, q⟩ := h
  obtain ⟨u, rfl, rx⟩ := vals1 r
  cases rx
  obtain ⟨its, r', pl, hz⟩ := I.list hq
  have hlen := r'.length
  refine call_tuple_list pl.isList (fun h' kp => ?_) (by simp only [List.size_toArray] <;> omega)
  have I1 : Inv X pins σ H { s with heap := h' } := I.kept (t' := s.toks) kp
  have I2 : Inv X pins σ (upd H h'.objs.size (.frz { cls := .type "tuple", data := .seq its.toArray } (.tup ys))) { s with heap := h'.push { cls := .type "tuple", data := .seq its.toArray } } :=
    I1.laid (t' := s.toks) (fun b o e => Heap.get?_push_of_some _ e) (Nat.le_refl _) (show ObjOk X.prog X.w _ _ _ (.frz _ (.tup ys)) from ⟨Heap.get?_push_size _ rfl, hz, its, r', IsTup.new _ _⟩)
  exact ⟨.ref h'.objs.size, _, I2, rfl, q _ _ (I1.hok.fresh (Nat.le_refl _)) rfl⟩
theorem ints_are : ∀ {ns : List Int} {its : List Value}, Vals (ns.map V.int) its → IntsAre its ns
  | [], _, h => by cases h; exact .nil
  | n :: ns, _, h => by
    cases h with
    | cons r t =>
      obtain ⟨u, rfl⟩ := r
      exact .cons n u (ints_are t)
/-- t.index(i), t a tuple of ints known to the object -/
def tIxF (to : TE) (t : TA) : TE := fun σ H Q => to σ H fun x H1 => ∃ a ob xs, x = .ref a ∧ H1 a = some (.frz ob (.tup xs)) ∧ ob.dict = none ∧ t σ H1 fun vs H2 => ∃ (i : Int) (ns : List Int), vs = [.int i] ∧ xs = ns.map V.int ∧ i ∈ ns ∧ H2 a = some (.frz ob (.tup xs)) ∧ Q (.int (ns.idxOf i : Nat)) H2
theorem pe_ixF {o e : Expr} {to : TE} {t : TA} {apos cpos : Pos} (ho : PE X o to) (ha : PA X [e] t)
    (hbase : attributeBase o "index" X.env (eval o X.env) = eval o X.env)
    (hfew : ((backTo cpos (starEach (e :: []) X.env)).all (fun x => !x.1) && (backToKw cpos (keywordEach [] X.env)).all (fun x => x.1.isSome)
      && decide ((e :: []).length + ([] : List Keyword).length + (if ([] : List Keyword).isEmpty then 0 else 1) < 30)) = true)
    (hline : (apos.endLine == cpos.line) = true) (hs : starEach (e :: []) X.env = (false, eval e X.env) :: starEach [] X.env) (hplain : (backTo cpos (starEach [] X.env)).any (·.1) = false) :
    PE X (.Call (.Attribute o "index" apos) [e] [] cpos) (tIxF to t) := by
  refine ⟨fun pins s σ H Q I h => ?_⟩
  refine wpAny_Call_method_late hbase hfew hline rfl (thn (ho.run pins s σ H _ I h) fun v s1 ⟨x, H1, I1, r1, q1⟩ => ?_)
  obtain ⟨a, ob, xs, rfl, hf, hd, q1⟩ := q1
  cases r1
  obtain ⟨ho1, hz, its, r', pl⟩ := I1.hok a _ hf
  obtain ⟨o1, hg1, hc1, _⟩ := id pl
  refine ⟨"tuple", "tuple.index", PySem.F.plainAttrs_tuple, PySem.F.slot_tuple_index, PySem.F.type_tuple_index, ⟨o1, hg1, hc1⟩, fun b e => by cases e; exact ⟨ob, ho1, hd⟩, ?_⟩
  have hA := ha.run cpos pins s1 σ H1 _ I1 q1
  rw [hs] at hA ⊢
  refine Calls.callWith_builtin (by show (false || (backTo cpos (starEach [] X.env)).any (·.1)) = false; rw [hplain] <;> rfl) (Calls.evalArgs_plain ?_)
  refine thn hA fun us s2 ⟨vs, H2, I2, r2, q2⟩ => ?_
  obtain ⟨i, ns, rfl, rfl, hi, hf2, q⟩ := q2
  obtain ⟨u, rfl, rx⟩ := vals1 r2
  obtain ⟨tk, rfl⟩ := rx
  obtain ⟨ho2, hz2, its2, r2', pl2⟩ := I2.hok a _ hf2
  exact SeqAt.tuple_index_ints pl2 (ints_are r2') hi ⟨.int (ns.idxOf i : Nat), H2, I2.tok _, ⟨_, rfl⟩, q⟩
end
end L2
namespace Pd
open PySem L2 PyProof.Rows
section
variable {X : Cx} {c : Pc} {m : Bool} {e e1 : Expr} {f g : DE} {apos cpos : Pos}
theorem new_ftup {K : PySem.W.Frag} {A : List Addr} {H : Hp} {p : Addr} {o : Obj} {xs : List V} {ds : List D} (hA : Dom A H) (hp : H p = none) (hd : o.dict = none) (hz : xs.length ≤ sizeLine) (r : RpA K (hid A H) xs ds) : Same H (upd H p (.frz o (.tup xs))) ∧ Rp K (hid A (upd H p (.frz o (.tup xs)))) (.ref p) (.ftup ds) := by
  have s := same_upd (o := .frz o (.tup xs)) hp
  exact ⟨s, .ftup (hid_new (Dom.free hA hp)) hd hz (r.up (hid_mono s))⟩
def ftpC : List D → Option D
  | [.list l] => some (.ftup l)
  | _ => none
theorem cr_ftpD : CallR X (.type "tuple") (rdL X.K ftpC) := by
  intro pins s σ H xs us Q I r h
  obtain ⟨A, ds, hA, ra, d, e, q⟩ := h
  unfold ftpC at e
  split at e
  · cases e
    obtain ⟨v, rfl, rv⟩ := rp1 ra
    cases rv with
    | list h1 h2 h3 =>
      refine call_tuple_frz pins s σ H _ us Q I r ⟨_, _, rfl, SqL.of (hid_sub _ _ h1), fun p o hp hd => ?_⟩
      obtain ⟨s1, r1⟩ := new_ftup (K := X.K) hA hp hd h2 h3
      exact q _ _ s1 r1
  · cases e
def ixT (l : List D) (x : D) : Option D := match x with
  | .int i => (intsOf l).bind fun ns => if i ∈ ns then some (.int (ns.idxOf i : Nat)) else none
  | _ => none
def dIxT (f g : DE) : DE := fun ρ => (f ρ).bind fun d => match d with
  | .ftup l => (g ρ).bind fun y => .of (ixT l y)
  | _ => .bad
theorem pd_ixT (ho : PD X c false e f) (he : PD X c false e1 g) (hb : attributeBase e "index" X.env (eval e X.env) = eval e X.env)
    (hfew : ((backTo cpos (starEach (e1 :: []) X.env)).all (fun x => !x.1) && (backToKw cpos (keywordEach [] X.env)).all (fun x => x.1.isSome)
      && decide ((e1 :: []).length + ([] : List Keyword).length + (if ([] : List Keyword).isEmpty then 0 else 1) < 30)) = true)
    (hline : (apos.endLine == cpos.line) = true) (hs : starEach (e1 :: []) X.env = (false, eval e1 X.env) :: starEach [] X.env) (hplain : (backTo cpos (starEach [] X.env)).any (·.1) = false) : PD X c m (.Call (.Attribute e "index" apos) [e1] [] cpos) (dIxT f g) :=
  PE.imp (pe_ixF ho (pa_cons he pa_nil hs) hb hfew hline hs hplain) fun σ H Q ⟨F, ρ, E, w⟩ => ⟨F, ρ, E, (Out.wp_bind w).imp (fun d k v H1 s1 r => by
    cases d with
    | ftup l =>
      cases r with
      | @ftup a o xs _ h1 h0 h2 h3 =>
        refine ⟨a, o, xs, rfl, hid_sub _ _ h1, h0, F, ρ, E.up s1, (Out.wp_bind k).imp (fun y k2 u H2 s2 r2 => ?_) fun _ z => z.up s1⟩
        obtain ⟨d', e', q⟩ := of_wp k2
        cases y <;> try (cases e'; done)
        rename_i i
        cases r2
        obtain ⟨ns, en, e2⟩ := Option.bind_eq_some_iff.mp (show (intsOf l).bind (fun ns => if i ∈ ns then some (D.int (ns.idxOf i : Nat)) else none) = some d' from e')
        obtain ⟨hi, rfl⟩ := if_some e2
        have el := intsOf_some en
        subst el
        have ex := RpA.ints h3
        exact ⟨i, ns, rfl, ex, hi, s2 _ _ (hid_sub _ _ h1), q _ H2 (s1.trans s2) (.int _)⟩
    | _ => exact k.elim) fun _ z => z⟩
end
end Pd

/-! Pv: a slot that is owned from some statement on. -/
namespace Pd
open PySem L2 PyProof.Rows
section
variable {K : PySem.W.Frag} {O : Ow} {F : Fm} {ρ : Env} {σ : L2.St} {H : Hp} {i : Nat} {k : Kd}
theorem noOw_mem (no : noOw O i = true) : ∀ k', (i, k') ∉ O := noOw_of no
theorem own_fgt (no : noOw O i = true) : own ((i, k) :: O) (σ.set i none) = own O σ := by
  have h1 : refAt (σ.set i none) i = none := by
    unfold refAt
    by_cases hl : i < σ.length
    · rw [List.getElem?_set_self hl]
    · rw [List.getElem?_eq_none (by rw [List.length_set]; omega)]
  have h2 : own ((i, k) :: O) (σ.set i none) = own O (σ.set i none) := by
    unfold own
    rw [List.filterMap_cons, h1]
  rw [h2, own_set (noOw_mem no)]
theorem own_sub {b : Addr} (h : b ∈ own O σ) : b ∈ own ((i, k) :: O) σ := by
  obtain ⟨j, k', h1, h2⟩ := mem_own.mp h
  exact mem_own.mpr ⟨j, k', List.mem_cons_of_mem _ h1, h2⟩
theorem EnvR.enter (E : EnvR K O F ρ σ H) (no : noOw O i = true) (hi : i < ρ.length) : EnvR K ((i, k) :: O) F (ρ.set i none) (σ.set i none) H := by
  have eo := own_fgt (σ := σ) (k := k) no
  have hs : i < σ.length := by rw [← E.len]; exact hi
  have nj : ∀ j k', (j, k') ∈ O → i ≠ j := fun j k' h z => noOw_mem no k' (by rw [z]; exact h)
  refine ⟨by rw [List.length_set, List.length_set, E.len], fun j d h n => ?_, fun j k' h => ?_, fun j k1 j' k2 a h h' e e' => ?_, E.adom, fun p hp => ?_, fun p hp => List.mem_cons_of_mem _ (E.fxO p hp)⟩
  · have hij : i ≠ j := fun z => by
      subst z
      rw [List.getElem?_set_self hi] at h
      cases h
    rw [List.getElem?_set_ne hij] at h ⊢
    rw [eo]
    exact E.val j d h fun k' z => n k' (List.mem_cons_of_mem _ z)
  · rcases List.mem_cons.mp h with z | z
    · cases z
      exact .inr ⟨List.getElem?_set_self hi, List.getElem?_set_self hs⟩
    · have hij := nj j k' z
      rw [List.getElem?_set_ne hij, List.getElem?_set_ne hij, eo]
      exact E.cel j k' z
  · have no1 : ∀ j k', (j, k') ∈ (i, k) :: O → (σ.set i none)[j]? = some (some (.ref a)) → (j, k') ∈ O ∧ σ[j]? = some (some (.ref a)) := fun j k' h e => by
      rcases List.mem_cons.mp h with z | z
      · cases z
        rw [List.getElem?_set_self hs] at e
        cases e
      · rw [List.getElem?_set_ne (nj j k' z)] at e
        exact ⟨z, e⟩
    obtain ⟨a1, a2⟩ := no1 j k1 h e
    obtain ⟨b1, b2⟩ := no1 j' k2 h' e'
    exact E.dis j k1 j' k2 a a1 b1 a2 b2
  · rw [List.getElem?_set_ne (nj _ _ (E.fxO p hp))]
    exact E.fix p hp
theorem EnvR.leave (E : EnvR K ((i, k) :: O) F ρ σ H) (no : noOw O i = true) (hk : k ≠ .p) : EnvR K O F ρ σ H := by
  have le : Same (hid (F.A ++ own ((i, k) :: O) σ) H) (hid (F.A ++ own O σ) H) := hid_le fun b hb => .inl (by
    rcases List.mem_append.mp hb with z | z
    · exact List.mem_append_left _ z
    · exact List.mem_append_right _ (own_sub z))
  refine ⟨E.len, fun j d h n => ?_, fun j k' h => ?_, fun j k1 j' k2 a h h' e e' => E.dis j k1 j' k2 a (List.mem_cons_of_mem _ h) (List.mem_cons_of_mem _ h') e e', E.adom, E.fix, fun p hp => ?_⟩
  · by_cases hij : i = j
    · subst hij
      rcases E.cel i k List.mem_cons_self with ⟨d', a, q1, q2, q3, q4⟩ | ⟨q, _⟩
      · rw [h] at q1
        cases q1
        refine ⟨_, q2, q4.rp le ?_⟩
        have na : a ∉ F.A ++ own O σ := fun z => by
          rcases List.mem_append.mp z with z | z
          · exact q3 z
          · obtain ⟨j', k', h1, h2⟩ := mem_own.mp z
            have := E.dis j' k' i k a (List.mem_cons_of_mem _ h1) List.mem_cons_self h2 q2
            exact noOw_mem no k' (by rw [← this]; exact h1)
        obtain ⟨o, eo, _⟩ := q4.some
        rw [eo]
        exact hid_of na eo
      · rw [h] at q
        cases q
    · obtain ⟨v, h1, h2⟩ := E.val j d h fun k' z => by
        rcases List.mem_cons.mp z with z | z
        · cases z
          exact hij rfl
        · exact n k' z
      exact ⟨v, h1, h2.up le⟩
  · rcases E.cel j k' (List.mem_cons_of_mem _ h) with ⟨d', a, q1, q2, q3, q4⟩ | q
    · exact .inl ⟨d', a, q1, q2, q3, q4.up le rfl⟩
    · exact .inr q
  · rcases List.mem_cons.mp (E.fxO p hp) with z | z
    · exact absurd (congrArg Prod.snd z).symm hk
    · exact z
theorem Stp.leave {σ' : L2.St} {H' : Hp} (s : Stp ((i, k) :: O) (σ.set i none) H σ' H') (no : noOw O i = true) : Stp O σ H σ' H' := by
  have eo := own_fgt (σ := σ) (k := k) no
  refine ⟨fun b o nb e => s.keep b o (by rw [eo]; exact nb) e, fun b hb => ?_⟩
  have := s.new b (own_sub hb)
  rw [eo] at this
  exact this
end
section
variable {X : Cx} {c : Pc} {st : Stmt} {sts : List Stmt}
def dSortK (f : DE) : DE := fun ρ => (f ρ).bind fun d => match d with
  | .dk kvs => .of (sortC [.dk kvs])
  | _ => .bad
/-- sorted(d), d a dict (owned or not), in a strict place -/
theorem pd_sortK {m : Bool} {e : Expr} {pos p : Pos} {f : DE} (hc : X.calm = true) (hm : X.mg "sorted" = none) (ho : PD X c false e f) {x : Str} (hx : x = "sorted") (hg : Gl X x) (he : starEach [e] X.env = (false, eval e X.env) :: starEach [] X.env) (hpl : (backTo pos (starEach [] X.env)).any (·.1) = false) : PD X c m (.Call (.Name x p) [e] [] pos) (dSortK f) := by
  subst hx
  exact PD.weak (PE.imp (pe_callB (call_sortedDI hc) hg hm (by decide +kernel) (pa_cons ho pa_nil he) (by decide) (by decide) he hpl) fun σ H Q ⟨F, ρ, E, w⟩ => ⟨F, ρ, E, (Out.wp_bind w).imp (fun d k v H1 s1 r => by
    cases d with
    | dk kvs =>
      obtain ⟨d', e', q⟩ := of_wp k
      obtain ⟨ns, e1, e2⟩ := Option.bind_eq_some_iff.mp (show sortC [.dk kvs] = some d' from e')
      obtain ⟨hl, rfl⟩ := if_some e2
      cases r with
      | dk h1 h2 =>
        refine ⟨_, _, ns, rfl, .inl (hid_sub _ _ h1), keysI_some e1, hl, fun ns' p k1 k2 hp => ?_⟩
        have := sortI_unique k1 k2
        subst this
        obtain ⟨s2, r2⟩ := new_list (K := X.K) ((E.up s1).hdom true) hp (by rw [List.length_map, k1.length_eq]; exact cap_ok (by omega)) (RpA.of_ints (sortI ns))
        exact q _ _ (s1.trans s2) r2
    | _ => exact k.elim) fun _ z => z⟩)
/-- what stands at slot i is let go -/
def dFgt (i : Nat) (u : DS) : DS := fun ρ => if i < ρ.length then u (ρ.set i none) else .bad
abbrev Pc.add (c : Pc) (i : Nat) (k : Kd) : Pc := { c with O := (i, k) :: c.O }
theorem pss_sw (i : Nat) (k : Kd) {t u : DS} (no : noOw c.O i = true) (hk : k ≠ .p) (h1 : PSD X c st t) (h2 : PSsD X (c.add i k) sts u) : PSsD X c (st :: sts) (dSeq t (dFgt i u)) :=
  PSs.imp (pss_cons (PS.weakN h1 i) h2) fun Dn σ H ⟨F, ρ, E, w⟩ => by
    refine ⟨F, ρ, E, ?_⟩
    unfold dSeq at w
    cases e : t ρ with
    | nx ρ' =>
      rw [e] at w
      unfold dFgt at w
      obtain ⟨hi, w⟩ := ifS_wp w
      intro σ' H' E' S'
      refine ⟨F, _, E'.enter no hi, ?_⟩
      cases e2 : u (ρ'.set i none) with
      | nx ρ3 => rw [e2] at w; exact fun σ3 H3 E3 S3 => w σ3 H3 (E3.leave no hk) (S'.trans (S3.leave no))
      | bk ρ3 => rw [e2] at w; exact fun σ3 H3 E3 S3 => w σ3 H3 (E3.leave no hk) (S'.trans (S3.leave no))
      | ct ρ3 => rw [e2] at w; exact fun σ3 H3 E3 S3 => w σ3 H3 (E3.leave no hk) (S'.trans (S3.leave no))
      | rt d ρ3 => rw [e2] at w; exact fun v σ3 H3 E3 S3 r => w v σ3 H3 (E3.leave no hk) (S'.trans (S3.leave no)) r
      | err n ρ3 => rw [e2] at w; exact fun σ3 H3 E3 S3 => w σ3 H3 (E3.leave no hk) (S'.trans (S3.leave no))
      | bad => rw [e2] at w; exact w
    | bk _ => rw [e] at w; exact w
    | ct _ => rw [e] at w; exact w
    | rt _ _ => rw [e] at w; exact w
    | err _ _ => rw [e] at w; exact w
    | bad => rw [e] at w; exact w
end
end Pd

/-! Pw: list.count of ints; data compared; min and max of data in a list. -/
namespace PySem.W
open PySem PySem.SeqAt PyProof.Rows
section
variable {prog : Program} {w : World} {A : Around} {E : Value → Shared → Prop} {s : Shared}
theorem min_list_ix {l : Addr} {vs : Array Value} {xs : List PyData} {as : List Addr} {Q : Value → Shared → Prop} (hh : A.handled = none) (hl : s.heap.IsList l vs) (hr : ReadsAll s.heap vs.toList xs as) (ha : AlikeAll xs) (hne : xs ≠ []) (hu : A.units + 1 + PyData.depthAll xs < cLine)
    (h : ∀ v h' tk, vs[argBest (fun i j => dataLt (xs.getD i .none) (xs.getD j .none)) (xs.length - 1)]? = some v → (∀ b o, s.heap.get? b = some o → h'.get? b = some o) → Q v { s with heap := h', toks := tk }) :
    wpAny (model prog w) A (call (.builtin "min") [.ref l]) Q E s := by
  have hn : vs.size = xs.length := readsAll_len hr
  have hp := List.length_pos_iff.mpr hne
  refine call_min_walkH (iter_listW (A := A.in1) hh hl fun s₂ e W st hfp hw hk => ?_)
  refine ⟨_, _, _, _, _, _, _, s.heap, _, rfl, W, st, hfp, by omega, hw, hk, cmpIn_lt (A := A.in1) hr ha (by show A.units + 1 + _ < _; exact hu), fun v s' hP m => ?_⟩
  obtain ⟨h', tk, rfl, hk'⟩ := moved_old e rfl m
  rw [hn] at hP
  exact h v h' tk hP hk'
theorem max_list_ix {l : Addr} {vs : Array Value} {xs : List PyData} {as : List Addr} {Q : Value → Shared → Prop} (hh : A.handled = none) (hl : s.heap.IsList l vs) (hr : ReadsAll s.heap vs.toList xs as) (ha : AlikeAll xs) (hne : xs ≠ []) (hu : A.units + 1 + PyData.depthAll xs < cLine)
    (h : ∀ v h' tk, vs[argBest (fun i j => dataLt (xs.getD j .none) (xs.getD i .none)) (xs.length - 1)]? = some v → (∀ b o, s.heap.get? b = some o → h'.get? b = some o) → Q v { s with heap := h', toks := tk }) :
    wpAny (model prog w) A (call (.builtin "max") [.ref l]) Q E s := by
  have hn : vs.size = xs.length := readsAll_len hr
  have hp := List.length_pos_iff.mpr hne
  refine call_max_walkH (iter_listW (A := A.in1) hh hl fun s₂ e W st hfp hw hk => ?_)
  refine ⟨_, _, _, _, _, _, _, s.heap, _, rfl, W, st, hfp, by omega, hw, hk, cmpIn_gt (A := A.in1) hr ha (by show A.units + 1 + _ < _; exact hu), fun v s' hP m => ?_⟩
  obtain ⟨h', tk, rfl, hk'⟩ := moved_old e rfl m
  rw [hn] at hP
  exact h v h' tk hP hk'
end
end PySem.W
namespace Pd
open PySem L2 PyProof.Rows
/-- a module's tuple of one int -/
theorem kc_tup1 {K : PySem.W.Frag} {h : Heap} {mg : Str → Option Value} {x : Str} {a : Addr} {n : Int} {t : Tok} {dd : Option Addr} {k : Nat} {sl : Array (Option Value)} (X : K.In h) (G : h.Ns mainGlobals mg) (e : PySem.W.nsIn K mainGlobals x = some (some (.ref a))) (l : K.lookup a = some ⟨.type "tuple", dd, .seq #[.int n t] k, sl⟩) : KC K mg x (.ktup [n]) :=
  ⟨.ref a, .ref a, PySem.W.mg_of X G e, rfl, fun H => .ktup ⟨_, #[.int n t], k, l, rfl, rfl, Nat.le_trans (show 1 ≤ 1 from Nat.le_refl 1) (by decide), .cons ⟨t, rfl⟩ .nil⟩ (Nat.le_trans (show 1 ≤ 1 from Nat.le_refl 1) (by decide))⟩
section
variable {X : Cx} {c : Pc} {m : Bool} {e e1 : Expr} {apos cpos : Pos} {f g : DE}
/-- x.count(i), x a list of ints -/
def dCnt (f g : DE) : DE := fun ρ => (f ρ).bind fun d => match d with
  | .list l => (g ρ).bind fun y => match y with
    | .int i => .of ((intsOf l).map fun ns => .int (ns.count i : Nat))
    | _ => .bad
  | _ => .bad
theorem pd_cnt (ho : PD X c false e f) (he : PD X c false e1 g) (hb : attributeBase e "count" X.env (eval e X.env) = eval e X.env)
    (hfew : ((backTo cpos (starEach (e1 :: []) X.env)).all (fun x => !x.1) && (backToKw cpos (keywordEach [] X.env)).all (fun x => x.1.isSome)
      && decide ((e1 :: []).length + ([] : List Keyword).length + (if ([] : List Keyword).isEmpty then 0 else 1) < 30)) = true)
    (hline : (apos.endLine == cpos.line) = true) (hs : starEach (e1 :: []) X.env = (false, eval e1 X.env) :: starEach [] X.env) (hplain : (backTo cpos (starEach [] X.env)).any (·.1) = false) : PD X c m (.Call (.Attribute e "count" apos) [e1] [] cpos) (dCnt f g) :=
  PE.imp (pe_bm PySem.F.plainAttrs_list PySem.F.slot_list_count PySem.F.type_list_count mt_lcount ho (pa_cons he pa_nil hs) hb hfew hline hs hplain) fun σ H Q ⟨F, ρ, E, w⟩ => ⟨F, ρ, E, (Out.wp_bind w).imp (fun d k v H1 s1 r => by
    cases d with
    | list l =>
      cases r with
      | @list a xs _ h1 h2 h3 =>
        refine ⟨.inl ⟨rfl, _, SqL.of (hid_sub _ _ h1)⟩, F, ρ, E.up s1, (Out.wp_bind k).imp (fun y k2 u H2 s2 r2 => ?_) fun _ z => z.up s1⟩
        cases y <;> try exact k2.elim
        rename_i i
        cases r2
        obtain ⟨d', e', q⟩ := of_wp k2
        obtain ⟨ns, en, rfl⟩ := Option.map_eq_some_iff.mp e'
        have el := intsOf_some en
        subst el
        have ex := RpA.ints h3
        subst ex
        exact ⟨a, ns, i, rfl, rfl, SqL.of (s2 _ _ (hid_sub _ _ h1)), q _ H2 (s1.trans s2) (.int _)⟩
    | _ => exact k.elim) fun _ z => z⟩
/-- a > b, of data -/
def gtT (a b : D) : Option Bool := if a.pl = true ∧ b.pl = true ∧ PySem.W.alike a.py b.py = true ∧ (PySem.W.alike a.py .none = false) ∧ min (dep a) (dep b) ≤ 50 then some (PySem.W.dataLt b.py a.py) else none
theorem op_gtDD {k : Nat} (hr : Room k X.A) : OpR X (compareOp .Gt) (rdC X.K gtT) := by
  intro pins s σ H x y v u Q I rx ry h
  obtain ⟨A, dx, dy, hA, r1, r2, b, e, q⟩ := h
  obtain ⟨⟨h1, h2, h4, h5, h3⟩, rfl⟩ := if_some e
  obtain ⟨as, q1⟩ := Dp.reads I _ x v (Rp.dp dx x h1 (r1.up hid_sub)) rx
  obtain ⟨bs, q2⟩ := Dp.reads I _ y u (Rp.dp dy y h2 (r2.up hid_sub)) ry
  have hu := hr.units
  refine PySem.W.gt_data q1 q2 h4 (fun z => ?_) ?_ ⟨.bl _, H, I, rfl, q⟩
  · rw [z] at h5
    cases h5
  · unfold dep at h3
    omega
def allAlike (l : List PyData) : Bool := l.all fun x => (!PySem.W.alike x .none) && l.all fun y => PySem.W.alike x y
def bestT (f : PyData → PyData → Bool) (l : List D) : Option D := if D.plA l = true ∧ allAlike (D.pyA l) = true ∧ depA l ≤ 50 ∧ l ≠ [] then l[argBest (fun i j => f ((D.pyA l).getD i .none) ((D.pyA l).getD j .none)) (l.length - 1)]? else none
def minT : List D → Option D
  | [.list l] => bestT PySem.W.dataLt l
  | _ => none
def maxT : List D → Option D
  | [.list l] => bestT (fun a b => PySem.W.dataLt b a) l
  | _ => none
theorem alike_of {l : List PyData} (h : allAlike l = true) : PySem.W.AlikeAll l := by
  have h' := List.all_eq_true.mp h
  refine ⟨fun x hx y hy => ?_, fun x hx z => ?_⟩
  · have := h' x hx
    rw [Bool.and_eq_true] at this
    exact List.all_eq_true.mp this.2 y hy
  · have := h' x hx
    rw [z] at this
    cases this
theorem pyA_len : ∀ l : List D, (D.pyA l).length = l.length
  | [] => rfl
  | d :: l => congrArg (· + 1) (pyA_len l)
theorem cr_minT {k : Nat} (hr : Room k X.A) (hc : X.calm = true) : CallR X (.builtin "min") (rdL X.K minT) := by
  intro pins s σ H xs us Q I r h
  obtain ⟨A, ds, hA, ra, d, e, q⟩ := h
  unfold minT at e
  split at e
  · obtain ⟨v, rfl, rv⟩ := rp1 ra
    unfold bestT at e
    split at e
    case isFalse => cases e
    rename_i hcond
    obtain ⟨p1, p2, p3, p4⟩ := hcond
    have e2 := e
    cases rv with
    | @list a ws _ h1 h2 h3 =>
      obtain ⟨its, rl, pl, _⟩ := I.list (SqL.of (K := X.K) (hid_sub _ _ h1))
      obtain ⟨as, h4⟩ := Dp.readsAll I _ _ its (RpA.dp _ _ p1 (h3.up hid_sub)) rl
      rw [Vals.ref1 r]
      have hu := hr.units
      refine PySem.W.min_list_ix (I.ok.hd hc) pl.isList h4 (alike_of p2) (fun z => p4 (List.length_eq_zero_iff.mp (by rw [← pyA_len, z]; rfl))) (by unfold depA at p3; omega) fun v' h' tk hv hk => ?_
      rw [pyA_len] at hv
      obtain ⟨x, hx, rx⟩ := h3.get e2
      obtain ⟨u, hu', ru⟩ := rl.get hx
      have : v' = u := by
        rw [List.getElem?_toArray, hu'] at hv
        exact (Option.some.inj hv).symm
      subst this
      exact ⟨x, H, I.kept hk, ru, q x H (Same.refl H) rx⟩
  · cases e
theorem cr_maxT {k : Nat} (hr : Room k X.A) (hc : X.calm = true) : CallR X (.builtin "max") (rdL X.K maxT) := by
  intro pins s σ H xs us Q I r h
  obtain ⟨A, ds, hA, ra, d, e, q⟩ := h
  unfold maxT at e
  split at e
  · obtain ⟨v, rfl, rv⟩ := rp1 ra
    unfold bestT at e
    split at e
    case isFalse => cases e
    rename_i hcond
    obtain ⟨p1, p2, p3, p4⟩ := hcond
    have e2 := e
    cases rv with
    | @list a ws _ h1 h2 h3 =>
      obtain ⟨its, rl, pl, _⟩ := I.list (SqL.of (K := X.K) (hid_sub _ _ h1))
      obtain ⟨as, h4⟩ := Dp.readsAll I _ _ its (RpA.dp _ _ p1 (h3.up hid_sub)) rl
      rw [Vals.ref1 r]
      have hu := hr.units
      refine PySem.W.max_list_ix (I.ok.hd hc) pl.isList h4 (alike_of p2) (fun z => p4 (List.length_eq_zero_iff.mp (by rw [← pyA_len, z]; rfl))) (by unfold depA at p3; omega) fun v' h' tk hv hk => ?_
      rw [pyA_len] at hv
      obtain ⟨x, hx, rx⟩ := h3.get e2
      obtain ⟨u, hu', ru⟩ := rl.get hx
      have : v' = u := by
        rw [List.getElem?_toArray, hu'] at hv
        exact (Option.some.inj hv).symm
      subst this
      exact ⟨x, H, I.kept hk, ru, q x H (Same.refl H) rx⟩
  · cases e
end
end Pd

/-! Px: an exception that leaves a list comprehension (one clause, no tests). -/
namespace Pd
open PySem L2
/-! ### noted over a flight from elsewhere; the block let go -/
section
variable {M : Model} {A : Around} {E : Value → Shared → Prop} {s : Shared} {Z : Obj → Prop} {B B0 : Heap} {env cenv : PySem.Env} {outer l : List PySem.Env} {L C a : Addr}
theorem note_over {C : Addr} {Q : Unit → Shared → Prop} (hZ : HandSPX.Steady Z) (hfr : A.frames = some (env :: outer)) (hf : env.frame = some L) (hCL : C ≠ L) (hh : HandSPX.HeldZ B (env :: outer) a Z C s.heap)
    (hQ : ∀ h', HandSPX.HeldZ B (env :: outer) a Z L h' → s.heap.UpToSlots h' → Q () { s with heap := h' }) : wpAny M A (noteFrame (.ref a) env) Q E s := by
  obtain ⟨p1, p2, p3, oe, vs, T, oT, ts, q1, q2, q3, q4, q5, q6, q7, q8, q9⟩ := hh
  have sz := (Array.getElem?_eq_some_iff.mp q9).1
  unfold noteFrame
  simp only [hf]
  refine wpAny_bind (wpAny_field q1 q3 q4 ?_)
  rw [if_pos (by simp)]
  refine wpAny_bind (wpAny_field q7 q8 q9 ?_)
  rw [if_neg (by simp only [rawInt]; intro z; simp at z; exact hCL (Int.ofNat_inj.mp z))]
  refine wpAny_bind (wpAny_setField q7 q8 sz ?_)
  have oth : ∀ b, b ≠ T → (s.heap.update T (Obj.mapFields (·.setIfInBounds 3 Value.none))).get? b = s.heap.get? b := fun b hb => Heap.get?_update_other _ _ fun z => hb z.symm
  have nT : ∀ b o, s.heap.get? b = some o → (∀ vs, o.data ≠ .fields vs) → b ≠ T := fun b o e hnf z => by
    rw [z, q7] at e
    cases e
    exact hnf ts q8
  refine HandSPX.wpAny_entryZ hZ hfr (p3.of_keeps fun b o e hnf => ⟨o, by rw [oth b (nT b o e hnf), e], rfl⟩) hf (by rw [oth a fun z => q6 z.symm]; exact q1)
    (fun b o e => by rw [oth b fun z => (by rw [z, q5] at e; cases e)]; exact p1 b o e) p2 q3 (Array.getElem?_eq_some_iff.mp q4).1 q2 fun h' r => ?_
  obtain ⟨r1, r2, r3, r4⟩ := r
  exact hQ h' ⟨r1, p2, r2, r3⟩ fun b o e hnf => r4 b o (by rw [oth b (nT b o e hnf), e]) hnf
theorem sky_noted {Q : Unit → Shared → Prop} (hZ : HandSPX.Steady Z) (hfr : A.frames = some (env :: outer)) (hf : env.frame = some L) (hCL : C ≠ L) (x : Sky B (env :: outer) a Z C s.heap)
    (hQ : ∀ h', HandSPX.HeldZ B (env :: outer) a Z L h' → s.heap.UpToSlots h' → Q () { s with heap := h' }) : wpAny M A (noteFrame (.ref a) env) Q E s := by
  rcases x with ⟨x1, x2, x3, oe, vs, x4, x5, x6, x7⟩ | x | x
  · exact HandSPX.look_newZ hZ hfr x3 hf x4 x1 x2 x6 x7 x5 hQ
  · exact HandSPX.looks_onZ hZ hfr hf x hQ
  · exact note_over hZ hfr hf hCL x hQ
/-- a smaller ground -/
theorem sky_less {h : Heap} (x : Sky B l a Z C h) (k : ∀ b o, B0.get? b = some o → B.get? b = some o) : Sky B0 l a Z C h := by
  have kn : ∀ b, B.get? b = none → B0.get? b = none := fun b e => by
    cases q : B0.get? b with
    | none => rfl
    | some o => rw [k b o q] at e; cases e
  have ff : h.FunFrames B l → h.FunFrames B0 l := fun f => funFrames_none f fun b hb => kn b (f.mem hb).1
  have tr : ∀ {fl}, HandSPX.TracedZ h B a Z fl → HandSPX.TracedZ h B0 a Z fl := fun ⟨oe, vs, T, oT, ts, q1, q2, q3, q4, q5, q6⟩ => ⟨oe, vs, T, oT, ts, q1, q2, q3, q4, kn _ q5, q6⟩
  rcases x with ⟨x1, x2, x3, x4⟩ | ⟨x1, x2, x3, x4⟩ | ⟨x1, x2, x3, x4⟩
  · exact .inl ⟨fun b o e => x1 b o (k b o e), kn _ x2, ff x3, x4⟩
  · exact .inr (.inl ⟨fun b o e => x1 b o (k b o e), kn _ x2, ff x3, tr x4⟩)
  · exact .inr (.inr ⟨fun b o e => x1 b o (k b o e), kn _ x2, ff x3, tr x4⟩)
theorem let_go {m : Str → Option Value} (hfc : cenv.frame = some L) (hB : B.get? cenv.locals = none) (hn : s.heap.Ns cenv.locals m) (hh : HandSPX.HeldZ B l a Z L s.heap)
    (hQ : ∀ h', HandSPX.HeldZ B l a Z L h' → (∀ b o, b ≠ cenv.locals → s.heap.get? b = some o → (∀ vs, o.data ≠ .fields vs) → ∃ sl, h'.get? b = some { o with slots := sl }) → E (.ref a) { s with heap := h' }) :
    CompFails M A E cenv (.ref a) s := by
  refine ⟨m, hn, fun h2 m2 hn2 sb => ?_⟩
  have hh2 : HandSPX.HeldZ B l a Z L h2 := by
    obtain ⟨b1, b2, b3, oe, vs, T, oT, ts, e1, e2, e3, e4, e5, e6, e7, e8, e9⟩ := hh
    have ne : ∀ b o vs, s.heap.get? b = some o → o.data = .fields vs → b ≠ cenv.locals := fun b o vs e hd z => by
      obtain ⟨o', es, ep, ho, hd', _⟩ := hn
      rw [z, ho] at e
      cases e
      rw [hd'] at hd
      cases hd
    exact ⟨fun b o e => (sb.2 b fun z => by rw [z, hB] at e; cases e).trans (b1 b o e), b2, Heap.FunFrames.sameBut sb hn2 b3, oe, vs, T, oT, ts, (sb.2 a (ne a oe vs e1 e3)).trans e1, e2, e3, e4, e5, e6, (sb.2 T (ne T oT ts e7 e8)).trans e7, e8, e9⟩
  obtain ⟨_, _, _, oe, vs, T, oT, ts, e1, _, e3, e4, _⟩ := id hh2
  unfold passOn
  refine wpAny_bind (wpAny_field (s := { s with heap := h2 }) e1 e3 e4 ?_)
  rw [if_neg (by simp), hfc]
  refine wpAny_bind (HandSPX.setFlight_onZ (s := { s with heap := h2 }) hh2 fun h3 hh3 up => wpAny_throw (hQ h3 hh3 fun b o hb e hnf => ?_))
  exact up b o ((sb.2 b hb).trans e) hnf
end
/-! ### from the block's air to the def's -/
section
variable {X : Cx} {pins : List (Addr × Obj)} {σ : St} {H : Hp} {s : Shared}
/-- the block's context, with what is wished of an error -/
abbrev blX (X : Cx) (s : Shared) (H : Hp) (scope : Scope) (cenv : PySem.Env) (fp : List Addr) (xe : Value → Shared → Prop) : Cx := (X.blk s H scope cenv fp).tr [] xe
theorem air_out {H3 : Hp} {s3 s' : Shared} {scope : Scope} {ce : PySem.Env} {fp : List Addr} {W : WX} {xe : Value → Shared → Prop} {u : Value} (hs : X.stack = X.env :: X.outer) (hf : X.env.frame = some X.env.locals) (tk : Takes X W) (I3 : Inv X pins σ H3 s3) (hfp : ∀ b ∈ fp, FpOk X pins H3 b)
    (hC : ce.locals = s3.heap.objs.size) (hcf : ce.frame = X.env.frame) (x : XE (blX X s3 H3 scope ce fp xe) (fun cls d _ H' => W cls d σ H') u s') : notedBy (model X.prog X.w) X.A ce (CompFails (model X.prog X.w) X.A X.xe ce) u s' := by
  obtain ⟨a, B, sI, pb, σb, Hb, cls, d, eu, I, nb, up, sky, na, os, ag, w⟩ := x
  subst eu
  have hfr : X.A.frames = some (X.env :: X.outer) := by rw [I3.ok.frames, hs]
  have hCL : ce.locals ≠ X.env.locals := by rw [hC]; exact Nat.ne_of_gt I3.lt
  obtain ⟨B0, g1, g2⟩ := restrict B fun b => decide (b ≠ ce.locals)
  obtain ⟨G, k1, k2⟩ := restrict sI.heap fun b => decide (b ≠ ce.locals)
  have ofB : ∀ b o, B0.get? b = some o → b ≠ ce.locals ∧ B.get? b = some o := fun b o e => by
    by_cases z : b = ce.locals
    · rw [g2 b (decide_eq_false fun k => k z)] at e
      cases e
    · rw [g1 b (decide_eq_true z)] at e
      exact ⟨z, e⟩
  have toG : ∀ b o, b ≠ ce.locals → sI.heap.get? b = some o → G.get? b = some o := fun b o z e => by rw [k1 b (decide_eq_true z)]; exact e
  have ofG : ∀ b o, G.get? b = some o → b ≠ ce.locals ∧ sI.heap.get? b = some o := fun b o e => by
    by_cases z : b = ce.locals
    · rw [k2 b (decide_eq_false fun k => k z)] at e
      cases e
    · rw [k1 b (decide_eq_true z)] at e
      exact ⟨z, e⟩
  have sky0 : Sky B0 (X.env :: X.outer) a (Zc cls d) ce.locals s'.heap := by
    rw [← hs]
    exact sky_less sky fun b o e => (ofB b o e).2
  show wpAny _ _ (noteFrame (.ref a) ce) _ _ s'
  rw [noteFrame_env _ hcf]
  refine sky_noted Zc.steady hfr hf hCL sky0 fun h1 hh up1 => ?_
  obtain ⟨m, hn, _⟩ := I.loc
  have hn' : sI.heap.Ns ce.locals m := hn
  refine let_go (l := X.env :: X.outer) (s := { s' with heap := h1 }) (hcf.trans hf) (g2 _ (decide_eq_false fun k => k rfl)) (up1.ns (up.ns hn')) hh fun h2 hh2 up2 => ?_
  have ne3 : ∀ b o, s3.heap.get? b = some o → b ≠ ce.locals := fun b o e => by
    rw [hC]
    exact Nat.ne_of_lt (Heap.lt_size e)
  have nC : Hb ce.locals = none := I.free
  refine tk _ _ ⟨a, B0, { sI with heap := G }, pins, σ, Hb, cls, d, rfl, ?_, fun b o e hb => ?_, fun b o e hnf => ?_, .inr (.inr (by rw [hs]; exact hh2)), na, os, ag, w⟩
  · refine I3.call' (ch := fp) I.os ⟨fun b o e n hb hx => toG b o (ne3 b o e) (I.base.keep b o e n hb hx), fun b o e n hb hx => ?_, I.base.free, fun b o e hx => ?_, I.base.tups, I.base.frzs, I.base.tbls⟩ (fun b ob e => ?_) I.bare fun b hb => ?_
    · obtain ⟨sl, q⟩ := I.base.slot b o e n hb hx
      exact ⟨sl, toG b _ (ne3 b o e) q⟩
    · obtain ⟨o', q⟩ := I.base.there b o e hx
      exact ⟨o', toG b o' (ne3 b o e) q⟩
    · refine (I.hok b ob e).stay (fun c v hc q => toG c v (fun z => ?_) q) (fun _ q => q) fun _ _ q => q
      rcases hc with hc | hc
      · rw [← hc, z, nC] at e
        cases e
      · rw [z, nC] at hc
        cases hc
    · obtain ⟨_, z1, _, z2, z3, z4⟩ := hfp b hb
      exact ⟨z2, z1, z3, z4⟩
  · obtain ⟨z, q⟩ := ofG b o e
    rw [g1 b (decide_eq_true z)]
    exact nb b o q hb
  · obtain ⟨z, q⟩ := ofG b o e
    obtain ⟨sl1, q1⟩ := up b o q hnf
    obtain ⟨sl2, q2⟩ := up1 b _ q1 hnf
    obtain ⟨sl3, q3⟩ := up2 b _ z q2 hnf
    exact ⟨sl3, q3⟩
/-- the loop of the block -/
theorem blk_loop {H3 : Hp} {s3 s4 : Shared} {elt tg iter : Expr} {scope : Scope} {pos : Pos} {ce : PySem.Env} {fp : List Addr} {it D : Addr} {tn : Nat → Heap → Prop} {J : It} {W : WX} {g : TG} {te : WX → TE} {vs : List Nat} {Q : VK} {R : Result → Shared → Prop} {V : Nat → Nat → Hp → Prop} {m0 : Nat}
    (hs : X.stack = X.env :: X.outer) (hf : X.env.frame = some X.env.locals) (tk : Takes X W) (hc : X.calm = true) (I3 : Inv X pins σ H3 s3) (f3 : ∀ b ∈ fp, FpOk X pins H3 b) (T : Turn X.prog X.w X.K tg J fp it tn) (hC : ce.locals = s3.heap.objs.size) (hcf : ce.frame = X.env.frame)
    (pg : ∀ xe, PG (blX X s3 H3 scope ce fp xe) tg g) (pe : ∀ xe Wb, Takes (blX X s3 H3 scope ce fp xe) Wb → PE (blX X s3 H3 scope ce fp xe) elt (te Wb))
    (I4 : Inv (X.blk s3 H3 scope ce fp) [] (wipe σ vs) H3 s4) (t4 : tn 0 s4.heap) (v0 : V 0 m0 H3)
    (turn : ∀ i m H, V i m H → (J.stop i H ∧ Q (.ref D) H) ∨ (J.go i H ∧ ∃ Nx : Hp → Prop, (∀ H', Nx H' → ∃ m', m' < m ∧ V (i + 1) m' H') ∧ ∀ x H', J.yld i H x H' → g x (wipe σ vs) H' fun σ2 H2 => wipe σ2 vs = wipe σ vs ∧
      te (fun cls d _ H' => W cls d σ H') σ2 H2 fun y H4 => ∃ acc, H4 D = some (.lst acc) ∧ acc.length < sizeLine ∧ Nx (upd H4 D (.lst (acc ++ [y])))))
    (hRe : ∀ e s', CompFails (model X.prog X.w) X.A X.xe ce e s' → R (.error e) s') (hRn : ∀ s' m H', Inv X pins σ H' s' → Q (.ref D) H' → s'.heap.Ns ce.locals m → FpOk X pins H' ce.locals → R (.ok .next) s') :
    codeAny (model X.prog X.w) X.A (.compLoop (.ListComp elt [⟨tg, iter, [], 0⟩] scope pos) 0 (.ref it) (.ref D) ce) R s4 := by
  obtain ⟨xe, hxe⟩ : ∃ xe, xe = notedBy (model X.prog X.w) X.A ce fun e s' => R (.error e) s' := ⟨_, rfl⟩
  have takes : Takes (blX X s3 H3 scope ce fp xe) (fun cls d _ H' => W cls d σ H') := fun u s' z => by
    show xe u s'
    rw [hxe]
    exact wpAny_mono (air_out hs hf tk I3 f3 hC hcf z) (fun _ s'' k => hRe _ s'' k) fun _ s'' k => hRe _ s'' k
  have pgX := pg xe
  have peX := pe xe _ takes
  have fpok : ∀ {σ' : St} {H' : Hp} {s' : Shared}, Inv (blX X s3 H3 scope ce fp xe) [] σ' H' s' → (∀ b ∈ fp, H' b = none) → ∀ b ∈ fp, FpOk (blX X s3 H3 scope ce fp xe) [] H' b := fun I' hn b hb => by
    obtain ⟨z1, z2⟩ := I'.ok.exf b hb
    exact ⟨hn b hb, z1, I'.ok.exfs b hb, .inl hb, z2, fun p hp => by cases hp⟩
  refine compLoop_any (fun n s' => ∃ i H', Inv (blX X s3 H3 scope ce fp xe) [] (wipe σ vs) H' s' ∧ tn i s'.heap ∧ (∀ b ∈ fp, H' b = none) ∧ V i n H') ?_ m0 ⟨0, H3, I4.toTry xe, t4, fun b hb => (f3 b hb).1, v0⟩
  rw [← hxe]
  intro n s5 z5
  obtain ⟨i, H5, I5, t5, n5, v5⟩ := z5
  rcases turn i n H5 v5 with ⟨st, qq⟩ | ⟨go, Nx, hNx, step⟩
  · refine thn (T.done (blX X s3 H3 scope ce fp xe) rfl rfl rfl hc i [] s5 _ H5 xe I5 (fpok I5 n5) t5 st) fun r s6 z6 => ?_
    obtain ⟨hr, I6⟩ := z6
    subst hr
    have J6 : Inv X pins σ H5 s6 := I3.call' (ch := fp) I6.os I6.base I6.hok I6.bare fun b hb => by
      obtain ⟨_, z1, _, z2, z3, z4⟩ := f3 b hb
      exact ⟨z2, z1, z3, z4⟩
    obtain ⟨m, hn, _⟩ := I6.loc
    have nC : H5 ce.locals = none := I6.free
    exact hRn s6 m H5 J6 qq hn (I3.fpOk (Nat.le_of_eq hC.symm) nC)
  · refine thn (T.item (blX X s3 H3 scope ce fp xe) rfl rfl rfl hc i [] s5 _ H5 xe I5 (fpok I5 n5) t5 go) fun r s6 z6 => ?_
    obtain ⟨u, hr, k6⟩ := z6
    subst hr
    refine thn k6 fun _ s7 z7 => ?_
    obtain ⟨x, H7, I7, r7, y7, t7, n7⟩ := z7
    have Ip := I7.pinned (fpok I7 n7) (T.obj _ _ t7)
    refine thn (pgX.run _ s7 _ H7 x u _ Ip r7 (step x H7 y7)) fun _ s8 z8 => ?_
    obtain ⟨σ8, H8, I8, hw, q8⟩ := z8
    refine wpAny_tests_nil ?_
    rw [if_pos rfl]
    refine thn (peX.run _ s8 σ8 H8 _ I8 q8) fun z s9 z9 => ?_
    obtain ⟨yv, H9, I9, r9, acc, hD, hz, nx⟩ := z9
    refine app_ok (X := blX X s3 H3 scope ce fp xe) I9 hD hz r9 fun s10 I10 => ?_
    obtain ⟨m', hm, v'⟩ := hNx _ nx
    have old : ∀ b ∈ fp, ∀ o, s7.heap.get? b = some o → s10.heap.get? b = some o ∧ upd H9 D (.lst (acc ++ [yv])) b = none := fun b hb o e => by
      obtain ⟨z1, z2, _⟩ := I10.pin (b, o) (List.mem_append_right _ (List.mem_append_right _ (mem_pinsAt hb e)))
      exact ⟨z1, z2⟩
    refine ⟨m', hm, i + 1, _, (I10.unpinned (pins := [])).weak (by rw [← hw, wipe_length]) fun j v e => ?_, T.keep _ _ _ t7 fun b hb o e => (old b hb o e).1, fun b hb => ?_, v'⟩
    · rw [← hw] at e
      exact (wipe_some e).1
    · obtain ⟨o, e, _⟩ := T.obj _ _ t7 b hb
      exact (old b hb o e).2
/-- the whole comprehension, its value used or handed on -/
theorem lc_out {elt tg iter : Expr} {scope : Scope} {own' : List (Str × Nat)} {pos pos' : Pos} {wi : TI} {g : TG} {te : WX → TE} {W : WX} {Q : VK} {use : Option (Value → Sem Unit)} {Qf : Value → Shared → Prop}
    (hs : X.stack = X.env :: X.outer) (hf : X.env.frame = some X.env.locals) (tk : Takes X W) (hc : X.calm = true) (hN : X.N.Nodup) (I : Inv X pins σ H s) (hi : PI X tg iter wi) (ok : BlkOk X.N X.env.scope scope own')
    (hg : ∀ (s : Shared) (H : Hp) (C : Addr) (cl : List (Str × Addr)) (fp : List Addr) xe, PG (blX X s H scope (compEnvC scope cl C X.env) fp xe) tg g)
    (he : ∀ (s : Shared) (H : Hp) (C : Addr) (cl : List (Str × Addr)) (fp : List Addr) xe Wb, Takes (blX X s H scope (compEnvC scope cl C X.env) fp xe) Wb → PE (blX X s H scope (compEnvC scope cl C X.env) fp xe) elt (te Wb))
    (hsi : ∀ x, foldedSetIterable iter X.env x = pure x) (h : tLc wi g tYes (te fun cls d _ H' => W cls d σ H') (own'.map (·.2)) σ H Q)
    (hR : ∀ D ce s' m H', Inv X pins σ H' s' → Q (.ref D) H' → s'.heap.Ns ce.locals m → FpOk X pins H' ce.locals → compEnds (model X.prog X.w) X.A X.xe use Qf (.ref D) ce (.ok .next) s') :
    wpAny (model X.prog X.w) X.A (comprehension (.ListComp elt [⟨tg, iter, [], 0⟩] scope pos) scope X.env pos' (newList []) false (eval iter X.env) use) Qf X.xe s := by
  have free : ∀ y ∈ scope.names, y.2 = .free → ∃ c, X.env.cells.lookup y.1 = some c := fun y hy e => (ok.free y hy e).elim (fun k => I.ok.has _ (.inl k)) fun k => I.ok.has _ (.inr k)
  refine comprehension_at (use := use) rfl hsi (closure_ok free) ok.kind (fun y hy e => (ok.uniq y hy).trans (by rw [e])) (thn (hi.run pins s σ H _ I h) fun xv s1 k1 => thn k1 fun itv s2 k2 => ?_)
  obtain ⟨it, fp, tn, J, H2, e, I2, T, t2, f2, q⟩ := k2
  subst e
  refine wpAny_newObj_type (newEnv_comp ?_) (by show 0 ≤ sizeLine; exact Nat.zero_le _)
  have nD : H2 s2.heap.objs.size = none := I2.hok.fresh (Nat.le_refl _)
  obtain ⟨V, ⟨m0, v0⟩, turn⟩ := q s2.heap.objs.size nD
  obtain ⟨s3, hs3⟩ : ∃ s3 : Shared, s3 = { s2 with heap := s2.heap.push { cls := .type "list", data := .seq ([] : List Value).toArray } } := ⟨_, rfl⟩
  have hp3 : s3.heap = s2.heap.push { cls := .type "list", data := .seq ([] : List Value).toArray } := by rw [hs3]
  have I3 : Inv X pins σ (upd H2 s2.heap.objs.size (.lst [])) s3 := by
    rw [hs3]
    exact I2.laid (t' := s2.toks) (fun b o e => Heap.get?_push_of_some _ e) (Nat.le_refl _) ⟨Nat.zero_le _, [], 0, .nil, Heap.get?_push_size _ rfl⟩
  have below : ∀ b ∈ fp, b < s2.heap.objs.size := fun b hb => by
    obtain ⟨o, e, _⟩ := T.obj _ _ t2 b hb
    exact Heap.lt_size e
  have f3 : ∀ b ∈ fp, FpOk X pins (upd H2 s2.heap.objs.size (.lst [])) b := fun b hb => by
    obtain ⟨z0, z1⟩ := f2 b hb
    exact ⟨by rw [upd_ne (Nat.ne_of_lt (below b hb))]; exact z0, z1⟩
  have t3 : tn 0 s3.heap := T.keep _ _ _ t2 fun b _ o e => by
    rw [hp3]
    exact Heap.get?_push_of_some _ e
  have I4 := block_start I3 ok hN fun b hb => ⟨f3 b hb, by rw [hp3, Heap.size_push]; exact Nat.lt_succ_of_lt (below b hb)⟩
  rw [← hs3]
  generalize hce : compEnvC scope (cellsFrom (s3.heap.objs.size + 1) scope.names (cloFrom X.env.cells scope.names [])) s3.heap.objs.size X.env = ce at I4
  have hC : ce.locals = s3.heap.objs.size := by rw [← hce]; rfl
  have hcf : ce.frame = X.env.frame := by rw [← hce]; rfl
  have t4 : tn 0 (pushCells (s3.heap.push { cls := .type "dict", data := .dict #[] }) scope.names) := T.keep _ _ _ t3 fun b _ o e => pushCells_keeps _ _ _ _ (Heap.get?_push_of_some _ e)
  have loop := blk_loop (elt := elt) (iter := iter) (pos := pos) (g := g) (te := te) (R := compEnds (model X.prog X.w) X.A X.xe use Qf (.ref s2.heap.objs.size) ce) hs hf tk hc I3 f3 T hC hcf (fun xe => by rw [← hce]; exact hg _ _ _ _ _ xe) (fun xe Wb z => by
    subst hce
    exact he _ _ _ _ _ xe Wb z) I4 t4 v0 (fun i m H5 w5 => by
    rcases turn i m H5 w5 with z | ⟨z1, Nx, z2, z3⟩
    · exact .inl z
    · refine .inr ⟨z1, Nx, z2, fun x H' y => ?_⟩
      have := z3 x H' y
      simpa [tYes] using this) (fun e s' k => by cases use <;> exact k) fun s' m H' J6 qq hn fo => hR _ ce s' m H' J6 qq hn fo
  subst hce
  exact codeAny_compStart_list loop (T.self X.A 0 _ _ _ t4 loop)
end
end Pd

/-! Py: y = [e for x in xs] by data, where e may let an error out. -/
namespace Pd
open PySem L2
/-- the items, in order; the first error leaves -/
def dLcE (b : D → Env → Option Env) (elt : DE) (ρ0 : Env) : List D → Out (List D)
  | [] => .ok []
  | d :: ds => obO (b d ρ0) fun ρ1 => (elt ρ1).bind fun y => (dLcE b elt ρ0 ds).bind fun r => .ok (y :: r)
def dLcX (it : DA) (b : D → Env → Option Env) (elt : DE) (vs : List Nat) : DE := fun ρ => (it ρ).bind fun ds => (dLcE b elt (wipeE ρ vs) ds).bind fun r => .ok (.list r)
section
variable {X : Cx} {c : Pc} {m : Bool}
theorem lcX_wp {it : DA} {b : D → Env → Option Env} {elt : DE} {is vs : List Nat} {F : Fm} {ρ : Env} {σ : St} {H : Hp} {Q : VK} (hv : ∀ i ∈ is, i ∈ vs) (hvo : ∀ i ∈ vs, ∀ k, (i, k) ∉ c.O) (E : EnvR X.K c.O F ρ σ H)
    (w : (dLcX it b elt vs ρ).wp (fun d => ∀ r a xs H', d = .list r → Same H H' → H a = none → H' a = some (.lst xs) → xs.length ≤ sizeLine → RpA X.K (hid (a :: hs m F c.O σ) H') xs r → Q (.ref a) H') (erW c σ H)) :
    tLc (rdI X.K c false it) (rdG X.K c is b) tYes (rdE X.K { c with W := fun cls d _ H' => c.W cls d σ H' } m elt) vs σ H Q := by
  refine ⟨F, ρ, E, (Out.wp_bind w).imp (fun ds k J H1 s1 hl itd a na => ?_) fun _ z => z⟩
  obtain ⟨o, ho⟩ : ∃ o, o = dLcE b elt (wipeE ρ vs) ds := ⟨_, rfl⟩
  rw [← ho] at k
  have E1 := E.up s1
  have nH : H a = none := Same.free s1 na
  obtain ⟨Ew, ow⟩ := E1.wipe hvo
  refine ⟨fun i n H2 => n = ds.length - i ∧ i ≤ ds.length ∧ Same H1 H2 ∧ ∃ acc accD, H2 a = some (.lst acc) ∧ acc.length ≤ i ∧ RpA X.K (hid (a :: hs m F c.O σ) H2) acc accD ∧ o = (dLcE b elt (wipeE ρ vs) (ds.drop i)).bind fun r => .ok (accD ++ r),
    ⟨ds.length, by simp, Nat.zero_le _, same_upd na, [], [], upd_same, Nat.le_refl _, .nil, by rw [ho, List.drop_zero]; cases dLcE b elt (wipeE ρ vs) ds <;> rfl⟩, ?_⟩
  rintro i n H2 ⟨rfl, hi, s2, acc, accD, ha, hacc, racc, hrr⟩
  have E2 : EnvR X.K c.O (F.more a) (wipeE ρ vs) (wipe σ vs) H2 := Ew.hide na s2 ha rfl
  obtain ⟨g1, g2, g3⟩ := itd H2 ((F.more a).A ++ own c.O (wipe σ vs)) (fun b o _ e => s2 b o e) (fun z hz => by
    rw [ow] at hz
    rcases List.mem_cons.mp (show z ∈ a :: (F.A ++ own c.O σ) from hz) with q | q
    · exact .inr (by rw [q]; exact na)
    · exact .inl q) (E2.hdom true)
  by_cases hlt : i < ds.length
  · have hd : ds.drop i = ds[i] :: ds.drop (i + 1) := List.drop_eq_getElem_cons hlt
    rw [hd] at hrr
    refine .inr ⟨g1 i hlt, fun H3 => Same H1 H3 ∧ ∃ acc accD, H3 a = some (.lst acc) ∧ acc.length ≤ i + 1 ∧ RpA X.K (hid (a :: hs m F c.O σ) H3) acc accD ∧ o = (dLcE b elt (wipeE ρ vs) (ds.drop (i + 1))).bind fun r => .ok (accD ++ r),
      fun H3 q => ⟨ds.length - (i + 1), by omega, rfl, hlt, q⟩, fun x H3 y => ?_⟩
    obtain ⟨s3, r3⟩ := g3 i x H3 ds[i] (List.getElem?_eq_getElem hlt) y
    cases e1 : b ds[i] (wipeE ρ vs) with
    | none =>
      unfold dLcE at hrr
      rw [e1] at hrr
      rw [hrr] at k
      exact k.elim
    | some ρ1 =>
      unfold dLcE at hrr
      rw [e1, obO_some] at hrr
      refine ⟨F.more a, wipeE ρ vs, ds[i], E2.up s3, r3, ρ1, e1, fun σ2 E3 o3 ke le => ⟨?_, ?_⟩⟩
      · refine wipe_eq (fun j hj => ?_) (by rw [le, wipe_length])
        exact ke j fun z => hj (hv j z)
      · simp only [tYes, if_true]
        refine ⟨F.more a, ρ1, E3, ?_⟩
        cases e5 : elt ρ1 with
        | bad =>
          rw [e5] at hrr
          rw [hrr] at k
          exact k.elim
        | err z =>
          rw [e5] at hrr
          rw [hrr] at k
          intro H4 s4
          exact k H4 (s1.trans (s2.trans (s3.trans s4)))
        | ok yv =>
          rw [e5, Out.ok_bind] at hrr
          intro v H5 s5 r5
          have s25 := s3.trans s5
          have hs5 : hs m (F.more a) c.O σ2 = a :: hs m F c.O σ := by
            unfold hs
            rw [o3, ow]
            cases m <;> rfl
          have r5' : Rp X.K (hid (a :: hs m F c.O σ) H5) v yv := by
            rw [← hs5]
            exact r5
          refine ⟨acc, s25 _ _ ha, Nat.lt_of_le_of_lt hacc (Nat.lt_of_lt_of_le hlt hl), ?_, acc ++ [v], accD ++ [yv], upd_same, ?_, ?_, ?_⟩
          · intro b o e
            by_cases hb : b = a
            · rw [hb, na] at e
              cases e
            · rw [upd_ne hb]
              exact s25 _ _ (s2 _ _ e)
          · rw [List.length_append, List.length_singleton]
            omega
          · rw [hid_upd List.mem_cons_self]
            exact (racc.up (hid_mono s25)).append (.cons r5' .nil)
          · rw [hrr]
            cases dLcE b elt (wipeE ρ vs) (ds.drop (i + 1)) with
            | ok r => simp
            | err _ => rfl
            | bad => rfl
  · have e : i = ds.length := by omega
    subst e
    rw [List.drop_length] at hrr
    have hrr' : o = .ok accD := by
      rw [hrr]
      show Out.ok (accD ++ []) = _
      rw [List.append_nil]
    rw [hrr'] at k
    exact .inl ⟨g2, k accD a acc H2 rfl (s1.trans s2) nH ha (Nat.le_trans hacc hl) racc⟩
end
section
variable {X : Cx} {elt tg iter : Expr} {scope : Scope} {own' : List (Str × Nat)} {pos : Pos}
/-- y = [..] on one row -/
theorem ps_setLcX {i : Nat} {y : Str} {py spos : Pos} {wi : TI} {g : TG} {te : WX → TE} {W : WX} (hs : X.stack = X.env :: X.outer) (hf : X.env.frame = some X.env.locals) (tk : Takes X W) (hc : X.calm = true) (hN : X.N.Nodup) (hy : X.N[i]? = some y) (hyl : X.env.scope.names.lookup y = some .local)
    (hsw : swapsWith (.ListComp elt [⟨tg, iter, [], 0⟩] scope pos) (some (.Name y py)) spos.line X.env = pure true) (hi : PI X tg iter wi) (ok : BlkOk X.N X.env.scope scope own')
    (hg : ∀ (s : Shared) (H : Hp) (C : Addr) (cl : List (Str × Addr)) (fp : List Addr) xe, PG (blX X s H scope (compEnvC scope cl C X.env) fp xe) tg g)
    (he : ∀ (s : Shared) (H : Hp) (C : Addr) (cl : List (Str × Addr)) (fp : List Addr) xe Wb, Takes (blX X s H scope (compEnvC scope cl C X.env) fp xe) Wb → PE (blX X s H scope (compEnvC scope cl C X.env) fp xe) elt (te Wb))
    (hsi : ∀ x, foldedSetIterable iter X.env x = pure x) :
    PS X (.Assign [.Name y py] (.ListComp elt [⟨tg, iter, [], 0⟩] scope pos) spos) (fun D σ H => tLc wi g tYes (te fun cls d _ H' => W cls d σ H') (own'.map (·.2)) σ H fun x H1 => D.nx (σ.set i (some x)) H1) := by
  refine ⟨fun pins s σ H D I h => ?_⟩
  rw [exec_Assign_Name_used _ _ _ _ hsw]
  refine wpAny_bind (wpAny_standAt ?_)
  refine wpAny_bind ?_
  unfold evalThenUse
  refine wpAny_bind (thn (lc_out (Qf := fun _ s' => SP X pins D .next s') (use := some (assign (.Name y py) X.env)) hs hf tk hc hN I hi ok hg he hsi h fun L ce s' m H' J q hn fo => ?_) fun _ s' z => wpAny_pure (wpAny_pure z))
  obtain ⟨f0, f1, f2, f3, f4, f5⟩ := fo
  show wpAny _ X.A (assign (.Name y py) X.env (.ref L)) _ _ _
  refine wpAny_assign_Name (store_ok2 (v := V.ref L) J hN hy (.inl hyl) rfl (fun s2 I2 z => ?_) (.inr hyl))
  obtain ⟨a, sb, ha⟩ := z
  have ne : ce.locals ≠ a := by
    rcases ha with z | z
    · rw [z]; exact f1
    · exact fun e => f4 y a z e.symm
  refine ⟨m, hn.sameBut sb ne, fun h3 sb3 => ?_⟩
  exact ⟨_, H', I2.turned (t' := s2.toks) (fun b o hb e => (sb3.2 b hb).trans e) f0 f1 f3 f4 f5, q⟩
end
section
variable {X : Cx} {c : Pc} {elt tg iter : Expr} {scope : Scope} {own' : List (Str × Nat)} {pos : Pos} {it : DA} {b : D → Env → Option Env} {fe : DE} {is : List Nat}
theorem ps_lcX (i : Nat) {y : Str} {py spos : Pos} (tk : Takes X c.W) (hc : X.calm = true) (hN : X.N.Nodup) (hi : PID X c false tg iter it) (ok : BlkOk X.N X.env.scope scope own')
    (hg : ∀ (s : Shared) (H : Hp) (C : Addr) (cl : List (Str × Addr)) (fp : List Addr) xe, PGD (blX X s H scope (compEnvC scope cl C X.env) fp xe) c tg is b)
    (he : ∀ (s : Shared) (H : Hp) (C : Addr) (cl : List (Str × Addr)) (fp : List Addr) xe (W : WX), Takes (blX X s H scope (compEnvC scope cl C X.env) fp xe) W → PD (blX X s H scope (compEnvC scope cl C X.env) fp xe) { c with W := W } true elt fe)
    (ho : noOw c.O i = true) (hv : subs is (own'.map (·.2)) = true) (hvo : allNo c.O (own'.map (·.2)) = true) (hs : X.stack = X.env :: X.outer) (hf : X.env.frame = some X.env.locals) (hy : X.N[i]? = some y) (hyl : X.env.scope.names.lookup y = some .local)
    (hsw : swapsWith (.ListComp elt [⟨tg, iter, [], 0⟩] scope pos) (some (.Name y py)) spos.line X.env = pure true) (hsi : ∀ x, foldedSetIterable iter X.env x = pure x) :
    PSD X c (.Assign [.Name y py] (.ListComp elt [⟨tg, iter, [], 0⟩] scope pos) spos) (dAsg i (dLcX it b fe (own'.map (·.2)))) :=
  PS.imp (ps_setLcX (te := fun W => rdE X.K { c with W := W } true fe) hs hf tk hc hN hy hyl hsw hi ok hg he hsi) fun Dn σ H ⟨F, ρ, E, w⟩ => lcX_wp (m := true) (subs_of hv) (allNo_of hvo) E ((lift_wp w).imp (fun d k r a xs H' e s n h z rr => by
    subst e
    have E' := E.up s
    exact asg_wp (k := fun _ => ρ) E' (noOw_of ho) (.list (hid_of (Dom.free (E.hdom true) n) h) z (rr.up (hid_le fun b hb => .inl (List.mem_cons_of_mem _ hb)))) (SO.up (o := .nx _) (Dn := Dn) (.same s) k)) fun x z => erW_of E z)
theorem ps_lcXV (i : Nat) {y : Str} {py spos : Pos} {vs : List Nat} (own' : List (Str × Nat)) (tk : Takes X c.W) (hc : X.calm = true) (hN : X.N.Nodup) (hi : PID X c false tg iter it) (ok : BlkOk X.N X.env.scope scope own') (hvs : own'.map (·.2) = vs)
    (hg : ∀ (s : Shared) (H : Hp) (C : Addr) (cl : List (Str × Addr)) (fp : List Addr) xe, PGD (blX X s H scope (compEnvC scope cl C X.env) fp xe) c tg is b)
    (he : ∀ (s : Shared) (H : Hp) (C : Addr) (cl : List (Str × Addr)) (fp : List Addr) xe (W : WX), Takes (blX X s H scope (compEnvC scope cl C X.env) fp xe) W → PD (blX X s H scope (compEnvC scope cl C X.env) fp xe) { c with W := W } true elt fe)
    (ho : noOw c.O i = true) (hv : subs is vs = true) (hvo : allNo c.O vs = true) (hs : X.stack = X.env :: X.outer) (hf : X.env.frame = some X.env.locals) (hy : X.N[i]? = some y) (hyl : X.env.scope.names.lookup y = some .local)
    (hsw : swapsWith (.ListComp elt [⟨tg, iter, [], 0⟩] scope pos) (some (.Name y py)) spos.line X.env = pure true) (hsi : ∀ x, foldedSetIterable iter X.env x = pure x) :
    PSD X c (.Assign [.Name y py] (.ListComp elt [⟨tg, iter, [], 0⟩] scope pos) spos) (dAsg i (dLcX it b fe vs)) := by
  subst hvs
  exact ps_lcX i tk hc hN hi ok hg he ho hv hvo hs hf hy hyl hsw hsi
end
end Pd

/-! Pz: a module's text; a walk over a text; split; int of a text; an except suite of two rows. -/
namespace Pd
open PySem L2
theorem kc_str {K : PySem.W.Frag} {h : Heap} {mg : Str → Option Value} {x z : Str} {t : Tok} (X : K.In h) (G : h.Ns mainGlobals mg) (e : PySem.W.nsIn K mainGlobals x = some (some (.str z t))) : KC K mg x (.str z) := ⟨.str z, _, PySem.W.mg_of X G e, ⟨_, rfl⟩, fun _ => .str _⟩
/-! ### over a text -/
def signsD (z : Str) : List D := z.cps.toList.map fun c => .str ⟨#[c]⟩
def dSeqS (f : DE) : DA := fun ρ => (f ρ).bind fun d => match d with
  | .str z => if z.cps.size ≤ 1000000 then .ok (signsD z) else .bad
  | _ => .bad
theorem itd_str {K : PySem.W.Frag} {B B' : List Addr} {z : Str} {H1 : Hp} : ItD K B B' (Its z) (signsD z) H1 := fun H2 N _ _ _ => by
  have hl : (signsD z).length = z.cps.size := by simp [signsD]
  rw [hl]
  refine ⟨fun i hi => hi, Nat.le_refl z.cps.size, fun i x H3 d hd y => ?_⟩
  obtain ⟨y1, c, y2, y3⟩ := y
  subst y1
  subst y3
  refine ⟨Same.refl _, ?_⟩
  have e : (signsD z)[i]? = some (.str ⟨#[c]⟩) := by
    unfold signsD
    rw [List.getElem?_map, Array.getElem?_toList, y2]
    rfl
  rw [e] at hd
  cases hd
  exact .str _
section
variable {X : Cx} {c : Pc} {m lp : Bool} {tg e o : Expr} {f g : DE} {apos pos : Pos}
theorem pid_str (h : PD X c true e f) : PID X c lp tg e (dSeqS f) :=
  PI.imp (pi_str h) fun σ H R ⟨F, ρ, E, w⟩ => ⟨F, ρ, E, (Out.wp_bind w).imp (fun d k v H1 s1 r => by
    cases d <;> try (exact k.elim)
    rename_i z
    cases r
    obtain ⟨hl, q⟩ := if_wp k
    refine ⟨z, rfl, q _ H1 s1 ?_ itd_str⟩
    have : (signsD z).length = z.cps.size := by simp [signsD]
    rw [this]
    exact Nat.le_trans hl (by decide)) fun _ z => z⟩
/-! ### split -/
theorem RpA.of_strs {K : PySem.W.Frag} {H : Hp} : ∀ ys : List Str, RpA K H (ys.map V.str) (ys.map D.str)
  | [] => .nil
  | y :: ys => .cons (.str y) (RpA.of_strs ys)
def dSplit (f g : DE) : DE := fun ρ => (f ρ).bind fun d => match d with
  | .str a => (g ρ).bind fun y => match y with
    | .str b => if b.length ≠ 0 ∧ a.length ≤ 1000000 then .ok (.list ((Txt.split a b).map .str)) else .bad
    | _ => .bad
  | _ => .bad
theorem pd_split (ho : PD X c m o f) (he : PD X c m e g) (hs : starEach [e] X.env = [(false, eval e X.env)]) (hbase : attributeBase o "split" X.env (eval o X.env) = eval o X.env) (hline : (apos.endLine == pos.line) = true) :
    PD X c m (.Call (.Attribute o "split" apos) [e] [] pos) (dSplit f g) :=
  PE.imp (pe_split ho he hs hbase hline) fun σ H Q ⟨F, ρ, E, w⟩ => ⟨F, ρ, E, (Out.wp_bind w).imp (fun d k v H1 s1 r => by
    cases d <;> try (exact k.elim)
    rename_i a
    cases r
    refine ⟨⟨a, rfl⟩, F, ρ, E.up s1, (Out.wp_bind k).imp (fun y k2 u H2 s2 r2 => ?_) fun _ z => z.up s1⟩
    cases y <;> try (exact k2.elim)
    rename_i b
    cases r2
    obtain ⟨⟨h1, h2⟩, q⟩ := if_wp k2
    refine ⟨a, b, rfl, rfl, by simpa using h1, Nat.le_trans (Nat.add_le_add_right h2 2) (by decide), fun p hp => ?_⟩
    have s3 := same_upd (o := .lst ((Txt.split a b).map V.str)) hp
    refine q _ _ ((s1.trans s2).trans s3) (.list (hid_new (Dom.free ((E.up (s1.trans s2)).hdom m) hp)) ?_ (RpA.of_strs _))
    rw [List.length_map]
    exact Nat.le_trans (PyProof.Rows.split_le a b) (Nat.le_trans (Nat.add_le_add_right h2 2) (by decide))) fun _ z => z⟩
/-! ### int of a text -/
def intS : List D → Option D
  | [.str a] => if a.length ≤ 640 then (PySem.intText? a).map .int else none
  | _ => none
theorem cr_intS : CallR X (.type "int") (rdL X.K intS) := by
  intro pins s σ H xs us Q I r h
  obtain ⟨A, ds, hA, ra, d, e, q⟩ := h
  unfold intS at e
  split at e
  · rename_i a
    split at e
    · rename_i hl
      obtain ⟨n, e1, rfl⟩ := Option.map_eq_some_iff.mp e
      obtain ⟨v, rfl, rv⟩ := rp1 ra
      cases rv
      exact call_int_str pins s σ H _ us Q I r ⟨a, n, rfl, e1, hl, q _ H (Same.refl H) (.int _)⟩
    · cases e
  · cases e
end
/-! ### x.index(w), x a list of texts -/
section
variable {X : Cx} {c : Pc} {m : Bool} {e e1 : Expr} {apos cpos : Pos} {f g : DE}
def ixW (l : List D) (y : D) : Option D := match y with
  | .str w => (strsOf l).bind fun ws => if w ∈ ws then some (.int (ws.findIdx fun n => decide (n = w))) else none
  | _ => none
def dIxW (f g : DE) : DE := fun ρ => (f ρ).bind fun d => match d with
  | .list l => (g ρ).bind fun y => .of (ixW l y)
  | _ => .bad
theorem pd_ixW (ho : PD X c false e f) (he : PD X c false e1 g) (hb : attributeBase e "index" X.env (eval e X.env) = eval e X.env)
    (hfew : ((backTo cpos (starEach (e1 :: []) X.env)).all (fun x => !x.1) && (backToKw cpos (keywordEach [] X.env)).all (fun x => x.1.isSome)
      && decide ((e1 :: []).length + ([] : List Keyword).length + (if ([] : List Keyword).isEmpty then 0 else 1) < 30)) = true)
    (hline : (apos.endLine == cpos.line) = true) (hs : starEach (e1 :: []) X.env = (false, eval e1 X.env) :: starEach [] X.env) (hplain : (backTo cpos (starEach [] X.env)).any (·.1) = false) : PD X c m (.Call (.Attribute e "index" apos) [e1] [] cpos) (dIxW f g) :=
  PE.imp (pe_bm PySem.F.plainAttrs_list PySem.F.slot_list_index PySem.F.type_list_index mt_index ho (pa_cons he pa_nil hs) hb hfew hline hs hplain) fun σ H Q ⟨F, ρ, E, w⟩ => ⟨F, ρ, E, (Out.wp_bind w).imp (fun d k v H1 s1 r => by
    cases d with
    | list l =>
      cases r with
      | @list a xs _ h1 h2 h3 =>
        refine ⟨.inl ⟨rfl, _, SqL.of (hid_sub _ _ h1)⟩, F, ρ, E.up s1, (Out.wp_bind k).imp (fun y k2 u H2 s2 r2 => ?_) fun _ z => z.up s1⟩
        obtain ⟨d', e', q⟩ := of_wp k2
        cases y <;> try (cases e'; done)
        rename_i i
        cases r2
        obtain ⟨ws, en, e2⟩ := Option.bind_eq_some_iff.mp (show (strsOf l).bind (fun ws => if i ∈ ws then some (D.int (ws.findIdx fun n => decide (n = i))) else none) = some d' from e')
        obtain ⟨hi, rfl⟩ := if_some e2
        have el := strsOf_some en
        subst el
        have ex := h3.strs
        subst ex
        have hlt : (ws.findIdx fun n => decide (n = i)) < ws.length := List.findIdx_lt_length_of_exists ⟨i, hi, by simp⟩
        refine ⟨a, _, .str i, _, .str i, rfl, rfl, SqL.of (s2 _ _ (hid_sub _ _ h1)), rfl, ?_, ?_, ?_, fun m z' hm hz => ?_, q _ H2 (s1.trans s2) (.int _)⟩
        · rw [List.all_map]
          exact List.all_eq_true.mpr fun _ _ => rfl
        · have := List.findIdx_getElem (w := hlt)
          rw [List.getElem?_map, List.getElem?_eq_getElem hlt]
          simpa using this
        · simp [eqV]
        · rw [List.getElem?_map] at hz
          obtain ⟨n, hn, rfl⟩ := Option.map_eq_some_iff.mp hz
          obtain ⟨hl, rfl⟩ := List.getElem?_eq_some_iff.mp hn
          have := List.not_of_lt_findIdx hm
          simpa [eqV] using this
      | _ => exact k.elim
    | _ => exact k.elim) fun _ z => z⟩
end
/-! ### try: body, except C as n: g = e; return [(), None][int(g)] -/
def dTryG (i j : Nat) (bs : List (Nat × Bool)) (f : Nat → Option V) (t : DS) : DS := fun ρ => match t ρ with
  | .err x ρ' => (match bs.lookup x with
    | some true => (match ρ'[i]?, ρ'[j]?, f x with
      | some _, some _, some (.bl true) => .rt .none (ρ'.set i none)
      | _, _, _ => .bad)
    | some false => .err x ρ'
    | none => .bad)
  | o => o
section
variable {X : Cx} {c : Pc} {e : Expr} {f : Nat → Option V} {pos p1 p2 p3 p4 p5 p6 p7 p8 p9 : Pos}
theorem ps_tryG (i j : Nat) {n y g x' : Str} {C : Addr} {np pos' rp : Pos} {k1 k2 : Nat} {body : List Stmt} {t : DS} (bs : List (Nat × Bool)) (tk : Takes X c.W) (hNd : X.N.Nodup) (hm : X.mg y = some (.ref C)) (hx : ∀ p ∈ bs, PySem.W.exmOne X.K (.ref (c.cl p.1)) (.ref C) = some p.2) (hint : X.mg "int" = none)
    (hb : ∀ (W : WX) (pn : List (Addr × Obj)) (xe : Value → Shared → Prop), Takes (X.tr pn xe) W → PassesOwn (model X.prog X.w) X.A X.env xe → PSsD (X.tr pn xe) { c with W := W } body t)
    (hs : X.stack = X.env :: X.outer) (hf : X.env.frame = some X.env.locals) (hi : X.N[i]? = some n) (hln : X.env.kindOf n = some .local) (hg : Gl X y) (hdb : (y == ("__debug__" : Str)) = false) (ho : noOw c.O i = true)
    (hj : X.N[j]? = some g) (hjl : X.env.scope.names.lookup g = some .local) (hd1 : (g == ("__debug__" : Str)) = false) (hd2 : (g == ("__classdict__" : Str)) = false) (hsw : swapsWith e (some (.Name g p1)) p2.line X.env = pure false) (hx' : x' = "int") (hgi : Gl X x')
    (hst : starEach [.Name g p3] X.env = (false, eval (.Name g p3) X.env) :: starEach [] X.env) (hpl : (backTo p5 (starEach [] X.env)).any (·.1) = false)
    (hst2 : starEach [.Tuple [] k1 p6, .Constant .none k2 p7] X.env = (false, eval (.Tuple [] k1 p6) X.env) :: starEach [.Constant .none k2 p7] X.env) (hst3 : starEach [.Constant .none k2 p7] X.env = (false, eval (.Constant .none k2 p7) X.env) :: starEach [] X.env)
    (se : SE X c.cl i e f) : PSD X c (.Try body [.ExceptHandler (some (.Name y np)) (some n) [.Assign [.Name g p1] e p2, .Return (some (.Subscript (.List [.Tuple [] k1 p6, .Constant .none k2 p7] p8) (.Call (.Name x' p4) [.Name g p3] [] p5) p9)) rp] pos'] [] [] pos) (dTryG i j bs f t) := by
  subst hx'
  let ts : Addr → Value → Option Addr → TS := fun a cls d D σ H => σ[i]? = some (some (.ref a)) ∧ j < σ.length ∧ d = none ∧ ∃ k, cls = .ref (c.cl k) ∧ f k = some (.bl true) ∧ ∀ H', Same H H' → D.rt .non H'
  refine PS.imp (ps_try_as (tb := fun W => rdS X.K { c with W := W } t) (ts := ts) hs hf hNd hi hln ⟨hg, hdb, .inl hm⟩ tk hb fun a oe cls d pn hz hf' => ⟨fun pins s σ H D I q => ?_⟩) fun Dn σ H ⟨F, ρ, E, w⟩ => ⟨F, ρ, E, ?_⟩
  · obtain ⟨h1, hjs, rfl, k, rfl, h2, h3⟩ := q
    have pI : PE (X.suite a ((a, oe) :: pn)) (.Call (.Name "int" p4) [.Name g p3] [] p5) _ := pe_callTy call_int1 hgi hint (by decide +kernel) (pa_cons (pe_var hj (.inl hjl) hd1 hd2) pa_nil hst) (by decide) (by decide) hst hpl
    have pL : PE (X.suite a ((a, oe) :: pn)) (.List [.Tuple [] k1 p6, .Constant .none k2 p7] p8) _ := pe_lst (pa_cons (pe_tup pa_nil) (pa_cons pe_non pa_nil hst3) hst2)
    have pR : PE (X.suite a ((a, oe) :: pn)) (.Subscript (.List [.Tuple [] k1 p6, .Constant .none k2 p7] p8) (.Call (.Name "int" p4) [.Name g p3] [] p5) p9) _ := pe_ix ix_list pL pI fun _ _ => rfl
    have pS : PS (X.suite a ((a, oe) :: pn)) (.Assign [.Name g p1] e p2) _ := ps_set (X := X.suite a ((a, oe) :: pn)) hNd hj (.inl hjl) (se k _ a oe pn h2 hz hf') hsw (.inr hjl)
    refine (pss_cons pS (pss_one (ps_ret pR))).run pins s σ H D I ⟨h1, fun H1 s1 => ?_⟩
    refine ⟨by show 0 ≤ sizeLine; exact Nat.zero_le _, fun p np => ⟨by show 2 ≤ sizeLine; decide, fun p' np' => ⟨_, List.getElem?_set_self hjs, .inr ⟨true, rfl, ?_⟩⟩⟩⟩
    exact ⟨p', [.ref p, .non], 1, .non, rfl, rfl, SqL.of upd_same, rfl, h3 _ (s1.trans ((same_upd np).trans (same_upd np')))⟩
  · unfold dTryG at w
    cases ht : t ρ with
    | nx _ => rw [ht] at w; exact w
    | bk _ => rw [ht] at w; exact w
    | ct _ => rw [ht] at w; exact w
    | rt _ _ => rw [ht] at w; exact w
    | bad => rw [ht] at w; exact w
    | err x ρ' =>
      rw [ht] at w
      dsimp only at w
      intro σ' H' E' st
      cases hl : bs.lookup x with
      | none => rw [hl] at w; exact w.elim
      | some b =>
        rw [hl] at w
        refine ⟨b, hx _ (lookup_mem hl), fun hb' a ha => ?_, fun hb' => ?_⟩
        · subst hb'
          dsimp only at w
          cases hρ : ρ'[i]? with
          | none => rw [hρ] at w; exact w.elim
          | some o =>
            cases hρ2 : ρ'[j]? with
            | none => rw [hρ, hρ2] at w; exact w.elim
            | some o2 =>
              cases hv : f x with
              | none => rw [hρ, hρ2, hv] at w; exact w.elim
              | some v =>
                cases v with
                | bl bb =>
                  cases bb with
                  | false => rw [hρ, hρ2, hv] at w; exact w.elim
                  | true =>
                    rw [hρ, hρ2, hv] at w
                    have hil : i < σ'.length := by rw [← E'.len]; exact (List.getElem?_eq_some_iff.mp hρ).1
                    have hjl' : j < σ'.length := by rw [← E'.len]; exact (List.getElem?_eq_some_iff.mp hρ2).1
                    refine ⟨List.getElem?_set_self hil, by rw [List.length_set]; exact hjl', rfl, x, rfl, hv, ?_⟩
                    exact fun H2 s2 => (show rtW X.K c F σ H Dn.rt .none (ρ'.set i none) from w) .non (σ'.set i none) H2 ((E'.forget (noOw_of ho)).up s2) ((st.trans (stp_set (noOw_of ho))).trans (.same s2)) .none
                | _ => rw [hρ, hρ2, hv] at w; exact w.elim
        · subst hb'
          exact (show xW X.K c F σ H x ρ' from w) σ' H' E' st
end
end Pd

namespace K04
open Pd
def b__law_cell_at : DS :=
  (dSeq (dIfS (dCmp ltD (dVar 1) (dCall lenD (dCons (dVar 0) dNil))) (dRet (dOp getD (dVar 0) (dVar 1))) dNx)
  (dRet (dC (.int 0))))
def d__law_cell_at : List D → Out D := dDef 2 b__law_cell_at
def b__law_mixed : DS :=
  (dSeq (dAsg 2 (dOp modD (dOp mulD (dOp addD (dOp addD (dUse 2 d__law_cell_at (dCons (dVar 0) (dCons (dVar 1) dNil))) (dOp mulD (dC (.int 7919)) (dVar 1))) (dC (.int 1))) (dC (.int 48271))) (dC (.int 2147483647))))
  (dRet (dOp modD (dOp addD (dOp addD (dOp mulD (dVar 2) (dVar 2)) (dOp mulD (dC (.int 7)) (dVar 2))) (dVar 1)) (dC (.int 2147483629)))))
def d__law_mixed : List D → Out D := dDef 3 b__law_mixed
def b__law_drawn : DS :=
  (dSeq (dAsg 2 (dOp modD (dOp mulD (dOp addD (dOp addD (dVar 0) (dOp mulD (dC (.int 104729)) (dVar 1))) (dC (.int 17))) (dC (.int 69621))) (dC (.int 2147483647))))
  (dRet (dOp modD (dOp addD (dOp addD (dOp mulD (dVar 2) (dVar 2)) (dOp mulD (dC (.int 3)) (dVar 2))) (dVar 1)) (dC (.int 2147483629)))))
def d__law_drawn : List D → Out D := dDef 3 b__law_drawn
def l1__law_goals : DS :=
  (dPutK 2 (dC (.bool true)) (dOp modD (dUse 2 d__law_drawn (dCons (dVar 0) (dCons (dVar 3) dNil))) (dVar 1)))
def b__law_goals : DS :=
  (dSeq (dAsg 2 (dNew .k))
  (dSeq (dFor (dRng1 (dOp addD (dOp addD (dC (.int 1)) (dOp modD (dVar 0) (dC (.int 3)))) (dOp mulD (dC (.int 20)) (dCall intC (dCons (dBv (dCmp eqD (dOp modD (dOp fdivD (dVar 0) (dC (.int 3))) (dC (.int 29))) (dC (.int 7)))) dNil))))) (b1 3) l1__law_goals)
  (dRet (dCall tupC (dCons (dCall sortC (dCons (dVar 2) dNil)) dNil)))))
def d__law_goals : List D → Out D := dDef 4 b__law_goals
def b__law_place : DS :=
  (dSeq (dAsg 3 (dOp subD (dOp modD (dOp fdivD (dVar 0) (dC (.int 26))) (dC (.int 9))) (dC (.int 4))))
  (dSeq (dIfS (dCmp eqD (dOp modD (dOp fdivD (dVar 0) (dC (.int 234))) (dC (.int 11))) (dC (.int 3))) (dAsg 3 (dOp subD (dOp modD (dOp fdivD (dVar 0) (dC (.int 26))) (dC (.int 41))) (dC (.int 20)))) dNx)
  (dRet (dTup (dCons (dOp modD (dVar 0) (dC (.int 2))) (dCons (dOp modD (dOp fdivD (dVar 0) (dC (.int 2))) (dOp addD (dVar 2) (dC (.int 1)))) (dCons (dVar 3) (dCons (dUse 2 d__law_goals (dCons (dUse 2 d__law_drawn (dCons (dVar 0) (dCons (dC (.int 9)) dNil))) (dCons (dVar 1) dNil))) dNil))))))))
def d__law_place : List D → Out D := dDef 4 b__law_place
def b__law_ground : DS :=
  (dSeq (dAsg 2 (dUse 2 d__law_mixed (dCons (dVar 0) (dCons (dC (.int 0)) dNil))))
  (dSeq (dAsg 3 (dOp addD (dC (.int 1)) (dOp modD (dVar 2) (dCall minC (dCons (dVar 1) (dCons (dCall maxC (dCons (dC (.int 4)) (dCons (dCall lenD (dCons (dVar 0) dNil)) dNil))) dNil))))))
  (dSeq (dAsg 4 (dOp getD (dLst (dCons (dC (.int 1)) (dCons (dC (.int 2)) (dCons (dC (.int 3)) (dCons (dC (.int 5)) (dCons (dC (.int 12)) (dCons (dC (.int 12)) dNil))))))) (dOp modD (dOp fdivD (dVar 2) (dC (.int 24))) (dC (.int 6)))))
  (dRet (dCall tupC (dCons (dLc (dRng1 (dVar 3)) (b1 5) dYes (dUse 3 d__law_place (dCons (dUse 2 d__law_mixed (dCons (dVar 0) (dCons (dOp addD (dC (.int 3)) (dVar 5)) dNil))) (dCons (dVar 3) (dCons (dVar 4) dNil)))) [5]) dNil))))))
def d__law_ground : List D → Out D := dDef 6 b__law_ground
def l1__law_written : DS :=
  (dSeq (dAsg 1 (dOp addD (dOp addD (dOp addD (dVar 1) (dC (.str " place"))) (dJoin (dC (.str "")) (dLc (dSeqI (dSlice (dVar 2) dNoP (dPart (dC (.int 3))))) (b1 3) dYes (dOp addD (dC (.str " ")) (dCall strC (dCons (dVar 3) dNil))) [3]))) (dC (.str " to"))))
  (dAsg 1 (dOp addD (dOp addD (dVar 1) (dJoin (dC (.str "")) (dLc (dSeqI (dOp getD (dVar 2) (dC (.int 3)))) (b1 4) dYes (dOp addD (dC (.str " ")) (dCall strC (dCons (dVar 4) dNil))) [4]))) (dC (.str " end")))))
def b__law_written : DS :=
  (dSeq (dAsg 1 (dOp addD (dC (.str "ground ")) (dCall strC (dCons (dCall lenD (dCons (dVar 0) dNil)) dNil))))
  (dSeq (dFor (dSeqI (dVar 0)) (b1 2) l1__law_written)
  (dRet (dVar 1))))
def d__law_written : List D → Out D := dDef 5 b__law_written
def b_number_of : DS :=
  (dSeq (dAsg 1 (dVar 0))
  (dSeq (dIfS (dCmp eqD (dSlice (dVar 0) dNoP (dPart (dC (.int 1)))) (dC (.str "-"))) (dAsg 1 (dSlice (dVar 0) (dPart (dC (.int 1))) dNoP)) dNx)
  (dSeq (dIfS (dOr (dCmp eqD (dCall lenD (dCons (dVar 1) dNil)) (dC (.int 0))) (dOr (dCmp gtD (dCall lenD (dCons (dVar 1) dNil)) (dC (.int 2))) (dNot (dTv (dCall allC (dCons (dLc (dSeqS (dVar 1)) (b1 2) dYes (dBv (dCmp inD (dVar 2) (dC (.str "0123456789")))) [2]) dNil)))))) (dRaise 2) dNx)
  (dRet (dCall intS (dCons (dVar 0) dNil))))))
def d_number_of : List D → Out D := dDef 3 b_number_of
def b_place_of : DS :=
  (dSeq (dIfS (dOr (dCmp ltD (dCall lenD (dCons (dVar 0) dNil)) (dC (.int 5))) (dCmp neD (dOp getD (dVar 0) (dC (.int 3))) (dC (.str "to")))) (dRaise 2) dNx)
  (dSeq (dAsg 1 (dLcX (dSeqI (dSlice (dVar 0) (dPart (dC (.int 4))) dNoP)) (b1 2) (dUse 1 d_number_of (dCons (dVar 2) dNil)) [2]))
  (dRet (dTup (dCons (dUse 1 d_number_of (dCons (dOp getD (dVar 0) (dC (.int 0))) dNil)) (dCons (dUse 1 d_number_of (dCons (dOp getD (dVar 0) (dC (.int 1))) dNil)) (dCons (dUse 1 d_number_of (dCons (dOp getD (dVar 0) (dC (.int 2))) dNil)) (dCons (dCall tupC (dCons (dVar 1) dNil)) dNil))))))))
def d_place_of : List D → Out D := dDef 3 b_place_of
def l1_places_of : DS :=
  (dSeq (dIfS (dOr (dCmp neD (dOp getD (dVar 0) (dVar 2)) (dC (.str "place"))) (dCmp ninD (dC (.str "end")) (dSlice (dVar 0) (dPart (dVar 2)) dNoP))) (dRaise 2) dNx)
  (dSeq (dAsg 3 (dOp addD (dVar 2) (dIxW (dSlice (dVar 0) (dPart (dVar 2)) dNoP) (dC (.str "end")))))
  (dSeq (dApp 1 (dUse 1 d_place_of (dCons (dSlice (dVar 0) (dPart (dOp addD (dVar 2) (dC (.int 1)))) (dPart (dVar 3))) dNil)))
  (dAsg 2 (dOp addD (dVar 3) (dC (.int 1)))))))
def l2_places_of : DT :=
  (dCmp ltD (dVar 2) (dCall lenD (dCons (dVar 0) dNil)))
def b_places_of : DS :=
  (dSeq (dAsg 1 (dLst dNil))
  (dSeq (dAsg 2 (dC (.int 0)))
  (dSeq (dWh l2_places_of l1_places_of 100000)
  (dRet (dCall tupC (dCons (dVar 1) dNil))))))
def d_places_of : List D → Out D := dDef 4 b_places_of
def b_is_number : DS :=
  (dRet (dAndV (dTv (dIsI "int" (dVar 0))) (dAndV (dTv (dBv (dNot (dTv (dIsI "bool" (dVar 0)))))) (dBv (dChain leD leD (dVar 1) (dVar 0) (dVar 2))))))
def d_is_number : List D → Out D := dDef 3 b_is_number
def l1_are_some : DS :=
  (dSeq (dIfS (dNot (dTv (dUse 3 d_is_number (dCons (dVar 3) (dCons (dOp addD (dVar 2) (dC (.int 1))) (dCons (dOp subD (dVar 1) (dC (.int 1))) dNil)))))) (dRet (dC (.bool false))) dNx)
  (dAsg 2 (dVar 3)))
def b_are_some : DS :=
  (dSeq (dIfS (dNot (dTv (dIsI "tuple" (dVar 0)))) (dRet (dC (.bool false))) dNx)
  (dSeq (dAsg 2 (dUn negD (dC (.int 1))))
  (dSeq (dFor (dSeqI (dVar 0)) (b1 3) l1_are_some)
  (dRet (dC (.bool true))))))
def d_are_some : List D → Out D := dDef 4 b_are_some
def b_is_place : DS :=
  (dSeq (dIfS (dOr (dNot (dTv (dIsI "tuple" (dVar 0)))) (dCmp neD (dCall lenD (dCons (dVar 0) dNil)) (dC (.int 4)))) (dRet (dC (.bool false))) dNx)
  (dSeq (dIfS (dOr (dNot (dTv (dUse 3 d_is_number (dCons (dOp getD (dVar 0) (dC (.int 0))) (dCons (dC (.int 0)) (dCons (dC (.int 1)) dNil)))))) (dOr (dNot (dTv (dUse 3 d_is_number (dCons (dOp getD (dVar 0) (dC (.int 1))) (dCons (dC (.int 0)) (dCons (dC (.int 12)) dNil)))))) (dNot (dTv (dUse 3 d_is_number (dCons (dOp getD (dVar 0) (dC (.int 2))) (dCons (dUn negD (dC (.int 20))) (dCons (dC (.int 20)) dNil)))))))) (dRet (dC (.bool false))) dNx)
  (dRet (dAndV (dTv (dUse 2 d_are_some (dCons (dOp getD (dVar 0) (dC (.int 3))) (dCons (dVar 1) dNil)))) (dBv (dCmp gtD (dCall lenD (dCons (dOp getD (dVar 0) (dC (.int 3))) dNil)) (dC (.int 0))))))))
def d_is_place : List D → Out D := dDef 2 b_is_place
def b_is_ground : DS :=
  (dSeq (dIfS (dOr (dNot (dTv (dIsI "tuple" (dVar 0)))) (dOr (dCmp eqD (dCall lenD (dCons (dVar 0) dNil)) (dC (.int 0))) (dCmp gtD (dCall lenD (dCons (dVar 0) dNil)) (dC (.int 24))))) (dRet (dC (.bool false))) dNx)
  (dRet (dCall allC (dCons (dLc (dSeqI (dVar 0)) (b1 1) dYes (dUse 2 d_is_place (dCons (dVar 1) (dCons (dCall lenD (dCons (dVar 0) dNil)) dNil))) [1]) dNil))))
def d_is_ground : List D → Out D := dDef 2 b_is_ground
def b_place_words : DS :=
  (dSeq (dAsg 1 (dLst (dCons (dC (.str "place")) (dCons (dCall strC (dCons (dOp getD (dVar 0) (dC (.int 0))) dNil)) (dCons (dCall strC (dCons (dOp getD (dVar 0) (dC (.int 1))) dNil)) (dCons (dCall strC (dCons (dOp getD (dVar 0) (dC (.int 2))) dNil)) (dCons (dC (.str "to")) dNil)))))))
  (dRet (dOp addD (dOp addD (dVar 1) (dLc (dSeqI (dOp getD (dVar 0) (dC (.int 3)))) (b1 2) dYes (dCall strC (dCons (dVar 2) dNil)) [2])) (dLst (dCons (dC (.str "end")) dNil)))))
def d_place_words : List D → Out D := dDef 3 b_place_words
def l1_ground_words : DS :=
  (dAsg 1 (dOp addD (dVar 1) (dUse 1 d_place_words (dCons (dVar 2) dNil))))
def b_ground_words : DS :=
  (dSeq (dAsg 1 (dLst (dCons (dC (.str "ground")) (dCons (dCall strC (dCons (dCall lenD (dCons (dVar 0) dNil)) dNil)) dNil))))
  (dSeq (dFor (dSeqI (dVar 0)) (b1 2) l1_ground_words)
  (dRet (dVar 1))))
def d_ground_words : List D → Out D := dDef 3 b_ground_words
def b_read : DS :=
  (dSeq (dIfS (dNot (dTv (dIsI "str" (dVar 0)))) (dRaise 2) dNx)
  (dSeq (dAsg 1 (dSplit (dVar 0) (dC (.str " "))))
  (dSeq (dIfS (dOr (dCmp ltD (dCall lenD (dCons (dVar 1) dNil)) (dC (.int 2))) (dCmp neD (dOp getD (dVar 1) (dC (.int 0))) (dC (.str "ground")))) (dRaise 2) dNx)
  (dSeq (dAsg 2 (dUse 1 d_places_of (dCons (dSlice (dVar 1) (dPart (dC (.int 2))) dNoP) dNil)))
  (dSeq (dIfS (dOr (dNot (dTv (dUse 1 d_is_ground (dCons (dVar 2) dNil)))) (dCmp neD (dJoin (dC (.str " ")) (dUse 1 d_ground_words (dCons (dVar 2) dNil))) (dVar 0))) (dRaise 2) dNx)
  (dRet (dVar 2)))))))
def d_read : List D → Out D := dDef 3 b_read
def b__law_found : DS :=
  (dSeq (dTryG 2 3 [(2, true)] (seAnd (seIs [(2, true)]) (seAnd (seIs [(2, true)]) (seNot (seIs [(2, false)])))) (dAsg 1 (dUse 1 d_read (dCons (dVar 0) dNil))))
  (dRet (dOp getD (dLst (dCons (dVar 1) (dCons (dTup dNil) dNil))) (dCall intC (dCons (dBv (dCmp isND (dVar 1) (dC .none))) dNil)))))
def d__law_found : List D → Out D := dDef 4 b__law_found
def b__law_changed : DS :=
  (dSeq (dAsg 2 (dSplit (dVar 0) (dC (.str " "))))
  (dSeq (dAsg 3 (dOp modD (dOp fdivD (dVar 1) (dC (.int 8))) (dCall lenD (dCons (dVar 2) dNil))))
  (dSeq (dAsg 4 (dOp modD (dOp fdivD (dVar 1) (dC (.int 8))) (dOp addD (dCall lenD (dCons (dVar 0) dNil)) (dC (.int 1)))))
  (dSeq (dAsg 5 (dOp modD (dVar 1) (dC (.int 8))))
  (dSeq (dIfS (dCmp eqD (dOp modD (dOp fdivD (dVar 1) (dC (.int 8))) (dC (.int 6))) (dC (.int 1))) (dAsg 3 (dC (.int 1))) dNx)
  (dSeq (dIfS (dCmp eqD (dVar 5) (dC (.int 0))) (dRet (dOp addD (dSlice (dVar 0) dNoP (dPart (dVar 4))) (dSlice (dVar 0) (dPart (dOp addD (dVar 4) (dC (.int 1)))) dNoP))) dNx)
  (dSeq (dIfS (dCmp ltD (dVar 5) (dC (.int 3))) (dSeq (dAsg 6 (dOp getD (dC (.str " 0129-+aE\n\t_")) (dOp modD (dOp fdivD (dVar 1) (dC (.int 7))) (dC (.int 12)))))
  (dRet (dOp addD (dOp addD (dSlice (dVar 0) dNoP (dPart (dVar 4))) (dVar 6)) (dSlice (dVar 0) (dPart (dOp subD (dOp addD (dVar 4) (dVar 5)) (dC (.int 1)))) dNoP)))) dNx)
  (dSeq (dIfS (dCmp eqD (dVar 5) (dC (.int 3))) (dRet (dJoin (dC (.str " ")) (dOp addD (dSlice (dVar 2) dNoP (dPart (dVar 3))) (dSlice (dVar 2) (dPart (dOp addD (dVar 3) (dC (.int 1)))) dNoP)))) dNx)
  (dSeq (dIfS (dCmp eqD (dVar 5) (dC (.int 4))) (dRet (dJoin (dC (.str " ")) (dOp addD (dOp addD (dSlice (dVar 2) dNoP (dPart (dVar 3))) (dSlice (dVar 2) (dPart (dVar 3)) (dPart (dOp addD (dVar 3) (dC (.int 1)))))) (dSlice (dVar 2) (dPart (dVar 3)) dNoP)))) dNx)
  (dSeq (dIfS (dCmp eqD (dVar 5) (dC (.int 5))) (dSeq (dAsg 7 (dOp addD (dSlice (dVar 2) (dPart (dOp addD (dVar 3) (dC (.int 1)))) (dPart (dOp addD (dVar 3) (dC (.int 2))))) (dSlice (dVar 2) (dPart (dVar 3)) (dPart (dOp addD (dVar 3) (dC (.int 1)))))))
  (dRet (dJoin (dC (.str " ")) (dOp addD (dOp addD (dSlice (dVar 2) dNoP (dPart (dVar 3))) (dVar 7)) (dSlice (dVar 2) (dPart (dOp addD (dVar 3) (dC (.int 2)))) dNoP))))) dNx)
  (dSeq (dAsg 8 (dSplit (dC (.str "ground place to end 0 1 2 -1 00 -0 12 13 20 21 24 100 007 x")) (dC (.str " "))))
  (dRet (dJoin (dC (.str " ")) (dOp addD (dOp addD (dSlice (dVar 2) dNoP (dPart (dVar 3))) (dLst (dCons (dOp getD (dVar 8) (dOp modD (dOp fdivD (dVar 1) (dC (.int 7))) (dC (.int 18)))) dNil))) (dSlice (dVar 2) (dPart (dOp addD (dVar 3) (dC (.int 1)))) dNoP)))))))))))))))
def d__law_changed : List D → Out D := dDef 9 b__law_changed
def l1__law_rising : DS :=
  (dSeq (dIfS (dOr (dNot (dTv (dIsI "int" (dVar 3)))) (dOr (dTv (dIsI "bool" (dVar 3))) (dNot (dChain ltD ltD (dVar 2) (dVar 3) (dVar 1))))) (dRet (dC (.bool false))) dNx)
  (dAsg 2 (dVar 3)))
def b__law_rising : DS :=
  (dSeq (dIfS (dNot (dTv (dIsI "tuple" (dVar 0)))) (dRet (dC (.bool false))) dNx)
  (dSeq (dAsg 2 (dUn negD (dC (.int 1))))
  (dSeq (dFor (dSeqI (dVar 0)) (b1 3) l1__law_rising)
  (dRet (dC (.bool true))))))
def d__law_rising : List D → Out D := dDef 4 b__law_rising
def b__law_number : DS :=
  (dRet (dAndV (dTv (dIsI "int" (dVar 0))) (dAndV (dTv (dBv (dNot (dTv (dIsI "bool" (dVar 0)))))) (dBv (dChain leD leD (dVar 1) (dVar 0) (dVar 2))))))
def d__law_number : List D → Out D := dDef 3 b__law_number
def b__law_is_place : DS :=
  (dSeq (dIfS (dOr (dNot (dTv (dIsI "tuple" (dVar 0)))) (dOr (dCmp neD (dCall lenD (dCons (dVar 0) dNil)) (dC (.int 4))) (dNot (dTv (dUse 3 d__law_number (dCons (dOp getD (dVar 0) (dC (.int 0))) (dCons (dC (.int 0)) (dCons (dC (.int 1)) dNil)))))))) (dRet (dC (.bool false))) dNx)
  (dSeq (dIfS (dOr (dNot (dTv (dUse 3 d__law_number (dCons (dOp getD (dVar 0) (dC (.int 1))) (dCons (dC (.int 0)) (dCons (dC (.int 12)) dNil)))))) (dNot (dTv (dUse 3 d__law_number (dCons (dOp getD (dVar 0) (dC (.int 2))) (dCons (dUn negD (dC (.int 20))) (dCons (dC (.int 20)) dNil))))))) (dRet (dC (.bool false))) dNx)
  (dRet (dAndV (dTv (dUse 2 d__law_rising (dCons (dOp getD (dVar 0) (dC (.int 3))) (dCons (dVar 1) dNil)))) (dBv (dCmp neD (dOp getD (dVar 0) (dC (.int 3))) (dTup dNil)))))))
def d__law_is_place : List D → Out D := dDef 2 b__law_is_place
def b__law_is_ground : DS :=
  (dSeq (dIfS (dOr (dNot (dTv (dIsI "tuple" (dVar 0)))) (dNot (dChain ltD ltD (dC (.int 0)) (dCall lenD (dCons (dVar 0) dNil)) (dC (.int 25))))) (dRet (dC (.bool false))) dNx)
  (dRet (dBv (dCmp eqD (dLc (dSeqI (dVar 0)) (b1 1) (dNot (dTv (dUse 2 d__law_is_place (dCons (dVar 1) (dCons (dCall lenD (dCons (dVar 0) dNil)) dNil))))) (dVar 1) [1]) (dLst dNil)))))
def d__law_is_ground : List D → Out D := dDef 2 b__law_is_ground
def l1_law : DS :=
  (dAsg 2 (dUse 2 d__law_changed (dCons (dVar 2) (dCons (dUse 2 d__law_drawn (dCons (dVar 3) (dCons (dVar 4) dNil))) dNil))))
def b_law : DS :=
  (dSeq (dAsg 1 (dUse 2 d__law_ground (dCons (dVar 0) (dCons (dC (.int 24)) dNil))))
  (dSeq (dAsg 2 (dUse 1 d__law_written (dCons (dVar 1) dNil)))
  (dSeq (dAsg 3 (dUse 2 d__law_mixed (dCons (dVar 0) (dCons (dC (.int 1)) dNil))))
  (dSeq (dFor (dRng1 (dOp mulD (dOp modD (dVar 3) (dC (.int 3))) (dOp addD (dC (.int 1)) (dOp modD (dOp fdivD (dVar 3) (dC (.int 3))) (dC (.int 2)))))) (b1 4) l1_law)
  (dSeq (dAsg 5 (dUse 1 d__law_found (dCons (dVar 2) dNil)))
  (dSeq (dIfS (dCmp eqD (dVar 2) (dUse 1 d__law_written (dCons (dVar 1) dNil))) (dRet (dAndV (dTv (dBv (dCmp eqD (dVar 5) (dVar 1)))) (dUse 1 d__law_is_ground (dCons (dVar 5) dNil)))) dNx)
  (dRet (dOrV (dTv (dBv (dCmp isND (dVar 5) (dC .none)))) (dAndV (dTv (dUse 1 d__law_is_ground (dCons (dVar 5) dNil))) (dBv (dCmp eqD (dUse 1 d__law_written (dCons (dVar 5) dNil)) (dVar 2))))))))))))
def d_law : List D → Out D := dDef 6 b_law
end K04

/-! Ev: to compute denotations in plain Lean. -/
namespace Pd
open PySem L2
section
variable {t u : DS} {ρ : Env} {f g h : DE} {b b2 : DT} {d : D} {o o' : SO} {p : Prop} [Decidable p]
def SO.seq (o : SO) (u : DS) : SO := match o with
  | .nx ρ' => u ρ'
  | o => o
@[simp] theorem s_seq : dSeq t u ρ = (t ρ).seq u := by unfold dSeq SO.seq; cases t ρ <;> rfl
@[simp] theorem s_nx : (SO.nx ρ).seq u = u ρ := rfl
@[simp] theorem s_rt : (SO.rt d ρ).seq u = .rt d ρ := rfl
@[simp] theorem s_bk : (SO.bk ρ).seq u = .bk ρ := rfl
@[simp] theorem s_ct : (SO.ct ρ).seq u = .ct ρ := rfl
@[simp] theorem s_er {n : Nat} : (SO.err n ρ).seq u = .err n ρ := rfl
@[simp] theorem s_bad : SO.bad.seq u = .bad := rfl
@[simp] theorem s_ite : SO.seq (if p then o else o') u = if p then o.seq u else o'.seq u := by split <;> rfl
@[simp] theorem f_nx : (SO.nx ρ).fin = .ok .none := rfl
@[simp] theorem f_rt : (SO.rt d ρ).fin = .ok d := rfl
@[simp] theorem f_er {n : Nat} : (SO.err n ρ).fin = .err n := rfl
@[simp] theorem f_ite : SO.fin (if p then o else o') = if p then o.fin else o'.fin := by split <;> rfl
@[simp] theorem b_ite {α β : Type} {x y : Out α} {k : α → Out β} : Out.bind (if p then x else y) k = if p then x.bind k else y.bind k := by split <;> rfl
@[simp] theorem l_ite {α : Type} {x y : Out α} {k : α → SO} : lift (if p then x else y) ρ k = if p then lift x ρ k else lift y ρ k := by split <;> rfl
@[simp] theorem s_def {N : Nat} {ds : List D} : dDef N t ds = (t (startE N ds)).fin := rfl
@[simp] theorem s_start {N : Nat} {ds : List D} : startE N ds = ds.map some ++ List.replicate (N - ds.length) none := rfl
@[simp] theorem s_if : dIfS b t u ρ = lift (b ρ) ρ fun k => if k = true then t ρ else u ρ := rfl
@[simp] theorem s_ret : dRet f ρ = lift (f ρ) ρ fun d => .rt d ρ := rfl
@[simp] theorem s_retN : dRetN ρ = .rt .none ρ := rfl
@[simp] theorem s_dnx : dNx ρ = .nx ρ := rfl
@[simp] theorem s_asg {i : Nat} : dAsg i f ρ = lift (f ρ) ρ fun d => .nx (ρ.set i (some d)) := rfl
@[simp] theorem s_drop : dDrop f ρ = lift (f ρ) ρ fun _ => .nx ρ := rfl
@[simp] theorem s_c : dC d ρ = .ok d := rfl
@[simp] theorem s_op {k : D → D → Option D} : dOp k f g ρ = (f ρ).bind fun x => (g ρ).bind fun y => .of (k x y) := rfl
@[simp] theorem s_cmp {k : D → D → Option Bool} : dCmp k f g ρ = (f ρ).bind fun x => (g ρ).bind fun y => .of (k x y) := rfl
@[simp] theorem s_un {k : D → Option D} : dUn k f ρ = (f ρ).bind fun x => .of (k x) := rfl
@[simp] theorem s_call {k : List D → Option D} {a : DA} : dCall k a ρ = (a ρ).bind fun x => .of (k x) := rfl
@[simp] theorem s_use {n : Nat} {k : List D → Out D} {a : DA} : dUse n k a ρ = (a ρ).bind fun x => if x.length = n then k x else .bad := rfl
@[simp] theorem s_nil : dNil ρ = .ok [] := rfl
@[simp] theorem s_cons {a : DA} : dCons f a ρ = (f ρ).bind fun d => (a ρ).bind fun ds => .ok (d :: ds) := rfl
@[simp] theorem s_bv : dBv b ρ = (b ρ).bind fun x => .ok (.bool x) := rfl
def tvD : D → Out Bool
  | .bool b => .ok b
  | _ => .bad
theorem s_tv : dTv f ρ = (f ρ).bind tvD := by
  unfold dTv
  cases f ρ with
  | ok d => cases d <;> rfl
  | _ => rfl
@[simp] theorem s_tv' : dTv f ρ = (f ρ).bind tvD := s_tv
@[simp] theorem tvD_b {x : Bool} : tvD (.bool x) = .ok x := rfl
@[simp] theorem tvD_ite {x y : D} : tvD (if p then x else y) = if p then tvD x else tvD y := by split <;> rfl
@[simp] theorem s_and : dAnd b b2 ρ = (b ρ).bind fun k => if k = true then b2 ρ else .ok false := rfl
@[simp] theorem s_or : dOr b b2 ρ = (b ρ).bind fun k => if k = true then .ok true else b2 ρ := rfl
@[simp] theorem s_not : dNot b ρ = (b ρ).bind fun k => .ok (!k) := rfl
@[simp] theorem s_andv : dAndV b f ρ = (b ρ).bind fun k => if k = true then f ρ else .ok (.bool false) := rfl
@[simp] theorem s_orv : dOrV b f ρ = (b ρ).bind fun k => if k = true then .ok (.bool true) else f ρ := rfl
@[simp] theorem s_chain {k k' : D → D → Option Bool} : dChain k k' f g h ρ = (f ρ).bind fun x => (g ρ).bind fun y => (Out.of (k x y)).bind fun b => if b = true then (h ρ).bind fun z => .of (k' y z) else .ok false := rfl
@[simp] theorem s_some {α : Type} {a : α} : Out.of (some a) = .ok a := rfl
@[simp] theorem s_none {α : Type} : Out.of (none : Option α) = .bad := rfl
@[simp] theorem of_ite {α : Type} {x y : Option α} : Out.of (if p then x else y) = if p then Out.of x else Out.of y := by split <;> rfl
@[simp] theorem s_tup {a : DA} : dTup a ρ = (a ρ).bind fun ds => if ds.length ≤ 1000 then .ok (.tuple ds) else .bad := rfl
@[simp] theorem s_lst {a : DA} : dLst a ρ = (a ρ).bind fun ds => if ds.length ≤ 1000 then .ok (.list ds) else .bad := rfl
def seqD : D → Out (List D)
  | .list l => .ok l
  | .tuple l => .ok l
  | .ftup l => .ok l
  | .fdt kvs => if smallT kvs then .ok (keyT kvs) else .bad
  | _ => .bad
@[simp] theorem s_isi {T : String} : dIsI T f ρ = (f ρ).bind fun d => .of ((isiD T d).map .bool) := rfl
@[simp] theorem s_slice {l r : DOI} : dSlice f l r ρ = (f ρ).bind fun d => (l ρ).bind fun x => (r ρ).bind fun y => .of (sliceD d x y) := rfl
@[simp] theorem s_nop : dNoP ρ = .ok none := rfl
def intOf : D → Out (Option Int)
  | .int i => .ok (some i)
  | _ => .bad
@[simp] theorem s_part : dPart f ρ = (f ρ).bind intOf := by
  unfold dPart
  cases f ρ with
  | ok d => cases d <;> rfl
  | _ => rfl
@[simp] theorem intOf_i {i : Int} : intOf (.int i) = .ok (some i) := rfl
@[simp] theorem s_for {a : DA} {k : D → Env → Option Env} : dFor a k t ρ = lift (a ρ) ρ fun ds => dForL k t ds ρ := rfl
@[simp] theorem s_b1 {i : Nat} : b1 i d ρ = some (ρ.set i (some d)) := rfl
@[simp] theorem s_obS {k : Env → SO} : obS (some ρ) k = k ρ := rfl
@[simp] theorem r_nx {k : Env → SO} : loopR (.nx ρ) k = k ρ := rfl
@[simp] theorem r_ct {k : Env → SO} : loopR (.ct ρ) k = k ρ := rfl
@[simp] theorem r_rt {k : Env → SO} : loopR (.rt d ρ) k = .rt d ρ := rfl
@[simp] theorem r_ite {k : Env → SO} : loopR (if p then o else o') k = if p then loopR o k else loopR o' k := by split <;> rfl
@[simp] theorem fl_nil {k : D → Env → Option Env} : dForL k t [] ρ = .nx ρ := rfl
theorem fl_cons {k : D → Env → Option Env} {l : List D} : dForL k t (d :: l) ρ = obS (k d ρ) fun ρ1 => loopR (t ρ1) (dForL k t l) := rfl
end
@[simp] theorem var0 (d : D) (ρ : Env) : dVar 0 (some d :: ρ) = .ok d := rfl
@[simp] theorem varS (n : Nat) (x : Option D) (ρ : Env) : dVar (n + 1) (x :: ρ) = dVar n ρ := rfl
theorem kb_NoneType_int : kitB "NoneType" "int" = some false := by decide +kernel
theorem kb_bool_int : kitB "bool" "int" = some true := by decide +kernel
theorem kb_int_int : kitB "int" "int" = some true := by decide +kernel
theorem kb_str_int : kitB "str" "int" = some false := by decide +kernel
theorem kb_list_int : kitB "list" "int" = some false := by decide +kernel
theorem kb_tuple_int : kitB "tuple" "int" = some false := by decide +kernel
theorem kb_dict_int : kitB "dict" "int" = some false := by decide +kernel
theorem kb_NoneType_bool : kitB "NoneType" "bool" = some false := by decide +kernel
theorem kb_bool_bool : kitB "bool" "bool" = some true := by decide +kernel
theorem kb_int_bool : kitB "int" "bool" = some false := by decide +kernel
theorem kb_str_bool : kitB "str" "bool" = some false := by decide +kernel
theorem kb_list_bool : kitB "list" "bool" = some false := by decide +kernel
theorem kb_tuple_bool : kitB "tuple" "bool" = some false := by decide +kernel
theorem kb_dict_bool : kitB "dict" "bool" = some false := by decide +kernel
theorem kb_NoneType_tuple : kitB "NoneType" "tuple" = some false := by decide +kernel
theorem kb_bool_tuple : kitB "bool" "tuple" = some false := by decide +kernel
theorem kb_int_tuple : kitB "int" "tuple" = some false := by decide +kernel
theorem kb_str_tuple : kitB "str" "tuple" = some false := by decide +kernel
theorem kb_list_tuple : kitB "list" "tuple" = some false := by decide +kernel
theorem kb_tuple_tuple : kitB "tuple" "tuple" = some true := by decide +kernel
theorem kb_dict_tuple : kitB "dict" "tuple" = some false := by decide +kernel
theorem kb_NoneType_list : kitB "NoneType" "list" = some false := by decide +kernel
theorem kb_bool_list : kitB "bool" "list" = some false := by decide +kernel
theorem kb_int_list : kitB "int" "list" = some false := by decide +kernel
theorem kb_str_list : kitB "str" "list" = some false := by decide +kernel
theorem kb_list_list : kitB "list" "list" = some true := by decide +kernel
theorem kb_tuple_list : kitB "tuple" "list" = some false := by decide +kernel
theorem kb_dict_list : kitB "dict" "list" = some false := by decide +kernel
theorem kb_NoneType_str : kitB "NoneType" "str" = some false := by decide +kernel
theorem kb_bool_str : kitB "bool" "str" = some false := by decide +kernel
theorem kb_int_str : kitB "int" "str" = some false := by decide +kernel
theorem kb_str_str : kitB "str" "str" = some true := by decide +kernel
theorem kb_list_str : kitB "list" "str" = some false := by decide +kernel
theorem kb_tuple_str : kitB "tuple" "str" = some false := by decide +kernel
theorem kb_dict_str : kitB "dict" "str" = some false := by decide +kernel
@[simp] theorem isi_int (d : D) : isiD "int" d = some (match d with | .int _ => true | .bool _ => true | _ => false) := by cases d <;> first | exact kb_NoneType_int | exact kb_bool_int | exact kb_int_int | exact kb_str_int | exact kb_list_int | exact kb_tuple_int | exact kb_dict_int
@[simp] theorem isi_bool (d : D) : isiD "bool" d = some (match d with | .bool _ => true | _ => false) := by cases d <;> first | exact kb_NoneType_bool | exact kb_bool_bool | exact kb_int_bool | exact kb_str_bool | exact kb_list_bool | exact kb_tuple_bool | exact kb_dict_bool
@[simp] theorem isi_tuple (d : D) : isiD "tuple" d = some (match d with | .tuple _ => true | .ktup _ => true | .ftup _ => true | _ => false) := by cases d <;> first | exact kb_NoneType_tuple | exact kb_bool_tuple | exact kb_int_tuple | exact kb_str_tuple | exact kb_list_tuple | exact kb_tuple_tuple | exact kb_dict_tuple
@[simp] theorem isi_list (d : D) : isiD "list" d = some (match d with | .list _ => true | .scr _ => true | _ => false) := by cases d <;> first | exact kb_NoneType_list | exact kb_bool_list | exact kb_int_list | exact kb_str_list | exact kb_list_list | exact kb_tuple_list | exact kb_dict_list
@[simp] theorem isi_str (d : D) : isiD "str" d = some (match d with | .str _ => true | _ => false) := by cases d <;> first | exact kb_NoneType_str | exact kb_bool_str | exact kb_int_str | exact kb_str_str | exact kb_list_str | exact kb_tuple_str | exact kb_dict_str
section
variable {i j : Int}
@[simp] theorem e_le : leD (.int i) (.int j) = some (decide (i ≤ j)) := rfl
@[simp] theorem e_lt : ltD (.int i) (.int j) = some (decide (i < j)) := rfl
@[simp] theorem e_gt : gtD (.int i) (.int j) = some (decide (j < i)) := rfl
@[simp] theorem e_ge : geD (.int i) (.int j) = some (decide (j ≤ i)) := rfl
@[simp] theorem e_add : addD (.int i) (.int j) = some (.int (i + j)) := rfl
@[simp] theorem e_sub : subD (.int i) (.int j) = some (.int (i - j)) := rfl
@[simp] theorem e_neg : negD (.int i) = some (.int (-i)) := rfl
@[simp] theorem e_mod : modD (.int i) (.int j) = if 0 < j then some (.int (i % j)) else none := rfl
@[simp] theorem e_div : fdivD (.int i) (.int j) = if 0 < j ∧ j < 1073741824 then some (.int (i / j)) else none := rfl
@[simp] theorem e_mul : mulD (.int i) (.int j) = if mulOk i j then some (.int (i * j)) else none := rfl
theorem mulOk_r (h : -(2 ^ 64) < j ∧ j < 2 ^ 64) : mulOk i j := .inr h
theorem mulOk_l (h : -(2 ^ 64) < i ∧ i < 2 ^ 64) : mulOk i j := .inl h
@[simp] theorem e_lenT {l : List D} : lenD [.tuple l] = some (.int l.length) := rfl
@[simp] theorem e_lenL {l : List D} : lenD [.list l] = some (.int l.length) := rfl
@[simp] theorem e_lenS {l : List Int} : lenD [.scr l] = some (.int l.length) := rfl
@[simp] theorem e_int1 : intC [.int i] = some (.int i) := rfl
@[simp] theorem e_int2 {b : Bool} : intC [.bool b] = some (.int (if b then 1 else 0)) := rfl
@[simp] theorem e_seqT {f : DE} {ρ : Env} : dSeqI f ρ = (f ρ).bind seqD := by
  unfold dSeqI
  cases f ρ with
  | ok d => cases d <;> rfl
  | _ => rfl
@[simp] theorem seqD_t {l : List D} : seqD (.tuple l) = .ok l := rfl
@[simp] theorem seqD_l {l : List D} : seqD (.list l) = .ok l := rfl
@[simp] theorem seqD_f {l : List D} : seqD (.ftup l) = .ok l := rfl
@[simp] theorem seqD_d {kvs : List (List Key × V)} : seqD (.fdt kvs) = if smallT kvs then .ok (keyT kvs) else .bad := rfl
end
@[simp] theorem e_eqI {i j : Int} : eqD (.int i) (.int j) = some (decide (i = j)) := by
  simp [eqD, D.pl, dep, eqv, D.py, PyData.depth, PyData.eqv]
  exact Bool.beq_eq_decide_eq i j
@[simp] theorem e_neI {i j : Int} : neD (.int i) (.int j) = some (!decide (i = j)) := by simp [neD]
@[simp] theorem e_eqB {i j : Bool} : eqD (.bool i) (.bool j) = some (decide (i = j)) := by
  simp [eqD, D.pl, dep, eqv, D.py, PyData.depth, PyData.eqv]
  exact Bool.beq_eq_decide_eq i j
@[simp] theorem e_neB {i j : Bool} : neD (.bool i) (.bool j) = some (!decide (i = j)) := by simp [neD]
theorem pyA_nil {l : List D} : PyData.eqvAll (D.pyA l) [] = l.isEmpty := by cases l <;> simp [D.pyA, PyData.eqvAll]
theorem e_eqL0 {l : List D} (h : D.plA l = true) : eqD (.list l) (.list []) = some l.isEmpty := by
  simp [eqD, D.pl, h, dep, eqv, D.py, PyData.eqv, pyA_nil, D.plA, D.pyA, PyData.depth, PyData.depthAll]
theorem e_neT0 {l : List D} (h : D.plA l = true) : neD (.tuple l) (.tuple []) = some (!l.isEmpty) := by
  simp [neD, eqD, D.pl, h, dep, eqv, D.py, PyData.eqv, pyA_nil, D.plA, D.pyA, PyData.depth, PyData.depthAll]
@[simp] theorem s_new {k : Kd} {ρ : Env} : dNew k ρ = .ok (match k with | .t => .dt [] | _ => .dk []) := rfl
def i1 : D → Out Int
  | .int i => .ok i
  | _ => .bad
@[simp] theorem i1_i {i : Int} : i1 (.int i) = .ok i := rfl
@[simp] theorem s_rng1 {f : DE} {ρ : Env} : dRng1 f ρ = (f ρ).bind fun d => (i1 d).bind fun n => if -100000 ≤ n ∧ n ≤ 100000 then .ok (rngD 0 n.toNat) else .bad := by
  unfold dRng1
  cases f ρ with
  | ok d => cases d <;> rfl
  | _ => rfl
@[simp] theorem s_rng2 {f g : DE} {ρ : Env} : dRng2 f g ρ = (f ρ).bind fun d => (g ρ).bind fun e => (i1 d).bind fun i => (i1 e).bind fun j => if -100000 ≤ i ∧ i ≤ 100000 ∧ -100000 ≤ j ∧ j ≤ 100000 then .ok (rngD i (j - i).toNat) else .bad := by
  unfold dRng2
  cases f ρ with
  | ok d => cases g ρ with
    | ok e => cases d <;> cases e <;> rfl
    | _ => rfl
  | _ => rfl
@[simp] theorem s_rngT {f : DE} {ρ : Env} : dRngT f ρ = (f ρ).bind fun d => (i1 d).bind fun n => if -100000 ≤ n ∧ n ≤ 100000 then .ok (.tuple (rngD 0 n.toNat)) else .bad := by
  unfold dRngT
  cases f ρ with
  | ok d => cases d <;> rfl
  | _ => rfl
@[simp] theorem e_max {i j : Int} : maxC [.int i, .int j] = some (.int (if j > i then j else i)) := rfl
@[simp] theorem e_min {i j : Int} : minC [.int i, .int j] = some (.int (if j < i then j else i)) := rfl
@[simp] theorem e_tupL {l : List D} : tupC [.list l] = some (.tuple l) := rfl
@[simp] theorem e_tupT {l : List D} : tupC [.tuple l] = some (.tuple l) := rfl
@[simp] theorem e_listT {l : List D} : listC [.tuple l] = some (.list l) := rfl
theorem rngD_mem {lo : Int} {n : Nat} {d : D} (h : d ∈ rngD lo n) : ∃ i : Nat, i < n ∧ d = .int (lo + i) := by
  obtain ⟨i, h1, rfl⟩ := List.mem_map.mp h
  exact ⟨i, List.mem_range.mp h1, rfl⟩
@[simp] theorem rngD_len {lo : Int} {n : Nat} : (rngD lo n).length = n := by simp [rngD]
theorem sortI_mem {ns : List Int} {i : Int} : i ∈ sortI ns ↔ i ∈ ns := (List.mergeSort_perm ns _).mem_iff
theorem sortI_len {ns : List Int} : (sortI ns).length = ns.length := (List.mergeSort_perm ns _).length_eq
theorem sortI_le (ns : List Int) : (sortI ns).Pairwise (· ≤ ·) := by
  have := List.pairwise_mergeSort (le := fun a b : Int => decide (a ≤ b)) (fun a b c h1 h2 => by simp at h1 h2 ⊢; omega) (fun a b => by simp; omega) ns
  exact this.imp fun h => by simpa using h
theorem sortI_lt {ns : List Int} (h : ns.Nodup) : (sortI ns).Pairwise (· < ·) := by
  have h1 := sortI_le ns
  have h2 : (sortI ns).Pairwise (· ≠ ·) := (List.mergeSort_perm ns _).nodup_iff.mpr h
  exact (h1.and h2).imp fun ⟨a, b⟩ => by omega
/-! comprehensions -/
@[simp] theorem s_lc {it : DA} {b : D → Env → Option Env} {tst : DT} {elt : DE} {vs : List Nat} {ρ : Env} : dLc it b tst elt vs ρ = (it ρ).bind fun ds => (dLcL b tst elt (wipeE ρ vs) ds).bind fun r => .ok (.list r) := rfl
@[simp] theorem s_yes {ρ : Env} : dYes ρ = .ok true := rfl
@[simp] theorem s_wipe0 {ρ : Env} : wipeE ρ [] = ρ := rfl
@[simp] theorem s_wipeC {ρ : Env} {v : Nat} {vs : List Nat} : wipeE ρ (v :: vs) = (wipeE ρ vs).set v none := rfl
theorem lc_gen {b : D → Env → Option Env} {tst : DT} {elt : DE} {ρ : Env} {p : D → Bool} {F : D → D} : ∀ {ds : List D}, (∀ d ∈ ds, ∃ ρ1, b d ρ = some ρ1 ∧ tst ρ1 = .ok (p d) ∧ (p d = true → elt ρ1 = .ok (F d))) → dLcL b tst elt ρ ds = .ok ((ds.filter p).map F)
  | [], _ => rfl
  | d :: ds, h => by
    obtain ⟨ρ1, h1, h2, h3⟩ := h d List.mem_cons_self
    have ih := lc_gen (ds := ds) fun x hx => h x (List.mem_cons_of_mem _ hx)
    unfold dLcL
    rw [h1]
    simp only [obO_some, h2, ne_ok, Out.ok_bind]
    cases e : p d with
    | true => simp [h3 e, ih, e]
    | false => simp [ih, e]
theorem lc_map {b : D → Env → Option Env} {elt : DE} {ρ : Env} {F : D → D} {ds : List D} (h : ∀ d ∈ ds, ∃ ρ1, b d ρ = some ρ1 ∧ elt ρ1 = .ok (F d)) : dLcL b dYes elt ρ ds = .ok (ds.map F) := by
  have := lc_gen (b := b) (tst := dYes) (elt := elt) (ρ := ρ) (p := fun _ => true) (F := F) (ds := ds) fun d hd => by
    obtain ⟨ρ1, h1, h2⟩ := h d hd
    exact ⟨ρ1, h1, rfl, fun _ => h2⟩
  rw [this, List.filter_eq_self.mpr fun _ _ => rfl]
theorem lc_map2 {α : Type} {b : D → Env → Option Env} {elt : DE} {ρ : Env} {enc : α → D} {R : D → α → Prop} : ∀ {ds : List D}, (∀ d ∈ ds, ∃ ρ1 y, b d ρ = some ρ1 ∧ elt ρ1 = .ok (enc y) ∧ R d y) → ∃ ys : List α, dLcL b dYes elt ρ ds = .ok (ys.map enc) ∧ ys.length = ds.length ∧ ∀ (i : Nat) d y, ds[i]? = some d → ys[i]? = some y → R d y
  | [], _ => ⟨[], rfl, rfl, fun i d y h => by simp at h⟩
  | d :: ds, h => by
    obtain ⟨ρ1, y, h1, h2, h3⟩ := h d List.mem_cons_self
    obtain ⟨ys, e, hl, hr⟩ := lc_map2 (ds := ds) fun x hx => h x (List.mem_cons_of_mem _ hx)
    refine ⟨y :: ys, ?_, by simp [hl], fun i d' y' q1 q2 => ?_⟩
    · unfold dLcL
      rw [h1]
      simp [h2, e]
    · cases i with
      | zero => simp at q1 q2; subst q1; subst q2; exact h3
      | succ i => simp at q1 q2; exact hr i d' y' q1 q2
@[simp] theorem boolsOf_comp {α : Type} {f : α → Bool} {l : List α} : boolsOf (l.map (D.bool ∘ f)) = some (l.map f) := by
  rw [← List.map_map]
  exact boolsOf_map _
@[simp] theorem intsOf_comp {α : Type} {f : α → Int} {l : List α} : intsOf (l.map (D.int ∘ f)) = some (l.map f) := by
  rw [← List.map_map]
  exact intsOf_map _
@[simp] theorem ofSeq_t {l : List D} {k : List D → Out (List D)} : ofSeq (.tuple l) k = k l := rfl
@[simp] theorem ofSeq_l {l : List D} {k : List D → Out (List D)} : ofSeq (.list l) k = k l := rfl
@[simp] theorem s_enum {f : DE} {ρ : Env} : dEnum f ρ = (f ρ).bind fun d => ofSeq d fun l => .ok (enumD 0 l) := rfl
@[simp] theorem s_zip2 {f g : DE} {ρ : Env} : dZip2 f g ρ = (f ρ).bind fun d => (g ρ).bind fun e => ofSeq d fun l => ofSeq e fun m => .ok (zipD2 l m) := rfl
@[simp] theorem s_zip3 {f g h : DE} {ρ : Env} : dZip3 f g h ρ = (f ρ).bind fun d => (g ρ).bind fun e => (h ρ).bind fun u => ofSeq d fun l => ofSeq e fun m => ofSeq u fun n => .ok (zipD3 l m n) := rfl
@[simp] theorem bs_nil {ρ : Env} : bs [] [] ρ = some ρ := rfl
@[simp] theorem bT_t {is : List Nat} {l : List D} {ρ : Env} : bT is (.tuple l) ρ = bs is l ρ := rfl
@[simp] theorem bs_cons {i : Nat} {is : List Nat} {d : D} {l : List D} {ρ : Env} : bs (i :: is) (d :: l) ρ = bs is l (ρ.set i (some d)) := rfl
@[simp] theorem e_isN {d : D} : isND d .none = some (match d with | .none => true | _ => false) := by cases d <;> rfl
@[simp] theorem e_notN {d : D} : notND d .none = some (match d with | .none => false | _ => true) := by cases d <;> rfl
@[simp] theorem s_app {i : Nat} {f : DE} {ρ : Env} : dApp i f ρ = atL ρ i fun l => lift (f ρ) ρ fun d => if l.length ≤ 100000 then .nx (ρ.set i (some (.list (l ++ [d])))) else .bad := rfl
@[simp] theorem at_0 {l : List D} {ρ : Env} {k : List D → SO} : atL (some (.list l) :: ρ) 0 k = k l := rfl
@[simp] theorem at_S {n : Nat} {x : Option D} {ρ : Env} {k : List D → SO} : atL (x :: ρ) (n + 1) k = atL ρ n k := rfl
@[simp] theorem s_guard {f : DE} {ρ : Env} : dGuard f ρ = (f ρ).bind fun d => if d.fix = true then .ok d else .bad := rfl
theorem get_t {l : List D} {i : Int} : getD (.tuple l) (.int i) = atI l i := rfl
theorem get_l {l : List D} {i : Int} : getD (.list l) (.int i) = atI l i := rfl
theorem get_s {l : List Int} {i : Int} : getD (.scr l) (.int i) = (atI l i).map .int := rfl
@[simp] theorem s_set {i : Nat} {f g : DE} {ρ : Env} : dSet i f g ρ = atL ρ i fun l => lift (f ρ) ρ fun d => lift (g ρ) ρ fun z => match z with
  | .int n => match ixN l.length n with
    | some j => .nx (ρ.set i (some (.list (l.set j d))))
    | none => .bad
  | _ => .bad := rfl
theorem wh_zero {b : DT} {t : DS} {ρ : Env} : dWh b t 0 ρ = .bad := rfl
theorem wh_succ {b : DT} {t : DS} {n : Nat} {ρ : Env} : dWh b t (n + 1) ρ = lift (b ρ) ρ fun k => if k = true then loopR (t ρ) (dWh b t n) else .nx ρ := rfl
theorem loop_seq {o : SO} {u : DS} {k : Env → SO} {ρ : Env} (h : o = .nx ρ) : loopR (o.seq u) k = loopR (u ρ) k := by rw [h]; rfl
@[simp] theorem s_keys {f : DE} {ρ : Env} : dKeys f ρ = (f ρ).bind fun d => match d with
  | .dk kvs => if kvs.length ≤ 100000 then .ok (.list (kvs.map fun p => keyD p.1)) else .bad
  | _ => .bad := rfl
@[simp] theorem s_putK {i : Nat} {fv fk : DE} {ρ : Env} : dPutK i fv fk ρ = atK ρ i fun l => lift (fv ρ) ρ fun d => lift (fk ρ) ρ fun z => match d.sc, dkey z with
  | some v, some k => if l.length ≤ 100000 then .nx (ρ.set i (some (.dk (putK l k v)))) else .bad
  | _, _ => .bad := rfl
@[simp] theorem atK_0 {l : List (Key × V)} {ρ : Env} {k : List (Key × V) → SO} : atK (some (.dk l) :: ρ) 0 k = k l := rfl
@[simp] theorem atK_S {n : Nat} {x : Option D} {ρ : Env} {k : List (Key × V) → SO} : atK (x :: ρ) (n + 1) k = atK ρ n k := rfl
@[simp] theorem s_get1 {f g : DE} {ρ : Env} : dGet1 f g ρ = (f ρ).bind fun d => match d with
  | .dk kvs => (g ρ).bind fun k => .of (getO (.dk kvs) k .none)
  | _ => .bad := rfl
@[simp] theorem s_get2 {f g h : DE} {ρ : Env} : dGet2 f g h ρ = (f ρ).bind fun d => match d with
  | .dk kvs => (g ρ).bind fun k => (h ρ).bind fun x => if x.sc.isSome = true then .of (getO (.dk kvs) k x) else .bad
  | _ => .bad := rfl
theorem eqvA_ints : ∀ A B : List Int, PyData.eqvAll (D.pyA (A.map .int)) (D.pyA (B.map .int)) = decide (A = B)
  | [], [] => by simp [D.pyA, PyData.eqvAll]
  | [], b :: B => by simp [D.pyA, PyData.eqvAll]
  | a :: A, [] => by simp [D.pyA, PyData.eqvAll]
  | a :: A, b :: B => by
    simp only [List.map_cons, D.pyA, D.py, PyData.eqvAll, PyData.eqv, eqvA_ints A B]
    by_cases h : a = b <;> by_cases h2 : A = B <;> simp [h, h2]
theorem depA_ints : ∀ A : List Int, PyData.depthAll (D.pyA (A.map .int)) = 0
  | [] => rfl
  | a :: A => by simp [D.pyA, D.py, PyData.depthAll, PyData.depth, depA_ints A]
theorem plA_intsE : ∀ gs : List Int, D.plA (gs.map .int) = true
  | [] => rfl
  | g :: gs => by simp [D.plA, D.pl, plA_intsE gs]
theorem eq_IL (A B : List Int) : eqD (.list (A.map .int)) (.list (B.map .int)) = some (decide (A = B)) := by
  simp only [eqD, D.pl, plA_intsE, dep, D.py, PyData.depth, depA_ints, eqv, PyData.eqv, eqvA_ints]
  rfl
theorem eq_IT (A B : List Int) : eqD (.tuple (A.map .int)) (.tuple (B.map .int)) = some (decide (A = B)) := by
  simp only [eqD, D.pl, plA_intsE, dep, D.py, PyData.depth, depA_ints, eqv, PyData.eqv, eqvA_ints]
  rfl
theorem ne_IL (A B : List Int) : neD (.list (A.map .int)) (.list (B.map .int)) = some (!decide (A = B)) := by simp [neD, eq_IL]
theorem ne_IT (A B : List Int) : neD (.tuple (A.map .int)) (.tuple (B.map .int)) = some (!decide (A = B)) := by simp [neD, eq_IT]
mutual
theorem eqv_self : ∀ d : PyData, d.plain = true → PyData.eqv d d = true
  | .none, _ => rfl
  | .bool b, _ => by simp [PyData.eqv]
  | .int i, _ => by simp [PyData.eqv]
  | .str s, _ => by simp [PyData.eqv]
  | .list l, h => by simp only [PyData.plain] at h; simp only [PyData.eqv]; exact eqvA_self l h
  | .tuple l, h => by simp only [PyData.plain] at h; simp only [PyData.eqv]; exact eqvA_self l h
  | .dict _, h => by simp [PyData.plain] at h
theorem eqvA_self : ∀ l : List PyData, PyData.plainAll l = true → PyData.eqvAll l l = true
  | [], _ => rfl
  | d :: l, h => by
    simp only [PyData.plainAll, Bool.and_eq_true] at h
    simp only [PyData.eqvAll, Bool.and_eq_true]
    exact ⟨eqv_self d h.1, eqvA_self l h.2⟩
end
theorem eq_self {d : D} (h : d.pl = true) (hd : dep d ≤ 50) : eqD d d = some true := by
  unfold eqD
  rw [if_pos ⟨h, h, by omega⟩]
  unfold eqv
  rw [eqv_self _ (D.py_plain d)]
theorem ne_self {d : D} (h : d.pl = true) (hd : dep d ≤ 50) : neD d d = some false := by
  unfold neD
  rw [eq_self h hd]
  rfl
/-- a whole number in bounds, no truth value -/
def isNum (d : D) (lo hi : Int) : Bool := match d with
  | .int i => decide (lo ≤ i) && decide (i ≤ hi)
  | _ => false
def SO.seqF (o : SO) (u : DS) : SO := match o with
  | .nx ρ' => u ρ'
  | .err x ρ' => .err x ρ'
  | _ => .bad
section
variable {t u : DS} {ρ : Env} {f g : DE} {d : D} {o o' : SO} {p : Prop} [Decidable p]
@[simp] theorem s_seqF : dSeqF t u ρ = (t ρ).seqF u := by unfold dSeqF SO.seqF; cases t ρ <;> rfl
@[simp] theorem sf_nx : (SO.nx ρ).seqF u = u ρ := rfl
@[simp] theorem sf_er {n : Nat} : (SO.err n ρ).seqF u = .err n ρ := rfl
@[simp] theorem sf_ite : SO.seqF (if p then o else o') u = if p then o.seqF u else o'.seqF u := by split <;> rfl
@[simp] theorem ff_rt : (SO.rt d ρ).finF = .ok d := rfl
@[simp] theorem ff_er {n : Nat} : (SO.err n ρ).finF = .err n := rfl
@[simp] theorem s_defF {N : Nat} {ds : List D} : dDefF N t ds = (t (startE N ds)).finF := rfl
@[simp] theorem lstFx_l {l : List D} : lstFx (.list l) = if D.fixA l = true then .ok (.list l) else .bad := rfl
@[simp] theorem s_addF : dAddF f g ρ = (f ρ).bind fun x => (g ρ).bind fun y => (Out.of (addD x y)).bind lstFx := by
  unfold dAddF dOp
  cases f ρ with
  | ok x => cases g ρ <;> rfl
  | _ => rfl
@[simp] theorem ofSq_l {l : List D} {k : List D → SO} : ofSq (.list l) k = k l := rfl
@[simp] theorem ofSq_t {l : List D} {k : List D → SO} : ofSq (.tuple l) k = k l := rfl
@[simp] theorem s_ext {i : Nat} : dExt i f ρ = atL ρ i fun l => lift (f ρ) ρ fun d => ofSq d fun m => if l.length + m.length ≤ 100000 then .nx (ρ.set i (some (.list (l ++ m)))) else .bad := rfl
theorem s_mov {i j : Nat} (h : ρ[j]? = some (some d)) : dMov i j ρ = .nx ((ρ.set j none).set i (some d)) := by unfold dMov; rw [h]
end
end Pd

/-! Lp: loops by invariants, in plain Lean. -/
namespace Pd
open PySem L2
section
variable {α : Type} {enc : α → D} {b : D → Env → Option Env} {t : DS} {c : DT}
/-- a for over typed items: any end that P allows -/
theorem for_P (P : SO → Prop) (I : List α → Env → Prop) : ∀ {l : List α} {ρ : Env}, I l ρ →
    (∀ a l ρ, I (a :: l) ρ → ∃ ρ1, b (enc a) ρ = some ρ1 ∧ ((∃ ρ2, (t ρ1 = .nx ρ2 ∨ t ρ1 = .ct ρ2) ∧ I l ρ2) ∨ (∃ ρ2, t ρ1 = .bk ρ2 ∧ P (.nx ρ2)) ∨ (∃ d ρ2, t ρ1 = .rt d ρ2 ∧ P (.rt d ρ2)) ∨ (∃ n ρ2, t ρ1 = .err n ρ2 ∧ P (.err n ρ2)))) →
    (∀ ρ, I [] ρ → P (.nx ρ)) → P (dForL b t (l.map enc) ρ)
  | [], ρ, h, _, hn => hn ρ h
  | a :: l, ρ, h, hs, hn => by
    obtain ⟨ρ1, e1, h1⟩ := hs a l ρ h
    rw [List.map_cons, fl_cons, e1, s_obS]
    rcases h1 with ⟨ρ2, e2, h2⟩ | ⟨ρ2, e2, h2⟩ | ⟨d, ρ2, e2, h2⟩ | ⟨n, ρ2, e2, h2⟩
    · have : loopR (t ρ1) (dForL b t (l.map enc)) = dForL b t (l.map enc) ρ2 := by rcases e2 with e2 | e2 <;> rw [e2] <;> rfl
      rw [this]
      exact for_P P I h2 hs hn
    · rw [e2]; exact h2
    · rw [e2]; exact h2
    · rw [e2]; exact h2
/-- a for that runs through -/
theorem for_I (I : List α → Env → Prop) {l : List α} {ρ : Env} (h : I l ρ) (hs : ∀ a l ρ, I (a :: l) ρ → ∃ ρ1 ρ2, b (enc a) ρ = some ρ1 ∧ (t ρ1 = .nx ρ2 ∨ t ρ1 = .ct ρ2) ∧ I l ρ2) :
    ∃ ρ', dForL b t (l.map enc) ρ = .nx ρ' ∧ I [] ρ' :=
  for_P (P := fun o => ∃ ρ', o = .nx ρ' ∧ I [] ρ') I h (fun a l ρ q => by
    obtain ⟨ρ1, ρ2, e1, e2, e3⟩ := hs a l ρ q
    exact ⟨ρ1, e1, .inl ⟨ρ2, e2, e3⟩⟩) fun ρ q => ⟨ρ, rfl, q⟩
theorem for_R (I : List α → Env → Prop) (R : D → Prop) {l : List α} {ρ : Env} (h : I l ρ) (hs : ∀ a l ρ, I (a :: l) ρ → ∃ ρ1, b (enc a) ρ = some ρ1 ∧ ((∃ ρ2, (t ρ1 = .nx ρ2 ∨ t ρ1 = .ct ρ2) ∧ I l ρ2) ∨ ∃ d ρ2, t ρ1 = .rt d ρ2 ∧ R d)) :
    (∃ ρ', dForL b t (l.map enc) ρ = .nx ρ' ∧ I [] ρ') ∨ ∃ d ρ', dForL b t (l.map enc) ρ = .rt d ρ' ∧ R d :=
  for_P (P := fun o => (∃ ρ', o = .nx ρ' ∧ I [] ρ') ∨ ∃ d ρ', o = .rt d ρ' ∧ R d) I h (fun a l ρ q => by
    obtain ⟨ρ1, e1, e2 | ⟨d, ρ2, e2, e3⟩⟩ := hs a l ρ q
    · exact ⟨ρ1, e1, .inl e2⟩
    · exact ⟨ρ1, e1, .inr (.inr (.inl ⟨d, ρ2, e2, .inr ⟨d, ρ2, rfl, e3⟩⟩))⟩) fun ρ q => .inl ⟨ρ, rfl, q⟩
/-- a while by a measure: any end that P allows -/
theorem wh_P (P : SO → Prop) (I : Nat → Env → Prop)
    (hs : ∀ n ρ, I n ρ → (c ρ = .ok false ∧ P (.nx ρ)) ∨ (c ρ = .ok true ∧ ((∃ ρ2 m, (t ρ = .nx ρ2 ∨ t ρ = .ct ρ2) ∧ m < n ∧ I m ρ2) ∨ (∃ d ρ2, t ρ = .rt d ρ2 ∧ P (.rt d ρ2)) ∨ (∃ n ρ2, t ρ = .err n ρ2 ∧ P (.err n ρ2))))) :
    ∀ {n fuel : Nat} {ρ : Env}, I n ρ → n < fuel → P (dWh c t fuel ρ)
  | n, 0, ρ, _, h => by omega
  | n, fuel + 1, ρ, h, hf => by
    rw [wh_succ]
    rcases hs n ρ h with ⟨e1, e2⟩ | ⟨e1, ⟨ρ2, m, e2, e3, e4⟩ | ⟨d, ρ2, e2, e3⟩ | ⟨n, ρ2, e2, e3⟩⟩
    · rw [e1]; exact e2
    · rw [e1, lift_ok, if_pos rfl]
      have : loopR (t ρ) (dWh c t fuel) = dWh c t fuel ρ2 := by rcases e2 with e2 | e2 <;> rw [e2] <;> rfl
      rw [this]
      exact wh_P P I hs e4 (by omega)
    · rw [e1, lift_ok, if_pos rfl, e2]; exact e3
    · rw [e1, lift_ok, if_pos rfl, e2]; exact e3
theorem wh_I (I : Nat → Env → Prop) (J : Env → Prop) (hs : ∀ n ρ, I n ρ → (c ρ = .ok false ∧ J ρ) ∨ (c ρ = .ok true ∧ ∃ ρ2 m, (t ρ = .nx ρ2 ∨ t ρ = .ct ρ2) ∧ m < n ∧ I m ρ2)) {n fuel : Nat} {ρ : Env} (h : I n ρ) (hf : n < fuel) :
    ∃ ρ', dWh c t fuel ρ = .nx ρ' ∧ J ρ' :=
  wh_P (P := fun o => ∃ ρ', o = .nx ρ' ∧ J ρ') I (fun n ρ q => by
    rcases hs n ρ q with ⟨e1, e2⟩ | ⟨e1, e2⟩
    · exact .inl ⟨e1, ρ, rfl, e2⟩
    · exact .inr ⟨e1, .inl e2⟩) h hf
/-- enumerate, zip over typed items -/
theorem enumD_map {β : Type} (f : β → D) : ∀ (l : List β) (i : Nat), enumD i (l.map f) = (l.zipIdx i).map fun p => .tuple [.int (p.2 : Nat), f p.1]
  | [], _ => rfl
  | a :: l, i => by
    simp only [List.map_cons, enumD, List.zipIdx_cons, enumD_map f l (i + 1)]
theorem zipD2_map {β γ : Type} (f : β → D) (g : γ → D) : ∀ (l : List β) (m : List γ), zipD2 (l.map f) (m.map g) = (l.zip m).map fun p => .tuple [f p.1, g p.2]
  | [], _ => by simp [zipD2]
  | a :: l, [] => by simp [zipD2]
  | a :: l, b :: m => by simp only [List.map_cons, zipD2, List.zip_cons_cons, zipD2_map f g l m]
theorem zipD3_map {β γ δ : Type} (f : β → D) (g : γ → D) (h : δ → D) : ∀ (l : List β) (m : List γ) (n : List δ), zipD3 (l.map f) (m.map g) (n.map h) = (l.zip (m.zip n)).map fun p => .tuple [f p.1, g p.2.1, h p.2.2]
  | [], _, _ => by simp [zipD3]
  | a :: l, [], _ => by simp [zipD3]
  | a :: l, b :: m, [] => by simp [zipD3]
  | a :: l, b :: m, c :: n => by simp only [List.map_cons, zipD3, List.zip_cons_cons, zipD3_map f g h l m n]
end
@[simp] theorem s_callIO {n j1 j2 : Nat} {g : List D → Out (List D × List D)} {ga : DA} {ρ : Env} : dCallIO n j1 j2 g ga ρ = lift (ga ρ) ρ fun ds => if ds.length = n then (match g ds with
  | .ok (l, m) => .nx ((ρ.set j1 (some (.list l))).set j2 (some (.list m)))
  | _ => .bad) else .bad := rfl
@[simp] theorem s_defIO {N p q : Nat} {t : DS} {ds : List D} : dDefIO N p q t ds = (t (startE N ds)).finIO p q := rfl
@[simp] theorem io_nx {ρ : Env} {p q : Nat} : (SO.nx ρ).finIO p q = ioOf ρ p q := rfl
@[simp] theorem io_rt {ρ : Env} {p q : Nat} : (SO.rt .none ρ).finIO p q = ioOf ρ p q := rfl
@[simp] theorem io_ite {c : Prop} [Decidable c] {o o' : SO} {p q : Nat} : (if c then o else o').finIO p q = if c then o.finIO p q else o'.finIO p q := by split <;> rfl
@[simp] theorem s_raise {n : Nat} {ρ : Env} : dRaise n ρ = .err n ρ := rfl
@[simp] theorem s_asgG {b : D → Env → Option Env} {f : DE} {ρ : Env} : dAsgG b f ρ = lift (f ρ) ρ fun d => match b d ρ with
  | some ρ' => .nx ρ'
  | none => .bad := rfl
@[simp] theorem s_mulF {f g : DE} {ρ : Env} : dMulF f g ρ = (dOp mulD f g ρ).bind fun d => match d with | .list l => .ok (.list l) | _ => .bad := rfl
/-- paths -/
inductive Pth {α : Type} (E : α → α → Prop) : α → α → Prop
  | one {a b : α} : E a b → Pth E a b
  | snoc {a b c : α} : Pth E a b → E b c → Pth E a c
section
variable {α : Type} {E E' : α → α → Prop} {a b c : α}
theorem Pth.trans (h : Pth E a b) (k : Pth E b c) : Pth E a c := by
  induction k with
  | one e => exact .snoc h e
  | snoc _ e ih => exact .snoc ih e
theorem Pth.inv (P : α → Prop) (s : ∀ x y, P x → E x y → P y ∧ E' x y) (ha : P a) (h : Pth E a b) : P b ∧ Pth E' a b := by
  induction h with
  | one e => have := s _ _ ha e; exact ⟨this.1, .one this.2⟩
  | snoc _ e ih => have := s _ _ ih.1 e; exact ⟨this.1, .snoc ih.2 this.2⟩
theorem Pth.mono (s : ∀ x y, E x y → E' x y) (h : Pth E a b) : Pth E' a b := (Pth.inv (P := fun _ => True) (fun x y _ e => ⟨trivial, s x y e⟩) trivial h).2
/-- what becomes less at each step -/
theorem Pth.less (P : α → Prop) (f : α → Int) (s : ∀ x y, P x → E x y → P y ∧ f y < f x) (ha : P a) (h : Pth E a b) : P b ∧ f b < f a := by
  induction h with
  | one e => exact s _ _ ha e
  | snoc _ e ih => have := s _ _ ih.1 e; exact ⟨this.1, by omega⟩
theorem Pth.le (P : α → Prop) (f : α → Int) (s : ∀ x y, P x → E x y → P y ∧ f y ≤ f x) (ha : P a) (h : Pth E a b) : P b ∧ f b ≤ f a := by
  induction h with
  | one e => exact s _ _ ha e
  | snoc _ e ih => have := s _ _ ih.1 e; exact ⟨this.1, by omega⟩
theorem Pth.first (h : Pth E a b) : ∃ c, E a c ∧ (c = b ∨ Pth E c b) := by
  induction h with
  | one e => exact ⟨_, e, .inl rfl⟩
  | snoc _ e ih =>
    obtain ⟨c, h1, h2 | h2⟩ := ih
    · exact ⟨c, h1, .inr (by rw [h2]; exact .one e)⟩
    · exact ⟨c, h1, .inr (.snoc h2 e)⟩
end
end Pd

namespace K04
open PySem L2 Pd
/-! ### what the script gives -/
def cell (ns : List Int) (k : Int) : Int := if k < ns.length then (atI ns k).getD 0 else 0
theorem atI_in {α : Type} (l : List α) (k : Int) (h : 0 ≤ k) (h2 : k < l.length) : ∃ x, atI l k = some x ∧ x ∈ l := by
  have e : ixN l.length k = some k.toNat := by unfold ixN; rw [if_pos h, if_pos h2]
  have hl : k.toNat < l.length := by omega
  exact ⟨l[k.toNat], by unfold atI; rw [e]; exact List.getElem?_eq_getElem hl, List.getElem_mem hl⟩
theorem e_cell (ns : List Int) (k : Int) (h : 0 ≤ k) : d__law_cell_at [.scr ns, .int k] = .ok (.int (cell ns k)) := by
  simp [d__law_cell_at, b__law_cell_at, cell]
  by_cases h2 : k < ns.length
  · obtain ⟨x, e, _⟩ := atI_in ns k h h2
    simp [h2, getD, e]
  · simp [h2]
def mixI (ns : List Int) (k : Int) : Int :=
  let d := (cell ns k + 7919 * k + 1) * 48271 % 2147483647
  (d * d + 7 * d + k) % 2147483629
theorem mixI_b (ns : List Int) (k : Int) : 0 ≤ mixI ns k ∧ mixI ns k < 2147483629 := by
  unfold mixI
  exact ⟨Int.emod_nonneg _ (by decide), Int.emod_lt_of_pos _ (by decide)⟩
theorem e_mixed (ns : List Int) (k : Int) (h : 0 ≤ k) : d__law_mixed [.scr ns, .int k] = .ok (.int (mixI ns k)) := by
  have h1 := Int.emod_nonneg ((cell ns k + 7919 * k + 1) * 48271) (show (2147483647 : Int) ≠ 0 by decide)
  have h2 := Int.emod_lt_of_pos ((cell ns k + 7919 * k + 1) * 48271) (show (0 : Int) < 2147483647 by decide)
  simp [d__law_mixed, b__law_mixed, e_cell ns k h, mulOk]
  rw [if_pos (by omega)]
  rfl
def drwI (n k : Int) : Int :=
  let d := (n + 104729 * k + 17) * 69621 % 2147483647
  (d * d + 3 * d + k) % 2147483629
theorem drwI_b (n k : Int) : 0 ≤ drwI n k ∧ drwI n k < 2147483629 := by
  unfold drwI
  exact ⟨Int.emod_nonneg _ (by decide), Int.emod_lt_of_pos _ (by decide)⟩
theorem e_drawn (n k : Int) : d__law_drawn [.int n, .int k] = .ok (.int (drwI n k)) := by
  have h1 := Int.emod_nonneg ((n + 104729 * k + 17) * 69621) (show (2147483647 : Int) ≠ 0 by decide)
  have h2 := Int.emod_lt_of_pos ((n + 104729 * k + 17) * 69621) (show (0 : Int) < 2147483647 by decide)
  simp [d__law_drawn, b__law_drawn, mulOk]
  rw [if_pos (by omega)]
  rfl
/-! ### goals -/
def encG (ks : List Int) : List (Key × V) := ks.map fun i => (.inl i, .bl true)
def addG (ks : List Int) (i : Int) : List Int := if i ∈ ks then ks else ks ++ [i]
theorem encG_put (ks : List Int) (i : Int) : putK (encG ks) (.inl i) (.bl true) = encG (addG ks i) := by
  unfold putK addG encG
  have e : ((ks.map fun i => ((.inl i, .bl true) : Key × V)).any fun kv => decide (kv.1 = .inl i)) = decide (i ∈ ks) := by
    rw [List.any_map, Bool.eq_iff_iff]
    simp [Function.comp]
  rw [e]
  by_cases h : i ∈ ks
  · simp only [h, decide_true, if_true, List.map_map]
    apply List.map_congr_left
    intro a _
    by_cases q : a = i <;> simp [q]
  · simp [h]
theorem encG_keys (ks : List Int) : keysI (encG ks) = some ks := by
  induction ks with
  | nil => rfl
  | cons k ks ih => simp only [encG, List.map_cons, keysI] at ih ⊢; rw [ih]; rfl
structure Gok (c : Int) (ks : List Int) : Prop where
  nd : ks.Nodup
  rg : ∀ i ∈ ks, 0 ≤ i ∧ i < c
theorem addG_ok {c : Int} {ks : List Int} {i : Int} (h : Gok c ks) (h1 : 0 ≤ i) (h2 : i < c) : Gok c (addG ks i) := by
  unfold addG
  split
  · exact h
  · rename_i q
    refine ⟨List.nodup_append.mpr ⟨h.nd, by simp, fun a ha b hb e => ?_⟩, fun a ha => ?_⟩
    · simp at hb; subst hb; subst e; exact q ha
    · rcases List.mem_append.mp ha with z | z
      · exact h.rg a z
      · simp at z; subst z; exact ⟨h1, h2⟩
theorem addG_len {ks : List Int} {i : Int} : (addG ks i).length ≤ ks.length + 1 := by
  unfold addG
  split <;> simp
theorem addG_ne {ks : List Int} {i : Int} : addG ks i ≠ [] := by
  unfold addG
  split
  · rename_i h; intro z; rw [z] at h; cases h
  · simp
theorem e_gloop (n c : Int) (hc : 0 < c) : ∀ (l : List D) (ks : List Int) (x : Option D), (∀ d ∈ l, ∃ i : Int, d = .int i) → Gok c ks → ks.length + l.length ≤ 60 →
    ∃ ks' x', dForL (b1 3) l1__law_goals l [some (.int n), some (.int c), some (.dk (encG ks)), x] = .nx [some (.int n), some (.int c), some (.dk (encG ks')), x'] ∧ Gok c ks' ∧ ks'.length ≤ ks.length + l.length ∧ ((l ≠ [] ∨ ks ≠ []) → ks' ≠ [])
  | [], ks, x, _, h, _ => ⟨ks, x, rfl, h, Nat.le_refl _, fun z => z.elim (fun z => absurd rfl z) id⟩
  | d :: l, ks, x, hl, h, hn => by
    obtain ⟨i, rfl⟩ := hl d List.mem_cons_self
    have hb := Int.emod_nonneg (drwI n i) (show c ≠ 0 by omega)
    have hb2 := Int.emod_lt_of_pos (drwI n i) hc
    simp only [List.length_cons] at hn
    have hlen := addG_len (ks := ks) (i := drwI n i % c)
    obtain ⟨ks', x', e, h1, h2, h3⟩ := e_gloop n c hc l (addG ks (drwI n i % c)) (some (.int i)) (fun d hd => hl d (List.mem_cons_of_mem _ hd)) (addG_ok h hb hb2) (by omega)
    refine ⟨ks', x', ?_, h1, by simp only [List.length_cons]; omega, fun _ => h3 (.inr addG_ne)⟩
    rw [fl_cons]
    have hlen2 : (encG ks).length ≤ 100000 := by simp [encG]; omega
    simp [l1__law_goals, dPutK, atK, D.sc, e_drawn, hc, dkey, hlen2, encG_put]
    exact e
theorem e_goals (n c : Int) (hc : 0 < c) : ∃ gs : List Int, d__law_goals [.int n, .int c] = .ok (.tuple (gs.map .int)) ∧ gs.Pairwise (· < ·) ∧ gs ≠ [] ∧ (∀ i ∈ gs, 0 ≤ i ∧ i < c) ∧ gs.length ≤ 60 := by
  have hm := Int.emod_nonneg n (show (3 : Int) ≠ 0 by decide)
  have hm2 := Int.emod_lt_of_pos n (show (0 : Int) < 3 by decide)
  have key : ∀ m : Int, 1 ≤ m → m ≤ 23 → ∃ ks' x', dForL (b1 3) l1__law_goals (rngD 0 m.toNat) [some (.int n), some (.int c), some (.dk []), none] = .nx [some (.int n), some (.int c), some (.dk (encG ks')), x'] ∧ Gok c ks' ∧ ks'.length ≤ 23 ∧ ks' ≠ [] := fun m h1 h2 => by
    obtain ⟨ks', x', e, q1, q2, q3⟩ := e_gloop n c hc (rngD 0 m.toNat) [] none (fun d hd => by obtain ⟨i, _, rfl⟩ := rngD_mem hd; exact ⟨_, rfl⟩) ⟨by simp, by simp⟩ (by simp; omega)
    refine ⟨ks', x', e, q1, by simp at q2; omega, q3 (.inl fun z => ?_)⟩
    have := congrArg List.length z
    simp at this
    omega
  have fin : ∀ ks : List Int, Gok c ks → ks.length ≤ 23 → ks ≠ [] → (sortI ks).Pairwise (· < ·) ∧ sortI ks ≠ [] ∧ (∀ i ∈ sortI ks, 0 ≤ i ∧ i < c) ∧ (sortI ks).length ≤ 60 := fun ks h1 h2 h3 => by
    refine ⟨sortI_lt h1.nd, fun z => h3 ?_, fun i hi => h1.rg i (sortI_mem.mp hi), by rw [sortI_len]; omega⟩
    have := congrArg List.length z
    rw [sortI_len] at this
    exact List.length_eq_zero_iff.mp this
  simp [d__law_goals, b__law_goals, mulOk]
  by_cases h7 : n / 3 % 29 = 7
  · obtain ⟨ks, x', e, q1, q2, q3⟩ := key (1 + n % 3 + 20) (by omega) (by omega)
    obtain ⟨f1, f2, f3, f4⟩ := fin ks q1 q2 q3
    refine ⟨sortI ks, ?_, f1, f2, f3, f4⟩
    have hl : ks.length < 64 := by omega
    simp [h7, e, sortC, encG_keys, hl]
    omega
  · obtain ⟨ks, x', e, q1, q2, q3⟩ := key (1 + n % 3) (by omega) (by omega)
    obtain ⟨f1, f2, f3, f4⟩ := fin ks q1 q2 q3
    refine ⟨sortI ks, ?_, f1, f2, f3, f4⟩
    have hl : ks.length < 64 := by omega
    simp [h7, e, sortC, encG_keys, hl]
    omega
/-! ### places and grounds -/
structure Place where
  o : Int
  m : Int
  g : Int
  gs : List Int
def encP (p : Place) : D := .tuple [.int p.o, .int p.m, .int p.g, .tuple (p.gs.map .int)]
def encGr (ps : List Place) : D := .tuple (ps.map encP)
structure POk (c hi : Int) (p : Place) : Prop where
  o0 : 0 ≤ p.o
  o1 : p.o ≤ 1
  m0 : 0 ≤ p.m
  m1 : p.m ≤ hi
  g0 : -20 ≤ p.g
  g1 : p.g ≤ 20
  up : p.gs.Pairwise (· < ·)
  ne : p.gs ≠ []
  rg : ∀ i ∈ p.gs, 0 ≤ i ∧ i < c
  le : p.gs.length ≤ 60
theorem e_place (n c hi : Int) (hc : 0 < c) (hh : 0 ≤ hi) : ∃ p, d__law_place [.int n, .int c, .int hi] = .ok (encP p) ∧ POk c hi p := by
  obtain ⟨gs, e, h1, h2, h3, h4⟩ := e_goals (drwI n 9) c hc
  have a1 := Int.emod_nonneg n (show (2 : Int) ≠ 0 by decide)
  have a2 := Int.emod_lt_of_pos n (show (0 : Int) < 2 by decide)
  have b1 := Int.emod_nonneg (n / 2) (show hi + 1 ≠ 0 by omega)
  have b2 := Int.emod_lt_of_pos (n / 2) (show (0 : Int) < hi + 1 by omega)
  have c1 : (0 : Int) < hi + 1 := by omega
  by_cases h : n / 234 % 11 = 3
  · refine ⟨⟨n % 2, n / 2 % (hi + 1), n / 26 % 41 - 20, gs⟩, ?_, ⟨a1, by dsimp only; omega, b1, by dsimp only; omega, by dsimp only; omega, by dsimp only; omega, h1, h2, h3, h4⟩⟩
    simp [d__law_place, b__law_place, h, e_drawn, e, encP, c1]
  · refine ⟨⟨n % 2, n / 2 % (hi + 1), n / 26 % 9 - 4, gs⟩, ?_, ⟨a1, by dsimp only; omega, b1, by dsimp only; omega, by dsimp only; omega, by dsimp only; omega, h1, h2, h3, h4⟩⟩
    simp [d__law_place, b__law_place, h, e_drawn, e, encP, c1]
structure GOk (hi : Int) (ps : List Place) : Prop where
  ne : 0 < ps.length
  ok : ∀ p ∈ ps, POk ps.length hi p
theorem e_ground (ns : List Int) (most : Int) (h1 : 1 ≤ most) (h2 : most ≤ 24) : ∃ ps, d__law_ground [.scr ns, .int most] = .ok (encGr ps) ∧ GOk 12 ps ∧ (ps.length : Int) ≤ most := by
  obtain ⟨mn, e0, hm1, hm2⟩ : ∃ mn : Int, (if (if (ns.length : Int) > 4 then (ns.length : Int) else 4) < most then (if (ns.length : Int) > 4 then (ns.length : Int) else 4) else most) = mn ∧ 1 ≤ mn ∧ mn ≤ most := by
    refine ⟨_, rfl, ?_, ?_⟩ <;> split <;> (try split) <;> omega
  have a1 := Int.emod_nonneg (mixI ns 0) (show mn ≠ 0 by omega)
  have a2 := Int.emod_lt_of_pos (mixI ns 0) (show (0 : Int) < mn by omega)
  have hi0 := Int.emod_nonneg (mixI ns 0 / 24) (show (6 : Int) ≠ 0 by decide)
  have hi1 := Int.emod_lt_of_pos (mixI ns 0 / 24) (show (0 : Int) < 6 by decide)
  obtain ⟨hx, eh, hmem⟩ := atI_in [D.int 1, .int 2, .int 3, .int 5, .int 12, .int 12] (mixI ns 0 / 24 % 6) hi0 (by simpa using hi1)
  obtain ⟨hg, rfl, hg0, hg1⟩ : ∃ hg : Int, hx = .int hg ∧ 0 ≤ hg ∧ hg ≤ 12 := by
    simp at hmem
    rcases hmem with h | h | h | h | h <;> exact ⟨_, h, by decide, by decide⟩
  have hmn : (0 : Int) < mn := by omega
  generalize hcnt : 1 + mixI ns 0 % mn = cnt at *
  have hc0 : 0 < cnt := by omega
  obtain ⟨ps, e, hl, hr⟩ := lc_map2 (α := Place) (enc := encP) (R := fun _ p => POk cnt hg p) (b := b1 5) (elt := dUse 3 d__law_place (dCons (dUse 2 d__law_mixed (dCons (dVar 0) (dCons (dOp addD (dC (.int 3)) (dVar 5)) dNil))) (dCons (dVar 3) (dCons (dVar 4) dNil))))
    (ρ := [some (.scr ns), some (.int most), some (.int (mixI ns 0)), some (.int cnt), some (.int hg), none]) (ds := rngD 0 cnt.toNat) fun d hd => by
      obtain ⟨i, _, rfl⟩ := rngD_mem hd
      obtain ⟨p, ep, hp⟩ := e_place (mixI ns (3 + (0 + i))) cnt hg hc0 hg0
      refine ⟨_, p, s_b1, ?_, hp⟩
      simp only [s_use, s_cons, List.set_cons_succ, List.set_cons_zero, varS, var0, s_op, s_c, s_nil, e_add, s_some, Out.ok_bind]
      simp only [List.length_cons, List.length_nil, if_true, e_mixed ns (3 + (0 + i)) (by omega), Out.ok_bind, ep]
  have hlen : (ps.length : Int) = cnt := by rw [hl, rngD_len]; omega
  refine ⟨ps, ?_, ⟨by omega, fun p hp => ?_⟩, by omega⟩
  · simp [d__law_ground, b__law_ground, e_mixed ns 0 (by decide), e0, hmn, hcnt, getD, eh]
    have hb : -100000 ≤ cnt ∧ cnt ≤ 100000 := by omega
    simp [hb, e, encGr]
  · obtain ⟨i, hi, rfl⟩ := List.mem_iff_getElem.mp hp
    have hi2 : i < (rngD 0 cnt.toNat).length := by rw [← hl]; exact hi
    have q := hr i _ _ (List.getElem?_eq_getElem hi2) (List.getElem?_eq_getElem hi)
    rw [hlen]
    exact ⟨q.o0, q.o1, q.m0, Int.le_trans q.m1 hg1, q.g0, q.g1, q.up, q.ne, q.rg, q.le⟩
/-! ### what a ground is -/
theorem e_is_number (d : D) (lo hi : Int) : d_is_number [d, .int lo, .int hi] = .ok (.bool (isNum d lo hi)) := by
  cases d <;> simp [d_is_number, b_is_number, isNum]
  rename_i i
  by_cases h : lo ≤ i <;> simp [h]
/-- rising whole numbers from above a on, below n -/
def rising (n : Int) : Int → List D → Bool
  | _, [] => true
  | a, .int i :: l => decide (a < i) && decide (i < n) && rising n i l
  | _, _ :: _ => false
def someB (d : D) (n : Int) : Bool := match d with
  | .tuple l => rising n (-1) l
  | .ftup l => rising n (-1) l
  | _ => false
theorem e_loop1 (th : D) (n : Int) (l : List D) : ∀ (a : Int) (x : Option D), ((dForL (b1 3) l1_are_some l [some th, some (.int n), some (.int a), x]).seq (dRet (dC (.bool true)))).fin = .ok (.bool (rising n a l)) := by
  induction l with
  | nil => intro a x; simp [rising]
  | cons d l ih =>
    intro a x
    rw [fl_cons]
    generalize dForL (b1 3) l1_are_some l = K at ih ⊢
    cases d <;> simp [l1_are_some, e_is_number, isNum, rising]
    rename_i i
    by_cases h : a < i
    · by_cases h2 : i < n
      · have q1 : ¬ i < a + 1 := by omega
        have q2 : ¬ n - 1 < i := by omega
        simp [h, h2, q1, q2]
        exact ih i _
      · have q : n - 1 < i := by omega
        simp [h, h2, q]
    · have q : i < a + 1 := by omega
      simp [h, q]
theorem e_are_some (d : D) (n : Int) (hd : D.pl d = true) (hk : ∀ l, d ≠ .ktup l) : d_are_some [d, .int n] = .ok (.bool (someB d n)) := by
  cases d <;> simp [d_are_some, b_are_some, someB]
  · rename_i l
    have := e_loop1 (.tuple l) n l (-1) none
    simpa using this
  · exact absurd rfl (hk _)
  · rename_i l
    have := e_loop1 (.ftup l) n l (-1) none
    simpa using this
theorem e_loop2 (th : D) (n : Int) (l : List D) : ∀ (a : Int) (x : Option D), ((dForL (b1 3) l1__law_rising l [some th, some (.int n), some (.int a), x]).seq (dRet (dC (.bool true)))).fin = .ok (.bool (rising n a l)) := by
  induction l with
  | nil => intro a x; simp [rising]
  | cons d l ih =>
    intro a x
    rw [fl_cons]
    generalize dForL (b1 3) l1__law_rising l = K at ih ⊢
    cases d <;> simp [l1__law_rising, rising]
    rename_i i
    by_cases h : a < i
    · by_cases h2 : i < n
      · have q : ¬ n ≤ i := by omega
        simp [h, h2, q]
        exact ih i _
      · simp [h, h2]
    · simp [h]
theorem e__law_rising (d : D) (n : Int) (hk : ∀ l, d ≠ .ktup l) : d__law_rising [d, .int n] = .ok (.bool (someB d n)) := by
  cases d <;> simp [d__law_rising, b__law_rising, someB]
  · rename_i l
    have := e_loop2 (.tuple l) n l (-1) none
    simpa using this
  · exact absurd rfl (hk _)
  · rename_i l
    have := e_loop2 (.ftup l) n l (-1) none
    simpa using this
mutual
/-- no module's tuple within -/
def D.pk : D → Bool
  | .none => true
  | .bool _ => true
  | .int _ => true
  | .str _ => true
  | .list l => D.pkA l
  | .tuple l => D.pkA l
  | _ => false
def D.pkA : List D → Bool
  | [] => true
  | d :: l => D.pk d && D.pkA l
end
theorem pkA_iff : ∀ {l : List D}, D.pkA l = true ↔ ∀ x ∈ l, D.pk x = true
  | [] => by simp [D.pkA]
  | d :: l => by simp [D.pkA, pkA_iff (l := l)]
mutual
theorem pk_pl : ∀ d : D, D.pk d = true → D.pl d = true
  | .none, _ | .bool _, _ | .int _, _ | .str _, _ => rfl
  | .list l, h => by simp only [D.pk] at h; simp only [D.pl]; exact pkA_plA l h
  | .tuple l, h => by simp only [D.pk] at h; simp only [D.pl]; exact pkA_plA l h
  | .dk _, h | .dt _, h | .scr _, h | .ktup _, h => by cases h
theorem pkA_plA : ∀ l : List D, D.pkA l = true → D.plA l = true
  | [], _ => rfl
  | d :: l, h => by
    simp only [D.pkA, Bool.and_eq_true] at h
    simp only [D.plA, Bool.and_eq_true]
    exact ⟨pk_pl d h.1, pkA_plA l h.2⟩
end
theorem pk_nk {d : D} (h : D.pk d = true) : ∀ l, d ≠ .ktup l := fun l e => by rw [e] at h; cases h
theorem e__law_number (d : D) (lo hi : Int) : d__law_number [d, .int lo, .int hi] = .ok (.bool (isNum d lo hi)) := by
  cases d <;> simp [d__law_number, b__law_number, isNum]
  rename_i i
  by_cases h : lo ≤ i <;> simp [h]
def placeB (d : D) (n : Int) : Bool := match d with
  | .tuple [a, b, c, e] => isNum a 0 1 && isNum b 0 12 && isNum c (-20) 20 && someB e n && (match e with | .tuple l => !l.isEmpty | _ => false)
  | _ => false
theorem four {l : List D} (h : l.length = 4) : ∃ a b c e, l = [a, b, c, e] := by
  match l, h with
  | [a, b, c, e], _ => exact ⟨a, b, c, e, rfl⟩
theorem placeB_len {l : List D} {n : Int} (h : ¬ l.length = 4) : placeB (.tuple l) n = false := by
  unfold placeB
  split
  · rename_i a b c e q
    cases q
    exact absurd rfl h
  · rfl
theorem at4 (a b c e : D) : atI [a, b, c, e] 0 = some a ∧ atI [a, b, c, e] 1 = some b ∧ atI [a, b, c, e] 2 = some c ∧ atI [a, b, c, e] 3 = some e := ⟨rfl, rfl, rfl, rfl⟩
theorem e_is_place (d : D) (n : Int) (h : D.pk d = true) : d_is_place [d, .int n] = .ok (.bool (placeB d n)) := by
  cases d with
  | tuple l =>
    by_cases h4 : l.length = 4
    · obtain ⟨a, b, c, e, rfl⟩ := four h4
      obtain ⟨q1, q2, q3, q4⟩ := at4 a b c e
      simp only [D.pk, D.pkA, Bool.and_eq_true] at h
      simp [d_is_place, b_is_place, getD, q1, q2, q3, q4, e_is_number, placeB]
      cases isNum a 0 1 <;> simp
      cases isNum b 0 12 <;> simp
      cases isNum c (-20) 20 <;> simp
      simp [e_are_some e n (pk_pl _ h.2.2.2.1) (pk_nk h.2.2.2.1)]
      cases e <;> first | exact absurd h.2.2.2.1 Bool.false_ne_true | simp [someB]
      rename_i l
      cases rising n (-1) l <;> simp
      cases l <;> simp
    · have h4' : ¬ ((l.length : Int) = 4) := by omega
      simp [d_is_place, b_is_place, h4', placeB_len h4]
  | ktup l => cases h
  | ftup l => cases h
  | _ => simp [d_is_place, b_is_place, placeB]
theorem e__law_is_place (d : D) (n : Int) (h : D.pk d = true) : d__law_is_place [d, .int n] = .ok (.bool (placeB d n)) := by
  cases d with
  | tuple l =>
    by_cases h4 : l.length = 4
    · obtain ⟨a, b, c, e, rfl⟩ := four h4
      obtain ⟨q1, q2, q3, q4⟩ := at4 a b c e
      simp only [D.pk, D.pkA, Bool.and_eq_true] at h
      simp [d__law_is_place, b__law_is_place, getD, q1, q2, q3, q4, e__law_number, placeB]
      cases isNum a 0 1 <;> simp
      cases isNum b 0 12 <;> simp
      cases isNum c (-20) 20 <;> simp
      simp [e__law_rising e n (pk_nk h.2.2.2.1)]
      cases e <;> first | exact absurd h.2.2.2.1 Bool.false_ne_true | simp [someB]
      rename_i l
      have hp : D.plA l = true := by
        have := pk_pl _ h.2.2.2.1
        simpa only [D.pl] using this
      by_cases hr : rising n (-1) l = true <;> simp [hr, e_neT0 hp]
    · have h4' : ¬ ((l.length : Int) = 4) := by omega
      simp [d__law_is_place, b__law_is_place, h4', placeB_len h4]
  | ktup l => cases h
  | ftup l => cases h
  | _ => simp [d__law_is_place, b__law_is_place, placeB]
def groundB (d : D) : Bool := match d with
  | .tuple l => decide (0 < l.length) && decide (l.length ≤ 24) && l.all fun p => placeB p l.length
  | _ => false
theorem e_is_ground (d : D) (h : D.pk d = true) : d_is_ground [d] = .ok (.bool (groundB d)) := by
  cases d with
  | tuple l =>
    simp only [D.pk] at h
    have hm : dLcL (b1 1) dYes (dUse 2 d_is_place (dCons (dVar 1) (dCons (dCall lenD (dCons (dVar 0) dNil)) dNil))) [some (.tuple l), none] l = .ok ((l.map fun p => placeB p l.length).map .bool) := by
      rw [List.map_map]
      refine lc_map fun p hp => ⟨_, s_b1, ?_⟩
      simp [e_is_place p l.length (pkA_iff.mp h p hp)]
    by_cases h0 : l.length = 0
    · have h0' : (l.length : Int) = 0 := by omega
      have h0'' : l = [] := List.length_eq_zero_iff.mp h0
      simp [d_is_ground, b_is_ground, h0'', groundB]
    · by_cases h24 : l.length ≤ 24
      · have q1 : ¬ ((l.length : Int) = 0) := by omega
        have q2 : ¬ ((24 : Int) < l.length) := by omega
        have q3 : ¬ l = [] := fun z => h0 (by rw [z]; rfl)
        have q4 : 0 < l.length := by omega
        simp [d_is_ground, b_is_ground, groundB, q1, q2, q3, q4, h24, hm, allC]
      · have q1 : ¬ ((l.length : Int) = 0) := by omega
        have q2 : (24 : Int) < l.length := by omega
        have q3 : ¬ l = [] := fun z => h0 (by rw [z]; rfl)
        simp [d_is_ground, b_is_ground, groundB, q1, q2, q3, h24]
  | ktup l => cases h
  | ftup l => cases h
  | _ => simp [d_is_ground, b_is_ground, groundB]
theorem e__law_is_ground (d : D) (h : D.pk d = true) : d__law_is_ground [d] = .ok (.bool (groundB d)) := by
  cases d with
  | tuple l =>
    simp only [D.pk] at h
    have hm : dLcL (b1 1) (dNot (dTv (dUse 2 d__law_is_place (dCons (dVar 1) (dCons (dCall lenD (dCons (dVar 0) dNil)) dNil))))) (dVar 1) [some (.tuple l), none] l = .ok ((l.filter fun p => !placeB p l.length).map id) := by
      refine lc_gen fun p hp => ⟨_, s_b1, ?_, fun _ => ?_⟩
      · simp [e__law_is_place p l.length (pkA_iff.mp h p hp)]
      · simp
    have hpl : D.plA (l.filter fun p => !placeB p l.length) = true := pkA_plA _ (pkA_iff.mpr fun x hx => pkA_iff.mp h x (List.mem_filter.mp hx).1)
    by_cases h0 : 0 < l.length
    · by_cases h24 : l.length ≤ 24
      · have q1 : (0 : Int) < l.length := by omega
        have q2 : (l.length : Int) < 25 := by omega
        simp [d__law_is_ground, b__law_is_ground, groundB, q1, q2, h0, h24, hm, e_eqL0 hpl]
        rw [Bool.eq_iff_iff]
        simp [List.isEmpty_iff]
      · have q1 : (0 : Int) < l.length := by omega
        have q2 : ¬ (l.length : Int) < 25 := by omega
        simp [d__law_is_ground, b__law_is_ground, groundB, q1, q2, h0, h24]
    · have h0'' : l = [] := List.length_eq_zero_iff.mp (by omega)
      subst h0''
      simp [d__law_is_ground, b__law_is_ground, groundB]
  | ktup l => cases h
  | ftup l => cases h
  | _ => simp [d__law_is_ground, b__law_is_ground, groundB]

theorem inc_len {b : Int} : ∀ {S : List Int} {a : Int}, S.Pairwise (· < ·) → (∀ i ∈ S, a ≤ i ∧ i < b) → S.length ≤ (b - a).toNat
  | [], _, _, _ => Nat.zero_le _
  | i :: S, a, h, h2 => by
    have hp := List.pairwise_cons.mp h
    have h3 := h2 i List.mem_cons_self
    have := inc_len (a := i + 1) hp.2 fun j hj => ⟨by have := hp.1 j hj; omega, (h2 j (List.mem_cons_of_mem _ hj)).2⟩
    simp only [List.length_cons]
    omega
def encM : Option Int → D
  | none => .none
  | some i => .int i
theorem get3 (p : Place) : getD (encP p) (.int 3) = some (.tuple (p.gs.map .int)) := rfl
/-! ### places by number, sets of places -/
def noPl : Place := ⟨0, 0, 0, []⟩
def pl (ps : List Place) (v : Int) : Place := (ps[v.toNat]?).getD noPl
theorem pl_at {ps : List Place} {v : Int} (h0 : 0 ≤ v) (h1 : v < ps.length) : ps[v.toNat]? = some (pl ps v) := by
  unfold pl
  have : v.toNat < ps.length := by omega
  rw [List.getElem?_eq_getElem this]
  rfl
theorem pl_mem {ps : List Place} {v : Int} (h0 : 0 ≤ v) (h1 : v < ps.length) : pl ps v ∈ ps := List.mem_of_getElem? (pl_at h0 h1)
theorem atI_pl {ps : List Place} {v : Int} (h0 : 0 ≤ v) (h1 : v < ps.length) : atI ps v = some (pl ps v) := by
  unfold atI ixN
  rw [if_pos h0, if_pos h1]
  exact pl_at h0 h1
theorem get_pl {ps : List Place} {v : Int} (h0 : 0 ≤ v) (h1 : v < ps.length) : getD (encGr ps) (.int v) = some (encP (pl ps v)) := by
  unfold encGr
  rw [get_t, atI_map, atI_pl h0 h1]
  rfl
theorem get0 (p : Place) : getD (encP p) (.int 0) = some (.int p.o) := rfl
theorem get1 (p : Place) : getD (encP p) (.int 1) = some (.int p.m) := rfl
theorem get2 (p : Place) : getD (encP p) (.int 2) = some (.int p.g) := rfl
theorem len_gr (ps : List Place) : lenD [encGr ps] = some (.int ps.length) := by simp [encGr]
theorem any_eqv (i : Int) : ∀ gs : List Int, ((gs.map D.int).any fun y => eqv y (.int i)) = decide (i ∈ gs)
  | [] => by simp
  | g :: gs => by
    simp only [List.map_cons, List.any_cons, any_eqv i gs, List.mem_cons]
    have : eqv (.int g) (.int i) = decide (i = g) := by
      simp [eqv, D.py, PyData.eqv]
      rw [Bool.eq_iff_iff]
      simp
      exact eq_comm
    rw [this]
    by_cases h : i = g <;> simp [h]
theorem plA_ints : ∀ gs : List Int, D.plA (gs.map .int) = true
  | [] => rfl
  | g :: gs => by simp [D.plA, D.pl, plA_ints gs]
theorem in_T (i : Int) (gs : List Int) : inD (.int i) (.tuple (gs.map .int)) = some (decide (i ∈ gs)) := by
  simp [inD, D.pl, plA_ints, dep, D.py, PyData.depth]
  have := any_eqv i gs
  rw [List.any_map] at this
  exact this
theorem in_L (i : Int) (gs : List Int) : inD (.int i) (.list (gs.map .int)) = some (decide (i ∈ gs)) := by
  simp [inD, D.pl, plA_ints, dep, D.py, PyData.depth]
  have := any_eqv i gs
  rw [List.any_map] at this
  exact this
theorem nin_T (i : Int) (gs : List Int) : ninD (.int i) (.tuple (gs.map .int)) = some (!decide (i ∈ gs)) := by simp [ninD, in_T]
theorem nin_L (i : Int) (gs : List Int) : ninD (.int i) (.list (gs.map .int)) = some (!decide (i ∈ gs)) := by simp [ninD, in_L]
theorem lc_rng {b : D → List (Option D) → Option (List (Option D))} {elt : List (Option D) → Out D} {ρ : List (Option D)} {f g : Int → D} : ∀ {l : List Int}, (∀ v ∈ l, ∃ ρ1, b (f v) ρ = some ρ1 ∧ elt ρ1 = .ok (g v)) →
    dLcL b dYes elt ρ (l.map f) = .ok (l.map g)
  | [], _ => rfl
  | a :: l, h => by
    obtain ⟨ρ1, h1, h2⟩ := h a List.mem_cons_self
    have ih := lc_rng (l := l) fun v hv => h v (List.mem_cons_of_mem _ hv)
    rw [List.map_cons]
    unfold dLcL
    rw [h1]
    simp [h2, ih]
/-! ### texts -/
theorem str_assoc (a b c : Str) : a ++ b ++ c = a ++ (b ++ c) := by
  show Str.append (Str.append a b) c = Str.append a (Str.append b c)
  unfold Str.append
  simp [Array.append_assoc]
theorem str_nil (a : Str) : Str.empty ++ a = a := by
  show Str.append Str.empty a = a
  unfold Str.append Str.empty
  simp
theorem str_nil2 (a : Str) : a ++ Str.empty = a := by
  show Str.append a Str.empty = a
  unfold Str.append Str.empty
  simp
theorem str_len (a b : Str) : (a ++ b).length = a.length + b.length := by
  show (a.cps ++ b.cps).size = _
  rw [Array.size_append]
  rfl
def sI (i : Int) : Str := Str.ofString (toString i)
theorem sI_len {i : Int} (h : -30 ≤ i) (h2 : i ≤ 60) : (sI i).length ≤ 62 := by
  have := PyProof.Rows.len_str_of_int i
  unfold sI
  omega
theorem e_str {i : Int} (h : -30 ≤ i) (h2 : i ≤ 60) : strC [.int i] = some (.str (sI i)) := by
  show (if _ then _ else _) = _
  have h3 : i.natAbs < 100 := by omega
  rw [if_pos (Nat.lt_of_lt_of_le h3 (by decide +kernel))]
  rfl
def sp : Str := Str.ofString " "
/-- each word behind a blank -/
def wcat : List Str → Str
  | [] => Str.empty
  | w :: ws => sp ++ w ++ wcat ws
theorem wcat_app (a b : List Str) : wcat (a ++ b) = wcat a ++ wcat b := by
  induction a with
  | nil => rw [List.nil_append]; exact (str_nil _).symm
  | cons w a ih =>
    show sp ++ w ++ wcat (a ++ b) = sp ++ w ++ wcat a ++ wcat b
    rw [ih, str_assoc (sp ++ w)]
theorem join_sp (w : Str) (ws : List Str) : Str.join sp (w :: ws) = w ++ wcat ws := by
  induction ws generalizing w with
  | nil => exact (str_nil2 w).symm
  | cons x ws ih =>
    show w ++ sp ++ Str.join sp (x :: ws) = w ++ (sp ++ x ++ wcat ws)
    rw [ih, str_assoc w sp, str_assoc sp]
theorem join_0 (ws : List Str) : Str.join Str.empty (ws.map fun w => sp ++ w) = wcat ws := by
  induction ws with
  | nil => rfl
  | cons x ws ih =>
    cases ws with
    | nil =>
      show sp ++ x = sp ++ x ++ Str.empty
      rw [str_nil2]
    | cons y ws =>
      show sp ++ x ++ Str.empty ++ Str.join Str.empty ((y :: ws).map fun w => sp ++ w) = sp ++ x ++ wcat (y :: ws)
      rw [ih, str_nil2]
def wdP (p : Place) : List Str := [Str.ofString "place", sI p.o, sI p.m, sI p.g, Str.ofString "to"] ++ (p.gs.map sI ++ [Str.ofString "end"])
def wdG (ps : List Place) : List Str := [Str.ofString "ground", sI ps.length] ++ ps.flatMap wdP
def wrT (ps : List Place) : Str := Str.ofString "ground" ++ wcat (sI ps.length :: ps.flatMap wdP)
theorem wr_join (ps : List Place) : Str.join sp (wdG ps) = wrT ps := join_sp _ _
section
variable {ps : List Place} {hi : Int}
theorem wdP_len (p : Place) : (wdP p).length = p.gs.length + 6 := by simp [wdP]
theorem wdP_le {c : Int} {p : Place} (h : POk c 12 p) (hc : c ≤ 24) : ∀ w ∈ wdP p, w.length ≤ 62 := fun w hw => by
  have a := h.o0; have a2 := h.o1; have b := h.m0; have b2 := h.m1; have c1 := h.g0; have c2 := h.g1
  unfold wdP at hw
  simp only [List.mem_append, List.mem_cons, List.not_mem_nil, or_false] at hw
  rcases hw with (rfl | rfl | rfl | rfl | rfl) | hw | rfl
  · decide +kernel
  · exact sI_len (by omega) (by omega)
  · exact sI_len (by omega) (by omega)
  · exact sI_len (by omega) (by omega)
  · decide +kernel
  · obtain ⟨g, hg, rfl⟩ := List.mem_map.mp hw
    have := h.rg g hg
    exact sI_len (by omega) (by omega)
  · decide +kernel
theorem e_place_words {c : Int} {p : Place} (h : POk c 12 p) (hc : c ≤ 24) : d_place_words [encP p] = .ok (.list ((wdP p).map .str)) := by
  have a := h.o0; have a2 := h.o1; have b := h.m0; have b2 := h.m1; have c1 := h.g0; have c2 := h.g1; have hl := h.le
  have k1 := e_str (i := p.o) (by omega) (by omega)
  have k2 := e_str (i := p.m) (by omega) (by omega)
  have k3 := e_str (i := p.g) (by omega) (by omega)
  have key : dLcL (b1 2) dYes (dCall strC (dCons (dVar 2) dNil)) [some (encP p), some (.list [.str (Str.ofString "place"), .str (sI p.o), .str (sI p.m), .str (sI p.g), .str (Str.ofString "to")]), none] (p.gs.map .int) = .ok (p.gs.map fun g => .str (sI g)) :=
    lc_rng fun g hg => ⟨_, s_b1, by
      have := h.rg g hg
      have := e_str (i := g) (by omega) (by omega)
      simp [this]⟩
  have e1 : addD (.list [.str (Str.ofString "place"), .str (sI p.o), .str (sI p.m), .str (sI p.g), .str (Str.ofString "to")]) (.list (p.gs.map fun g => .str (sI g))) = some (.list ([.str (Str.ofString "place"), .str (sI p.o), .str (sI p.m), .str (sI p.g), .str (Str.ofString "to")] ++ p.gs.map fun g => .str (sI g))) := by
    show (if _ then _ else _) = _
    rw [if_pos (by simp; omega)]
  have e2 : addD (.list ([.str (Str.ofString "place"), .str (sI p.o), .str (sI p.m), .str (sI p.g), .str (Str.ofString "to")] ++ p.gs.map fun g => .str (sI g))) (.list [.str (Str.ofString "end")]) = some (.list ((wdP p).map .str)) := by
    show (if _ then _ else _) = _
    rw [if_pos (by simp; omega)]
    simp [wdP]
  generalize p.gs.map (fun g => D.str (sI g)) = L at *
  generalize (wdP p).map D.str = L2 at *
  simp only [d_place_words, b_place_words, s_def, s_start, s_seq]
  simp [get0, get1, get2, get3, k1, k2, k3, dLc, wipeE, key, e1]
  simp only [List.cons_append, List.nil_append] at e2
  rw [e2]
  rfl
theorem sum_le {k : Nat} : ∀ {ws : List Str}, (∀ w ∈ ws, w.length ≤ k) → (ws.map (·.length)).sum ≤ ws.length * k
  | [], _ => Nat.zero_le _
  | w :: ws, h => by
    have h1 := h w List.mem_cons_self
    have h2 := sum_le (ws := ws) fun x hx => h x (List.mem_cons_of_mem _ hx)
    simp only [List.map_cons, List.sum_cons, List.length_cons, Nat.add_mul]
    omega
theorem flat_len {l : List Place} (h : ∀ p ∈ l, p.gs.length ≤ 60) : (l.flatMap wdP).length ≤ l.length * 66 := by
  induction l with
  | nil => simp
  | cons p l ih =>
    have h1 := h p List.mem_cons_self
    have h2 := ih fun q hq => h q (List.mem_cons_of_mem _ hq)
    rw [List.flatMap_cons, List.length_append, wdP_len, List.length_cons]
    omega
theorem e_ground_words (hg : GOk 12 ps) (hn : ps.length ≤ 24) : d_ground_words [encGr ps] = .ok (.list ((wdG ps).map .str)) := by
  have k1 := e_str (i := (ps.length : Int)) (by omega) (by omega)
  obtain ⟨ρ', e, done, hd, y2, rfl⟩ := for_I (enc := encP) (b := b1 2) (t := l1_ground_words) (l := ps)
    (ρ := [some (encGr ps), some (.list [.str (Str.ofString "ground"), .str (sI ps.length)]), none])
    (fun l ρ => ∃ done, ps = done ++ l ∧ ∃ y2, ρ = [some (encGr ps), some (.list (([Str.ofString "ground", sI ps.length] ++ done.flatMap wdP).map .str)), y2])
    ⟨[], rfl, none, rfl⟩ (by
      rintro p l ρ ⟨done, hd, y2, rfl⟩
      have hp : p ∈ ps := by rw [hd]; simp
      have hdl : done.length ≤ 24 := by
        have := congrArg List.length hd
        simp only [List.length_append] at this
        omega
      have f1 := flat_len (l := done) fun q hq => (hg.ok q (by rw [hd]; exact List.mem_append_left _ hq)).le
      have ew := e_place_words (hg.ok p hp) (by omega)
      have hpl := (hg.ok p hp).le
      refine ⟨_, [some (encGr ps), some (.list (([Str.ofString "ground", sI ps.length] ++ (done ++ [p]).flatMap wdP).map .str)), some (encP p)], s_b1, .inl ?_, done ++ [p], by rw [hd]; simp, _, rfl⟩
      have e1 : addD (.list (([Str.ofString "ground", sI ps.length] ++ done.flatMap wdP).map .str)) (.list ((wdP p).map .str)) = some (.list (([Str.ofString "ground", sI ps.length] ++ (done ++ [p]).flatMap wdP).map .str)) := by
        show (if _ then _ else _) = _
        rw [if_pos (by
          simp only [List.length_map, List.length_append, List.length_cons, List.length_nil, wdP_len]
          omega)]
        simp [List.flatMap_append]
      generalize ([Str.ofString "ground", sI ps.length] ++ done.flatMap wdP).map D.str = L1 at *
      generalize ([Str.ofString "ground", sI ps.length] ++ (done ++ [p]).flatMap wdP).map D.str = L2 at *
      simp [l1_ground_words, ew, e1])
  rw [List.append_nil] at hd
  subst hd
  have hs : seqD (encGr ps) = .ok (ps.map encP) := rfl
  simp [d_ground_words, b_ground_words, len_gr, k1, hs, e, wdG]
theorem wdG_le (hg : GOk 12 ps) (hn : ps.length ≤ 24) : ∀ w ∈ wdG ps, w.length ≤ 62 := fun w hw => by
  unfold wdG at hw
  simp only [List.mem_append, List.mem_cons, List.not_mem_nil, or_false] at hw
  rcases hw with (rfl | rfl) | hw
  · decide +kernel
  · exact sI_len (by omega) (by omega)
  · obtain ⟨p, hp, hw⟩ := List.mem_flatMap.mp hw
    exact wdP_le (hg.ok p hp) (by omega) w hw
theorem wdG_len (hg : GOk 12 ps) (hn : ps.length ≤ 24) : (wdG ps).length ≤ 1600 := by
  have := flat_len (l := ps) fun q hq => (hg.ok q hq).le
  simp only [wdG, List.length_append, List.length_cons, List.length_nil]
  omega
theorem join_G (hg : GOk 12 ps) (hn : ps.length ≤ 24) : joinS sp (.list ((wdG ps).map .str)) = some (.str (wrT ps)) := by
  have h1 := sum_le (wdG_le hg hn)
  have h2 := wdG_len hg hn
  have h3 : sp.length = 1 := by decide +kernel
  show ((strsOf ((wdG ps).map .str)).bind _) = _
  rw [strsOf_map, ← wr_join]
  refine if_pos ?_
  rw [h3]
  omega
end
/-! ### a thing that is a ground is one of ours -/
theorem num_of {d : D} {lo hi : Int} (h : isNum d lo hi = true) : ∃ i, d = .int i ∧ lo ≤ i ∧ i ≤ hi := by
  cases d <;> simp [isNum] at h
  exact ⟨_, rfl, h.1, h.2⟩
theorem rising_of {n : Int} : ∀ {l : List D} {a : Int}, rising n a l = true → ∃ gs : List Int, l = gs.map .int ∧ gs.Pairwise (· < ·) ∧ ∀ i ∈ gs, a < i ∧ i < n
  | [], _, _ => ⟨[], rfl, .nil, fun i h => (by cases h)⟩
  | d :: l, a, h => by
    cases d <;> simp [rising] at h
    rename_i i
    obtain ⟨⟨h1, h2⟩, h3⟩ := h
    obtain ⟨gs, rfl, h4, h5⟩ := rising_of h3
    exact ⟨i :: gs, rfl, List.pairwise_cons.mpr ⟨fun j hj => (h5 j hj).1, h4⟩, fun j hj => by
      rcases List.mem_cons.mp hj with rfl | z
      · exact ⟨h1, h2⟩
      · have := h5 j z; omega⟩
theorem place_of {d : D} {n : Int} (hn : n ≤ 24) (h : placeB d n = true) : ∃ p, d = encP p ∧ POk n 12 p := by
  unfold placeB at h
  split at h
  · rename_i a b c e
    simp only [Bool.and_eq_true] at h
    obtain ⟨⟨⟨⟨h1, h2⟩, h3⟩, h4⟩, h5⟩ := h
    obtain ⟨o, rfl, o0, o1⟩ := num_of h1
    obtain ⟨m, rfl, m0, m1⟩ := num_of h2
    obtain ⟨g, rfl, g0, g1⟩ := num_of h3
    cases e with
    | tuple l =>
      obtain ⟨gs, rfl, h6, h7⟩ := rising_of (show rising n (-1) l = true from h4)
      have hl := inc_len (a := 0) (b := n) h6 fun i hi => by have := h7 i hi; omega
      refine ⟨⟨o, m, g, gs⟩, rfl, o0, o1, m0, m1, g0, g1, h6, fun z => ?_, fun i hi => by have := h7 i hi; omega, by show gs.length ≤ 60; omega⟩
      have z' : gs = [] := z
      rw [z'] at h5
      cases h5
    | ftup l => cases h5
    | _ => cases h4
  · cases h
theorem places_of {n : Int} (hn : n ≤ 24) : ∀ {l : List D}, (l.all fun p => placeB p n) = true → ∃ ps : List Place, l = ps.map encP ∧ ∀ p ∈ ps, POk n 12 p
  | [], _ => ⟨[], rfl, fun p h => (by cases h)⟩
  | d :: l, h => by
    rw [List.all_cons, Bool.and_eq_true] at h
    obtain ⟨p, rfl, hp⟩ := place_of hn h.1
    obtain ⟨ps, rfl, hq⟩ := places_of hn h.2
    exact ⟨p :: ps, rfl, fun q hq' => by
      rcases List.mem_cons.mp hq' with rfl | z
      · exact hp
      · exact hq q z⟩
theorem ground_of {d : D} (h : groundB d = true) : ∃ ps, d = encGr ps ∧ GOk 12 ps ∧ ps.length ≤ 24 := by
  unfold groundB at h
  split at h
  · rename_i l
    simp only [Bool.and_eq_true, decide_eq_true_eq] at h
    obtain ⟨⟨h1, h2⟩, h3⟩ := h
    obtain ⟨ps, rfl, hp⟩ := places_of (by omega) h3
    rw [List.length_map] at h1 h2 hp
    exact ⟨ps, rfl, ⟨h1, hp⟩, h2⟩
  · cases h
/-! ### the writing, by the law -/
section
variable {ps : List Place} {hi : Int}
theorem add_str {a b : Str} (h : a.length + b.length ≤ 1000000) : addD (.str a) (.str b) = some (.str (a ++ b)) := by
  show (if _ then _ else _) = _
  rw [if_pos h]
theorem cat_0 {f : DE} {ρ : Pd.Env} {ws : List Str} (h : f ρ = .ok (.list ((ws.map fun w => sp ++ w).map .str))) (hl : ∀ w ∈ ws, w.length ≤ 62) (hn : ws.length ≤ 60) : dJoin (dC (.str Str.empty)) f ρ = .ok (.str (wcat ws)) ∧ (wcat ws).length ≤ ws.length * 63 := by
  have h3 : sp.length = 1 := by decide +kernel
  have h1 := sum_le (k := 63) (ws := ws.map fun w => sp ++ w) fun x hx => by
    obtain ⟨w, hw, rfl⟩ := List.mem_map.mp hx
    have := hl w hw
    rw [str_len, h3]
    omega
  have h2 : Str.empty.length = 0 := rfl
  constructor
  · show (f ρ).bind (fun y => Out.of (joinS Str.empty y)) = _
    rw [h, Out.ok_bind]
    have : joinS Str.empty (.list ((ws.map fun w => sp ++ w).map .str)) = some (.str (wcat ws)) := by
      show ((strsOf ((ws.map fun w => sp ++ w).map .str)).bind _) = _
      rw [strsOf_map, ← join_0]
      refine if_pos ?_
      rw [h2, List.length_map] at *
      omega
    rw [this]
    rfl
  · have : ∀ us : List Str, (∀ w ∈ us, w.length ≤ 62) → (wcat us).length ≤ us.length * 63 := fun us => by
      induction us with
      | nil => intro _; exact Nat.zero_le _
      | cons w us ih =>
        intro hu
        have a := hu w List.mem_cons_self
        have b := ih fun x hx => hu x (List.mem_cons_of_mem _ hx)
        show (sp ++ w ++ wcat us).length ≤ _
        rw [str_len, str_len, h3, List.length_cons]
        omega
    exact this ws hl
theorem e_law_written (hg : GOk 12 ps) (hn : ps.length ≤ 24) : d__law_written [encGr ps] = .ok (.str (wrT ps)) := by
  have k1 := e_str (i := (ps.length : Int)) (by omega) (by omega)
  have c1 : Str.ofString " place" = sp ++ Str.ofString "place" := by decide +kernel
  have c2 : Str.ofString " to" = sp ++ Str.ofString "to" := by decide +kernel
  have c3 : Str.ofString " end" = sp ++ Str.ofString "end" := by decide +kernel
  have c4 : Str.ofString "ground " = Str.ofString "ground" ++ sp := by decide +kernel
  have c5 : Str.ofString "" = Str.empty := by decide +kernel
  have c6 : Str.ofString " " = sp := rfl
  have l1 : (Str.ofString " place").length = 6 := by decide +kernel
  have l2 : (Str.ofString " to").length = 3 := by decide +kernel
  have l3 : (Str.ofString " end").length = 4 := by decide +kernel
  have l4 : (Str.ofString "ground ").length = 7 := by decide +kernel
  have l5 : sp.length = 1 := by decide +kernel
  have ln := sI_len (i := (ps.length : Int)) (by omega) (by omega)
  have e0 := add_str (a := Str.ofString "ground ") (b := sI ps.length) (by omega)
  obtain ⟨ρ', e, done, T, hd, hT, hTl, y2, y3, y4, rfl⟩ := for_I (enc := encP) (b := b1 2) (t := l1__law_written) (l := ps)
    (ρ := [some (encGr ps), some (.str (Str.ofString "ground " ++ sI ps.length)), none, none, none])
    (fun l ρ => ∃ done T, ps = done ++ l ∧ T = Str.ofString "ground" ++ wcat (sI ps.length :: done.flatMap wdP) ∧ T.length ≤ 100 + done.length * 5000 ∧ ∃ y2 y3 y4, ρ = [some (encGr ps), some (.str T), y2, y3, y4])
    ⟨[], _, rfl, by
      rw [c4]
      show _ = Str.ofString "ground" ++ (sp ++ sI ps.length ++ Str.empty)
      rw [str_nil2, str_assoc], by rw [str_len]; simp; omega, none, none, none, rfl⟩ (by
      rintro p l ρ ⟨done, T, hd, hT, hTl, y2, y3, y4, rfl⟩
      have hp : p ∈ ps := by rw [hd]; simp
      have hdl : done.length ≤ 24 := by
        have := congrArg List.length hd
        simp only [List.length_append] at this
        omega
      have P := hg.ok p hp
      have a := P.o0; have a2 := P.o1; have b := P.m0; have b2 := P.m1; have g1 := P.g0; have g2 := P.g1
      have sl : sliceD (encP p) none (some 3) = some (.tuple [.int p.o, .int p.m, .int p.g]) := by
        show some (D.tuple (cutD _ _ _)) = _
        rfl
      have j1 : dJoin (dC (.str Str.empty)) (dLc (dSeqI (dSlice (dVar 2) dNoP (dPart (dC (.int 3))))) (b1 3) dYes (dOp addD (dC (.str (Str.ofString " "))) (dCall strC (dCons (dVar 3) dNil))) [3]) [some (encGr ps), some (.str T), some (encP p), y3, y4] = .ok (.str (wcat ([p.o, p.m, p.g].map sI))) ∧ (wcat ([p.o, p.m, p.g].map sI)).length ≤ ([p.o, p.m, p.g].map sI).length * 63 :=
        cat_0 (by
          have kk : dLcL (b1 3) dYes (dOp addD (dC (.str sp)) (dCall strC (dCons (dVar 3) dNil))) [some (encGr ps), some (.str T), some (encP p), none, y4] ([p.o, p.m, p.g].map .int) = .ok ([p.o, p.m, p.g].map fun i => .str (sp ++ sI i)) :=
            lc_rng fun i hi => ⟨_, s_b1, by
              simp only [List.mem_cons, List.not_mem_nil, or_false] at hi
              have hb : -30 ≤ i ∧ i ≤ 60 := by rcases hi with rfl | rfl | rfl <;> omega
              have h1 := e_str hb.1 hb.2
              have h2 := sI_len hb.1 hb.2
              have h3 := add_str (a := sp) (b := sI i) (by omega)
              simp [h1, h3]⟩
          simp only [List.map_cons, List.map_nil] at kk
          rw [c6]
          simp [sl, dLc, wipeE, kk]) (fun w hw => by
          obtain ⟨i, hi, rfl⟩ := List.mem_map.mp hw
          simp only [List.mem_cons, List.not_mem_nil, or_false] at hi
          rcases hi with rfl | rfl | rfl <;> exact sI_len (by omega) (by omega)) (by simp)
      obtain ⟨j1, j1l⟩ := j1
      have j1l : (wcat ([p.o, p.m, p.g].map sI)).length ≤ 189 := j1l
      have hA := add_str (a := T) (b := Str.ofString " place") (by omega)
      have hA2 := add_str (a := T ++ Str.ofString " place") (b := wcat ([p.o, p.m, p.g].map sI)) (by
        rw [str_len]; omega)
      have hA3 := add_str (a := T ++ Str.ofString " place" ++ wcat ([p.o, p.m, p.g].map sI)) (b := Str.ofString " to") (by
        rw [str_len, str_len]; omega)
      obtain ⟨T2, hT2⟩ : ∃ T2, T2 = T ++ Str.ofString " place" ++ wcat ([p.o, p.m, p.g].map sI) ++ Str.ofString " to" := ⟨_, rfl⟩
      have j2 : dJoin (dC (.str Str.empty)) (dLc (dSeqI (dOp getD (dVar 2) (dC (.int 3)))) (b1 4) dYes (dOp addD (dC (.str (Str.ofString " "))) (dCall strC (dCons (dVar 4) dNil))) [4]) [some (encGr ps), some (.str T2), some (encP p), y3, y4] = .ok (.str (wcat (p.gs.map sI))) ∧ (wcat (p.gs.map sI)).length ≤ (p.gs.map sI).length * 63 :=
        cat_0 (by
          have kk : dLcL (b1 4) dYes (dOp addD (dC (.str sp)) (dCall strC (dCons (dVar 4) dNil))) [some (encGr ps), some (.str T2), some (encP p), y3, none] (p.gs.map .int) = .ok (p.gs.map fun i => .str (sp ++ sI i)) :=
            lc_rng fun i hi => ⟨_, s_b1, by
              have := P.rg i hi
              have h1 := e_str (i := i) (by omega) (by omega)
              have h2 := sI_len (i := i) (by omega) (by omega)
              have h3 := add_str (a := sp) (b := sI i) (by omega)
              simp [h1, h3]⟩
          rw [c6]
          simp [get3, dLc, wipeE, kk]) (fun w hw => by
          obtain ⟨i, hi, rfl⟩ := List.mem_map.mp hw
          have := P.rg i hi
          exact sI_len (by omega) (by omega)) (by rw [List.length_map]; exact P.le)
      obtain ⟨j2, j2l⟩ := j2
      have hgl := P.le
      rw [List.length_map] at j2l
      have t2l : T2.length ≤ T.length + 300 := by
        rw [hT2, str_len, str_len, str_len]; omega
      have hB := add_str (a := T2) (b := wcat (p.gs.map sI)) (by omega)
      have hB2 := add_str (a := T2 ++ wcat (p.gs.map sI)) (b := Str.ofString " end") (by rw [str_len]; omega)
      refine ⟨_, [some (encGr ps), some (.str (T2 ++ wcat (p.gs.map sI) ++ Str.ofString " end")), some (encP p), y3, y4], s_b1, .inl ?_, done ++ [p], _, by rw [hd]; simp, ?_, ?_, _, _, _, rfl⟩
      · rw [← c5] at j1 j2
        rw [← hT2] at hA3
        generalize wcat ([p.o, p.m, p.g].map sI) = C1 at *
        generalize wcat (p.gs.map sI) = C2 at *
        simp [l1__law_written, hA, j1, hA2, hA3, j2, hB, hB2]
      · rw [hT2, hT, c1, c2, c3]
        have ew : wcat (sI ps.length :: (done ++ [p]).flatMap wdP) = wcat (sI ps.length :: done.flatMap wdP) ++ wcat (wdP p) := by
          rw [← wcat_app]
          simp [List.flatMap_append]
        have ep : wcat (wdP p) = sp ++ Str.ofString "place" ++ (wcat ([p.o, p.m, p.g].map sI) ++ (sp ++ Str.ofString "to" ++ (wcat (p.gs.map sI) ++ (sp ++ Str.ofString "end")))) := by
          have e1 : wdP p = [Str.ofString "place"] ++ ([p.o, p.m, p.g].map sI ++ ([Str.ofString "to"] ++ (p.gs.map sI ++ [Str.ofString "end"]))) := by simp [wdP]
          have one : ∀ w, wcat [w] = sp ++ w := fun w => by
            show sp ++ w ++ Str.empty = _
            rw [str_nil2]
          rw [e1, wcat_app, wcat_app, wcat_app, wcat_app, one, one, one]
        rw [ew, ep]
        simp only [str_assoc]
      · rw [str_len, str_len, List.length_append, List.length_singleton]
        omega)
  rw [List.append_nil] at hd
  subst hd
  have hs : seqD (encGr ps) = .ok (ps.map encP) := rfl
  have eT : T = wrT ps := hT
  subst eT
  simp [d__law_written, b__law_written, len_gr, k1, e0, hs, e]
end
/-! ### denotations of the newer rules -/
@[simp] theorem s_split {f g : DE} {ρ : Pd.Env} : dSplit f g ρ = (f ρ).bind fun d => match d with
  | .str a => (g ρ).bind fun y => match y with
    | .str b => if b.length ≠ 0 ∧ a.length ≤ 1000000 then .ok (.list ((Txt.split a b).map .str)) else .bad
    | _ => .bad
  | _ => .bad := rfl
@[simp] theorem s_seqS {f : DE} {ρ : Pd.Env} : dSeqS f ρ = (f ρ).bind fun d => match d with
  | .str z => if z.cps.size ≤ 1000000 then .ok (signsD z) else .bad
  | _ => .bad := rfl
@[simp] theorem s_lcX {it : DA} {b : D → Pd.Env → Option Pd.Env} {elt : DE} {vs : List Nat} {ρ : Pd.Env} : dLcX it b elt vs ρ = (it ρ).bind fun ds => (dLcE b elt (wipeE ρ vs) ds).bind fun r => .ok (.list r) := rfl
@[simp] theorem s_join {f g : DE} {ρ : Pd.Env} : dJoin f g ρ = (f ρ).bind fun d => match d with
  | .str a => (g ρ).bind fun y => .of (joinS a y)
  | _ => .bad := rfl
@[simp] theorem s_idx {f g : DE} {ρ : Pd.Env} : dIxW f g ρ = (f ρ).bind fun d => match d with
  | .list l => (g ρ).bind fun y => .of (ixW l y)
  | _ => .bad := rfl
/-! ### texts, rows of words -/
theorem eqv_str (a b : Str) : eqv (.str a) (.str b) = decide (a = b) := by
  show (a == b) = _
  by_cases h : a = b <;> simp [h]
theorem eq_str (a b : Str) : eqD (.str a) (.str b) = some (decide (a = b)) := by
  unfold eqD
  rw [if_pos ⟨rfl, rfl, by simp [dep, D.py, PyData.depth]⟩, eqv_str]
theorem ne_str (a b : Str) : neD (.str a) (.str b) = some (!decide (a = b)) := by
  unfold neD
  rw [eq_str]
  rfl
def encW (ws : List Str) : D := .list (ws.map .str)
theorem lay_strs : ∀ ws : List Str, D.plA (ws.map D.str) = true ∧ PyData.depthAll (D.pyA (ws.map D.str)) = 0
  | [] => ⟨rfl, by simp [D.pyA, PyData.depthAll]⟩
  | w :: ws => by
    obtain ⟨h1, h2⟩ := lay_strs ws
    exact ⟨by simp [D.plA, D.pl, h1], by simp [D.pyA, D.py, PyData.depthAll, PyData.depth, h2]⟩
theorem in_strs (w : Str) (ws : List Str) : inD (.str w) (encW ws) = some (decide (w ∈ ws)) := by
  obtain ⟨h1, h2⟩ := lay_strs ws
  show (if _ then _ else _) = _
  rw [if_pos ⟨rfl, h1, by unfold depA; omega⟩]
  congr 1
  rw [Bool.eq_iff_iff, List.any_map, List.any_eq_true]
  simp only [Function.comp, eqv_str, decide_eq_true_eq]
  constructor
  · rintro ⟨x, hx, rfl⟩; exact hx
  · intro h; exact ⟨w, h, rfl⟩
theorem nin_strs (w : Str) (ws : List Str) : ninD (.str w) (encW ws) = some (!decide (w ∈ ws)) := by
  unfold ninD
  rw [in_strs]
  rfl
theorem ix_strs {w : Str} {ws : List Str} (h : w ∈ ws) : ixW (ws.map .str) (.str w) = some (.int ((ws.findIdx fun y => decide (y = w) : Nat) : Int)) := by
  show (strsOf (ws.map .str)).bind _ = _
  rw [strsOf_map]
  exact if_pos h
theorem ixN_in {n : Nat} {v : Int} (h0 : 0 ≤ v) (h1 : v < n) : ixN n v = some v.toNat := by
  unfold ixN
  rw [if_pos h0, if_pos h1]
theorem get_W {ws : List Str} {i : Nat} (h : i < ws.length) {j : Int} (hj : j = (i : Int)) : getD (encW ws) (.int j) = some (.str (ws[i]'h)) := by
  subst hj
  show atI (ws.map D.str) (i : Int) = _
  unfold atI
  rw [List.length_map, ixN_in (by omega) (by omega)]
  show (ws.map D.str)[((i : Nat) : Int).toNat]? = _
  rw [Int.toNat_natCast, List.getElem?_map, List.getElem?_eq_getElem h]
  rfl
theorem len_W (ws : List Str) : lenD [encW ws] = some (.int ws.length) := by
  show some (D.int ((ws.map D.str).length : Nat)) = _
  rw [List.length_map]
theorem cut_from (ws : List Str) {i : Int} {k : Nat} (h : i = (k : Int)) : sliceD (encW ws) (some i) none = some (encW (ws.drop k)) := by
  subst h
  show some (D.list (cutD (ws.map D.str) (some (k : Int)) none)) = _
  unfold cutD encW
  rw [HT.sIx_nat, HT.sIx_none, List.length_map, ← List.map_drop, List.take_of_length_le (by simp)]
  congr 3
  by_cases q : k ≤ ws.length
  · rw [Nat.min_eq_left q]
  · rw [Nat.min_eq_right (by omega), List.drop_eq_nil_of_le (Nat.le_refl _), List.drop_eq_nil_of_le (by omega)]
theorem cut_to (ws : List Str) {i : Int} {k : Nat} (h : i = (k : Int)) : sliceD (encW ws) none (some i) = some (encW (ws.take k)) := by
  subst h
  show some (D.list (cutD (ws.map D.str) none (some (k : Int)))) = _
  unfold cutD encW
  rw [HT.sIx_nat, HT.sIx_none, List.length_map, List.drop_zero, Nat.sub_zero, ← List.map_take]
  congr 3
  by_cases q : k ≤ ws.length
  · rw [Nat.min_eq_left q]
  · rw [Nat.min_eq_right (by omega), List.take_of_length_le (Nat.le_refl _), List.take_of_length_le (by omega)]
theorem cut_mid (ws : List Str) {i j : Int} {a b : Nat} (h : i = (a : Int)) (h2 : j = (b : Int)) : sliceD (encW ws) (some i) (some j) = some (encW ((ws.take b).drop a)) := by
  subst h
  subst h2
  show some (D.list (cutD (ws.map D.str) (some (a : Int)) (some (b : Int)))) = _
  unfold cutD encW
  rw [HT.sIx_nat, HT.sIx_nat, List.length_map, ← List.map_drop, ← List.map_take]
  congr 3
  rw [← List.drop_take]
  have e1 : ws.take (min b ws.length) = ws.take b := by
    by_cases q : b ≤ ws.length
    · rw [Nat.min_eq_left q]
    · rw [Nat.min_eq_right (by omega), List.take_of_length_le (Nat.le_refl _), List.take_of_length_le (by omega)]
  rw [e1]
  by_cases q : a ≤ ws.length
  · rw [Nat.min_eq_left q]
  · rw [Nat.min_eq_right (by omega), List.drop_eq_nil_of_le (by simp; omega), List.drop_eq_nil_of_le (by simp; omega)]
theorem add_W {a b : List Str} (h : a.length + b.length ≤ 100000) : addD (encW a) (encW b) = some (encW (a ++ b)) := by
  show (if _ then _ else _) = _
  rw [if_pos (by simpa using h), ← List.map_append]
  rfl
theorem one_W (w : Str) : D.list [.str w] = encW [w] := rfl
theorem cutS_len (z : Str) (lo hi : Option Int) : (cutS z lo hi).length ≤ z.length := by
  show (List.toArray _).size ≤ z.cps.size
  rw [List.size_toArray, List.length_take, List.length_drop, Array.length_toList]
  omega
theorem slice_str {z : Str} (h : z.length ≤ 1000000) (lo hi : Option Int) : sliceD (.str z) lo hi = some (.str (cutS z lo hi)) := if_pos h
theorem len_str {z : Str} (h : z.length ≤ 1000000) : lenD [.str z] = some (.int z.length) := if_pos h
/-! ### numbers in figures -/
theorem lc_all {α : Type} {b : D → List (Option D) → Option (List (Option D))} {elt : List (Option D) → Out D} {ρ : List (Option D)} {f g : α → D} : ∀ {l : List α}, (∀ v ∈ l, ∃ ρ1, b (f v) ρ = some ρ1 ∧ elt ρ1 = .ok (g v)) →
    dLcL b dYes elt ρ (l.map f) = .ok (l.map g)
  | [], _ => rfl
  | a :: l, h => by
    obtain ⟨ρ1, h1, h2⟩ := h a List.mem_cons_self
    have ih := lc_all (l := l) fun v hv => h v (List.mem_cons_of_mem _ hv)
    rw [List.map_cons]
    unfold dLcL
    rw [h1]
    simp [h2, ih]
def mkS (l : List Nat) : Str := ⟨l.toArray⟩
theorem mkS_of (w : Str) : mkS w.cps.toList = w := rfl
theorem mkS_inj {a b : List Nat} : mkS a = mkS b ↔ a = b := by
  constructor
  · intro h
    have := congrArg (fun z : Str => z.cps.toList) h
    simpa [mkS] using this
  · intro h; rw [h]
theorem mkS_len (l : List Nat) : (mkS l).length = l.length := List.size_toArray
theorem len_tl (w : Str) : w.cps.toList.length = w.length := Array.length_toList
theorem cutS_1 (w : Str) : cutS w none (some 1) = mkS (w.cps.toList.take 1) := by
  have h : HT.sIx w.length w.length (some 1) = min 1 w.length := HT.sIx_nat _ _ 1
  unfold cutS mkS
  rw [h, HT.sIx_none, List.drop_zero, Nat.sub_zero, ← len_tl, ← List.take_take, List.take_length]
theorem cutS_d (w : Str) : cutS w (some 1) none = mkS (w.cps.toList.drop 1) := by
  have h : HT.sIx w.length 0 (some 1) = min 1 w.length := HT.sIx_nat _ 0 1
  unfold cutS mkS
  rw [h, HT.sIx_none, ← len_tl, List.take_of_length_le (by simp)]
  congr 2
  by_cases q : 1 ≤ w.cps.toList.length
  · rw [Nat.min_eq_left q]
  · rw [Nat.min_eq_right (by omega), List.drop_eq_nil_of_le (Nat.le_refl _), List.drop_eq_nil_of_le (by omega)]
theorem dash : Str.ofString "-" = mkS [45] := by decide +kernel
def figC (c : Nat) : Bool := decide (c ∈ (Str.ofString "0123456789").cps.toList)
theorem figC_iff {c : Nat} (h : figC c = true) : ∃ d : Fin 10, c = 48 + d.val := by
  have e : (Str.ofString "0123456789").cps.toList = [48, 49, 50, 51, 52, 53, 54, 55, 56, 57] := by decide +kernel
  unfold figC at h
  rw [e] at h
  simp only [decide_eq_true_eq, List.mem_cons, List.not_mem_nil, or_false] at h
  exact ⟨⟨c - 48, by omega⟩, by show c = 48 + (c - 48); omega⟩
def figs (l : List Nat) : List Nat := if l.take 1 = [45] then l.drop 1 else l
def okW (w : Str) : Bool := decide ((figs w.cps.toList).length ≠ 0) && decide ((figs w.cps.toList).length ≤ 2) && (figs w.cps.toList).all figC
def okOne (neg : Bool) (l : List Nat) : Bool := match PySem.intText? (mkS ((if neg then [45] else []) ++ l)) with
  | some i => decide (-99 ≤ i) && decide (i ≤ 99)
  | none => false
theorem one_t1 : ∀ neg : Bool, ∀ d : Fin 10, okOne neg [48 + d.val] = true := by decide +kernel
theorem one_t2 : ∀ neg : Bool, ∀ d e : Fin 10, okOne neg [48 + d.val, 48 + e.val] = true := by decide +kernel
theorem okOne_iff {neg : Bool} {l : List Nat} (h : okOne neg l = true) : ∃ i, PySem.intText? (mkS ((if neg then [45] else []) ++ l)) = some i ∧ -99 ≤ i ∧ i ≤ 99 := by
  unfold okOne at h
  cases e : PySem.intText? (mkS ((if neg then [45] else []) ++ l)) with
  | none => rw [e] at h; cases h
  | some i =>
    rw [e] at h
    simp only [Bool.and_eq_true, decide_eq_true_eq] at h
    exact ⟨i, rfl, h⟩
theorem fig_two {f : List Nat} (h0 : f.length ≠ 0) (h2 : f.length ≤ 2) (hf : f.all figC = true) (neg : Bool) : okOne neg f = true := by
  match f, h0, h2, hf with
  | [a], _, _, hf =>
    obtain ⟨d, rfl⟩ := figC_iff (List.all_eq_true.mp hf a (by simp))
    exact one_t1 neg d
  | [a, b], _, _, hf =>
    obtain ⟨d, rfl⟩ := figC_iff (List.all_eq_true.mp hf a (by simp))
    obtain ⟨e, rfl⟩ := figC_iff (List.all_eq_true.mp hf b (by simp))
    exact one_t2 neg d e
theorem num_ok {w : Str} (h : okW w = true) : (∃ i, PySem.intText? w = some i ∧ -99 ≤ i ∧ i ≤ 99) ∧ w.length ≤ 3 := by
  unfold okW at h
  simp only [Bool.and_eq_true, decide_eq_true_eq] at h
  obtain ⟨⟨h0, h2⟩, hf⟩ := h
  rw [← len_tl]
  unfold figs at h0 h2 hf
  by_cases q : w.cps.toList.take 1 = [45]
  · rw [if_pos q] at h0 h2 hf
    have e : w.cps.toList = [45] ++ w.cps.toList.drop 1 := by rw [← q, List.take_append_drop]
    obtain ⟨i, h3, h4⟩ := okOne_iff (fig_two h0 h2 hf true)
    refine ⟨⟨i, ?_, h4⟩, ?_⟩
    · rw [if_pos rfl, ← e] at h3
      exact h3
    · have := congrArg List.length e
      rw [List.length_append, List.length_singleton] at this
      omega
  · rw [if_neg q] at h0 h2 hf
    obtain ⟨i, h3, h4⟩ := okOne_iff (fig_two h0 h2 hf false)
    exact ⟨⟨i, h3, h4⟩, by omega⟩
theorem e_number_of {w : Str} (hw : w.length ≤ 1000000) : d_number_of [.str w] = if okW w = true then Out.of ((PySem.intText? w).map .int) else .err 2 := by
  have l1 := len_tl w
  have s1 := slice_str hw none (some 1)
  have s2 := slice_str hw (some 1) none
  rw [cutS_1] at s1
  rw [cutS_d] at s2
  have q1 : ∀ a : List Nat, eqD (.str (mkS a)) (.str (Str.ofString "-")) = some (decide (a = [45])) := fun a => by
    rw [eq_str, dash]
    congr 1
    exact decide_eq_decide.mpr mkS_inj
  -- behind the sign
  have rest : ∀ f : List Nat, f.length ≤ 1000000 → ((dSeq (dIfS (dOr (dCmp eqD (dCall lenD (dCons (dVar 1) dNil)) (dC (.int 0))) (dOr (dCmp gtD (dCall lenD (dCons (dVar 1) dNil)) (dC (.int 2))) (dNot (dTv (dCall allC (dCons (dLc (dSeqS (dVar 1)) (b1 2) dYes (dBv (dCmp inD (dVar 2) (dC (.str "0123456789")))) [2]) dNil)))))) (dRaise 2) dNx)
      (dRet (dCall intS (dCons (dVar 0) dNil)))) [some (.str w), some (.str (mkS f)), none]).fin = if (decide (f.length ≠ 0) && decide (f.length ≤ 2) && f.all figC) = true then Out.of (intS [.str w]) else .err 2 := fun f hf => by
    have hl := len_str (z := mkS f) (by rw [mkS_len]; exact hf)
    rw [mkS_len] at hl
    have key : dLcL (b1 2) dYes (dBv (dCmp inD (dVar 2) (dC (.str (Str.ofString "0123456789"))))) [some (.str w), some (.str (mkS f)), none] (signsD (mkS f)) = .ok ((f.map figC).map .bool) := by
      have : signsD (mkS f) = f.map fun c => .str ⟨#[c]⟩ := rfl
      rw [this, List.map_map]
      refine lc_all fun c _ => ⟨_, s_b1, ?_⟩
      have : inD (.str ⟨#[c]⟩) (.str (Str.ofString "0123456789")) = some (figC c) := rfl
      simp [this]
    have ha : allC [.list ((f.map figC).map .bool)] = some (.bool (f.all figC)) := by simp [allC]
    have hsz : (mkS f).cps.size ≤ 1000000 := by
      show (mkS f).length ≤ _
      rw [mkS_len]
      exact hf
    by_cases z0 : f.length = 0
    · have hl0 : lenD [.str (mkS f)] = some (.int 0) := by rw [hl, z0]; rfl
      simp [hl0, z0]
    · have z0' : ¬ f = [] := fun z => z0 (by rw [z]; rfl)
      by_cases z2 : f.length ≤ 2
      · have q2 : ¬ ((2 : Int) < f.length) := by omega
        generalize (f.map figC).map D.bool = BL at *
        cases hb : f.all figC with
        | true =>
          rw [hb] at ha
          simp [hl, z0', q2, hsz, key, ha, z2]
          cases intS [.str w] <;> rfl
        | false =>
          rw [hb] at ha
          simp [hl, z0', q2, hsz, key, ha, z2]
      · have q2 : ((2 : Int) < f.length) := by omega
        simp [hl, z0', q2, z2]
  have fin : ∀ o : Out D, (if okW w = true then Out.of (intS [.str w]) else .err 2) = o → (if okW w = true then Out.of ((PySem.intText? w).map .int) else .err 2) = o := fun o h => by
    rw [← h]
    by_cases z : okW w = true
    · rw [if_pos z, if_pos z]
      have : w.length ≤ 640 := Nat.le_trans (num_ok z).2 (by decide)
      show _ = Out.of (if _ then _ else _)
      rw [if_pos this]
    · rw [if_neg z, if_neg z]
  symm
  refine fin _ ?_
  symm
  unfold okW figs
  by_cases q : w.cps.toList.take 1 = [45]
  · rw [if_pos q]
    have r := rest (w.cps.toList.drop 1) (by rw [List.length_drop]; omega)
    have step : dIfS (dCmp eqD (dSlice (dVar 0) dNoP (dPart (dC (.int 1)))) (dC (.str "-"))) (dAsg 1 (dSlice (dVar 0) (dPart (dC (.int 1))) dNoP)) dNx [some (.str w), some (.str w), none] = .nx [some (.str w), some (.str (mkS (w.cps.toList.drop 1))), none] := by
      simp [s1, q1, q, s2]
    rw [← r]
    show ((dIfS (dCmp eqD (dSlice (dVar 0) dNoP (dPart (dC (.int 1)))) (dC (.str "-"))) (dAsg 1 (dSlice (dVar 0) (dPart (dC (.int 1))) dNoP)) dNx [some (.str w), some (.str w), none]).seq _).fin = _
    rw [step]
    rfl
  · rw [if_neg q]
    have r := rest w.cps.toList (by omega)
    have step : dIfS (dCmp eqD (dSlice (dVar 0) dNoP (dPart (dC (.int 1)))) (dC (.str "-"))) (dAsg 1 (dSlice (dVar 0) (dPart (dC (.int 1))) dNoP)) dNx [some (.str w), some (.str w), none] = .nx [some (.str w), some (.str w), none] := by
      simp [s1, q1, q]
    rw [← r]
    show ((dIfS (dCmp eqD (dSlice (dVar 0) dNoP (dPart (dC (.int 1)))) (dC (.str "-"))) (dAsg 1 (dSlice (dVar 0) (dPart (dC (.int 1))) dNoP)) dNx [some (.str w), some (.str w), none]).seq _).fin = _
    rw [step]
    rfl
theorem num_or {w : Str} (hw : w.length ≤ 1000000) : (∃ i, d_number_of [.str w] = .ok (.int i) ∧ -99 ≤ i ∧ i ≤ 99) ∨ d_number_of [.str w] = .err 2 := by
  rw [e_number_of hw]
  by_cases z : okW w = true
  · obtain ⟨⟨i, h1, h2⟩, _⟩ := num_ok z
    rw [if_pos z, h1]
    exact .inl ⟨i, rfl, h2⟩
  · rw [if_neg z]
    exact .inr rfl
/-- figures as they are written -/
def canI (i : Int) : Bool := okW (sI i) && decide (PySem.intText? (sI i) = some i) && decide ((sI i).length ≤ 3) && !decide (32 ∈ (sI i).cps.toList) && !decide (sI i = Str.ofString "end")
theorem can_t : ∀ n : Fin 91, canI ((n.val : Int) - 30) = true := by decide +kernel
structure Can (i : Int) : Prop where
  e : d_number_of [.str (sI i)] = .ok (.int i)
  l : (sI i).length ≤ 3
  b : 32 ∉ (sI i).cps.toList
  n : sI i ≠ Str.ofString "end"
theorem can_of {i : Int} (h : -30 ≤ i) (h2 : i ≤ 60) : Can i := by
  have c := can_t ⟨(i + 30).toNat, by omega⟩
  have e : (((i + 30).toNat : Nat) : Int) - 30 = i := by omega
  rw [e] at c
  unfold canI at c
  simp only [Bool.and_eq_true, decide_eq_true_eq, Bool.not_eq_true', decide_eq_false_iff_not] at c
  obtain ⟨⟨⟨⟨c1, c2⟩, c3⟩, c4⟩, c5⟩ := c
  refine ⟨?_, c3, c4, c5⟩
  rw [e_number_of (Nat.le_trans c3 (by decide)), if_pos c1, c2]
  rfl
/-! ### places of words -/
theorem lcE_num {ρ : List (Option D)} {j : Nat} (hj : j < ρ.length) : ∀ {ws : List Str}, (∀ w ∈ ws, w.length ≤ 1000000) → (∃ gs : List Int, dLcE (b1 j) (dUse 1 d_number_of (dCons (dVar j) dNil)) ρ (ws.map .str) = .ok (gs.map .int)) ∨ dLcE (b1 j) (dUse 1 d_number_of (dCons (dVar j) dNil)) ρ (ws.map .str) = .err 2
  | [], _ => .inl ⟨[], rfl⟩
  | w :: ws, h => by
    have ih := lcE_num (ws := ws) hj fun x hx => h x (List.mem_cons_of_mem _ hx)
    have hv : dVar j (ρ.set j (some (.str w))) = .ok (.str w) := by
      unfold dVar
      rw [List.getElem?_set_self hj]
    rw [List.map_cons]
    unfold dLcE
    rw [s_b1, obO_some]
    rcases num_or (h w List.mem_cons_self) with ⟨i, e, _⟩ | e
    · have e2 : dUse 1 d_number_of (dCons (dVar j) dNil) (ρ.set j (some (.str w))) = .ok (.int i) := by simp only [s_use, s_cons, hv, Out.ok_bind, s_nil]; simp [e]
      rw [e2, Out.ok_bind]
      rcases ih with ⟨gs, h1⟩ | h1
      · exact .inl ⟨i :: gs, by rw [h1]; rfl⟩
      · exact .inr (by rw [h1]; rfl)
    · have e2 : dUse 1 d_number_of (dCons (dVar j) dNil) (ρ.set j (some (.str w))) = .err 2 := by simp only [s_use, s_cons, hv, Out.ok_bind, s_nil]; simp [e]
      exact .inr (by rw [e2]; rfl)
theorem lcE_can {ρ : List (Option D)} {j : Nat} (hj : j < ρ.length) : ∀ {gs : List Int}, (∀ g ∈ gs, -30 ≤ g ∧ g ≤ 60) → dLcE (b1 j) (dUse 1 d_number_of (dCons (dVar j) dNil)) ρ ((gs.map sI).map .str) = .ok (gs.map .int)
  | [], _ => rfl
  | g :: gs, h => by
    have ih := lcE_can (gs := gs) hj fun x hx => h x (List.mem_cons_of_mem _ hx)
    have hg := h g List.mem_cons_self
    have e := (can_of hg.1 hg.2).e
    have hv : dVar j (ρ.set j (some (.str (sI g)))) = .ok (.str (sI g)) := by
      unfold dVar
      rw [List.getElem?_set_self hj]
    rw [List.map_cons, List.map_cons]
    unfold dLcE
    have e2 : dUse 1 d_number_of (dCons (dVar j) dNil) (ρ.set j (some (.str (sI g)))) = .ok (.int g) := by simp only [s_use, s_cons, hv, Out.ok_bind, s_nil]; simp [e]
    rw [s_b1, obO_some, e2, Out.ok_bind, ih]
    rfl
theorem place_or {ws : List Str} (hw : ∀ w ∈ ws, w.length ≤ 1000000) : (∃ p, d_place_of [encW ws] = .ok (encP p)) ∨ d_place_of [encW ws] = .err 2 := by
  have hl := len_W ws
  by_cases h5 : ws.length < 5
  · right
    have h5' : (ws.length : Int) < 5 := by omega
    simp [d_place_of, b_place_of, -e_lenL, hl, h5']
  · have h5' : ¬ (ws.length : Int) < 5 := by omega
    have g0 := get_W (ws := ws) (i := 0) (by omega) (j := 0) rfl
    have g1 := get_W (ws := ws) (i := 1) (by omega) (j := 1) rfl
    have g2 := get_W (ws := ws) (i := 2) (by omega) (j := 2) rfl
    have g3 := get_W (ws := ws) (i := 3) (by omega) (j := 3) rfl
    have q3 := ne_str ws[3] (Str.ofString "to")
    by_cases ht : ws[3] = Str.ofString "to"
    · rw [decide_eq_true ht] at q3
      have c4 := cut_from ws (i := 4) (k := 4) rfl
      have st : ∀ o : Out (List D), dLcE (b1 2) (dUse 1 d_number_of (dCons (dVar 2) dNil)) [some (encW ws), none, none] ((ws.drop 4).map .str) = o → dLcX (dSeqI (dSlice (dVar 0) (dPart (dC (.int 4))) dNoP)) (b1 2) (dUse 1 d_number_of (dCons (dVar 2) dNil)) [2] [some (encW ws), none, none] = o.bind fun r => .ok (.list r) := fun o k => by
        have hsq : seqD (encW (ws.drop 4)) = .ok ((ws.drop 4).map .str) := rfl
        rw [← k]
        generalize (ws.drop 4).map D.str = DW at *
        simp [c4, hsq]
      rcases lcE_num (ρ := [some (encW ws), none, none]) (j := 2) (by simp) (ws := ws.drop 4) (fun w h => hw w (List.mem_of_mem_drop h)) with ⟨gs, k⟩ | k
      · have st' := st _ k
        rw [Out.ok_bind] at st'
        have n0 := num_or (hw _ (List.getElem_mem (show 0 < ws.length by omega)))
        have n1 := num_or (hw _ (List.getElem_mem (show 1 < ws.length by omega)))
        have n2 := num_or (hw _ (List.getElem_mem (show 2 < ws.length by omega)))
        rcases n0 with ⟨a, n0, _⟩ | n0
        · rcases n1 with ⟨b, n1, _⟩ | n1
          · rcases n2 with ⟨c, n2, _⟩ | n2
            · left
              refine ⟨⟨a, b, c, gs⟩, ?_⟩
              unfold encP
              dsimp only
              generalize gs.map D.int = GS at *
              simp [d_place_of, b_place_of, -e_lenL, -s_lcX, hl, h5', g0, g1, g2, g3, q3, st', n0, n1, n2]
            · right
              generalize gs.map D.int = GS at *
              simp [d_place_of, b_place_of, -e_lenL, -s_lcX, hl, h5', g0, g1, g2, g3, q3, st', n0, n1, n2]
          · right
            generalize gs.map D.int = GS at *
            simp [d_place_of, b_place_of, -e_lenL, -s_lcX, hl, h5', g0, g1, g2, g3, q3, st', n0, n1]
        · right
          generalize gs.map D.int = GS at *
          simp [d_place_of, b_place_of, -e_lenL, -s_lcX, hl, h5', g0, g1, g2, g3, q3, st', n0]
      · right
        have st' := st _ k
        rw [Out.err_bind] at st'
        simp [d_place_of, b_place_of, -e_lenL, -s_lcX, hl, h5', g0, g1, g2, g3, q3, st']
    · right
      rw [decide_eq_false ht] at q3
      simp [d_place_of, b_place_of, -e_lenL, hl, h5', g3, q3]
/-- a place's words between the first and the last one -/
def wdM (p : Place) : List Str := [sI p.o, sI p.m, sI p.g, Str.ofString "to"] ++ p.gs.map sI
theorem wdP_M (p : Place) : wdP p = Str.ofString "place" :: (wdM p ++ [Str.ofString "end"]) := by simp [wdP, wdM]
theorem place_can {c : Int} {p : Place} (h : POk c 12 p) (hc : c ≤ 24) : d_place_of [encW (wdM p)] = .ok (encP p) := by
  have a := h.o0; have a2 := h.o1; have b := h.m0; have b2 := h.m1; have c1 := h.g0; have c2 := h.g1
  have hne := List.length_pos_iff.mpr h.ne
  have hlen : (wdM p).length = p.gs.length + 4 := by simp [wdM]
  have hl := len_W (wdM p)
  have h5' : ¬ ((wdM p).length : Int) < 5 := by omega
  have g0 := get_W (ws := wdM p) (i := 0) (by omega) (j := 0) rfl
  have g1 := get_W (ws := wdM p) (i := 1) (by omega) (j := 1) rfl
  have g2 := get_W (ws := wdM p) (i := 2) (by omega) (j := 2) rfl
  have g3 := get_W (ws := wdM p) (i := 3) (by omega) (j := 3) rfl
  have w0 : (wdM p)[0] = sI p.o := rfl
  have w1 : (wdM p)[1] = sI p.m := rfl
  have w2 : (wdM p)[2] = sI p.g := rfl
  have w3 : (wdM p)[3] = Str.ofString "to" := rfl
  rw [w0] at g0
  rw [w1] at g1
  rw [w2] at g2
  rw [w3] at g3
  have q3 := ne_str (Str.ofString "to") (Str.ofString "to")
  rw [decide_eq_true rfl] at q3
  have c4 := cut_from (wdM p) (i := 4) (k := 4) rfl
  have d4 : (wdM p).drop 4 = p.gs.map sI := rfl
  have k := lcE_can (ρ := [some (encW (wdM p)), none, none]) (j := 2) (by simp) (gs := p.gs) fun g hg => by have := h.rg g hg; omega
  have st' : dLcX (dSeqI (dSlice (dVar 0) (dPart (dC (.int 4))) dNoP)) (b1 2) (dUse 1 d_number_of (dCons (dVar 2) dNil)) [2] [some (encW (wdM p)), none, none] = .ok (.list (p.gs.map .int)) := by
    have hsq : seqD (encW ((wdM p).drop 4)) = .ok (((wdM p).drop 4).map .str) := rfl
    rw [← d4] at k
    generalize ((wdM p).drop 4).map D.str = DW at *
    generalize p.gs.map D.int = GS at *
    simp [c4, hsq, k]
  have n0 := (can_of (i := p.o) (by omega) (by omega)).e
  have n1 := (can_of (i := p.m) (by omega) (by omega)).e
  have n2 := (can_of (i := p.g) (by omega) (by omega)).e
  unfold encP
  generalize p.gs.map D.int = GS at *
  simp [d_place_of, b_place_of, -e_lenL, -s_lcX, hl, h5', g0, g1, g2, g3, q3, st', n0, n1, n2]
/-! ### all places of words -/
theorem find_front {a b : List Str} {x : Str} (h : x ∉ a) : (a ++ x :: b).findIdx (fun y => decide (y = x)) = a.length := by
  induction a with
  | nil => simp [List.findIdx_cons]
  | cons y a ih =>
    have h1 : ¬ y = x := fun z => h (by rw [z]; exact List.mem_cons_self)
    have h2 : x ∉ a := fun z => h (List.mem_cons_of_mem _ z)
    rw [List.cons_append, List.findIdx_cons, decide_eq_false h1, ih h2]
    rfl
section
variable {ws : List Str} {ps : List Place} {y3 : Option D}
/-- one turn: words that begin no place, or end none -/
theorem turn_no {k : Nat} (hk : k < ws.length) (h : ws[k] ≠ Str.ofString "place" ∨ Str.ofString "end" ∉ ws.drop k) : l1_places_of [some (encW ws), some (.list (ps.map encP)), some (.int (k : Int)), y3] = .err 2 [some (encW ws), some (.list (ps.map encP)), some (.int (k : Int)), y3] := by
  have g := get_W hk (j := (k : Int)) rfl
  have q := ne_str ws[k] (Str.ofString "place")
  by_cases h1 : ws[k] = Str.ofString "place"
  · have h2 : Str.ofString "end" ∉ ws.drop k := h.resolve_left fun z => z h1
    rw [decide_eq_true h1] at q
    have c := cut_from ws (i := (k : Int)) (k := k) rfl
    have n := nin_strs (Str.ofString "end") (ws.drop k)
    rw [decide_eq_false h2] at n
    generalize encW (ws.drop k) = DW at *
    simp [l1_places_of, g, q, c, n]
  · rw [decide_eq_false h1] at q
    simp [l1_places_of, g, q]
/-- one turn: a place's words -/
theorem turn_yes {k e : Nat} (hk : k < ws.length) (h1 : ws[k] = Str.ofString "place") (h2 : Str.ofString "end" ∈ ws.drop k) (he : e = k + (ws.drop k).findIdx fun y => decide (y = Str.ofString "end")) (hps : ps.length ≤ 100000) :
    (d_place_of [encW ((ws.take e).drop (k + 1))] = .err 2 → l1_places_of [some (encW ws), some (.list (ps.map encP)), some (.int (k : Int)), y3] = .err 2 [some (encW ws), some (.list (ps.map encP)), some (.int (k : Int)), some (.int (e : Int))]) ∧
    ∀ p, d_place_of [encW ((ws.take e).drop (k + 1))] = .ok (encP p) → l1_places_of [some (encW ws), some (.list (ps.map encP)), some (.int (k : Int)), y3] = .nx [some (encW ws), some (.list ((ps ++ [p]).map encP)), some (.int ((e + 1 : Nat) : Int)), some (.int (e : Int))] := by
  have g := get_W hk (j := (k : Int)) rfl
  have q := ne_str ws[k] (Str.ofString "place")
  rw [decide_eq_true h1] at q
  have c := cut_from ws (i := (k : Int)) (k := k) rfl
  have n := nin_strs (Str.ofString "end") (ws.drop k)
  rw [decide_eq_true h2] at n
  have ix := ix_strs h2
  have he' : (k : Int) + (((ws.drop k).findIdx fun y => decide (y = Str.ofString "end") : Nat) : Int) = (e : Int) := by omega
  have c2 := cut_mid ws (i := (k : Int) + 1) (j := (e : Int)) (a := k + 1) (b := e) (by omega) rfl
  have step3 : dAsg 3 (dOp addD (dVar 2) (dIxW (dSlice (dVar 0) (dPart (dVar 2)) dNoP) (dC (.str "end")))) [some (encW ws), some (.list (ps.map encP)), some (.int (k : Int)), y3] = .nx [some (encW ws), some (.list (ps.map encP)), some (.int (k : Int)), some (.int (e : Int))] := by
    rw [← he']
    generalize (((ws.drop k).findIdx fun y => decide (y = Str.ofString "end") : Nat) : Int) = F at *
    have c' : sliceD (encW ws) (some (k : Int)) none = some (.list ((ws.drop k).map .str)) := c
    generalize (ws.drop k).map D.str = DW at *
    generalize ps.map encP = PP at *
    simp [c', ix]
  have hpl : (ps.map encP).length ≤ 100000 := by rw [List.length_map]; exact hps
  constructor
  · intro hp
    generalize encW ((ws.take e).drop (k + 1)) = MW at *
    generalize encW (ws.drop k) = DW at *
    generalize ps.map encP = PP at *
    simp only [l1_places_of, s_seq]
    simp [-s_idx, g, q, c, n, -s_asg]
    rw [step3]
    simp [hpl, c2, hp]
  · intro p hp
    have hap : (ps ++ [p]).map encP = ps.map encP ++ [encP p] := by simp
    rw [hap]
    generalize encW ((ws.take e).drop (k + 1)) = MW at *
    generalize encW (ws.drop k) = DW at *
    generalize ps.map encP = PP at *
    simp only [l1_places_of, s_seq]
    simp [-s_idx, g, q, c, n, -s_asg]
    rw [step3]
    simp [hpl, c2, hp]
theorem places_or (hw : ∀ w ∈ ws, w.length ≤ 1000000) (hl : ws.length < 99000) : (∃ ps, d_places_of [encW ws] = .ok (encGr ps)) ∨ d_places_of [encW ws] = .err 2 := by
  have hlw := len_W ws
  have := wh_P (c := l2_places_of) (t := l1_places_of) (P := fun o => (∃ ps, (o.seq (dRet (dCall tupC (dCons (dVar 1) dNil)))).fin = .ok (encGr ps)) ∨ (o.seq (dRet (dCall tupC (dCons (dVar 1) dNil)))).fin = .err 2)
    (fun m ρ => ∃ (k : Nat) (ps : List Place) (y3 : Option D), m = ws.length - k ∧ ps.length ≤ k ∧ k ≤ ws.length ∧ ρ = [some (encW ws), some (.list (ps.map encP)), some (.int (k : Int)), y3])
    (by
      rintro m ρ ⟨k, ps, y3, rfl, hp, hk, rfl⟩
      by_cases hlt : k < ws.length
      · have hc : l2_places_of [some (encW ws), some (.list (ps.map encP)), some (.int (k : Int)), y3] = .ok true := by
          have : (k : Int) < ws.length := by omega
          simp [l2_places_of, -e_lenL, hlw, this]
        refine .inr ⟨hc, ?_⟩
        by_cases h1 : ws[k] = Str.ofString "place"
        · by_cases h2 : Str.ofString "end" ∈ ws.drop k
          · obtain ⟨e, he⟩ : ∃ e, e = k + (ws.drop k).findIdx fun y => decide (y = Str.ofString "end") := ⟨_, rfl⟩
            have hel : e < ws.length := by
              have := List.findIdx_lt_length_of_exists (xs := ws.drop k) (p := fun y => decide (y = Str.ofString "end")) ⟨_, h2, by simp⟩
              rw [List.length_drop] at this
              omega
            obtain ⟨t1, t2⟩ := turn_yes (ps := ps) (y3 := y3) hlt h1 h2 he (by omega)
            rcases place_or (ws := (ws.take e).drop (k + 1)) fun w h => hw w (List.mem_of_mem_take (List.mem_of_mem_drop h)) with ⟨p, hp'⟩ | hp'
            · exact .inl ⟨_, ws.length - (e + 1), .inl (t2 p hp'), by omega, e + 1, ps ++ [p], _, rfl, by rw [List.length_append, List.length_singleton]; omega, by omega, rfl⟩
            · exact .inr (.inr ⟨2, _, t1 hp', .inr rfl⟩)
          · exact .inr (.inr ⟨2, _, turn_no hlt (.inr h2), .inr rfl⟩)
        · exact .inr (.inr ⟨2, _, turn_no hlt (.inl h1), .inr rfl⟩)
      · have hc : l2_places_of [some (encW ws), some (.list (ps.map encP)), some (.int (k : Int)), y3] = .ok false := by
          have : ¬ (k : Int) < ws.length := by omega
          simp [l2_places_of, -e_lenL, hlw, this]
        exact .inl ⟨hc, .inl ⟨ps, rfl⟩⟩) (n := ws.length) (fuel := 100000) (ρ := [some (encW ws), some (.list (([] : List Place).map encP)), some (.int ((0 : Nat) : Int)), none]) ⟨0, [], none, rfl, Nat.le_refl _, Nat.zero_le _, rfl⟩ (by omega)
  exact this
theorem places_can (hg : ∀ p ∈ ps, POk 24 12 p) (hl : (ps.flatMap wdP).length < 99000) : d_places_of [encW (ps.flatMap wdP)] = .ok (encGr ps) := by
  obtain ⟨ws, hws⟩ : ∃ ws, ws = ps.flatMap wdP := ⟨_, rfl⟩
  rw [← hws] at hl ⊢
  have hlw := len_W ws
  have := wh_P (c := l2_places_of) (t := l1_places_of) (P := fun o => (o.seq (dRet (dCall tupC (dCons (dVar 1) dNil)))).fin = .ok (encGr ps))
    (fun m ρ => ∃ (k : Nat) (done rest : List Place) (y3 : Option D), m = ws.length - k ∧ ps = done ++ rest ∧ ws.drop k = rest.flatMap wdP ∧ done.length ≤ k ∧ k ≤ ws.length ∧ ρ = [some (encW ws), some (.list (done.map encP)), some (.int (k : Int)), y3])
    (by
      rintro m ρ ⟨k, done, rest, y3, rfl, hd, hr, hp, hk, rfl⟩
      cases rest with
      | nil =>
        have hlt : ¬ k < ws.length := by
          have := congrArg List.length hr
          rw [List.length_drop] at this
          simp at this
          omega
        have hc : l2_places_of [some (encW ws), some (.list (done.map encP)), some (.int (k : Int)), y3] = .ok false := by
          have : ¬ (k : Int) < ws.length := by omega
          simp [l2_places_of, -e_lenL, hlw, this]
        rw [List.append_nil] at hd
        subst hd
        exact .inl ⟨hc, rfl⟩
      | cons p rest =>
        have P := hg p (by rw [hd]; simp)
        have hr2 : ws.drop k = Str.ofString "place" :: (wdM p ++ Str.ofString "end" :: rest.flatMap wdP) := by
          rw [hr, List.flatMap_cons, wdP_M]
          simp
        have hlen := congrArg List.length hr2
        rw [List.length_drop] at hlen
        simp only [List.length_cons, List.length_append] at hlen
        have hlt : k < ws.length := by omega
        have hc : l2_places_of [some (encW ws), some (.list (done.map encP)), some (.int (k : Int)), y3] = .ok true := by
          have : (k : Int) < ws.length := by omega
          simp [l2_places_of, -e_lenL, hlw, this]
        have h1 : ws[k] = Str.ofString "place" := by
          have := List.drop_eq_getElem_cons hlt
          rw [hr2] at this
          exact (List.cons.inj this).1.symm
        have h2 : Str.ofString "end" ∈ ws.drop k := by rw [hr2]; simp
        have hne : Str.ofString "end" ∉ Str.ofString "place" :: wdM p := fun z => by
          have a := P.o0; have a2 := P.o1; have b := P.m0; have b2 := P.m1; have c1 := P.g0; have c2 := P.g1
          unfold wdM at z
          simp only [List.mem_cons, List.mem_append, List.not_mem_nil, or_false] at z
          rcases z with z | (z | z | z | z) | z
          · exact absurd z (by decide +kernel)
          · exact (can_of (by omega) (by omega)).n z.symm
          · exact (can_of (by omega) (by omega)).n z.symm
          · exact (can_of (by omega) (by omega)).n z.symm
          · exact absurd z (by decide +kernel)
          · obtain ⟨g, hg', z⟩ := List.mem_map.mp z
            have := P.rg g hg'
            exact (can_of (by omega) (by omega)).n z
        have hf : (ws.drop k).findIdx (fun y => decide (y = Str.ofString "end")) = (wdM p).length + 1 := by
          rw [hr2, ← List.cons_append, find_front hne, List.length_cons]
        obtain ⟨e, he⟩ : ∃ e, e = k + (ws.drop k).findIdx fun y => decide (y = Str.ofString "end") := ⟨_, rfl⟩
        obtain ⟨t1, t2⟩ := turn_yes (ps := done) (y3 := y3) hlt h1 h2 he (by omega)
        rw [hf] at he
        have hm : (ws.take e).drop (k + 1) = wdM p := by
          have e1 : (ws.take e).drop (k + 1) = ((ws.drop k).take (e - k)).drop 1 := by
            rw [← List.drop_take, List.drop_drop]
          rw [e1, hr2, he]
          have : k + ((wdM p).length + 1) - k = (wdM p).length + 1 := by omega
          rw [this, List.take_succ_cons, List.drop_succ_cons, List.drop_zero, List.take_left']
          rfl
        rw [hm] at t2
        refine .inr ⟨hc, .inl ⟨_, ws.length - (e + 1), .inl (t2 p (place_can P (by decide))), by omega, e + 1, done ++ [p], rest, _, rfl, by rw [hd]; simp, ?_, by rw [List.length_append, List.length_singleton]; omega, by omega, rfl⟩⟩
        have e2 : ws.drop (e + 1) = (ws.drop k).drop ((wdM p).length + 2) := by
          rw [List.drop_drop]
          congr 1
          omega
        rw [e2, hr2]
        have e3 : Str.ofString "place" :: (wdM p ++ Str.ofString "end" :: rest.flatMap wdP) = (Str.ofString "place" :: (wdM p ++ [Str.ofString "end"])) ++ rest.flatMap wdP := by simp
        rw [e3, List.drop_left' (by simp)]) (n := ws.length) (fuel := 100000) (ρ := [some (encW ws), some (.list (([] : List Place).map encP)), some (.int ((0 : Nat) : Int)), none]) ⟨0, [], ps, none, rfl, rfl, by rw [hws]; rfl, Nat.le_refl _, Nat.zero_le _, rfl⟩ (by omega)
  exact this
end
/-! ### read -/
theorem pk_ints : ∀ l : List Int, D.pkA (l.map .int) = true := fun l => pkA_iff.mpr fun x hx => by
  obtain ⟨i, _, rfl⟩ := List.mem_map.mp hx
  rfl
theorem pk_gr (ps : List Place) : D.pk (encGr ps) = true := by
  have : D.pkA (ps.map encP) = true := pkA_iff.mpr fun x hx => by
    obtain ⟨p, _, rfl⟩ := List.mem_map.mp hx
    simp [encP, D.pk, D.pkA, pk_ints]
  exact this
theorem spl_sum {text : Str} : ((Txt.split text sp).map (·.length)).sum + (Txt.split text sp).length ≤ text.length + 1 := PyProof.Rows.split_weight text sp (by decide +kernel)
theorem mem_sum {w : Str} : ∀ {ws : List Str}, w ∈ ws → w.length ≤ (ws.map (·.length)).sum
  | [], h => by cases h
  | x :: ws, h => by
    rw [List.map_cons, List.sum_cons]
    rcases List.mem_cons.mp h with rfl | z
    · omega
    · have := mem_sum z
      omega
theorem rising_tr {n : Int} : ∀ {gs : List Int} {a : Int}, gs.Pairwise (· < ·) → (∀ i ∈ gs, a < i ∧ i < n) → rising n a (gs.map .int) = true
  | [], _, _, _ => rfl
  | i :: gs, a, h, h2 => by
    have hp := List.pairwise_cons.mp h
    have := h2 i List.mem_cons_self
    simp only [List.map_cons, rising, Bool.and_eq_true, decide_eq_true_eq]
    exact ⟨⟨this.1, this.2⟩, rising_tr hp.2 fun j hj => ⟨hp.1 j hj, (h2 j (List.mem_cons_of_mem _ hj)).2⟩⟩
theorem ground_true {ps : List Place} (hg : GOk 12 ps) (hn : ps.length ≤ 24) : groundB (encGr ps) = true := by
  have h0 := hg.ne
  unfold groundB encGr
  simp only [List.length_map, Bool.and_eq_true, decide_eq_true_eq]
  refine ⟨⟨h0, hn⟩, List.all_eq_true.mpr fun x hx => ?_⟩
  obtain ⟨p, hp, rfl⟩ := List.mem_map.mp hx
  have P := hg.ok p hp
  have r := rising_tr (n := (ps.length : Int)) (a := -1) P.up fun i hi => by have := P.rg i hi; omega
  have hne : (p.gs.map D.int).isEmpty = false := by
    have := P.ne
    cases h : p.gs with
    | nil => exact absurd h this
    | cons a l => rfl
  show (isNum (.int p.o) 0 1 && isNum (.int p.m) 0 12 && isNum (.int p.g) (-20) 20 && rising ps.length (-1) (p.gs.map .int) && !(p.gs.map D.int).isEmpty) = true
  rw [r, hne]
  simp [isNum, P.o0, P.o1, P.m0, P.m1, P.g0, P.g1]
section
variable {text : Str} {ps : List Place}
/-- what read does with the words -/
theorem read_tail (ht : text.length ≤ 98000) : (∃ ps, d_read [.str text] = .ok (encGr ps) ∧ GOk 12 ps ∧ ps.length ≤ 24 ∧ wrT ps = text) ∨ d_read [.str text] = .err 2 := by
  obtain ⟨ws, hws⟩ : ∃ ws, ws = Txt.split text sp := ⟨_, rfl⟩
  have hs := spl_sum (text := text)
  rw [← hws] at hs
  have hl := len_W ws
  have e1 : dSplit (dVar 0) (dC (.str " ")) [some (.str text), none, none] = .ok (encW ws) := by
    have h1 : ¬ (Str.ofString " ").length = 0 := by decide +kernel
    have h2 : text.length ≤ 1000000 := by omega
    rw [hws]
    unfold encW
    show (if _ then _ else _) = _
    exact if_pos ⟨h1, h2⟩
  by_cases h2 : ws.length < 2
  · right
    have h2' : (ws.length : Int) < 2 := by omega
    simp [d_read, b_read, -s_split, -e_lenL, e1, hl, h2']
  · have h2' : ¬ (ws.length : Int) < 2 := by omega
    have g0 := get_W (ws := ws) (i := 0) (by omega) (j := 0) rfl
    have q0 := ne_str ws[0] (Str.ofString "ground")
    by_cases h0 : ws[0] = Str.ofString "ground"
    · rw [decide_eq_true h0] at q0
      have c2 := cut_from ws (i := 2) (k := 2) rfl
      rcases places_or (ws := ws.drop 2) (fun w h => by have := mem_sum (List.mem_of_mem_drop h); omega) (by rw [List.length_drop]; omega) with ⟨p0, hp⟩ | hp
      · have eg := e_is_ground _ (pk_gr p0)
        generalize encW (ws.drop 2) = DW at *
        cases hb : groundB (encGr p0) with
        | false =>
          rw [hb] at eg
          right
          generalize encGr p0 = GD at *
          simp [d_read, b_read, -s_split, -e_lenL, e1, hl, h2', g0, q0, c2, hp, eg]
        | true =>
          rw [hb] at eg
          obtain ⟨qs, he, hq, hqn⟩ := ground_of hb
          have ew := e_ground_words hq hqn
          have ej := join_G hq hqn
          have en := ne_str (wrT qs) text
          rw [he] at hp eg
          have ej' : joinS (Str.ofString " ") (.list ((wdG qs).map .str)) = some (.str (wrT qs)) := ej
          generalize (wdG qs).map D.str = WG at *
          by_cases hT : wrT qs = text
          · left
            rw [decide_eq_true hT] at en
            refine ⟨qs, ?_, hq, hqn, hT⟩
            generalize encGr qs = GD at *
            simp [d_read, b_read, -s_split, -e_lenL, e1, hl, h2', g0, q0, c2, hp, eg, ew, ej', en]
          · right
            rw [decide_eq_false hT] at en
            generalize encGr qs = GD at *
            simp [d_read, b_read, -s_split, -e_lenL, e1, hl, h2', g0, q0, c2, hp, eg, ew, ej', en]
      · right
        generalize encW (ws.drop 2) = DW at *
        simp [d_read, b_read, -s_split, -e_lenL, e1, hl, h2', g0, q0, c2, hp]
    · right
      rw [decide_eq_false h0] at q0
      simp [d_read, b_read, -s_split, -e_lenL, e1, hl, h2', g0, q0]
theorem gs_len {c : Int} {p : Place} (h : POk c 12 p) (hc : c ≤ 24) : p.gs.length ≤ 24 := by
  have := inc_len (a := 0) (b := c) h.up fun i hi => h.rg i hi
  omega
theorem wdG_small (hg : GOk 12 ps) (hn : ps.length ≤ 24) : (∀ w ∈ wdG ps, w.length ≤ 6 ∧ 32 ∉ w.cps.toList) ∧ (wdG ps).length ≤ 722 ∧ (ps.flatMap wdP).length + 2 = (wdG ps).length := by
  have hc : (ps.length : Int) ≤ 24 := by omega
  have one : ∀ i : Int, -30 ≤ i → i ≤ 60 → (sI i).length ≤ 6 ∧ 32 ∉ (sI i).cps.toList := fun i h1 h2 => by
    have := can_of h1 h2
    have := this.l
    exact ⟨by omega, (can_of h1 h2).b⟩
  refine ⟨fun w hw => ?_, ?_, ?_⟩
  · unfold wdG at hw
    rcases List.mem_append.mp hw with z | z
    · simp only [List.mem_cons, List.not_mem_nil, or_false] at z
      rcases z with rfl | rfl
      · decide +kernel
      · exact one _ (by omega) (by omega)
    · obtain ⟨p, hp, z⟩ := List.mem_flatMap.mp z
      have P := hg.ok p hp
      have a := P.o0; have a2 := P.o1; have b := P.m0; have b2 := P.m1; have c1 := P.g0; have c2 := P.g1
      unfold wdP at z
      simp only [List.mem_append, List.mem_cons, List.not_mem_nil, or_false] at z
      rcases z with (rfl | rfl | rfl | rfl | rfl) | z | rfl
      · decide +kernel
      · exact one _ (by omega) (by omega)
      · exact one _ (by omega) (by omega)
      · exact one _ (by omega) (by omega)
      · decide +kernel
      · obtain ⟨g, hg', rfl⟩ := List.mem_map.mp z
        have := P.rg g hg'
        exact one _ (by omega) (by omega)
      · decide +kernel
  · have : ∀ l : List Place, (∀ p ∈ l, p.gs.length ≤ 24) → (l.flatMap wdP).length ≤ l.length * 30 := fun l => by
      induction l with
      | nil => intro _; simp
      | cons p l ih =>
        intro h
        have h1 := h p List.mem_cons_self
        have h2 := ih fun q hq => h q (List.mem_cons_of_mem _ hq)
        rw [List.flatMap_cons, List.length_append, wdP_len, List.length_cons]
        omega
    have h1 := this ps fun p hp => gs_len (hg.ok p hp) hc
    unfold wdG
    rw [List.length_append]
    simp only [List.length_cons, List.length_nil]
    omega
  · unfold wdG
    rw [List.length_append]
    simp only [List.length_cons, List.length_nil]
    omega
theorem wrT_small (hg : GOk 12 ps) (hn : ps.length ≤ 24) : (wrT ps).length ≤ 5054 := by
  obtain ⟨h1, h2, _⟩ := wdG_small hg hn
  have h3 := PySem.StrLaws.join_length_le sp (wdG ps)
  have h4 := sum_le (k := 6) (ws := wdG ps) fun w hw => (h1 w hw).1
  have h5 : sp.length = 1 := by decide +kernel
  rw [wr_join, h5] at h3
  omega
theorem split_wr (hg : GOk 12 ps) (hn : ps.length ≤ 24) : Txt.split (wrT ps) sp = wdG ps := by
  obtain ⟨h1, _, _⟩ := wdG_small hg hn
  rw [← wr_join, ← _root_.TL.join_eq]
  exact _root_.TL.split_join (s := 32) (S := []) (by decide +kernel) (by decide +kernel) (by simp [wdG]) fun p hp => (h1 p hp).2
theorem read_can (hg : GOk 12 ps) (hn : ps.length ≤ 24) : d_read [.str (wrT ps)] = .ok (encGr ps) := by
  obtain ⟨_, hlen, hlen2⟩ := wdG_small hg hn
  have hws := split_wr hg hn
  have ht := wrT_small hg hn
  have hl := len_W (wdG ps)
  have e1 : dSplit (dVar 0) (dC (.str " ")) [some (.str (wrT ps)), none, none] = .ok (encW (wdG ps)) := by
    have h1 : ¬ (Str.ofString " ").length = 0 := by decide +kernel
    have h2 : (wrT ps).length ≤ 1000000 := by omega
    rw [← hws]
    unfold encW
    show (if _ then _ else _) = _
    exact if_pos ⟨h1, h2⟩
  have h2' : ¬ ((wdG ps).length : Int) < 2 := by omega
  have g0 := get_W (ws := wdG ps) (i := 0) (by omega) (j := 0) rfl
  have w0 : (wdG ps)[0] = Str.ofString "ground" := rfl
  rw [w0] at g0
  have q0 := ne_str (Str.ofString "ground") (Str.ofString "ground")
  rw [decide_eq_true rfl] at q0
  have c2 := cut_from (wdG ps) (i := 2) (k := 2) rfl
  have d2 : (wdG ps).drop 2 = ps.flatMap wdP := rfl
  rw [d2] at c2
  have hp := places_can (ps := ps) (fun p hp => by
    have P := hg.ok p hp
    exact ⟨P.o0, P.o1, P.m0, P.m1, P.g0, P.g1, P.up, P.ne, fun i hi => by have := P.rg i hi; omega, P.le⟩) (by omega)
  have eg := e_is_ground _ (pk_gr ps)
  have gb : groundB (encGr ps) = true := ground_true hg hn
  rw [gb] at eg
  have ew := e_ground_words hg hn
  have ej : joinS (Str.ofString " ") (.list ((wdG ps).map .str)) = some (.str (wrT ps)) := join_G hg hn
  have en := ne_str (wrT ps) (wrT ps)
  rw [decide_eq_true rfl] at en
  generalize encW (ps.flatMap wdP) = DW at *
  generalize encGr ps = GD at *
  have ew' : d_ground_words [GD] = .ok (encW (wdG ps)) := ew
  have ej' : joinS (Str.ofString " ") (encW (wdG ps)) = some (.str (wrT ps)) := ej
  generalize encW (wdG ps) = WG at *
  simp [d_read, b_read, -s_split, -e_lenL, e1, hl, h2', g0, q0, c2, hp, eg, ew', ej', en]
end
/-! ### a changed text -/
def chT : DS :=
  (dSeq (dIfS (dCmp eqD (dVar 5) (dC (.int 0))) (dRet (dOp addD (dSlice (dVar 0) dNoP (dPart (dVar 4))) (dSlice (dVar 0) (dPart (dOp addD (dVar 4) (dC (.int 1)))) dNoP))) dNx)
  (dSeq (dIfS (dCmp ltD (dVar 5) (dC (.int 3))) (dSeq (dAsg 6 (dOp getD (dC (.str " 0129-+aE\n\t_")) (dOp modD (dOp fdivD (dVar 1) (dC (.int 7))) (dC (.int 12)))))
  (dRet (dOp addD (dOp addD (dSlice (dVar 0) dNoP (dPart (dVar 4))) (dVar 6)) (dSlice (dVar 0) (dPart (dOp subD (dOp addD (dVar 4) (dVar 5)) (dC (.int 1)))) dNoP)))) dNx)
  (dSeq (dIfS (dCmp eqD (dVar 5) (dC (.int 3))) (dRet (dJoin (dC (.str " ")) (dOp addD (dSlice (dVar 2) dNoP (dPart (dVar 3))) (dSlice (dVar 2) (dPart (dOp addD (dVar 3) (dC (.int 1)))) dNoP)))) dNx)
  (dSeq (dIfS (dCmp eqD (dVar 5) (dC (.int 4))) (dRet (dJoin (dC (.str " ")) (dOp addD (dOp addD (dSlice (dVar 2) dNoP (dPart (dVar 3))) (dSlice (dVar 2) (dPart (dVar 3)) (dPart (dOp addD (dVar 3) (dC (.int 1)))))) (dSlice (dVar 2) (dPart (dVar 3)) dNoP)))) dNx)
  (dSeq (dIfS (dCmp eqD (dVar 5) (dC (.int 5))) (dSeq (dAsg 7 (dOp addD (dSlice (dVar 2) (dPart (dOp addD (dVar 3) (dC (.int 1)))) (dPart (dOp addD (dVar 3) (dC (.int 2))))) (dSlice (dVar 2) (dPart (dVar 3)) (dPart (dOp addD (dVar 3) (dC (.int 1)))))))
  (dRet (dJoin (dC (.str " ")) (dOp addD (dOp addD (dSlice (dVar 2) dNoP (dPart (dVar 3))) (dVar 7)) (dSlice (dVar 2) (dPart (dOp addD (dVar 3) (dC (.int 2)))) dNoP))))) dNx)
  (dSeq (dAsg 8 (dSplit (dC (.str "ground place to end 0 1 2 -1 00 -0 12 13 20 21 24 100 007 x")) (dC (.str " "))))
  (dRet (dJoin (dC (.str " ")) (dOp addD (dOp addD (dSlice (dVar 2) dNoP (dPart (dVar 3))) (dLst (dCons (dOp getD (dVar 8) (dOp modD (dOp fdivD (dVar 1) (dC (.int 7))) (dC (.int 18)))) dNil))) (dSlice (dVar 2) (dPart (dOp addD (dVar 3) (dC (.int 1)))) dNoP))))))))))
theorem b__law_changed_cut : b__law_changed =
  (dSeq (dAsg 2 (dSplit (dVar 0) (dC (.str " "))))
  (dSeq (dAsg 3 (dOp modD (dOp fdivD (dVar 1) (dC (.int 8))) (dCall lenD (dCons (dVar 2) dNil))))
  (dSeq (dAsg 4 (dOp modD (dOp fdivD (dVar 1) (dC (.int 8))) (dOp addD (dCall lenD (dCons (dVar 0) dNil)) (dC (.int 1)))))
  (dSeq (dAsg 5 (dOp modD (dVar 1) (dC (.int 8))))
  (dSeq (dIfS (dCmp eqD (dOp modD (dOp fdivD (dVar 1) (dC (.int 8))) (dC (.int 6))) (dC (.int 1))) (dAsg 3 (dC (.int 1))) dNx)
  chT))))) := rfl
/-- a row's weight: its signs, and one for each word -/
def wt (us : List Str) : Nat := (us.map (·.length)).sum + us.length
theorem wt_app (a b : List Str) : wt (a ++ b) = wt a + wt b := by
  unfold wt
  rw [List.map_append, List.sum_append, List.length_append]
  omega
theorem wt_len (a : List Str) : a.length ≤ wt a := by
  unfold wt
  omega
theorem wt_split (ws : List Str) (k : Nat) : wt (ws.take k) + wt (ws.drop k) = wt ws := by
  rw [← wt_app, List.take_append_drop]
theorem join_W {us : List Str} (h : wt us ≤ 1000000) : joinS (Str.ofString " ") (encW us) = some (.str (Str.join sp us)) ∧ (Str.join sp us).length ≤ wt us := by
  have h5 : sp.length = 1 := by decide +kernel
  constructor
  · show (strsOf (us.map .str)).bind _ = _
    rw [strsOf_map]
    refine if_pos ?_
    have : (Str.ofString " ").length = 1 := h5
    rw [this]
    unfold wt at h
    omega
  · have h3 := PySem.StrLaws.join_length_le sp us
    rw [h5] at h3
    unfold wt
    omega
def someW : List Str := ["ground", "place", "to", "end", "0", "1", "2", "-1", "00", "-0", "12", "13", "20", "21", "24", "100", "007", "x"]
theorem some_split : Txt.split (Str.ofString "ground place to end 0 1 2 -1 00 -0 12 13 20 21 24 100 007 x") (Str.ofString " ") = someW := by
  have e : Str.ofString "ground place to end 0 1 2 -1 00 -0 12 13 20 21 24 100 007 x" = Str.join (Str.ofString " ") someW := by decide +kernel
  rw [e, ← _root_.TL.join_eq]
  exact _root_.TL.split_join (s := 32) (S := []) (by decide +kernel) (by decide +kernel) (by decide) (by decide +kernel)
theorem split_const {C S : Str} (h1 : ¬ S.length = 0) (h2 : C.length ≤ 1000000) (ρ : List (Option D)) : dSplit (dC (.str C)) (dC (.str S)) ρ = .ok (encW (Txt.split C S)) := by
  show (if S.length ≠ 0 ∧ C.length ≤ 1000000 then Out.ok (D.list ((Txt.split C S).map D.str)) else .bad) = _
  exact if_pos ⟨h1, h2⟩
theorem some_small : ∀ w ∈ someW, w.length ≤ 6 := by decide +kernel
section
variable {text : Str} {ws : List Str} {n : Int} {a p : Nat}
theorem ch_0 (hl : text.length ≤ 48000) (x1 x2 x3 x6 x7 x8 : Option D) : ∃ t', (chT [some (.str text), x1, x2, x3, some (.int (p : Int)), some (.int 0), x6, x7, x8]).fin = .ok (.str t') ∧ t'.length ≤ 2 * text.length + 10 := by
  have s1 := slice_str (z := text) (by omega) none (some (p : Int))
  have s2 := slice_str (z := text) (by omega) (some ((p : Int) + 1)) none
  have l1 := cutS_len text none (some (p : Int))
  have l2 := cutS_len text (some ((p : Int) + 1)) none
  generalize cutS text none (some (p : Int)) = T1 at *
  generalize cutS text (some ((p : Int) + 1)) none = T2 at *
  have ad := add_str (a := T1) (b := T2) (by omega)
  refine ⟨T1 ++ T2, ?_, by rw [str_len]; omega⟩
  simp [chT, s1, s2, ad]
theorem ch_12 (hl : text.length ≤ 48000) {K : Int} (hK : K = 1 ∨ K = 2) (x2 x3 x6 x7 x8 : Option D) : ∃ t', (chT [some (.str text), some (.int n), x2, x3, some (.int (p : Int)), some (.int K), x6, x7, x8]).fin = .ok (.str t') ∧ t'.length ≤ 2 * text.length + 10 := by
  have s1 := slice_str (z := text) (by omega) none (some (p : Int))
  have s2 := slice_str (z := text) (by omega) (some ((p : Int) + K - 1)) none
  have l1 := cutS_len text none (some (p : Int))
  have l2 := cutS_len text (some ((p : Int) + K - 1)) none
  generalize cutS text none (some (p : Int)) = T1 at *
  generalize cutS text (some ((p : Int) + K - 1)) none = T2 at *
  have m0 := Int.emod_nonneg (n / 7) (show (12 : Int) ≠ 0 by decide)
  have m1 := Int.emod_lt_of_pos (n / 7) (show (0 : Int) < 12 by decide)
  obtain ⟨Z, hZ⟩ : ∃ Z, Z = Str.ofString " 0129-+aE\n\t_" := ⟨_, rfl⟩
  obtain ⟨c, hc⟩ : ∃ c : Nat, getD (.str Z) (.int (n / 7 % 12)) = some (.str ⟨#[c]⟩) := by
    have hz : Z.cps.toList.length = 12 := by rw [hZ]; decide +kernel
    have hz2 : Z.length ≤ 1000000 := by rw [hZ]; decide +kernel
    have hlt : (n / 7 % 12).toNat < Z.cps.toList.length := by omega
    refine ⟨Z.cps.toList[(n / 7 % 12).toNat], ?_⟩
    have e1 : atI Z.cps.toList (n / 7 % 12) = some Z.cps.toList[(n / 7 % 12).toNat] := by
      unfold atI
      rw [ixN_in m0 (by omega)]
      show Z.cps.toList[(n / 7 % 12).toNat]? = _
      rw [List.getElem?_eq_getElem hlt]
    show (if Z.length ≤ 1000000 then (atI Z.cps.toList (n / 7 % 12)).map fun c => D.str ⟨#[c]⟩ else none) = _
    rw [if_pos hz2, e1]
    rfl
  rw [hZ] at hc
  have lc : (⟨#[c]⟩ : Str).length = 1 := rfl
  have ad := add_str (a := T1) (b := ⟨#[c]⟩) (by omega)
  have ad2 := add_str (a := T1 ++ ⟨#[c]⟩) (b := T2) (by rw [str_len]; omega)
  refine ⟨T1 ++ ⟨#[c]⟩ ++ T2, ?_, by rw [str_len, str_len]; omega⟩
  have k0 : ¬ K = 0 := by omega
  have k3 : K < 3 := by omega
  simp [chT, k0, k3, hc, s1, s2, ad, ad2]
theorem ch_3 (hw : wt ws ≤ text.length + 1) (hl : text.length ≤ 48000) (x1 x4 x6 x7 x8 : Option D) : ∃ t', (chT [some (.str text), x1, some (encW ws), some (.int (a : Int)), x4, some (.int 3), x6, x7, x8]).fin = .ok (.str t') ∧ t'.length ≤ 2 * text.length + 10 := by
  have s1 := cut_to ws (i := (a : Int)) (k := a) rfl
  have s2 := cut_from ws (i := (a : Int) + 1) (k := a + 1) (by omega)
  have l1 := wt_split ws a
  have l2 := wt_split ws (a + 1)
  have q1 := wt_len (ws.take a)
  have q2 := wt_len (ws.drop (a + 1))
  have ad := add_W (a := ws.take a) (b := ws.drop (a + 1)) (by omega)
  obtain ⟨j1, j2⟩ := join_W (us := ws.take a ++ ws.drop (a + 1)) (by rw [wt_app]; omega)
  rw [wt_app] at j2
  refine ⟨_, ?_, (by omega : (Str.join sp (ws.take a ++ ws.drop (a + 1))).length ≤ _)⟩
  generalize encW (ws.take a ++ ws.drop (a + 1)) = A0 at *
  generalize encW (ws.take a) = A1 at *
  generalize encW (ws.drop (a + 1)) = A2 at *
  simp [chT, s1, s2, ad, j1]
theorem ch_4 (hw : wt ws ≤ text.length + 1) (hl : text.length ≤ 48000) (x1 x4 x6 x7 x8 : Option D) : ∃ t', (chT [some (.str text), x1, some (encW ws), some (.int (a : Int)), x4, some (.int 4), x6, x7, x8]).fin = .ok (.str t') ∧ t'.length ≤ 2 * text.length + 10 := by
  have s1 := cut_to ws (i := (a : Int)) (k := a) rfl
  have s2 := cut_mid ws (i := (a : Int)) (j := (a : Int) + 1) (a := a) (b := a + 1) rfl (by omega)
  have s3 := cut_from ws (i := (a : Int)) (k := a) rfl
  have l1 := wt_split ws a
  have l2 := wt_split ws (a + 1)
  have l3 := wt_split (ws.take (a + 1)) a
  have q1 := wt_len (ws.take a)
  have q2 := wt_len ((ws.take (a + 1)).drop a)
  have q3 := wt_len (ws.drop a)
  have ad := add_W (a := ws.take a) (b := (ws.take (a + 1)).drop a) (by omega)
  have ad2 := add_W (a := ws.take a ++ (ws.take (a + 1)).drop a) (b := ws.drop a) (by rw [List.length_append]; omega)
  obtain ⟨j1, j2⟩ := join_W (us := ws.take a ++ (ws.take (a + 1)).drop a ++ ws.drop a) (by rw [wt_app, wt_app]; omega)
  rw [wt_app, wt_app] at j2
  refine ⟨_, ?_, (by omega : (Str.join sp (ws.take a ++ (ws.take (a + 1)).drop a ++ ws.drop a)).length ≤ _)⟩
  generalize encW (ws.take a ++ (ws.take (a + 1)).drop a ++ ws.drop a) = A0 at *
  generalize encW (ws.take a ++ (ws.take (a + 1)).drop a) = A1 at *
  generalize encW (ws.take a) = A2 at *
  generalize encW ((ws.take (a + 1)).drop a) = A3 at *
  generalize encW (ws.drop a) = A4 at *
  simp [chT, s1, s2, s3, ad, ad2, j1]
theorem ch_5 (hw : wt ws ≤ text.length + 1) (hl : text.length ≤ 48000) (x1 x4 x6 x7 x8 : Option D) : ∃ t', (chT [some (.str text), x1, some (encW ws), some (.int (a : Int)), x4, some (.int 5), x6, x7, x8]).fin = .ok (.str t') ∧ t'.length ≤ 2 * text.length + 10 := by
  have s1 := cut_to ws (i := (a : Int)) (k := a) rfl
  have s2 := cut_mid ws (i := (a : Int)) (j := (a : Int) + 1) (a := a) (b := a + 1) rfl (by omega)
  have s3 := cut_mid ws (i := (a : Int) + 1) (j := (a : Int) + 2) (a := a + 1) (b := a + 2) (by omega) (by omega)
  have s4 := cut_from ws (i := (a : Int) + 2) (k := a + 2) (by omega)
  have l1 := wt_split ws a
  have l2 := wt_split ws (a + 1)
  have l3 := wt_split (ws.take (a + 1)) a
  have l4 := wt_split ws (a + 2)
  have l5 := wt_split (ws.take (a + 2)) (a + 1)
  have l6 : (ws.take (a + 2)).take (a + 1) = ws.take (a + 1) := by rw [List.take_take, Nat.min_eq_left (by omega)]
  have l7 : (ws.take (a + 1)).take a = ws.take a := by rw [List.take_take, Nat.min_eq_left (by omega)]
  rw [l6] at l5
  rw [l7] at l3
  obtain ⟨M1, hM1⟩ : ∃ M1, M1 = (ws.take (a + 1)).drop a := ⟨_, rfl⟩
  obtain ⟨M2, hM2⟩ : ∃ M2, M2 = (ws.take (a + 2)).drop (a + 1) := ⟨_, rfl⟩
  rw [← hM1] at s2 l3
  rw [← hM2] at s3 l5
  have q1 := wt_len (ws.take a)
  have q2 := wt_len M1
  have q3 := wt_len M2
  have q4 := wt_len (ws.drop (a + 2))
  have ad0 := add_W (a := M2) (b := M1) (by omega)
  have ad := add_W (a := ws.take a) (b := M2 ++ M1) (by rw [List.length_append]; omega)
  have ad2 := add_W (a := ws.take a ++ (M2 ++ M1)) (b := ws.drop (a + 2)) (by rw [List.length_append, List.length_append]; omega)
  obtain ⟨j1, j2⟩ := join_W (us := ws.take a ++ (M2 ++ M1) ++ ws.drop (a + 2)) (by rw [wt_app, wt_app, wt_app]; omega)
  rw [wt_app, wt_app, wt_app] at j2
  refine ⟨_, ?_, (by omega : (Str.join sp (ws.take a ++ (M2 ++ M1) ++ ws.drop (a + 2))).length ≤ _)⟩
  generalize encW (ws.take a ++ (M2 ++ M1) ++ ws.drop (a + 2)) = A0 at *
  generalize encW (ws.take a ++ (M2 ++ M1)) = A1 at *
  generalize encW (ws.take a) = A2 at *
  generalize encW (M2 ++ M1) = A3 at *
  generalize encW M1 = A4 at *
  generalize encW M2 = A5 at *
  generalize encW (ws.drop (a + 2)) = A6 at *
  simp [chT, s1, s2, s3, s4, ad0, ad, ad2, j1]
theorem ch_67 (hw : wt ws ≤ text.length + 1) (hl : text.length ≤ 48000) {K : Int} (hK : 6 ≤ K) (x4 x6 x7 x8 : Option D) : ∃ t', (chT [some (.str text), some (.int n), some (encW ws), some (.int (a : Int)), x4, some (.int K), x6, x7, x8]).fin = .ok (.str t') ∧ t'.length ≤ 2 * text.length + 10 := by
  have s1 := cut_to ws (i := (a : Int)) (k := a) rfl
  have s2 := cut_from ws (i := (a : Int) + 1) (k := a + 1) (by omega)
  have l1 := wt_split ws a
  have l2 := wt_split ws (a + 1)
  have q1 := wt_len (ws.take a)
  have q2 := wt_len (ws.drop (a + 1))
  have m0 := Int.emod_nonneg (n / 7) (show (18 : Int) ≠ 0 by decide)
  have m1 := Int.emod_lt_of_pos (n / 7) (show (0 : Int) < 18 by decide)
  have hlt : (n / 7 % 18).toNat < someW.length := by
    have : someW.length = 18 := rfl
    omega
  have hg := get_W hlt (j := n / 7 % 18) (by omega)
  have hs := some_small _ (List.getElem_mem hlt)
  have sp1 : dSplit (dC (.str "ground place to end 0 1 2 -1 00 -0 12 13 20 21 24 100 007 x")) (dC (.str " ")) [some (.str text), some (.int n), some (encW ws), some (.int (a : Int)), x4, some (.int K), x6, x7, x8] = .ok (encW someW) := by
    have h1 : ¬ (Str.ofString " ").length = 0 := by decide +kernel
    have h2 : (Str.ofString "ground place to end 0 1 2 -1 00 -0 12 13 20 21 24 100 007 x").length ≤ 1000000 := by decide +kernel
    rw [← some_split]
    exact split_const h1 h2 _
  generalize someW[(n / 7 % 18).toNat] = w at *
  have w1 : wt [w] ≤ 7 := by
    show ([w].map (·.length)).sum + 1 ≤ 7
    simp only [List.map_cons, List.map_nil, List.sum_cons, List.sum_nil]
    omega
  have ad := add_W (a := ws.take a) (b := [w]) (by simp only [List.length_singleton]; omega)
  have ad2 := add_W (a := ws.take a ++ [w]) (b := ws.drop (a + 1)) (by rw [List.length_append, List.length_singleton]; omega)
  obtain ⟨j1, j2⟩ := join_W (us := ws.take a ++ [w] ++ ws.drop (a + 1)) (by rw [wt_app, wt_app]; omega)
  rw [wt_app, wt_app] at j2
  refine ⟨_, ?_, (by omega : (Str.join sp (ws.take a ++ [w] ++ ws.drop (a + 1))).length ≤ _)⟩
  rw [← one_W] at ad
  have k0 : ¬ K = 0 := by omega
  have k1 : ¬ K < 3 := by omega
  have k3 : ¬ K = 3 := by omega
  have k4 : ¬ K = 4 := by omega
  have k5 : ¬ K = 5 := by omega
  generalize encW (ws.take a ++ [w] ++ ws.drop (a + 1)) = A0 at *
  generalize encW (ws.take a ++ [w]) = A1 at *
  generalize encW (ws.take a) = A2 at *
  generalize encW (ws.drop (a + 1)) = A3 at *
  generalize encW someW = A4 at *
  simp [chT, -s_split, k0, k1, k3, k4, k5, sp1, hg, s1, s2, ad, ad2, j1]
theorem e_changed (hl : text.length ≤ 48000) : ∃ t', d__law_changed [.str text, .int n] = .ok (.str t') ∧ t'.length ≤ 2 * text.length + 10 := by
  obtain ⟨ws, hws⟩ : ∃ ws, ws = Txt.split text sp := ⟨_, rfl⟩
  have hs := spl_sum (text := text)
  have hp := PyProof.Rows.split_pos text sp
  rw [← hws] at hs hp
  have hw : wt ws ≤ text.length + 1 := hs
  have e1 : ∀ x2 x3 x4 x5 x6 x7 x8 : Option D, dSplit (dVar 0) (dC (.str " ")) [some (.str text), some (.int n), x2, x3, x4, x5, x6, x7, x8] = .ok (encW ws) := fun x2 x3 x4 x5 x6 x7 x8 => by
    have h1 : ¬ (Str.ofString " ").length = 0 := by decide +kernel
    have h2 : text.length ≤ 1000000 := by omega
    rw [hws]
    unfold encW
    show (if _ then _ else _) = _
    exact if_pos ⟨h1, h2⟩
  have lw := len_W ws
  have lt := len_str (z := text) (by omega)
  have a0 := Int.emod_nonneg (n / 8) (show (ws.length : Int) ≠ 0 by omega)
  have p0 := Int.emod_nonneg (n / 8) (show ((text.length : Int) + 1) ≠ 0 by omega)
  have k0 := Int.emod_nonneg n (show (8 : Int) ≠ 0 by decide)
  have k1 := Int.emod_lt_of_pos n (show (0 : Int) < 8 by decide)
  obtain ⟨p, hpp⟩ : ∃ p : Nat, n / 8 % ((text.length : Int) + 1) = (p : Int) := ⟨(n / 8 % ((text.length : Int) + 1)).toNat, by omega⟩
  obtain ⟨a, ha⟩ : ∃ a : Nat, (if n / 8 % 6 = 1 then (1 : Int) else n / 8 % (ws.length : Int)) = (a : Int) := ⟨(if n / 8 % 6 = 1 then (1 : Int) else n / 8 % (ws.length : Int)).toNat, by split <;> omega⟩
  have c1 : (0 : Int) < ws.length := by omega
  have hne : ¬ ws = [] := fun z => by rw [z] at hp; simp at hp
  have c2 : (0 : Int) < (text.length : Int) + 1 := by omega
  have red : d__law_changed [.str text, .int n] = (chT [some (.str text), some (.int n), some (encW ws), some (.int (a : Int)), some (.int (p : Int)), some (.int (n % 8)), none, none, none]).fin := by
    unfold d__law_changed
    rw [b__law_changed_cut, ← ha, ← hpp]
    generalize encW ws = EW at *
    generalize hch : chT = CT
    by_cases q : n / 8 % 6 = 1
    · simp [-s_split, -e_lenL, e1, lw, lt, c1, c2, q, hne]
    · simp [-s_split, -e_lenL, e1, lw, lt, c1, c2, q, hne]
  rw [red]
  have hk : n % 8 = 0 ∨ (n % 8 = 1 ∨ n % 8 = 2) ∨ n % 8 = 3 ∨ n % 8 = 4 ∨ n % 8 = 5 ∨ 6 ≤ n % 8 := by omega
  rcases hk with h | h | h | h | h | h
  · rw [h]; exact ch_0 hl _ _ _ _ _ _
  · exact ch_12 hl h _ _ _ _ _
  · rw [h]; exact ch_3 hw hl _ _ _ _ _
  · rw [h]; exact ch_4 hw hl _ _ _ _ _
  · rw [h]; exact ch_5 hw hl _ _ _ _ _
  · exact ch_67 hw hl h _ _ _ _
end
/-! ### what is found -/
theorem dep_gr (ps : List Place) : dep (encGr ps) ≤ 50 := by
  have hi : ∀ l : List Int, PyData.depthAll (D.pyA (l.map .int)) = 0 := fun l => by
    induction l with
    | nil => simp [D.pyA, PyData.depthAll]
    | cons a l ih => simp [D.pyA, D.py, PyData.depthAll, PyData.depth, ih]
  have hp : ∀ p : Place, (encP p).py.depth ≤ 2 := fun p => by
    simp [encP, D.py, D.pyA, PyData.depth, PyData.depthAll, hi]
  have ha : ∀ l : List Place, PyData.depthAll (D.pyA (l.map encP)) ≤ 2 := fun l => by
    induction l with
    | nil => simp [D.pyA, PyData.depthAll]
    | cons a l ih =>
      have := hp a
      simp only [List.map_cons, D.pyA, PyData.depthAll]
      omega
  have := ha ps
  show PyData.depth (.tuple (D.pyA (ps.map encP))) ≤ 50
  simp only [PyData.depth]
  omega
section
variable {text : Str} {ps : List Place}
theorem found_ok (h : d_read [.str text] = .ok (encGr ps)) : d__law_found [.str text] = .ok (encGr ps) := by
  have e1 : dTryG 2 3 [(2, true)] (seAnd (seIs [(2, true)]) (seAnd (seIs [(2, true)]) (seNot (seIs [(2, false)])))) (dAsg 1 (dUse 1 d_read (dCons (dVar 0) dNil))) [some (.str text), none, none, none] = .nx [some (.str text), some (encGr ps), none, none] := by
    unfold dTryG
    have : dAsg 1 (dUse 1 d_read (dCons (dVar 0) dNil)) [some (.str text), none, none, none] = .nx [some (.str text), some (encGr ps), none, none] := by
      generalize encGr ps = GD at *
      simp [h]
    rw [this]
  have ei : isND (encGr ps) .none = some false := rfl
  have ea : ∀ d : D, atI [d, .tuple []] 0 = some d := fun d => rfl
  simp only [d__law_found, b__law_found, s_def, s_start, s_seq]
  simp only [List.map_cons, List.map_nil, List.length_cons, List.length_nil, List.cons_append, List.nil_append, List.replicate]
  show ((dTryG 2 3 [(2, true)] (seAnd (seIs [(2, true)]) (seAnd (seIs [(2, true)]) (seNot (seIs [(2, false)])))) (dAsg 1 (dUse 1 d_read (dCons (dVar 0) dNil))) [some (.str text), none, none, none]).seq _).fin = _
  rw [e1]
  generalize encGr ps = GD at *
  simp [-e_isN, ei, intC, getD, ea]
theorem found_no (h : d_read [.str text] = .err 2) : d__law_found [.str text] = .ok .none := by
  have e1 : dTryG 2 3 [(2, true)] (seAnd (seIs [(2, true)]) (seAnd (seIs [(2, true)]) (seNot (seIs [(2, false)])))) (dAsg 1 (dUse 1 d_read (dCons (dVar 0) dNil))) [some (.str text), none, none, none] = .rt .none [some (.str text), none, none, none] := by
    unfold dTryG
    have : dAsg 1 (dUse 1 d_read (dCons (dVar 0) dNil)) [some (.str text), none, none, none] = .err 2 [some (.str text), none, none, none] := by
      simp [h]
    rw [this]
    rfl
  show ((dTryG 2 3 [(2, true)] (seAnd (seIs [(2, true)]) (seAnd (seIs [(2, true)]) (seNot (seIs [(2, false)])))) (dAsg 1 (dUse 1 d_read (dCons (dVar 0) dNil))) [some (.str text), none, none, none]).seq _).fin = _
  rw [e1]
  rfl
end
/-! ### the law -/
theorem law_true (ns : List Int) (h : ns.length ≤ 63) : d_law [.scr ns] = .ok (.bool true) := by
  obtain ⟨ps, eg, hg, hl⟩ := e_ground ns 24 (by decide) (by decide)
  have hn : ps.length ≤ 24 := by omega
  have ew := e_law_written hg hn
  have hsm := wrT_small hg hn
  obtain ⟨N, hN⟩ : ∃ N, N = mixI ns 1 := ⟨_, rfl⟩
  have em := e_mixed ns 1 (by decide)
  rw [← hN] at em
  have a0 := Int.emod_nonneg N (show (3 : Int) ≠ 0 by decide)
  have a1 := Int.emod_lt_of_pos N (show (0 : Int) < 3 by decide)
  have b0 := Int.emod_nonneg (N / 3) (show (2 : Int) ≠ 0 by decide)
  have b1' := Int.emod_lt_of_pos (N / 3) (show (0 : Int) < 2 by decide)
  obtain ⟨cnt, hc, hc4⟩ : ∃ cnt : Nat, N % 3 * (1 + N / 3 % 2) = (cnt : Int) ∧ cnt ≤ 4 := by
    have h1 : N % 3 = 0 ∨ N % 3 = 1 ∨ N % 3 = 2 := by omega
    have h2 : N / 3 % 2 = 0 ∨ N / 3 % 2 = 1 := by omega
    rcases h1 with h1 | h1 | h1 <;> rcases h2 with h2 | h2 <;> rw [h1, h2]
    · exact ⟨0, rfl, by decide⟩
    · exact ⟨0, rfl, by decide⟩
    · exact ⟨1, rfl, by decide⟩
    · exact ⟨2, rfl, by decide⟩
    · exact ⟨2, rfl, by decide⟩
    · exact ⟨4, rfl, by decide⟩
  obtain ⟨ρ', e2, T, y4, rfl, hT⟩ := for_I (enc := fun i : Nat => D.int (0 + (i : Nat))) (b := b1 4) (t := l1_law) (l := List.range cnt)
    (ρ := [some (.scr ns), some (encGr ps), some (.str (wrT ps)), some (.int N), none, none])
    (fun l ρ => ∃ T y4, ρ = [some (.scr ns), some (encGr ps), some (.str T), some (.int N), y4, none] ∧ (T.length + 10) * 2 ^ l.length ≤ 96000)
    ⟨wrT ps, none, rfl, by
      rw [List.length_range]
      have : (2 : Nat) ^ cnt ≤ 16 := Nat.pow_le_pow_right (by decide) hc4
      calc ((wrT ps).length + 10) * 2 ^ cnt ≤ 5064 * 16 := Nat.mul_le_mul (by omega) this
        _ ≤ 96000 := by decide⟩ (by
      rintro i l ρ ⟨T, y4, rfl, hT⟩
      rw [List.length_cons, Nat.pow_succ] at hT
      have hX : 1 ≤ 2 ^ l.length := Nat.one_le_two_pow
      generalize 2 ^ l.length = X at *
      have h1 : (T.length + 10) * 2 ≤ (T.length + 10) * (X * 2) := Nat.mul_le_mul_left _ (by omega)
      obtain ⟨t', et, hl'⟩ := e_changed (text := T) (n := drwI N (0 + (i : Nat))) (by omega)
      refine ⟨_, [some (.scr ns), some (encGr ps), some (.str t'), some (.int N), some (.int (0 + (i : Nat))), none], rfl, .inl ?_, t', _, rfl, ?_⟩
      · have ed := e_drawn N (0 + (i : Nat))
        generalize (0 + (i : Nat) : Int) = I at *
        simp [l1_law, ed, et]
      · have h2 : (t'.length + 10) * X ≤ (2 * (T.length + 10)) * X := Nat.mul_le_mul_right _ (by omega)
        have h3 : (2 * (T.length + 10)) * X = (T.length + 10) * (X * 2) := by
          rw [Nat.mul_comm 2, Nat.mul_assoc, Nat.mul_comm 2 X]
        omega)
  have hT' : T.length ≤ 95990 := by
    simp only [List.length_nil, Nat.pow_zero, Nat.mul_one] at hT
    omega
  have er : rngD 0 cnt = (List.range cnt).map fun i : Nat => D.int (0 + (i : Nat)) := rfl
  have hcb : -100000 ≤ (cnt : Int) ∧ (cnt : Int) ≤ 100000 := by omega
  have loop : dFor (dRng1 (dOp mulD (dOp modD (dVar 3) (dC (.int 3))) (dOp addD (dC (.int 1)) (dOp modD (dOp fdivD (dVar 3) (dC (.int 3))) (dC (.int 2)))))) (b1 4) l1_law [some (.scr ns), some (encGr ps), some (.str (wrT ps)), some (.int N), none, none] = .nx [some (.scr ns), some (encGr ps), some (.str T), some (.int N), y4, none] := by
    have hm : mulOk (N % 3) (1 + N / 3 % 2) := mulOk_r (by omega)
    generalize encGr ps = GD at *
    rw [← er] at e2
    generalize hDL : rngD 0 cnt = DL at *
    simp [hm, hc, hcb, hDL, e2]
  have eq1 := eq_str T (wrT ps)
  have eq2 : eqD (encGr ps) (encGr ps) = some true := eq_self (pk_pl _ (pk_gr ps)) (dep_gr ps)
  have eq3 := eq_str T T
  rw [decide_eq_true rfl] at eq3
  by_cases q : T = wrT ps
  · have ef := found_ok (text := T) (ps := ps) (by rw [q]; exact read_can hg hn)
    have el := e__law_is_ground _ (pk_gr ps)
    rw [ground_true hg hn] at el
    rw [decide_eq_true q] at eq1
    generalize encGr ps = GD at *
    simp [-s_for, d_law, b_law, eg, ew, em, loop, ef, eq1, eq2, el]
  · rw [decide_eq_false q] at eq1
    rcases read_tail (text := T) (by omega) with ⟨qs, hr, hq, hqn, hqT⟩ | hr
    · have ef := found_ok hr
      have el := e__law_is_ground _ (pk_gr qs)
      rw [ground_true hq hqn] at el
      have ew2 := e_law_written hq hqn
      rw [hqT] at ew2
      have ei : isND (encGr qs) .none = some false := rfl
      generalize encGr ps = GD at *
      generalize encGr qs = GQ at *
      simp [-s_for, -e_isN, d_law, b_law, eg, ew, em, loop, ef, eq1, el, ei, ew2, eq3]
    · have ef := found_no hr
      generalize encGr ps = GD at *
      simp [-s_for, d_law, b_law, eg, ew, em, loop, ef, eq1]
end K04

namespace K04
open PySem L2 PyProof.Rows Pd
abbrev pg : Program := PySem.Challenge.pw_duelground_k04_whole_read
def topS (i : Nat) : Stmt := PySem.Challenge.pw_duelground_k04_whole_read.main.body.getD i (.Pass ⟨0, 0, 0, 0⟩)
structure Txt (K : PySem.W.Frag) (mg : Str → Option Value) (cl : Nat → Addr) where
  f__law_cell_at : Fd K mg "_law_cell_at" (topS 22) ["_law_script", "_law_k"]
  f__law_mixed : Fd K mg "_law_mixed" (topS 23) ["_law_script", "_law_k"]
  f__law_drawn : Fd K mg "_law_drawn" (topS 24) ["_law_number_here", "_law_k"]
  f__law_goals : Fd K mg "_law_goals" (topS 25) ["_law_number_here", "_law_count"]
  f__law_place : Fd K mg "_law_place" (topS 26) ["_law_number_here", "_law_count", "_law_high"]
  f__law_ground : Fd K mg "_law_ground" (topS 27) ["_law_script", "_law_most"]
  f__law_written : Fd K mg "_law_written" (topS 33) ["_law_ground_here"]
  f_number_of : Fd K mg "number_of" (topS 17) ["word"]
  f_place_of : Fd K mg "place_of" (topS 18) ["words"]
  f_places_of : Fd K mg "places_of" (topS 19) ["words"]
  f_is_number : Fd K mg "is_number" (topS 8) ["thing", "low", "high"]
  f_are_some : Fd K mg "are_some" (topS 9) ["thing", "count"]
  f_is_place : Fd K mg "is_place" (topS 10) ["thing", "count"]
  f_is_ground : Fd K mg "is_ground" (topS 11) ["thing"]
  f_place_words : Fd K mg "place_words" (topS 13) ["place"]
  f_ground_words : Fd K mg "ground_words" (topS 14) ["ground"]
  f_read : Fd K mg "read" (topS 20) ["text"]
  f__law_found : Fd K mg "_law_found" (topS 35) ["_law_text"]
  f__law_changed : Fd K mg "_law_changed" (topS 34) ["_law_text", "_law_number_here"]
  f__law_rising : Fd K mg "_law_rising" (topS 29) ["_law_found_here", "_law_count"]
  f__law_number : Fd K mg "_law_number" (topS 30) ["_law_thing", "_law_low", "_law_high"]
  f__law_is_place : Fd K mg "_law_is_place" (topS 31) ["_law_thing", "_law_count"]
  f__law_is_ground : Fd K mg "_law_is_ground" (topS 32) ["_law_thing"]
  f_law : Fd K mg "law" (topS 36) ["_law_script"]
  z_len : mg "len" = none
  z_range : mg "range" = none
  z_int : mg "int" = none
  z_tuple : mg "tuple" = none
  z_sorted : mg "sorted" = none
  z_min : mg "min" = none
  z_max : mg "max" = none
  z_str : mg "str" = none
  z_all : mg "all" = none
  z_isinstance : mg "isinstance" = none
  z_bool : mg "bool" = none
  z_ValueError : mg "ValueError" = none
  g_FIGURES : KC K mg "FIGURES" (.str "0123456789")
  g_HIGHEST : KC K mg "HIGHEST" (.int 12)
  g_GAIN : KC K mg "GAIN" (.int 20)
  g_PLACES : KC K mg "PLACES" (.int 24)
  x_NoText : ExF K mg "NoText" (cl 2)
  m_NoText_NoText : PySem.W.exmOne K (.ref (cl 2)) (.ref (cl 2)) = some true
  e_NoText : ExcC K (cl 2)
  i_NoText_GroundError : PySem.W.kitOne K (.ref (cl 2)) (.ref (cl 0)) = some true
  g_GroundError : mg "GroundError" = some (.ref (cl 0))
  i_NoText_ValueError : PySem.W.kitOne K (.ref (cl 2)) (.type "ValueError") = some true
  i_NoText_NoGround : PySem.W.kitOne K (.ref (cl 2)) (.ref (cl 1)) = some false
  g_NoGround : mg "NoGround" = some (.ref (cl 1))
  g_NoText : mg "NoText" = some (.ref (cl 2))
section
variable {w : World} {K : PySem.W.Frag} {mg : Str → Option Value} {base : Heap} {cl : Nat → Addr}
theorem sc__law_cell_at : FnScope ["_law_script", "_law_k"] ["_law_script", "_law_k"] (defScope (topS 22)) := ⟨rfl, rfl, rfl, by decide +kernel, rfl, by decide +kernel, by decide +kernel⟩
theorem ok__law_cell_at (T : Txt K mg cl) : OkD pg w base cl 1 T.f__law_cell_at d__law_cell_at := by
  refine okD (t := b__law_cell_at) [] T.f__law_cell_at sc__law_cell_at rfl (by decide) rfl ?_
  intro cdv A outer s H E hr nd tk
  exact (pss_consD (ps_ifD (pt_cmpD op_ltD (by rfl) (pd_var 1) (pd_callB (cr_lenD) T.z_len (by decide +kernel) (pd_cons (pd_var 0) pd_nil))) (pss_oneD (ps_retD (pd_sub hr (pd_var 0) (pd_var 1)))) pss_nilD)
    (pss_oneD (ps_retD pd_int)))
theorem sc__law_mixed : FnScope ["_law_script", "_law_k", "_law_drawn_here"] ["_law_script", "_law_k"] (defScope (topS 23)) := ⟨rfl, rfl, rfl, by decide +kernel, rfl, by decide +kernel, by decide +kernel⟩
theorem ok__law_mixed (T : Txt K mg cl) : OkD pg w base cl 2 T.f__law_mixed d__law_mixed := by
  refine okD (t := b__law_mixed) [] T.f__law_mixed sc__law_mixed rfl (by decide) rfl ?_
  intro cdv A outer s H E hr nd tk
  exact (pss_consD (ps_asgD 2 nd (pd_op op_modD (pd_op op_mulD (pd_op op_addD (pd_op op_addD (by exact pd_callF T.f__law_cell_at (ok__law_cell_at T) hr (by omega) rfl tk (pd_cons (pd_var 0) (pd_cons (pd_var 1) pd_nil)) rfl (by decide) rfl rfl) (pd_op op_mulD pd_int (pd_var 1))) pd_int) pd_int) pd_int))
    (pss_oneD (ps_retD (pd_op op_modD (pd_op op_addD (pd_op op_addD (pd_op op_mulD (pd_var 2) (pd_var 2)) (pd_op op_mulD pd_int (pd_var 2))) (pd_var 1)) pd_int))))
theorem sc__law_drawn : FnScope ["_law_number_here", "_law_k", "_law_drawn_here"] ["_law_number_here", "_law_k"] (defScope (topS 24)) := ⟨rfl, rfl, rfl, by decide +kernel, rfl, by decide +kernel, by decide +kernel⟩
theorem ok__law_drawn (T : Txt K mg cl) : OkD pg w base cl 1 T.f__law_drawn d__law_drawn := by
  refine okD (t := b__law_drawn) [] T.f__law_drawn sc__law_drawn rfl (by decide) rfl ?_
  intro cdv A outer s H E hr nd tk
  exact (pss_consD (ps_asgD 2 nd (pd_op op_modD (pd_op op_mulD (pd_op op_addD (pd_op op_addD (pd_var 0) (pd_op op_mulD pd_int (pd_var 1))) pd_int) pd_int) pd_int))
    (pss_oneD (ps_retD (pd_op op_modD (pd_op op_addD (pd_op op_addD (pd_op op_mulD (pd_var 2) (pd_var 2)) (pd_op op_mulD pd_int (pd_var 2))) (pd_var 1)) pd_int))))
theorem sc__law_goals : FnScope ["_law_number_here", "_law_count", "_law_found_here", "_law_k"] ["_law_number_here", "_law_count"] (defScope (topS 25)) := ⟨rfl, rfl, rfl, by decide +kernel, rfl, by decide +kernel, by decide +kernel⟩
theorem ok__law_goals (T : Txt K mg cl) : OkD pg w base cl 2 T.f__law_goals d__law_goals := by
  refine okD (t := b__law_goals) [(2, .k)] T.f__law_goals sc__law_goals rfl (by decide) rfl ?_
  intro cdv A outer s H E hr nd tk
  exact (pss_consD (ps_asgO 2 .k nd pf_dictK)
    (pss_consD (ps_forD (passes_of rfl) rfl (pid_rng1 T.z_range (pd_op op_addD (pd_op op_addD pd_int (pd_op op_modD (pd_var 0) pd_int)) (pd_op op_mulD pd_int (pd_callTy (cr_intD) T.z_int (by decide +kernel) (pd_cons (pd_cmp (op_eqDD hr) (by rfl) (pd_op op_modD (pd_op op_fdivD (pd_var 0) pd_int) pd_int) pd_int) pd_nil))))) (pg_nameD 3 nd) (pss_oneD (ps_putK 2 hr pd_bl (pd_op op_modD (by exact pd_callF T.f__law_drawn (ok__law_drawn T) hr (by omega) rfl tk (pd_cons (pd_var 0) (pd_cons (pd_var 3) pd_nil)) rfl (by decide) rfl rfl) (pd_var 1)))))
    (pss_oneD (ps_retD (pd_callTy (cr_tupD) T.z_tuple (by decide +kernel) (pd_cons (pd_callB (cr_sortD rfl) T.z_sorted (by decide +kernel) (pd_cons (pd_varO 2 .k) pd_nil)) pd_nil))))))
theorem sc__law_place : FnScope ["_law_number_here", "_law_count", "_law_high", "_law_gain"] ["_law_number_here", "_law_count", "_law_high"] (defScope (topS 26)) := ⟨rfl, rfl, rfl, by decide +kernel, rfl, by decide +kernel, by decide +kernel⟩
theorem ok__law_place (T : Txt K mg cl) : OkD pg w base cl 3 T.f__law_place d__law_place := by
  refine okD (t := b__law_place) [] T.f__law_place sc__law_place rfl (by decide) rfl ?_
  intro cdv A outer s H E hr nd tk
  exact (pss_consD (ps_asgD 3 nd (pd_op op_subD (pd_op op_modD (pd_op op_fdivD (pd_var 0) pd_int) pd_int) pd_int))
    (pss_consD (ps_ifD (pt_cmpD (op_eqDD hr) (by rfl) (pd_op op_modD (pd_op op_fdivD (pd_var 0) pd_int) pd_int) pd_int) (pss_oneD (ps_asgD 3 nd (pd_op op_subD (pd_op op_modD (pd_op op_fdivD (pd_var 0) pd_int) pd_int) pd_int))) pss_nilD)
    (pss_oneD (ps_retD (pd_tup (pd_cons (pd_op op_modD (pd_var 0) pd_int) (pd_cons (pd_op op_modD (pd_op op_fdivD (pd_var 0) pd_int) (pd_op op_addD (pd_var 2) pd_int)) (pd_cons (pd_var 3) (pd_cons (by exact pd_callF T.f__law_goals (ok__law_goals T) hr (by omega) rfl tk (pd_cons (by exact pd_callF T.f__law_drawn (ok__law_drawn T) hr (by omega) rfl tk (pd_cons (pd_var 0) (pd_cons pd_int pd_nil)) rfl (by decide) rfl rfl) (pd_cons (pd_var 1) pd_nil)) rfl (by decide) rfl rfl) pd_nil)))))))))
theorem sc__law_ground : FnScope ["_law_script", "_law_most", "_law_number_here", "_law_count", "_law_high", "_law_k"] ["_law_script", "_law_most"] (defScope (topS 27)) := ⟨rfl, rfl, rfl, by decide +kernel, rfl, by decide +kernel, by decide +kernel⟩
theorem ok__law_ground (T : Txt K mg cl) : OkD pg w base cl 4 T.f__law_ground d__law_ground := by
  refine okD (t := b__law_ground) [] T.f__law_ground sc__law_ground rfl (by decide) rfl ?_
  intro cdv A outer s H E hr nd tk
  exact (pss_consD (ps_asgD 2 nd (by exact pd_callF T.f__law_mixed (ok__law_mixed T) hr (by omega) rfl tk (pd_cons (pd_var 0) (pd_cons pd_int pd_nil)) rfl (by decide) rfl rfl))
    (pss_consD (ps_asgD 3 nd (pd_op op_addD pd_int (pd_op op_modD (pd_var 2) (pd_callB (cr_minD rfl) T.z_min (by decide +kernel) (pd_cons (pd_var 1) (pd_cons (pd_callB (cr_maxD rfl) T.z_max (by decide +kernel) (pd_cons pd_int (pd_cons (pd_callB (cr_lenD) T.z_len (by decide +kernel) (pd_cons (pd_var 0) pd_nil)) pd_nil))) pd_nil))))))
    (pss_consD (ps_asgD 4 nd (pd_sub hr (pd_lst (pd_cons pd_int (pd_cons pd_int (pd_cons pd_int (pd_cons pd_int (pd_cons pd_int (pd_cons pd_int pd_nil))))))) (pd_op op_modD (pd_op op_fdivD (pd_var 2) pd_int) pd_int)))
    (pss_oneD (ps_retD (pd_callTy (cr_tupD) T.z_tuple (by decide +kernel) (pd_cons (by exact pd_lcV [("_law_k", 5)] rfl nd (pid_rng1 T.z_range (pd_var 3)) (blkOk_by (N := ["_law_script", "_law_most", "_law_number_here", "_law_count", "_law_high", "_law_k"]) (sc := defScope (topS 27)) (own := [("_law_k", 5)]) (by decide +kernel)) rfl (fun s H C cl fp => (pg_nameD 5 nd)) (fun s H C cl fp => pts_nilD) (fun s H C cl fp => (by exact pd_callF T.f__law_place (ok__law_place T) hr (by omega) rfl Pd.takes0 (pd_cons (by exact pd_callF T.f__law_mixed (ok__law_mixed T) hr (by omega) rfl Pd.takes0 (pd_cons (pd_var 0) (pd_cons (pd_op op_addD pd_int (pd_var 5)) pd_nil)) rfl (by decide) rfl rfl) (pd_cons (pd_var 3) (pd_cons (pd_var 4) pd_nil))) rfl (by decide) rfl rfl)) rfl rfl (fun _ => rfl)) pd_nil)))))))
theorem sc__law_written : FnScope ["_law_ground_here", "_law_found_here", "_law_place_here", "_law_part", "_law_goal"] ["_law_ground_here"] (defScope (topS 33)) := ⟨rfl, rfl, rfl, by decide +kernel, rfl, by decide +kernel, by decide +kernel⟩
theorem ok__law_written (T : Txt K mg cl) : OkD pg w base cl 1 T.f__law_written d__law_written := by
  refine okD (t := b__law_written) [] T.f__law_written sc__law_written rfl (by decide) rfl ?_
  intro cdv A outer s H E hr nd tk
  exact (pss_consD (ps_asgD 1 nd (pd_op op_addD pd_str (pd_callTy (cr_strD) T.z_str (by decide +kernel) (pd_cons (pd_callB (cr_lenD) T.z_len (by decide +kernel) (pd_cons (pd_var 0) pd_nil)) pd_nil))))
    (pss_consD (ps_forD (passes_of rfl) rfl (pid_seq (pd_var 0)) (pg_nameD 2 nd) (pss_consD (ps_asgD 1 nd (pd_op op_addD (pd_op op_addD (pd_op op_addD (pd_var 1) pd_str) (by exact pd_join pd_str (by exact pd_lcV [("_law_part", 3)] rfl nd (pid_seq (pd_slice (pd_var 2) po_noneD (po_someD pd_int))) (blkOk_by (N := ["_law_ground_here", "_law_found_here", "_law_place_here", "_law_part", "_law_goal"]) (sc := defScope (topS 33)) (own := [("_law_part", 3)]) (by decide +kernel)) rfl (fun s H C cl fp => (pg_nameD 3 nd)) (fun s H C cl fp => pts_nilD) (fun s H C cl fp => (pd_op op_addD pd_str (pd_callTy (cr_strD) T.z_str (by decide +kernel) (pd_cons (pd_var 3) pd_nil)))) rfl rfl (fun _ => rfl)) rfl rfl rfl)) pd_str))
    (pss_oneD (ps_asgD 1 nd (pd_op op_addD (pd_op op_addD (pd_var 1) (by exact pd_join pd_str (by exact pd_lcV [("_law_goal", 4)] rfl nd (pid_seq (pd_sub hr (pd_var 2) pd_int)) (blkOk_by (N := ["_law_ground_here", "_law_found_here", "_law_place_here", "_law_part", "_law_goal"]) (sc := defScope (topS 33)) (own := [("_law_goal", 4)]) (by decide +kernel)) rfl (fun s H C cl fp => (pg_nameD 4 nd)) (fun s H C cl fp => pts_nilD) (fun s H C cl fp => (pd_op op_addD pd_str (pd_callTy (cr_strD) T.z_str (by decide +kernel) (pd_cons (pd_var 4) pd_nil)))) rfl rfl (fun _ => rfl)) rfl rfl rfl)) pd_str)))))
    (pss_oneD (ps_retD (pd_var 1)))))
theorem sc_number_of : FnScope ["word", "figures", "sign"] ["word"] (defScope (topS 17)) := ⟨rfl, rfl, rfl, by decide +kernel, rfl, by decide +kernel, by decide +kernel⟩
theorem ok_number_of (T : Txt K mg cl) : OkD pg w base cl 1 T.f_number_of d_number_of := by
  refine okD (t := b_number_of) [] T.f_number_of sc_number_of rfl (by decide) rfl ?_
  intro cdv A outer s H E hr nd tk
  exact (pss_consD (ps_asgD 1 nd (pd_var 0))
    (pss_consD (ps_ifD (pt_cmpD (op_eqDD hr) (by rfl) (pd_slice (pd_var 0) po_noneD (po_someD pd_int)) pd_str) (pss_oneD (ps_asgD 1 nd (pd_slice (pd_var 0) (po_someD pd_int) po_noneD))) pss_nilD)
    (pss_consD (ps_ifD (pt_ofW (pw_orD (pt_cmpD (op_eqDD hr) (by rfl) (pd_callB (cr_lenD) T.z_len (by decide +kernel) (pd_cons (pd_var 1) pd_nil)) pd_int) (pw_orD (pt_cmpD op_gtD (by rfl) (pd_callB (cr_lenD) T.z_len (by decide +kernel) (pd_cons (pd_var 1) pd_nil)) pd_int) (pw_or1D (pt_notD (pt_valD (pd_callB (cr_allD rfl) T.z_all (by decide +kernel) (pd_cons (by exact pd_lcV [("sign", 2)] rfl nd (pid_str (pd_var 1)) (blkOk_by (N := ["word", "figures", "sign"]) (sc := defScope (topS 17)) (own := [("sign", 2)]) (by decide +kernel)) rfl (fun s H C cl fp => (pg_nameD 2 nd)) (fun s H C cl fp => pts_nilD) (fun s H C cl fp => (pd_cmp (op_inDD hr) (by rfl) (pd_var 2) (pd_globK T.g_FIGURES))) rfl rfl (fun _ => rfl)) pd_nil)))))))) (pss_oneD (by exact ps_raiseD 2 tk T.x_NoText rfl rfl (by decide))) pss_nilD)
    (pss_oneD (ps_retD (pd_callTy cr_intS T.z_int (by decide +kernel) (pd_cons (pd_var 0) pd_nil)))))))
theorem sc_place_of : FnScope ["words", "goals", "word"] ["words"] (defScope (topS 18)) := ⟨rfl, rfl, rfl, by decide +kernel, rfl, by decide +kernel, by decide +kernel⟩
theorem ok_place_of (T : Txt K mg cl) : OkD pg w base cl 2 T.f_place_of d_place_of := by
  refine okD (t := b_place_of) [] T.f_place_of sc_place_of rfl (by decide) rfl ?_
  intro cdv A outer s H E hr nd tk
  exact (pss_consD (ps_ifD (pt_ofW (pw_orD (pt_cmpD op_ltD (by rfl) (pd_callB (cr_lenD) T.z_len (by decide +kernel) (pd_cons (pd_var 0) pd_nil)) pd_int) (pw_or1D (pt_cmpD (op_neDD hr) (by rfl) (pd_sub hr (pd_var 0) pd_int) pd_str)))) (pss_oneD (by exact ps_raiseD 2 tk T.x_NoText rfl rfl (by decide))) pss_nilD)
    (pss_consD (by exact ps_lcXV 1 [("word", 2)] tk rfl nd (pid_seq (pd_slice (pd_var 0) (po_someD pd_int) po_noneD)) (blkOk_by (N := ["words", "goals", "word"]) (sc := defScope (topS 18)) (own := [("word", 2)]) (by decide +kernel)) rfl (fun s H C cl fp xe => (pg_nameD 2 nd)) (fun s H C cl fp xe W tk => (by exact pd_callF T.f_number_of (ok_number_of T) hr (by omega) rfl tk (pd_cons (pd_var 2) pd_nil) rfl (by decide) rfl rfl)) rfl rfl rfl rfl rfl rfl rfl (sw_true rfl rfl rfl (by decide +kernel)) (fun _ => rfl))
    (pss_oneD (ps_retD (pd_tup (pd_cons (by exact pd_callF T.f_number_of (ok_number_of T) hr (by omega) rfl tk (pd_cons (pd_sub hr (pd_var 0) pd_int) pd_nil) rfl (by decide) rfl rfl) (pd_cons (by exact pd_callF T.f_number_of (ok_number_of T) hr (by omega) rfl tk (pd_cons (pd_sub hr (pd_var 0) pd_int) pd_nil) rfl (by decide) rfl rfl) (pd_cons (by exact pd_callF T.f_number_of (ok_number_of T) hr (by omega) rfl tk (pd_cons (pd_sub hr (pd_var 0) pd_int) pd_nil) rfl (by decide) rfl rfl) (pd_cons (pd_callTy (cr_tupD) T.z_tuple (by decide +kernel) (pd_cons (pd_var 1) pd_nil)) pd_nil)))))))))
theorem sc_places_of : FnScope ["words", "places", "at", "end"] ["words"] (defScope (topS 19)) := ⟨rfl, rfl, rfl, by decide +kernel, rfl, by decide +kernel, by decide +kernel⟩
theorem ok_places_of (T : Txt K mg cl) : OkD pg w base cl 3 T.f_places_of d_places_of := by
  refine okD (t := b_places_of) [(1, .l)] T.f_places_of sc_places_of rfl (by decide) rfl ?_
  intro cdv A outer s H E hr nd tk
  exact (pss_consD (ps_asgO 1 .l nd (pf_lst pd_nil))
    (pss_consD (ps_asgD 2 nd pd_int)
    (pss_consD (ps_whileD 100000 (passes_of rfl) (pt_cmpD op_ltD (by rfl) (pd_var 2) (pd_callB (cr_lenD) T.z_len (by decide +kernel) (pd_cons (pd_var 0) pd_nil))) (pss_consD (ps_ifD (pt_ofW (pw_orD (pt_cmpD (op_neDD hr) (by rfl) (pd_sub hr (pd_var 0) (pd_var 2)) pd_str) (pw_or1D (pt_cmpD (op_ninDD hr) (by rfl) pd_str (pd_slice (pd_var 0) (po_someD (pd_var 2)) po_noneD))))) (pss_oneD (by exact ps_raiseD 2 tk T.x_NoText rfl rfl (by decide))) pss_nilD)
    (pss_consD (ps_asgD 3 nd (pd_op op_addD (pd_var 2) (by exact pd_ixW (pd_slice (pd_var 0) (po_someD (pd_var 2)) po_noneD) pd_str rfl rfl rfl rfl rfl)))
    (pss_consD (ps_app 1 .l (by exact pd_callF T.f_place_of (ok_place_of T) hr (by omega) rfl tk (pd_cons (pd_slice (pd_var 0) (po_someD (pd_op op_addD (pd_var 2) pd_int)) (po_someD (pd_var 3))) pd_nil) rfl (by decide) rfl rfl))
    (pss_oneD (ps_asgD 2 nd (pd_op op_addD (pd_var 3) pd_int)))))))
    (pss_oneD (ps_retD (pd_callTy (cr_tupD) T.z_tuple (by decide +kernel) (pd_cons (pd_varO 1 .l) pd_nil)))))))
theorem sc_is_number : FnScope ["thing", "low", "high"] ["thing", "low", "high"] (defScope (topS 8)) := ⟨rfl, rfl, rfl, by decide +kernel, rfl, by decide +kernel, by decide +kernel⟩
theorem ok_is_number (T : Txt K mg cl) : OkD pg w base cl 1 T.f_is_number d_is_number := by
  refine okD (t := b_is_number) [] T.f_is_number sc_is_number rfl (by decide) rfl ?_
  intro cdv A outer s H E hr nd tk
  exact (pss_oneD (ps_retD (pd_and (pd_isi "int" T.z_isinstance T.z_int (by decide +kernel) (pd_var 0)) (pd_and (pd_not (pd_isi "bool" T.z_isinstance T.z_bool (by decide +kernel) (pd_var 0))) (pd_one (pd_chain op_leD op_leD (pd_var 1) (pd_var 0) (pd_var 2)))))))
theorem sc_are_some : FnScope ["thing", "count", "last", "part"] ["thing", "count"] (defScope (topS 9)) := ⟨rfl, rfl, rfl, by decide +kernel, rfl, by decide +kernel, by decide +kernel⟩
theorem ok_are_some (T : Txt K mg cl) : OkD pg w base cl 2 T.f_are_some d_are_some := by
  refine okD (t := b_are_some) [] T.f_are_some sc_are_some rfl (by decide) rfl ?_
  intro cdv A outer s H E hr nd tk
  exact (pss_consD (ps_ifD (pt_notD (pt_valD (pd_isi "tuple" T.z_isinstance T.z_tuple (by decide +kernel) (pd_var 0)))) (pss_oneD (ps_retD pd_bl)) pss_nilD)
    (pss_consD (ps_asgD 2 nd (pd_un un_negD pd_int))
    (pss_consD (ps_forD (passes_of rfl) rfl (pid_seq (pd_var 0)) (pg_nameD 3 nd) (pss_consD (ps_ifD (pt_notD (pt_valD (by exact pd_callF T.f_is_number (ok_is_number T) hr (by omega) rfl tk (pd_cons (pd_var 3) (pd_cons (pd_op op_addD (pd_var 2) pd_int) (pd_cons (pd_op op_subD (pd_var 1) pd_int) pd_nil))) rfl (by decide) rfl rfl))) (pss_oneD (ps_retD pd_bl)) pss_nilD)
    (pss_oneD (ps_asgD 2 nd (pd_var 3)))))
    (pss_oneD (ps_retD pd_bl)))))
theorem sc_is_place : FnScope ["thing", "count"] ["thing", "count"] (defScope (topS 10)) := ⟨rfl, rfl, rfl, by decide +kernel, rfl, by decide +kernel, by decide +kernel⟩
theorem ok_is_place (T : Txt K mg cl) : OkD pg w base cl 3 T.f_is_place d_is_place := by
  refine okD (t := b_is_place) [] T.f_is_place sc_is_place rfl (by decide) rfl ?_
  intro cdv A outer s H E hr nd tk
  exact (pss_consD (ps_ifD (pt_ofW (pw_orD (pt_notD (pt_valD (pd_isi "tuple" T.z_isinstance T.z_tuple (by decide +kernel) (pd_var 0)))) (pw_or1D (pt_cmpD (op_neDD hr) (by rfl) (pd_callB (cr_lenD) T.z_len (by decide +kernel) (pd_cons (pd_var 0) pd_nil)) pd_int)))) (pss_oneD (ps_retD pd_bl)) pss_nilD)
    (pss_consD (ps_ifD (pt_ofW (pw_orD (pt_notD (pt_valD (by exact pd_callF T.f_is_number (ok_is_number T) hr (by omega) rfl tk (pd_cons (pd_sub hr (pd_var 0) pd_int) (pd_cons pd_int (pd_cons pd_int pd_nil))) rfl (by decide) rfl rfl))) (pw_orD (pt_notD (pt_valD (by exact pd_callF T.f_is_number (ok_is_number T) hr (by omega) rfl tk (pd_cons (pd_sub hr (pd_var 0) pd_int) (pd_cons pd_int (pd_cons (pd_globK T.g_HIGHEST) pd_nil))) rfl (by decide) rfl rfl))) (pw_or1D (pt_notD (pt_valD (by exact pd_callF T.f_is_number (ok_is_number T) hr (by omega) rfl tk (pd_cons (pd_sub hr (pd_var 0) pd_int) (pd_cons (pd_un un_negD (pd_globK T.g_GAIN)) (pd_cons (pd_globK T.g_GAIN) pd_nil))) rfl (by decide) rfl rfl))))))) (pss_oneD (ps_retD pd_bl)) pss_nilD)
    (pss_oneD (ps_retD (pd_and (by exact pd_callF T.f_are_some (ok_are_some T) hr (by omega) rfl tk (pd_cons (pd_sub hr (pd_var 0) pd_int) (pd_cons (pd_var 1) pd_nil)) rfl (by decide) rfl rfl) (pd_one (pd_cmp op_gtD (by rfl) (pd_callB (cr_lenD) T.z_len (by decide +kernel) (pd_cons (pd_sub hr (pd_var 0) pd_int) pd_nil)) pd_int)))))))
theorem sc_is_ground : FnScope ["thing", "part"] ["thing"] (defScope (topS 11)) := ⟨rfl, rfl, rfl, by decide +kernel, rfl, by decide +kernel, by decide +kernel⟩
theorem ok_is_ground (T : Txt K mg cl) : OkD pg w base cl 4 T.f_is_ground d_is_ground := by
  refine okD (t := b_is_ground) [] T.f_is_ground sc_is_ground rfl (by decide) rfl ?_
  intro cdv A outer s H E hr nd tk
  exact (pss_consD (ps_ifD (pt_ofW (pw_orD (pt_notD (pt_valD (pd_isi "tuple" T.z_isinstance T.z_tuple (by decide +kernel) (pd_var 0)))) (pw_orD (pt_cmpD (op_eqDD hr) (by rfl) (pd_callB (cr_lenD) T.z_len (by decide +kernel) (pd_cons (pd_var 0) pd_nil)) pd_int) (pw_or1D (pt_cmpD op_gtD (by rfl) (pd_callB (cr_lenD) T.z_len (by decide +kernel) (pd_cons (pd_var 0) pd_nil)) (pd_globK T.g_PLACES)))))) (pss_oneD (ps_retD pd_bl)) pss_nilD)
    (pss_oneD (ps_retD (pd_callB (cr_allD rfl) T.z_all (by decide +kernel) (pd_cons (by exact pd_lcV [("part", 1)] rfl nd (pid_seq (pd_var 0)) (blkOk_by (N := ["thing", "part"]) (sc := defScope (topS 11)) (own := [("part", 1)]) (by decide +kernel)) rfl (fun s H C cl fp => (pg_nameD 1 nd)) (fun s H C cl fp => pts_nilD) (fun s H C cl fp => (by exact pd_callF T.f_is_place (ok_is_place T) hr (by omega) rfl Pd.takes0 (pd_cons (pd_var 1) (pd_cons (pd_callB (cr_lenD) T.z_len (by decide +kernel) (pd_cons (pd_var 0) pd_nil)) pd_nil)) rfl (by decide) rfl rfl)) rfl rfl (fun _ => rfl)) pd_nil)))))
theorem sc_place_words : FnScope ["place", "words", "goal"] ["place"] (defScope (topS 13)) := ⟨rfl, rfl, rfl, by decide +kernel, rfl, by decide +kernel, by decide +kernel⟩
theorem ok_place_words (T : Txt K mg cl) : OkD pg w base cl 1 T.f_place_words d_place_words := by
  refine okD (t := b_place_words) [] T.f_place_words sc_place_words rfl (by decide) rfl ?_
  intro cdv A outer s H E hr nd tk
  exact (pss_consD (ps_asgD 1 nd (pd_lst (pd_cons pd_str (pd_cons (pd_callTy (cr_strD) T.z_str (by decide +kernel) (pd_cons (pd_sub hr (pd_var 0) pd_int) pd_nil)) (pd_cons (pd_callTy (cr_strD) T.z_str (by decide +kernel) (pd_cons (pd_sub hr (pd_var 0) pd_int) pd_nil)) (pd_cons (pd_callTy (cr_strD) T.z_str (by decide +kernel) (pd_cons (pd_sub hr (pd_var 0) pd_int) pd_nil)) (pd_cons pd_str pd_nil)))))))
    (pss_oneD (ps_retD (pd_op op_addD (pd_op op_addD (pd_var 1) (by exact pd_lcV [("goal", 2)] rfl nd (pid_seq (pd_sub hr (pd_var 0) pd_int)) (blkOk_by (N := ["place", "words", "goal"]) (sc := defScope (topS 13)) (own := [("goal", 2)]) (by decide +kernel)) rfl (fun s H C cl fp => (pg_nameD 2 nd)) (fun s H C cl fp => pts_nilD) (fun s H C cl fp => (pd_callTy (cr_strD) T.z_str (by decide +kernel) (pd_cons (pd_var 2) pd_nil))) rfl rfl (fun _ => rfl))) (pd_lst (pd_cons pd_str pd_nil))))))
theorem sc_ground_words : FnScope ["ground", "words", "place"] ["ground"] (defScope (topS 14)) := ⟨rfl, rfl, rfl, by decide +kernel, rfl, by decide +kernel, by decide +kernel⟩
theorem ok_ground_words (T : Txt K mg cl) : OkD pg w base cl 2 T.f_ground_words d_ground_words := by
  refine okD (t := b_ground_words) [] T.f_ground_words sc_ground_words rfl (by decide) rfl ?_
  intro cdv A outer s H E hr nd tk
  exact (pss_consD (ps_asgD 1 nd (pd_lst (pd_cons pd_str (pd_cons (pd_callTy (cr_strD) T.z_str (by decide +kernel) (pd_cons (pd_callB (cr_lenD) T.z_len (by decide +kernel) (pd_cons (pd_var 0) pd_nil)) pd_nil)) pd_nil))))
    (pss_consD (ps_forD (passes_of rfl) rfl (pid_seq (pd_var 0)) (pg_nameD 2 nd) (pss_oneD (ps_asgD 1 nd (pd_op op_addD (pd_var 1) (by exact pd_callF T.f_place_words (ok_place_words T) hr (by omega) rfl tk (pd_cons (pd_var 2) pd_nil) rfl (by decide) rfl rfl)))))
    (pss_oneD (ps_retD (pd_var 1)))))
theorem sc_read : FnScope ["text", "words", "found"] ["text"] (defScope (topS 20)) := ⟨rfl, rfl, rfl, by decide +kernel, rfl, by decide +kernel, by decide +kernel⟩
theorem ok_read (T : Txt K mg cl) : OkD pg w base cl 5 T.f_read d_read := by
  refine okD (t := b_read) [] T.f_read sc_read rfl (by decide) rfl ?_
  intro cdv A outer s H E hr nd tk
  exact (pss_consD (ps_ifD (pt_notD (pt_valD (pd_isi "str" T.z_isinstance T.z_str (by decide +kernel) (pd_var 0)))) (pss_oneD (by exact ps_raiseD 2 tk T.x_NoText rfl rfl (by decide))) pss_nilD)
    (pss_consD (ps_asgD 1 nd (by exact pd_split (pd_var 0) pd_str rfl rfl rfl))
    (pss_consD (ps_ifD (pt_ofW (pw_orD (pt_cmpD op_ltD (by rfl) (pd_callB (cr_lenD) T.z_len (by decide +kernel) (pd_cons (pd_var 1) pd_nil)) pd_int) (pw_or1D (pt_cmpD (op_neDD hr) (by rfl) (pd_sub hr (pd_var 1) pd_int) pd_str)))) (pss_oneD (by exact ps_raiseD 2 tk T.x_NoText rfl rfl (by decide))) pss_nilD)
    (pss_consD (ps_asgD 2 nd (by exact pd_callF T.f_places_of (ok_places_of T) hr (by omega) rfl tk (pd_cons (pd_slice (pd_var 1) (po_someD pd_int) po_noneD) pd_nil) rfl (by decide) rfl rfl))
    (pss_consD (ps_ifD (pt_ofW (pw_orD (pt_notD (pt_valD (by exact pd_callF T.f_is_ground (ok_is_ground T) hr (by omega) rfl tk (pd_cons (pd_var 2) pd_nil) rfl (by decide) rfl rfl))) (pw_or1D (pt_cmpD (op_neDD hr) (by rfl) (by exact pd_join pd_str (by exact pd_callF T.f_ground_words (ok_ground_words T) hr (by omega) rfl tk (pd_cons (pd_var 2) pd_nil) rfl (by decide) rfl rfl) rfl rfl rfl) (pd_var 0))))) (pss_oneD (by exact ps_raiseD 2 tk T.x_NoText rfl rfl (by decide))) pss_nilD)
    (pss_oneD (ps_retD (pd_var 2))))))))
theorem sc__law_found : FnScope ["_law_text", "_law_found_here", "e", "_law_good"] ["_law_text"] (defScope (topS 35)) := ⟨rfl, rfl, rfl, by decide +kernel, rfl, by decide +kernel, by decide +kernel⟩
theorem ok__law_found (T : Txt K mg cl) : OkD pg w base cl 6 T.f__law_found d__law_found := by
  refine okD (t := b__law_found) [] T.f__law_found sc__law_found rfl (by decide) rfl ?_
  intro cdv A outer s H E hr nd tk
  exact (pss_consD (by exact ps_tryG (f := (seAnd (seIs [(2, true)]) (seAnd (seIs [(2, true)]) (seNot (seIs [(2, false)]))))) 2 3 [(2, true)] tk nd T.g_NoText (al_cons T.m_NoText_NoText al_nil) T.z_int (fun W pn xe tk _ => by exact (pss_oneD (ps_asgD 1 nd (by exact pd_callF T.f_read (ok_read T) hr (by omega) rfl tk (pd_cons (pd_var 0) pd_nil) rfl (by decide) rfl rfl)))) rfl rfl rfl rfl rfl (by decide) rfl rfl rfl (by decide) (by decide) rfl rfl rfl rfl rfl rfl rfl (se_and (se_isi [(2, true)] T.z_isinstance (cln_own T.g_GroundError (by rfl) (by decide)) rfl (by first | exact Or.inl rfl | exact Or.inr (Or.inl rfl) | exact Or.inr (Or.inr rfl)) (by decide) (by decide) (al_cons T.e_NoText al_nil) (al_cons T.i_NoText_GroundError al_nil) rfl rfl rfl rfl rfl) (se_and (se_isi [(2, true)] T.z_isinstance (cln_bltn T.z_ValueError (by decide +kernel) (by rfl) (by decide) (by decide)) rfl (by first | exact Or.inl rfl | exact Or.inr (Or.inl rfl) | exact Or.inr (Or.inr rfl)) (by decide) (by decide) (al_cons T.e_NoText al_nil) (al_cons T.i_NoText_ValueError al_nil) rfl rfl rfl rfl rfl) (se_one (se_not (se_isi [(2, false)] T.z_isinstance (cln_own T.g_NoGround (by rfl) (by decide)) rfl (by first | exact Or.inl rfl | exact Or.inr (Or.inl rfl) | exact Or.inr (Or.inr rfl)) (by decide) (by decide) (al_cons T.e_NoText al_nil) (al_cons T.i_NoText_NoGround al_nil) rfl rfl rfl rfl rfl))))))
    (pss_oneD (ps_retD (pd_sub hr (pd_lst (pd_cons (pd_var 1) (pd_cons (pd_tup pd_nil) pd_nil))) (pd_callTy (cr_intD) T.z_int (by decide +kernel) (pd_cons (pd_cmp op_isND (by rfl) (pd_var 1) pd_non) pd_nil))))))
theorem sc__law_changed : FnScope ["_law_text", "_law_number_here", "_law_words", "_law_at", "_law_place_here", "_law_kind", "_law_sign", "_law_turned", "_law_some_here"] ["_law_text", "_law_number_here"] (defScope (topS 34)) := ⟨rfl, rfl, rfl, by decide +kernel, rfl, by decide +kernel, by decide +kernel⟩
theorem ok__law_changed (T : Txt K mg cl) : OkD pg w base cl 1 T.f__law_changed d__law_changed := by
  refine okD (t := b__law_changed) [] T.f__law_changed sc__law_changed rfl (by decide) rfl ?_
  intro cdv A outer s H E hr nd tk
  exact (pss_consD (ps_asgD 2 nd (by exact pd_split (pd_var 0) pd_str rfl rfl rfl))
    (pss_consD (ps_asgD 3 nd (pd_op op_modD (pd_op op_fdivD (pd_var 1) pd_int) (pd_callB (cr_lenD) T.z_len (by decide +kernel) (pd_cons (pd_var 2) pd_nil))))
    (pss_consD (ps_asgD 4 nd (pd_op op_modD (pd_op op_fdivD (pd_var 1) pd_int) (pd_op op_addD (pd_callB (cr_lenD) T.z_len (by decide +kernel) (pd_cons (pd_var 0) pd_nil)) pd_int)))
    (pss_consD (ps_asgD 5 nd (pd_op op_modD (pd_var 1) pd_int))
    (pss_consD (ps_ifD (pt_cmpD (op_eqDD hr) (by rfl) (pd_op op_modD (pd_op op_fdivD (pd_var 1) pd_int) pd_int) pd_int) (pss_oneD (ps_asgD 3 nd pd_int)) pss_nilD)
    (pss_consD (ps_ifD (pt_cmpD (op_eqDD hr) (by rfl) (pd_var 5) pd_int) (pss_oneD (ps_retD (pd_op op_addD (pd_slice (pd_var 0) po_noneD (po_someD (pd_var 4))) (pd_slice (pd_var 0) (po_someD (pd_op op_addD (pd_var 4) pd_int)) po_noneD)))) pss_nilD)
    (pss_consD (ps_ifD (pt_cmpD op_ltD (by rfl) (pd_var 5) pd_int) (pss_consD (ps_asgD 6 nd (pd_sub hr pd_str (pd_op op_modD (pd_op op_fdivD (pd_var 1) pd_int) pd_int)))
    (pss_oneD (ps_retD (pd_op op_addD (pd_op op_addD (pd_slice (pd_var 0) po_noneD (po_someD (pd_var 4))) (pd_var 6)) (pd_slice (pd_var 0) (po_someD (pd_op op_subD (pd_op op_addD (pd_var 4) (pd_var 5)) pd_int)) po_noneD))))) pss_nilD)
    (pss_consD (ps_ifD (pt_cmpD (op_eqDD hr) (by rfl) (pd_var 5) pd_int) (pss_oneD (ps_retD (by exact pd_join pd_str (pd_op op_addD (pd_slice (pd_var 2) po_noneD (po_someD (pd_var 3))) (pd_slice (pd_var 2) (po_someD (pd_op op_addD (pd_var 3) pd_int)) po_noneD)) rfl rfl rfl))) pss_nilD)
    (pss_consD (ps_ifD (pt_cmpD (op_eqDD hr) (by rfl) (pd_var 5) pd_int) (pss_oneD (ps_retD (by exact pd_join pd_str (pd_op op_addD (pd_op op_addD (pd_slice (pd_var 2) po_noneD (po_someD (pd_var 3))) (pd_slice (pd_var 2) (po_someD (pd_var 3)) (po_someD (pd_op op_addD (pd_var 3) pd_int)))) (pd_slice (pd_var 2) (po_someD (pd_var 3)) po_noneD)) rfl rfl rfl))) pss_nilD)
    (pss_consD (ps_ifD (pt_cmpD (op_eqDD hr) (by rfl) (pd_var 5) pd_int) (pss_consD (ps_asgD 7 nd (pd_op op_addD (pd_slice (pd_var 2) (po_someD (pd_op op_addD (pd_var 3) pd_int)) (po_someD (pd_op op_addD (pd_var 3) pd_int))) (pd_slice (pd_var 2) (po_someD (pd_var 3)) (po_someD (pd_op op_addD (pd_var 3) pd_int)))))
    (pss_oneD (ps_retD (by exact pd_join pd_str (pd_op op_addD (pd_op op_addD (pd_slice (pd_var 2) po_noneD (po_someD (pd_var 3))) (pd_var 7)) (pd_slice (pd_var 2) (po_someD (pd_op op_addD (pd_var 3) pd_int)) po_noneD)) rfl rfl rfl)))) pss_nilD)
    (pss_consD (ps_asgD 8 nd (by exact pd_split pd_str pd_str rfl rfl rfl))
    (pss_oneD (ps_retD (by exact pd_join pd_str (pd_op op_addD (pd_op op_addD (pd_slice (pd_var 2) po_noneD (po_someD (pd_var 3))) (pd_lst (pd_cons (pd_sub hr (pd_var 8) (pd_op op_modD (pd_op op_fdivD (pd_var 1) pd_int) pd_int)) pd_nil))) (pd_slice (pd_var 2) (po_someD (pd_op op_addD (pd_var 3) pd_int)) po_noneD)) rfl rfl rfl))))))))))))))
theorem sc__law_rising : FnScope ["_law_found_here", "_law_count", "_law_last", "_law_part"] ["_law_found_here", "_law_count"] (defScope (topS 29)) := ⟨rfl, rfl, rfl, by decide +kernel, rfl, by decide +kernel, by decide +kernel⟩
theorem ok__law_rising (T : Txt K mg cl) : OkD pg w base cl 1 T.f__law_rising d__law_rising := by
  refine okD (t := b__law_rising) [] T.f__law_rising sc__law_rising rfl (by decide) rfl ?_
  intro cdv A outer s H E hr nd tk
  exact (pss_consD (ps_ifD (pt_notD (pt_valD (pd_isi "tuple" T.z_isinstance T.z_tuple (by decide +kernel) (pd_var 0)))) (pss_oneD (ps_retD pd_bl)) pss_nilD)
    (pss_consD (ps_asgD 2 nd (pd_un un_negD pd_int))
    (pss_consD (ps_forD (passes_of rfl) rfl (pid_seq (pd_var 0)) (pg_nameD 3 nd) (pss_consD (ps_ifD (pt_ofW (pw_orD (pt_notD (pt_valD (pd_isi "int" T.z_isinstance T.z_int (by decide +kernel) (pd_var 3)))) (pw_orD (pt_valD (pd_isi "bool" T.z_isinstance T.z_bool (by decide +kernel) (pd_var 3))) (pw_or1D (pt_notD (pt_chainD op_ltD op_ltD (pd_var 2) (pd_var 3) (pd_var 1))))))) (pss_oneD (ps_retD pd_bl)) pss_nilD)
    (pss_oneD (ps_asgD 2 nd (pd_var 3)))))
    (pss_oneD (ps_retD pd_bl)))))
theorem sc__law_number : FnScope ["_law_thing", "_law_low", "_law_high"] ["_law_thing", "_law_low", "_law_high"] (defScope (topS 30)) := ⟨rfl, rfl, rfl, by decide +kernel, rfl, by decide +kernel, by decide +kernel⟩
theorem ok__law_number (T : Txt K mg cl) : OkD pg w base cl 1 T.f__law_number d__law_number := by
  refine okD (t := b__law_number) [] T.f__law_number sc__law_number rfl (by decide) rfl ?_
  intro cdv A outer s H E hr nd tk
  exact (pss_oneD (ps_retD (pd_and (pd_isi "int" T.z_isinstance T.z_int (by decide +kernel) (pd_var 0)) (pd_and (pd_not (pd_isi "bool" T.z_isinstance T.z_bool (by decide +kernel) (pd_var 0))) (pd_one (pd_chain op_leD op_leD (pd_var 1) (pd_var 0) (pd_var 2)))))))
theorem sc__law_is_place : FnScope ["_law_thing", "_law_count"] ["_law_thing", "_law_count"] (defScope (topS 31)) := ⟨rfl, rfl, rfl, by decide +kernel, rfl, by decide +kernel, by decide +kernel⟩
theorem ok__law_is_place (T : Txt K mg cl) : OkD pg w base cl 2 T.f__law_is_place d__law_is_place := by
  refine okD (t := b__law_is_place) [] T.f__law_is_place sc__law_is_place rfl (by decide) rfl ?_
  intro cdv A outer s H E hr nd tk
  exact (pss_consD (ps_ifD (pt_ofW (pw_orD (pt_notD (pt_valD (pd_isi "tuple" T.z_isinstance T.z_tuple (by decide +kernel) (pd_var 0)))) (pw_orD (pt_cmpD (op_neDD hr) (by rfl) (pd_callB (cr_lenD) T.z_len (by decide +kernel) (pd_cons (pd_var 0) pd_nil)) pd_int) (pw_or1D (pt_notD (pt_valD (by exact pd_callF T.f__law_number (ok__law_number T) hr (by omega) rfl tk (pd_cons (pd_sub hr (pd_var 0) pd_int) (pd_cons pd_int (pd_cons pd_int pd_nil))) rfl (by decide) rfl rfl))))))) (pss_oneD (ps_retD pd_bl)) pss_nilD)
    (pss_consD (ps_ifD (pt_ofW (pw_orD (pt_notD (pt_valD (by exact pd_callF T.f__law_number (ok__law_number T) hr (by omega) rfl tk (pd_cons (pd_sub hr (pd_var 0) pd_int) (pd_cons pd_int (pd_cons pd_int pd_nil))) rfl (by decide) rfl rfl))) (pw_or1D (pt_notD (pt_valD (by exact pd_callF T.f__law_number (ok__law_number T) hr (by omega) rfl tk (pd_cons (pd_sub hr (pd_var 0) pd_int) (pd_cons (pd_un un_negD pd_int) (pd_cons pd_int pd_nil))) rfl (by decide) rfl rfl)))))) (pss_oneD (ps_retD pd_bl)) pss_nilD)
    (pss_oneD (ps_retD (pd_and (by exact pd_callF T.f__law_rising (ok__law_rising T) hr (by omega) rfl tk (pd_cons (pd_sub hr (pd_var 0) pd_int) (pd_cons (pd_var 1) pd_nil)) rfl (by decide) rfl rfl) (pd_one (pd_cmp (op_neDD hr) (by rfl) (pd_sub hr (pd_var 0) pd_int) (pd_tup pd_nil))))))))
theorem sc__law_is_ground : FnScope ["_law_thing", "_law_part"] ["_law_thing"] (defScope (topS 32)) := ⟨rfl, rfl, rfl, by decide +kernel, rfl, by decide +kernel, by decide +kernel⟩
theorem ok__law_is_ground (T : Txt K mg cl) : OkD pg w base cl 3 T.f__law_is_ground d__law_is_ground := by
  refine okD (t := b__law_is_ground) [] T.f__law_is_ground sc__law_is_ground rfl (by decide) rfl ?_
  intro cdv A outer s H E hr nd tk
  exact (pss_consD (ps_ifD (pt_ofW (pw_orD (pt_notD (pt_valD (pd_isi "tuple" T.z_isinstance T.z_tuple (by decide +kernel) (pd_var 0)))) (pw_or1D (pt_notD (pt_chainD op_ltD op_ltD pd_int (pd_callB (cr_lenD) T.z_len (by decide +kernel) (pd_cons (pd_var 0) pd_nil)) pd_int))))) (pss_oneD (ps_retD pd_bl)) pss_nilD)
    (pss_oneD (ps_retD (pd_cmp (op_eqDD hr) (by rfl) (by exact pd_lcV [("_law_part", 1)] rfl nd (pid_seq (pd_var 0)) (blkOk_by (N := ["_law_thing", "_law_part"]) (sc := defScope (topS 32)) (own := [("_law_part", 1)]) (by decide +kernel)) rfl (fun s H C cl fp => (pg_nameD 1 nd)) (fun s H C cl fp => (pts_oneD (pt_notD (pt_valD (by exact pd_callF T.f__law_is_place (ok__law_is_place T) hr (by omega) rfl Pd.takes0 (pd_cons (pd_var 1) (pd_cons (pd_callB (cr_lenD) T.z_len (by decide +kernel) (pd_cons (pd_var 0) pd_nil)) pd_nil)) rfl (by decide) rfl rfl))))) (fun s H C cl fp => (pd_var 1)) rfl rfl (fun _ => rfl)) (pd_lst pd_nil)))))
theorem sc_law : FnScope ["_law_script", "_law_ground_here", "_law_text", "_law_number_here", "_law_k", "_law_found_here"] ["_law_script"] (defScope (topS 36)) := ⟨rfl, rfl, rfl, by decide +kernel, rfl, by decide +kernel, by decide +kernel⟩
theorem ok_law (T : Txt K mg cl) : OkD pg w base cl 7 T.f_law d_law := by
  refine okD (t := b_law) [] T.f_law sc_law rfl (by decide) rfl ?_
  intro cdv A outer s H E hr nd tk
  exact (pss_consD (ps_asgD 1 nd (by exact pd_callF T.f__law_ground (ok__law_ground T) hr (by omega) rfl tk (pd_cons (pd_var 0) (pd_cons pd_int pd_nil)) rfl (by decide) rfl rfl))
    (pss_consD (ps_asgD 2 nd (by exact pd_callF T.f__law_written (ok__law_written T) hr (by omega) rfl tk (pd_cons (pd_var 1) pd_nil) rfl (by decide) rfl rfl))
    (pss_consD (ps_asgD 3 nd (by exact pd_callF T.f__law_mixed (ok__law_mixed T) hr (by omega) rfl tk (pd_cons (pd_var 0) (pd_cons pd_int pd_nil)) rfl (by decide) rfl rfl))
    (pss_consD (ps_forD (passes_of rfl) rfl (pid_rng1 T.z_range (pd_op op_mulD (pd_op op_modD (pd_var 3) pd_int) (pd_op op_addD pd_int (pd_op op_modD (pd_op op_fdivD (pd_var 3) pd_int) pd_int)))) (pg_nameD 4 nd) (pss_oneD (ps_asgD 2 nd (by exact pd_callF T.f__law_changed (ok__law_changed T) hr (by omega) rfl tk (pd_cons (pd_var 2) (pd_cons (by exact pd_callF T.f__law_drawn (ok__law_drawn T) hr (by omega) rfl tk (pd_cons (pd_var 3) (pd_cons (pd_var 4) pd_nil)) rfl (by decide) rfl rfl) pd_nil)) rfl (by decide) rfl rfl))))
    (pss_consD (ps_asgD 5 nd (by exact pd_callF T.f__law_found (ok__law_found T) hr (by omega) rfl tk (pd_cons (pd_var 2) pd_nil) rfl (by decide) rfl rfl))
    (pss_consD (ps_ifD (pt_cmpD (op_eqDD hr) (by rfl) (pd_var 2) (by exact pd_callF T.f__law_written (ok__law_written T) hr (by omega) rfl tk (pd_cons (pd_var 1) pd_nil) rfl (by decide) rfl rfl)) (pss_oneD (ps_retD (pd_and (pd_cmp (op_eqDD hr) (by rfl) (pd_var 5) (pd_var 1)) (pd_one (by exact pd_callF T.f__law_is_ground (ok__law_is_ground T) hr (by omega) rfl tk (pd_cons (pd_var 5) pd_nil) rfl (by decide) rfl rfl))))) pss_nilD)
    (pss_oneD (ps_retD (pd_or (pd_cmp op_isND (by rfl) (pd_var 5) pd_non) (pd_one (pd_and (by exact pd_callF T.f__law_is_ground (ok__law_is_ground T) hr (by omega) rfl tk (pd_cons (pd_var 5) pd_nil) rfl (by decide) rfl rfl) (pd_one (pd_cmp (op_eqDD hr) (by rfl) (by exact pd_callF T.f__law_written (ok__law_written T) hr (by omega) rfl tk (pd_cons (pd_var 5) pd_nil) rfl (by decide) rfl rfl) (pd_var 2))))))))))))))
end
theorem all_mk {w : World} {K : PySem.W.Frag} {h : Heap} {mg : Str → Option Value} {fa : Addr} (X : K.In h) (G : h.Ns mainGlobals mg) (hfa : mg "law" = some (.ref fa))
    {f0 : Addr} {od0 an0 : Option Addr} {sl0 : Array (Option Value)} {oc0 kV0 dc0 pm0 cd0 ct0 : Value}
    (a0 : PySem.W.nsIn K mainGlobals "_law_cell_at" = some (some (.ref f0))) (l0 : K.lookup f0 = some ⟨oc0, od0, .func (PySem.W.fnOf "_law_cell_at" "_law_cell_at" (defArgs (topS 22)) (defBody (topS 22)) (defScope (topS 22)) .none kV0 dc0 pm0 an0 cd0 ct0), sl0⟩) (c0 : PySem.W.codeIn K cd0 "_law_cell_at" = true) (k0 : PySem.W.keepIn K (.ref f0) = true)
    {f1 : Addr} {od1 an1 : Option Addr} {sl1 : Array (Option Value)} {oc1 kV1 dc1 pm1 cd1 ct1 : Value}
    (a1 : PySem.W.nsIn K mainGlobals "_law_mixed" = some (some (.ref f1))) (l1 : K.lookup f1 = some ⟨oc1, od1, .func (PySem.W.fnOf "_law_mixed" "_law_mixed" (defArgs (topS 23)) (defBody (topS 23)) (defScope (topS 23)) .none kV1 dc1 pm1 an1 cd1 ct1), sl1⟩) (c1 : PySem.W.codeIn K cd1 "_law_mixed" = true) (k1 : PySem.W.keepIn K (.ref f1) = true)
    {f2 : Addr} {od2 an2 : Option Addr} {sl2 : Array (Option Value)} {oc2 kV2 dc2 pm2 cd2 ct2 : Value}
    (a2 : PySem.W.nsIn K mainGlobals "_law_drawn" = some (some (.ref f2))) (l2 : K.lookup f2 = some ⟨oc2, od2, .func (PySem.W.fnOf "_law_drawn" "_law_drawn" (defArgs (topS 24)) (defBody (topS 24)) (defScope (topS 24)) .none kV2 dc2 pm2 an2 cd2 ct2), sl2⟩) (c2 : PySem.W.codeIn K cd2 "_law_drawn" = true) (k2 : PySem.W.keepIn K (.ref f2) = true)
    {f3 : Addr} {od3 an3 : Option Addr} {sl3 : Array (Option Value)} {oc3 kV3 dc3 pm3 cd3 ct3 : Value}
    (a3 : PySem.W.nsIn K mainGlobals "_law_goals" = some (some (.ref f3))) (l3 : K.lookup f3 = some ⟨oc3, od3, .func (PySem.W.fnOf "_law_goals" "_law_goals" (defArgs (topS 25)) (defBody (topS 25)) (defScope (topS 25)) .none kV3 dc3 pm3 an3 cd3 ct3), sl3⟩) (c3 : PySem.W.codeIn K cd3 "_law_goals" = true) (k3 : PySem.W.keepIn K (.ref f3) = true)
    {f4 : Addr} {od4 an4 : Option Addr} {sl4 : Array (Option Value)} {oc4 kV4 dc4 pm4 cd4 ct4 : Value}
    (a4 : PySem.W.nsIn K mainGlobals "_law_place" = some (some (.ref f4))) (l4 : K.lookup f4 = some ⟨oc4, od4, .func (PySem.W.fnOf "_law_place" "_law_place" (defArgs (topS 26)) (defBody (topS 26)) (defScope (topS 26)) .none kV4 dc4 pm4 an4 cd4 ct4), sl4⟩) (c4 : PySem.W.codeIn K cd4 "_law_place" = true) (k4 : PySem.W.keepIn K (.ref f4) = true)
    {f5 : Addr} {od5 an5 : Option Addr} {sl5 : Array (Option Value)} {oc5 kV5 dc5 pm5 cd5 ct5 : Value}
    (a5 : PySem.W.nsIn K mainGlobals "_law_ground" = some (some (.ref f5))) (l5 : K.lookup f5 = some ⟨oc5, od5, .func (PySem.W.fnOf "_law_ground" "_law_ground" (defArgs (topS 27)) (defBody (topS 27)) (defScope (topS 27)) .none kV5 dc5 pm5 an5 cd5 ct5), sl5⟩) (c5 : PySem.W.codeIn K cd5 "_law_ground" = true) (k5 : PySem.W.keepIn K (.ref f5) = true)
    {f6 : Addr} {od6 an6 : Option Addr} {sl6 : Array (Option Value)} {oc6 kV6 dc6 pm6 cd6 ct6 : Value}
    (a6 : PySem.W.nsIn K mainGlobals "_law_written" = some (some (.ref f6))) (l6 : K.lookup f6 = some ⟨oc6, od6, .func (PySem.W.fnOf "_law_written" "_law_written" (defArgs (topS 33)) (defBody (topS 33)) (defScope (topS 33)) .none kV6 dc6 pm6 an6 cd6 ct6), sl6⟩) (c6 : PySem.W.codeIn K cd6 "_law_written" = true) (k6 : PySem.W.keepIn K (.ref f6) = true)
    {f7 : Addr} {od7 an7 : Option Addr} {sl7 : Array (Option Value)} {oc7 kV7 dc7 pm7 cd7 ct7 : Value}
    (a7 : PySem.W.nsIn K mainGlobals "number_of" = some (some (.ref f7))) (l7 : K.lookup f7 = some ⟨oc7, od7, .func (PySem.W.fnOf "number_of" "number_of" (defArgs (topS 17)) (defBody (topS 17)) (defScope (topS 17)) .none kV7 dc7 pm7 an7 cd7 ct7), sl7⟩) (c7 : PySem.W.codeIn K cd7 "number_of" = true) (k7 : PySem.W.keepIn K (.ref f7) = true)
    {f8 : Addr} {od8 an8 : Option Addr} {sl8 : Array (Option Value)} {oc8 kV8 dc8 pm8 cd8 ct8 : Value}
    (a8 : PySem.W.nsIn K mainGlobals "place_of" = some (some (.ref f8))) (l8 : K.lookup f8 = some ⟨oc8, od8, .func (PySem.W.fnOf "place_of" "place_of" (defArgs (topS 18)) (defBody (topS 18)) (defScope (topS 18)) .none kV8 dc8 pm8 an8 cd8 ct8), sl8⟩) (c8 : PySem.W.codeIn K cd8 "place_of" = true) (k8 : PySem.W.keepIn K (.ref f8) = true)
    {f9 : Addr} {od9 an9 : Option Addr} {sl9 : Array (Option Value)} {oc9 kV9 dc9 pm9 cd9 ct9 : Value}
    (a9 : PySem.W.nsIn K mainGlobals "places_of" = some (some (.ref f9))) (l9 : K.lookup f9 = some ⟨oc9, od9, .func (PySem.W.fnOf "places_of" "places_of" (defArgs (topS 19)) (defBody (topS 19)) (defScope (topS 19)) .none kV9 dc9 pm9 an9 cd9 ct9), sl9⟩) (c9 : PySem.W.codeIn K cd9 "places_of" = true) (k9 : PySem.W.keepIn K (.ref f9) = true)
    {f10 : Addr} {od10 an10 : Option Addr} {sl10 : Array (Option Value)} {oc10 kV10 dc10 pm10 cd10 ct10 : Value}
    (a10 : PySem.W.nsIn K mainGlobals "is_number" = some (some (.ref f10))) (l10 : K.lookup f10 = some ⟨oc10, od10, .func (PySem.W.fnOf "is_number" "is_number" (defArgs (topS 8)) (defBody (topS 8)) (defScope (topS 8)) .none kV10 dc10 pm10 an10 cd10 ct10), sl10⟩) (c10 : PySem.W.codeIn K cd10 "is_number" = true) (k10 : PySem.W.keepIn K (.ref f10) = true)
    {f11 : Addr} {od11 an11 : Option Addr} {sl11 : Array (Option Value)} {oc11 kV11 dc11 pm11 cd11 ct11 : Value}
    (a11 : PySem.W.nsIn K mainGlobals "are_some" = some (some (.ref f11))) (l11 : K.lookup f11 = some ⟨oc11, od11, .func (PySem.W.fnOf "are_some" "are_some" (defArgs (topS 9)) (defBody (topS 9)) (defScope (topS 9)) .none kV11 dc11 pm11 an11 cd11 ct11), sl11⟩) (c11 : PySem.W.codeIn K cd11 "are_some" = true) (k11 : PySem.W.keepIn K (.ref f11) = true)
    {f12 : Addr} {od12 an12 : Option Addr} {sl12 : Array (Option Value)} {oc12 kV12 dc12 pm12 cd12 ct12 : Value}
    (a12 : PySem.W.nsIn K mainGlobals "is_place" = some (some (.ref f12))) (l12 : K.lookup f12 = some ⟨oc12, od12, .func (PySem.W.fnOf "is_place" "is_place" (defArgs (topS 10)) (defBody (topS 10)) (defScope (topS 10)) .none kV12 dc12 pm12 an12 cd12 ct12), sl12⟩) (c12 : PySem.W.codeIn K cd12 "is_place" = true) (k12 : PySem.W.keepIn K (.ref f12) = true)
    {f13 : Addr} {od13 an13 : Option Addr} {sl13 : Array (Option Value)} {oc13 kV13 dc13 pm13 cd13 ct13 : Value}
    (a13 : PySem.W.nsIn K mainGlobals "is_ground" = some (some (.ref f13))) (l13 : K.lookup f13 = some ⟨oc13, od13, .func (PySem.W.fnOf "is_ground" "is_ground" (defArgs (topS 11)) (defBody (topS 11)) (defScope (topS 11)) .none kV13 dc13 pm13 an13 cd13 ct13), sl13⟩) (c13 : PySem.W.codeIn K cd13 "is_ground" = true) (k13 : PySem.W.keepIn K (.ref f13) = true)
    {f14 : Addr} {od14 an14 : Option Addr} {sl14 : Array (Option Value)} {oc14 kV14 dc14 pm14 cd14 ct14 : Value}
    (a14 : PySem.W.nsIn K mainGlobals "place_words" = some (some (.ref f14))) (l14 : K.lookup f14 = some ⟨oc14, od14, .func (PySem.W.fnOf "place_words" "place_words" (defArgs (topS 13)) (defBody (topS 13)) (defScope (topS 13)) .none kV14 dc14 pm14 an14 cd14 ct14), sl14⟩) (c14 : PySem.W.codeIn K cd14 "place_words" = true) (k14 : PySem.W.keepIn K (.ref f14) = true)
    {f15 : Addr} {od15 an15 : Option Addr} {sl15 : Array (Option Value)} {oc15 kV15 dc15 pm15 cd15 ct15 : Value}
    (a15 : PySem.W.nsIn K mainGlobals "ground_words" = some (some (.ref f15))) (l15 : K.lookup f15 = some ⟨oc15, od15, .func (PySem.W.fnOf "ground_words" "ground_words" (defArgs (topS 14)) (defBody (topS 14)) (defScope (topS 14)) .none kV15 dc15 pm15 an15 cd15 ct15), sl15⟩) (c15 : PySem.W.codeIn K cd15 "ground_words" = true) (k15 : PySem.W.keepIn K (.ref f15) = true)
    {f16 : Addr} {od16 an16 : Option Addr} {sl16 : Array (Option Value)} {oc16 kV16 dc16 pm16 cd16 ct16 : Value}
    (a16 : PySem.W.nsIn K mainGlobals "read" = some (some (.ref f16))) (l16 : K.lookup f16 = some ⟨oc16, od16, .func (PySem.W.fnOf "read" "read" (defArgs (topS 20)) (defBody (topS 20)) (defScope (topS 20)) .none kV16 dc16 pm16 an16 cd16 ct16), sl16⟩) (c16 : PySem.W.codeIn K cd16 "read" = true) (k16 : PySem.W.keepIn K (.ref f16) = true)
    {f17 : Addr} {od17 an17 : Option Addr} {sl17 : Array (Option Value)} {oc17 kV17 dc17 pm17 cd17 ct17 : Value}
    (a17 : PySem.W.nsIn K mainGlobals "_law_found" = some (some (.ref f17))) (l17 : K.lookup f17 = some ⟨oc17, od17, .func (PySem.W.fnOf "_law_found" "_law_found" (defArgs (topS 35)) (defBody (topS 35)) (defScope (topS 35)) .none kV17 dc17 pm17 an17 cd17 ct17), sl17⟩) (c17 : PySem.W.codeIn K cd17 "_law_found" = true) (k17 : PySem.W.keepIn K (.ref f17) = true)
    {f18 : Addr} {od18 an18 : Option Addr} {sl18 : Array (Option Value)} {oc18 kV18 dc18 pm18 cd18 ct18 : Value}
    (a18 : PySem.W.nsIn K mainGlobals "_law_changed" = some (some (.ref f18))) (l18 : K.lookup f18 = some ⟨oc18, od18, .func (PySem.W.fnOf "_law_changed" "_law_changed" (defArgs (topS 34)) (defBody (topS 34)) (defScope (topS 34)) .none kV18 dc18 pm18 an18 cd18 ct18), sl18⟩) (c18 : PySem.W.codeIn K cd18 "_law_changed" = true) (k18 : PySem.W.keepIn K (.ref f18) = true)
    {f19 : Addr} {od19 an19 : Option Addr} {sl19 : Array (Option Value)} {oc19 kV19 dc19 pm19 cd19 ct19 : Value}
    (a19 : PySem.W.nsIn K mainGlobals "_law_rising" = some (some (.ref f19))) (l19 : K.lookup f19 = some ⟨oc19, od19, .func (PySem.W.fnOf "_law_rising" "_law_rising" (defArgs (topS 29)) (defBody (topS 29)) (defScope (topS 29)) .none kV19 dc19 pm19 an19 cd19 ct19), sl19⟩) (c19 : PySem.W.codeIn K cd19 "_law_rising" = true) (k19 : PySem.W.keepIn K (.ref f19) = true)
    {f20 : Addr} {od20 an20 : Option Addr} {sl20 : Array (Option Value)} {oc20 kV20 dc20 pm20 cd20 ct20 : Value}
    (a20 : PySem.W.nsIn K mainGlobals "_law_number" = some (some (.ref f20))) (l20 : K.lookup f20 = some ⟨oc20, od20, .func (PySem.W.fnOf "_law_number" "_law_number" (defArgs (topS 30)) (defBody (topS 30)) (defScope (topS 30)) .none kV20 dc20 pm20 an20 cd20 ct20), sl20⟩) (c20 : PySem.W.codeIn K cd20 "_law_number" = true) (k20 : PySem.W.keepIn K (.ref f20) = true)
    {f21 : Addr} {od21 an21 : Option Addr} {sl21 : Array (Option Value)} {oc21 kV21 dc21 pm21 cd21 ct21 : Value}
    (a21 : PySem.W.nsIn K mainGlobals "_law_is_place" = some (some (.ref f21))) (l21 : K.lookup f21 = some ⟨oc21, od21, .func (PySem.W.fnOf "_law_is_place" "_law_is_place" (defArgs (topS 31)) (defBody (topS 31)) (defScope (topS 31)) .none kV21 dc21 pm21 an21 cd21 ct21), sl21⟩) (c21 : PySem.W.codeIn K cd21 "_law_is_place" = true) (k21 : PySem.W.keepIn K (.ref f21) = true)
    {f22 : Addr} {od22 an22 : Option Addr} {sl22 : Array (Option Value)} {oc22 kV22 dc22 pm22 cd22 ct22 : Value}
    (a22 : PySem.W.nsIn K mainGlobals "_law_is_ground" = some (some (.ref f22))) (l22 : K.lookup f22 = some ⟨oc22, od22, .func (PySem.W.fnOf "_law_is_ground" "_law_is_ground" (defArgs (topS 32)) (defBody (topS 32)) (defScope (topS 32)) .none kV22 dc22 pm22 an22 cd22 ct22), sl22⟩) (c22 : PySem.W.codeIn K cd22 "_law_is_ground" = true) (k22 : PySem.W.keepIn K (.ref f22) = true)
    {f23 : Addr} {od23 an23 : Option Addr} {sl23 : Array (Option Value)} {oc23 kV23 dc23 pm23 cd23 ct23 : Value}
    (a23 : PySem.W.nsIn K mainGlobals "law" = some (some (.ref f23))) (l23 : K.lookup f23 = some ⟨oc23, od23, .func (PySem.W.fnOf "law" "law" (defArgs (topS 36)) (defBody (topS 36)) (defScope (topS 36)) .none kV23 dc23 pm23 an23 cd23 ct23), sl23⟩) (c23 : PySem.W.codeIn K cd23 "law" = true) (k23 : PySem.W.keepIn K (.ref f23) = true)
    (z_len : PySem.W.nsIn K mainGlobals "len" = some none)
    (z_range : PySem.W.nsIn K mainGlobals "range" = some none)
    (z_int : PySem.W.nsIn K mainGlobals "int" = some none)
    (z_tuple : PySem.W.nsIn K mainGlobals "tuple" = some none)
    (z_sorted : PySem.W.nsIn K mainGlobals "sorted" = some none)
    (z_min : PySem.W.nsIn K mainGlobals "min" = some none)
    (z_max : PySem.W.nsIn K mainGlobals "max" = some none)
    (z_str : PySem.W.nsIn K mainGlobals "str" = some none)
    (z_all : PySem.W.nsIn K mainGlobals "all" = some none)
    (z_isinstance : PySem.W.nsIn K mainGlobals "isinstance" = some none)
    (z_bool : PySem.W.nsIn K mainGlobals "bool" = some none)
    (z_ValueError : PySem.W.nsIn K mainGlobals "ValueError" = some none)
    {t_FIGURES : Tok} (g_FIGURES : PySem.W.nsIn K mainGlobals "FIGURES" = some (some (.str "0123456789" t_FIGURES)))
    {t_HIGHEST : Tok} (g_HIGHEST : PySem.W.nsIn K mainGlobals "HIGHEST" = some (some (.int 12 t_HIGHEST)))
    {t_GAIN : Tok} (g_GAIN : PySem.W.nsIn K mainGlobals "GAIN" = some (some (.int 20 t_GAIN)))
    {t_PLACES : Tok} (g_PLACES : PySem.W.nsIn K mainGlobals "PLACES" = some (some (.int 24 t_PLACES)))
    (hn0 : PySem.W.specialIn K (.builtin "object.__class__") "__get__" = some (some (.builtin "getset_descriptor.__get__"))) (ht0 : PySem.W.takesIn K (.builtin "object.__class__") = some true)
    {C_NoText : Addr} (y_NoText : PySem.W.nsIn K mainGlobals "NoText" = some (some (.ref C_NoText)))
    {C_GroundError : Addr} (y_GroundError : PySem.W.nsIn K mainGlobals "GroundError" = some (some (.ref C_GroundError)))
    {C_NoGround : Addr} (y_NoGround : PySem.W.nsIn K mainGlobals "NoGround" = some (some (.ref C_NoGround)))
    (xq_NoText : PySem.W.excIn K C_NoText [.type "ValueError", .type "Exception", .type "BaseException", .type "object"] "ValueError.__new__" = true)
    (wk_NoText : PySem.W.keepIn K (.ref C_NoText) = true)
    (wb_NoText : PySem.W.subIn K (.ref C_NoText) (.type "BaseException") = some true)
    (wt_NoText : PySem.W.typeIn K (.ref C_NoText) = some (.type "type"))
    (whd_NoText : PySem.W.hasDictIn K C_NoText = true)
    (s_NoText_NoText : PySem.W.subIn K (.ref C_NoText) (.ref C_NoText) = some true)
    (whg_NoText : PySem.W.findIn K (.ref C_NoText) "__getattribute__" = some (some (.builtin "BaseException.__getattribute__")))
    (whk_NoText : PySem.W.findIn K (.ref C_NoText) "__getattr__" = some none)
    (wha_NoText : PySem.W.findIn K (.ref C_NoText) "__class__" = some (some (.builtin "object.__class__")))
    (whm_NoText : PySem.W.mroIn K C_NoText (.type "object") = some true)
    (s_NoText_GroundError : PySem.W.subIn K (.ref C_NoText) (.ref C_GroundError) = some true)
    (s_NoText_ValueError : PySem.W.subIn K (.ref C_NoText) (.type "ValueError") = some true)
    (s_NoText_NoGround : PySem.W.subIn K (.ref C_NoText) (.ref C_NoGround) = some false)
    (whd_GroundError : PySem.W.hasDictIn K C_GroundError = true)
    (wt_GroundError : PySem.W.typeIn K (.ref C_GroundError) = some (.type "type"))
    (s_GroundError_GroundError : PySem.W.subIn K (.ref C_GroundError) (.ref C_GroundError) = some true)
    (whd_NoGround : PySem.W.hasDictIn K C_NoGround = true)
    (wt_NoGround : PySem.W.typeIn K (.ref C_NoGround) = some (.type "type"))
    (s_NoGround_NoGround : PySem.W.subIn K (.ref C_NoGround) (.ref C_NoGround) = some true)
    : ∃ fd : FuncData, (∀ (s : Shared) (v : Value), BindsTo s fd ⟨[v], []⟩ [("_law_script", v)]) ∧ ∀ base : Heap, K.In base → base.Ns mainGlobals mg → FnOk pg w K mg base (L2.CX pg w) 7 fa fd ["_law_script"] (spL K 1 d_law) := by
  obtain ⟨F0⟩ := fd_ne (ps := ["_law_script", "_law_k"]) X G a0 l0 c0 k0 (fun _ _ _ _ _ _ us hl => match us, hl with | [_, _], _ => rfl)
  obtain ⟨F1⟩ := fd_ne (ps := ["_law_script", "_law_k"]) X G a1 l1 c1 k1 (fun _ _ _ _ _ _ us hl => match us, hl with | [_, _], _ => rfl)
  obtain ⟨F2⟩ := fd_ne (ps := ["_law_number_here", "_law_k"]) X G a2 l2 c2 k2 (fun _ _ _ _ _ _ us hl => match us, hl with | [_, _], _ => rfl)
  obtain ⟨F3⟩ := fd_ne (ps := ["_law_number_here", "_law_count"]) X G a3 l3 c3 k3 (fun _ _ _ _ _ _ us hl => match us, hl with | [_, _], _ => rfl)
  obtain ⟨F4⟩ := fd_ne (ps := ["_law_number_here", "_law_count", "_law_high"]) X G a4 l4 c4 k4 (fun _ _ _ _ _ _ us hl => match us, hl with | [_, _, _], _ => rfl)
  obtain ⟨F5⟩ := fd_ne (ps := ["_law_script", "_law_most"]) X G a5 l5 c5 k5 (fun _ _ _ _ _ _ us hl => match us, hl with | [_, _], _ => rfl)
  obtain ⟨F6⟩ := fd_ne (ps := ["_law_ground_here"]) X G a6 l6 c6 k6 (fun _ _ _ _ _ _ us hl => match us, hl with | [_], _ => rfl)
  obtain ⟨F7⟩ := fd_ne (ps := ["word"]) X G a7 l7 c7 k7 (fun _ _ _ _ _ _ us hl => match us, hl with | [_], _ => rfl)
  obtain ⟨F8⟩ := fd_ne (ps := ["words"]) X G a8 l8 c8 k8 (fun _ _ _ _ _ _ us hl => match us, hl with | [_], _ => rfl)
  obtain ⟨F9⟩ := fd_ne (ps := ["words"]) X G a9 l9 c9 k9 (fun _ _ _ _ _ _ us hl => match us, hl with | [_], _ => rfl)
  obtain ⟨F10⟩ := fd_ne (ps := ["thing", "low", "high"]) X G a10 l10 c10 k10 (fun _ _ _ _ _ _ us hl => match us, hl with | [_, _, _], _ => rfl)
  obtain ⟨F11⟩ := fd_ne (ps := ["thing", "count"]) X G a11 l11 c11 k11 (fun _ _ _ _ _ _ us hl => match us, hl with | [_, _], _ => rfl)
  obtain ⟨F12⟩ := fd_ne (ps := ["thing", "count"]) X G a12 l12 c12 k12 (fun _ _ _ _ _ _ us hl => match us, hl with | [_, _], _ => rfl)
  obtain ⟨F13⟩ := fd_ne (ps := ["thing"]) X G a13 l13 c13 k13 (fun _ _ _ _ _ _ us hl => match us, hl with | [_], _ => rfl)
  obtain ⟨F14⟩ := fd_ne (ps := ["place"]) X G a14 l14 c14 k14 (fun _ _ _ _ _ _ us hl => match us, hl with | [_], _ => rfl)
  obtain ⟨F15⟩ := fd_ne (ps := ["ground"]) X G a15 l15 c15 k15 (fun _ _ _ _ _ _ us hl => match us, hl with | [_], _ => rfl)
  obtain ⟨F16⟩ := fd_ne (ps := ["text"]) X G a16 l16 c16 k16 (fun _ _ _ _ _ _ us hl => match us, hl with | [_], _ => rfl)
  obtain ⟨F17⟩ := fd_ne (ps := ["_law_text"]) X G a17 l17 c17 k17 (fun _ _ _ _ _ _ us hl => match us, hl with | [_], _ => rfl)
  obtain ⟨F18⟩ := fd_ne (ps := ["_law_text", "_law_number_here"]) X G a18 l18 c18 k18 (fun _ _ _ _ _ _ us hl => match us, hl with | [_, _], _ => rfl)
  obtain ⟨F19⟩ := fd_ne (ps := ["_law_found_here", "_law_count"]) X G a19 l19 c19 k19 (fun _ _ _ _ _ _ us hl => match us, hl with | [_, _], _ => rfl)
  obtain ⟨F20⟩ := fd_ne (ps := ["_law_thing", "_law_low", "_law_high"]) X G a20 l20 c20 k20 (fun _ _ _ _ _ _ us hl => match us, hl with | [_, _, _], _ => rfl)
  obtain ⟨F21⟩ := fd_ne (ps := ["_law_thing", "_law_count"]) X G a21 l21 c21 k21 (fun _ _ _ _ _ _ us hl => match us, hl with | [_, _], _ => rfl)
  obtain ⟨F22⟩ := fd_ne (ps := ["_law_thing"]) X G a22 l22 c22 k22 (fun _ _ _ _ _ _ us hl => match us, hl with | [_], _ => rfl)
  obtain ⟨F23, rfl, e23⟩ := fd_law (p := "_law_script") X G hfa a23 l23 c23 k23 (fun _ _ _ _ _ _ us hl => match us, hl with | [_], _ => rfl)
  let cl : Nat → Addr := fun n => match n with | 2 => C_NoText | 0 => C_GroundError | 1 => C_NoGround | _ => 0
  let T : Txt K mg cl := ⟨F0, F1, F2, F3, F4, F5, F6, F7, F8, F9, F10, F11, F12, F13, F14, F15, F16, F17, F18, F19, F20, F21, F22, F23, PySem.W.mg_none_of X G z_len, PySem.W.mg_none_of X G z_range, PySem.W.mg_none_of X G z_int, PySem.W.mg_none_of X G z_tuple, PySem.W.mg_none_of X G z_sorted, PySem.W.mg_none_of X G z_min, PySem.W.mg_none_of X G z_max, PySem.W.mg_none_of X G z_str, PySem.W.mg_none_of X G z_all, PySem.W.mg_none_of X G z_isinstance, PySem.W.mg_none_of X G z_bool, PySem.W.mg_none_of X G z_ValueError, kc_str X G g_FIGURES, kc_int X G g_HIGHEST, kc_int X G g_GAIN, kc_int X G g_PLACES, ⟨xq_NoText, PySem.W.mg_of X G y_NoText, wk_NoText, wb_NoText, wt_NoText⟩, PySem.W.exm_ref wb_NoText whd_NoText wt_NoText s_NoText_NoText, ⟨whg_NoText, whk_NoText, wb_NoText, whd_NoText, wha_NoText, hn0, ht0, whm_NoText⟩, kit_own whd_GroundError wt_GroundError s_NoText_GroundError s_GroundError_GroundError, PySem.W.mg_of X G y_GroundError, kit_ty2 (by decide +kernel) s_NoText_ValueError, kit_own whd_NoGround wt_NoGround s_NoText_NoGround s_NoGround_NoGround, PySem.W.mg_of X G y_NoGround, PySem.W.mg_of X G y_NoText⟩
  exact ⟨F23.fd, e23, fun base _ _ => fn_spL (ok_law (w := w) (base := base) T)⟩
end K04

open PySem PySem.W PyProof.Rows in
set_option maxHeartbeats 0 in
theorem PySem.Challenge.cw_duelground_k04_whole_read_holds : PySem.Challenge.rw_duelground_k04_whole_read.Holds := by
  w_on; o_law; k_head; (case hw => w_witness2)
  k_fill
  refine L2.walk_of (l := PySem.Challenge.rw_duelground_k04_whole_read) (n := 63) (k := 7) (x := "_law_script") (CX := fun w => L2.CX PySem.Challenge.pw_duelground_k04_whole_read w) (sp := fun w => Pd.spL _ 1 K04.d_law) rfl (by decide) rfl ⟨rfl, by decide, by decide⟩ (fun w h Y => PySem.W.kIn_of Y) ?F (fun _ _ a ns hl _ hS => Pd.law_spL hl hS (K04.law_true ns hl)) (fun w H s e s' h => Pd.law_end (l := PySem.Challenge.rw_duelground_k04_whole_read) h)
  case F =>
    intro w mg fa h KX G hmg
    refine' K04.all_mk KX G hmg ?a0 ?l0 ?c0 ?k0 ?a1 ?l1 ?c1 ?k1 ?a2 ?l2 ?c2 ?k2 ?a3 ?l3 ?c3 ?k3 ?a4 ?l4 ?c4 ?k4 ?a5 ?l5 ?c5 ?k5 ?a6 ?l6 ?c6 ?k6 ?a7 ?l7 ?c7 ?k7 ?a8 ?l8 ?c8 ?k8 ?a9 ?l9 ?c9 ?k9 ?a10 ?l10 ?c10 ?k10 ?a11 ?l11 ?c11 ?k11 ?a12 ?l12 ?c12 ?k12 ?a13 ?l13 ?c13 ?k13 ?a14 ?l14 ?c14 ?k14 ?a15 ?l15 ?c15 ?k15 ?a16 ?l16 ?c16 ?k16 ?a17 ?l17 ?c17 ?k17 ?a18 ?l18 ?c18 ?k18 ?a19 ?l19 ?c19 ?k19 ?a20 ?l20 ?c20 ?k20 ?a21 ?l21 ?c21 ?k21 ?a22 ?l22 ?c22 ?k22 ?a23 ?l23 ?c23 ?k23 ?z_len ?z_range ?z_int ?z_tuple ?z_sorted ?z_min ?z_max ?z_str ?z_all ?z_isinstance ?z_bool ?z_ValueError ?g_FIGURES ?g_HIGHEST ?g_GAIN ?g_PLACES ?hn0 ?ht0 ?y_NoText ?y_GroundError ?y_NoGround ?xq_NoText ?wk_NoText ?wb_NoText ?wt_NoText ?whd_NoText ?s_NoText_NoText ?whg_NoText ?whk_NoText ?wha_NoText ?whm_NoText ?s_NoText_GroundError ?s_NoText_ValueError ?s_NoText_NoGround ?whd_GroundError ?wt_GroundError ?s_GroundError_GroundError ?whd_NoGround ?wt_NoGround ?s_NoGround_NoGround
    (case a0 => k_is); (case l0 => k_is); (case c0 => k_is); (case k0 => k_is); (case a1 => k_is); (case l1 => k_is); (case c1 => k_is); (case k1 => k_is); (case a2 => k_is); (case l2 => k_is); (case c2 => k_is); (case k2 => k_is); (case a3 => k_is); (case l3 => k_is); (case c3 => k_is); (case k3 => k_is); (case a4 => k_is); (case l4 => k_is); (case c4 => k_is); (case k4 => k_is); (case a5 => k_is); (case l5 => k_is); (case c5 => k_is); (case k5 => k_is); (case a6 => k_is); (case l6 => k_is); (case c6 => k_is); (case k6 => k_is); (case a7 => k_is); (case l7 => k_is); (case c7 => k_is); (case k7 => k_is); (case a8 => k_is); (case l8 => k_is); (case c8 => k_is); (case k8 => k_is); (case a9 => k_is); (case l9 => k_is); (case c9 => k_is); (case k9 => k_is); (case a10 => k_is); (case l10 => k_is); (case c10 => k_is); (case k10 => k_is); (case a11 => k_is); (case l11 => k_is); (case c11 => k_is); (case k11 => k_is); (case a12 => k_is); (case l12 => k_is); (case c12 => k_is); (case k12 => k_is); (case a13 => k_is); (case l13 => k_is); (case c13 => k_is); (case k13 => k_is); (case a14 => k_is); (case l14 => k_is); (case c14 => k_is); (case k14 => k_is); (case a15 => k_is); (case l15 => k_is); (case c15 => k_is); (case k15 => k_is); (case a16 => k_is); (case l16 => k_is); (case c16 => k_is); (case k16 => k_is); (case a17 => k_is); (case l17 => k_is); (case c17 => k_is); (case k17 => k_is); (case a18 => k_is); (case l18 => k_is); (case c18 => k_is); (case k18 => k_is); (case a19 => k_is); (case l19 => k_is); (case c19 => k_is); (case k19 => k_is); (case a20 => k_is); (case l20 => k_is); (case c20 => k_is); (case k20 => k_is); (case a21 => k_is); (case l21 => k_is); (case c21 => k_is); (case k21 => k_is); (case a22 => k_is); (case l22 => k_is); (case c22 => k_is); (case k22 => k_is); (case a23 => k_is); (case l23 => k_is); (case c23 => k_is); (case k23 => k_is); (case z_len => k_is); (case z_range => k_is); (case z_int => k_is); (case z_tuple => k_is); (case z_sorted => k_is); (case z_min => k_is); (case z_max => k_is); (case z_str => k_is); (case z_all => k_is); (case z_isinstance => k_is); (case z_bool => k_is); (case z_ValueError => k_is); (case g_FIGURES => k_is); (case g_HIGHEST => k_is); (case g_GAIN => k_is); (case g_PLACES => k_is); (case hn0 => k_is); (case ht0 => k_is); (case y_NoText => k_is); (case y_GroundError => k_is); (case y_NoGround => k_is); (case xq_NoText => k_exc); (case wk_NoText => k_is); (case wb_NoText => k_is); (case wt_NoText => k_is); (case whd_NoText => k_is); (case s_NoText_NoText => k_is); (case whg_NoText => k_is); (case whk_NoText => k_is); (case wha_NoText => k_is); (case whm_NoText => k_is); (case s_NoText_GroundError => k_is); (case s_NoText_ValueError => k_is); (case s_NoText_NoGround => k_is); (case whd_GroundError => k_is); (case wt_GroundError => k_is); (case s_GroundError_GroundError => k_is); (case whd_NoGround => k_is); (case wt_NoGround => k_is); (case s_NoGround_NoGround => k_is)

