import PyProof.Rows.All
import Wide.All
import OpenK.AllK
import Wide.FinOn
import HandS.ForMost
import HandS.Lambda
import HandS.Exc
import HandS.Deep
import HandS.Style
import HandS.TupAny
import HandS.TupMul
import KE.SortData
import HandS.IsInst
import HandS.Conv
import HandS.TupLen
import HandS.WordsDict
import HandS.More
import HandS.Walk
import HandS.DictComp
import KE.GoesEnum
import HandS.CallSlots
import HandS.WordsExc
import HandS.BoundDict
import HandS.SetFor
import KE.KDictDisplayH
import HandS.TupSets
import HandS.Zip
import PySem.Challenge.RW_beatplaces_k45_whole_hulls_kernels_turne
set_option Elab.async false
set_option linter.all false
set_option maxRecDepth 100000
/-! values of the evaluator, and how they stand in the abstract heap -/
namespace Bp
open PySem PySem.Spec PyProof.Rows L2

inductive D where
  | non
  | bl (b : Bool)
  | int (i : Int)
  | str (x : Str)
  | tup (xs : List D)
  | lst (o : Bool) (xs : List D)
  | scr (xs : List D)
  | dk (o : Bool) (ks : List Key) (xs : List D)
  | dt (o : Bool) (ks : List (List Key)) (xs : List D)
  | ins (o : Bool) (c : Nat) (fs : List Str) (xs : List D)

abbrev Env := List (Option D)

mutual
/-- nothing in it may be changed through it -/
def D.fz : D → Bool
  | .tup xs => fzs xs
  | .lst o xs => !o && fzs xs
  | .scr xs => fzs xs
  | .dk o _ xs => !o && fzs xs
  | .dt o _ xs => !o && fzs xs
  | .ins o _ _ xs => !o && fzs xs
  | _ => true
def fzs : List D → Bool
  | [] => true
  | x :: xs => D.fz x && fzs xs
end
mutual
/-- what it is once it is shared -/
def D.sh : D → D
  | .tup xs => .tup (shs xs)
  | .lst _ xs => .lst false (shs xs)
  | .scr xs => .scr (shs xs)
  | .dk _ ks xs => .dk false ks (shs xs)
  | .dt _ ks xs => .dt false ks (shs xs)
  | .ins _ c fs xs => .ins false c fs (shs xs)
  | d => d
def shs : List D → List D
  | [] => []
  | x :: xs => D.sh x :: shs xs
end

/-- the written part, where the own classes stand -/
structure Kx where
  K : PySem.W.Frag
  cA : Nat → Addr
  T : List (Addr × Str)

abbrev Zs := Addr → Prop
/-- a list that is only read: known as an object, or of the written part -/
def FzL (K : PySem.W.Frag) (H : Hp) (a : Addr) (vs : List V) : Prop :=
  (∃ o, H a = some (.frz o (.lst vs))) ∨
    ∃ (o : Obj) (its : Array Value) (n : Nat), K.lookup a = some o ∧ o.cls = .type "list" ∧ o.dict = none ∧ o.data = .seq its n ∧ its.size ≤ sizeLine ∧ Vals vs its.toList
theorem FzL.sq {K : PySem.W.Frag} {H : Hp} {a : Addr} {vs : List V} (h : FzL K H a vs) : SqL K H a vs := by
  rcases h with ⟨o, h⟩ | h
  · exact .inl (.inr ⟨o, h⟩)
  · exact .inr h

mutual
inductive Rep (k : Kx) (Z : Zs) (H : Hp) : D → V → List Addr → Prop
  | non : Rep k Z H .non .non []
  | bl (b : Bool) : Rep k Z H (.bl b) (.bl b) []
  | int (i : Int) : Rep k Z H (.int i) (.int i) []
  | str (x : Str) : Rep k Z H (.str x) (.str x) []
  | tup {a : Addr} {xs : List D} {vs : List V} {os : List Addr} (h : H a = some (.tup vs)) (r : Reps k Z H xs vs os) : Rep k Z H (.tup xs) (.ref a) os
  | lstF {a : Addr} {xs : List D} {vs : List V} (z : Z a) (h : H a = some (.lst vs)) (r : Reps k Z H xs vs []) : Rep k Z H (.lst false xs) (.ref a) []
  | lstO {a : Addr} {xs : List D} {vs : List V} {os : List Addr} (h : H a = some (.lst vs)) (r : Reps k Z H xs vs os) : Rep k Z H (.lst true xs) (.ref a) (a :: os)
  | scr {a : Addr} {xs : List D} {vs : List V} (h : FzL k.K H a vs) (r : Reps k Z H xs vs []) : Rep k Z H (.scr xs) (.ref a) []
  | dkF {a : Addr} {ks : List Key} {xs : List D} {kvs : List (Key × V)} (z : Z a) (h : Rd H a (.dK kvs)) (e : kvs.map (·.1) = ks) (r : Reps k Z H xs (kvs.map (·.2)) []) : Rep k Z H (.dk false ks xs) (.ref a) []
  | dkO {a : Addr} {ks : List Key} {xs : List D} {kvs : List (Key × V)} {os : List Addr} (h : H a = some (.dK kvs)) (e : kvs.map (·.1) = ks) (r : Reps k Z H xs (kvs.map (·.2)) os) : Rep k Z H (.dk true ks xs) (.ref a) (a :: os)
  | dtF {a : Addr} {ks : List (List Key)} {xs : List D} {kvs : List (List Key × V)} (z : Z a) (h : Rd H a (.dT kvs)) (e : kvs.map (·.1) = ks) (r : Reps k Z H xs (kvs.map (·.2)) []) : Rep k Z H (.dt false ks xs) (.ref a) []
  | dtO {a : Addr} {ks : List (List Key)} {xs : List D} {kvs : List (List Key × V)} {os : List Addr} (h : H a = some (.dT kvs)) (e : kvs.map (·.1) = ks) (r : Reps k Z H xs (kvs.map (·.2)) os) : Rep k Z H (.dt true ks xs) (.ref a) (a :: os)
  | insF {a dx : Addr} {c : Nat} {fs : List Str} {xs : List D} {kvs : List (Str × V)} (z : Z a) (h : H a = some (.ins (k.cA c) dx kvs)) (e : kvs.map (·.1) = fs) (r : Reps k Z H xs (kvs.map (·.2)) []) : Rep k Z H (.ins false c fs xs) (.ref a) []
  | insO {a dx : Addr} {c : Nat} {fs : List Str} {xs : List D} {kvs : List (Str × V)} {os : List Addr} (h : H a = some (.ins (k.cA c) dx kvs)) (e : kvs.map (·.1) = fs) (r : Reps k Z H xs (kvs.map (·.2)) os) : Rep k Z H (.ins true c fs xs) (.ref a) (a :: os)
inductive Reps (k : Kx) (Z : Zs) (H : Hp) : List D → List V → List Addr → Prop
  | nil : Reps k Z H [] [] []
  | cons {d : D} {ds : List D} {v : V} {vs : List V} {o1 o2 : List Addr} (h : Rep k Z H d v o1) (t : Reps k Z H ds vs o2) : Reps k Z H (d :: ds) (v :: vs) (o1 ++ o2)
end

inductive EnvR (k : Kx) (Z : Zs) (H : Hp) : L2.St → Env → List Addr → Prop
  | nil (t : LamX.Tabs k.T H) : EnvR k Z H [] [] []
  | non {x : Option V} {σ : L2.St} {e : Env} {os : List Addr} (t : EnvR k Z H σ e os) : EnvR k Z H (x :: σ) (none :: e) os
  | som {d : D} {v : V} {σ : L2.St} {e : Env} {o1 o2 : List Addr} (h : Rep k Z H d v o1) (t : EnvR k Z H σ e o2) : EnvR k Z H (some v :: σ) (some d :: e) (o1 ++ o2)

variable {k : Kx} {Z Z' : Zs} {H H' : Hp}

theorem Reps.len : ∀ {ds : List D} {vs : List V} {os : List Addr}, Reps k Z H ds vs os → ds.length = vs.length
  | _, _, _, .nil => rfl
  | _, _, _, .cons _ t => by rw [List.length_cons, List.length_cons, Reps.len t]
theorem EnvR.len : ∀ {σ : L2.St} {e : Env} {os : List Addr}, EnvR k Z H σ e os → σ.length = e.length
  | _, _, _, .nil _ => rfl
  | _, _, _, .non t => by rw [List.length_cons, List.length_cons, EnvR.len t]
  | _, _, _, .som _ t => by rw [List.length_cons, List.length_cons, EnvR.len t]

/-! what is owned stands as a thing that may change -/
mutual
theorem Rep.mut : ∀ {d : D} {v : V} {os : List Addr}, Rep k Z H d v os → ∀ a ∈ os, Mut (H a)
  | _, _, _, .non, _, h => nomatch h
  | _, _, _, .bl _, _, h => nomatch h
  | _, _, _, .int _, _, h => nomatch h
  | _, _, _, .str _, _, h => nomatch h
  | _, _, _, .tup _ r, a, h => Reps.mut r a h
  | _, _, _, .lstF _ _ _, _, h => nomatch h
  | _, _, _, .lstO e r, a, h => (List.mem_cons.mp h).elim (fun q => by rw [q, e]; exact trivial) fun q => Reps.mut r a q
  | _, _, _, .scr _ _, _, h => nomatch h
  | _, _, _, .dkF _ _ _ _, _, h => nomatch h
  | _, _, _, .dkO e _ r, a, h => (List.mem_cons.mp h).elim (fun q => by rw [q, e]; exact trivial) fun q => Reps.mut r a q
  | _, _, _, .dtF _ _ _ _, _, h => nomatch h
  | _, _, _, .dtO e _ r, a, h => (List.mem_cons.mp h).elim (fun q => by rw [q, e]; exact trivial) fun q => Reps.mut r a q
  | _, _, _, .insF _ _ _ _, _, h => nomatch h
  | _, _, _, .insO e _ r, a, h => (List.mem_cons.mp h).elim (fun q => by rw [q, e]; exact trivial) fun q => Reps.mut r a q
theorem Reps.mut : ∀ {ds : List D} {vs : List V} {os : List Addr}, Reps k Z H ds vs os → ∀ a ∈ os, Mut (H a)
  | _, _, _, .nil, _, h => nomatch h
  | _, _, _, .cons r t, a, h => (List.mem_append.mp h).elim (fun q => Rep.mut r a q) fun q => Reps.mut t a q
end
theorem EnvR.mut : ∀ {σ : L2.St} {e : Env} {os : List Addr}, EnvR k Z H σ e os → ∀ a ∈ os, Mut (H a)
  | _, _, _, .nil _, _, h => nomatch h
  | _, _, _, .non t, a, h => EnvR.mut t a h
  | _, _, _, .som r t, a, h => (List.mem_append.mp h).elim (fun q => Rep.mut r a q) fun q => EnvR.mut t a q

/-- what a piece of code does to the heap: only M may change -/
structure Fr (k : Kx) (M : List Addr) (Z : Zs) (H : Hp) (Z' : Zs) (H' : Hp) : Prop where
  fr0 : ∀ a o, H a = some o → a ∉ M → (∀ ps, o ≠ .tbl ps) → H' a = some o
  zz : ∀ a, Z a → Z' a
  tr : ∀ a, H a ≠ none → H' a ≠ none
  tb : LamX.Tabs k.T H → LamX.Tabs k.T H'

theorem Fr.fr {M : List Addr} (f : Fr k M Z H Z' H') (a : Addr) (o : HO) (h : H a = some o) (n : a ∉ M) (t : ∀ ps, o ≠ .tbl ps := by intro ps z; cases z) : H' a = some o := f.fr0 a o h n t
theorem mut_some {o : Option HO} (m : Mut o) : o ≠ none := by
  intro e; subst e; exact m

theorem rd_fr {M : List Addr} (f : Fr k M Z H Z' H') {a : Addr} {u : HO} (h : Rd H a u) (n : a ∉ M) (t : ∀ ps, u ≠ .tbl ps := by intro ps z; cases z) : Rd H' a u := by
  rcases h with h | ⟨o, h⟩
  · exact .inl (f.fr _ _ h n t)
  · exact .inr ⟨o, f.fr _ _ h n⟩

mutual
theorem Rep.step {M : List Addr} (f : Fr k M Z H Z' H') (mz : ∀ a ∈ M, ¬ Z a) (mm : ∀ a ∈ M, Mut (H a)) : ∀ {d : D} {v : V} {os : List Addr}, Rep k Z H d v os → (∀ a ∈ os, a ∉ M) → Rep k Z' H' d v os
  | _, _, _, .non, _ => .non
  | _, _, _, .bl _, _ => .bl _
  | _, _, _, .int _, _ => .int _
  | _, _, _, .str _, _ => .str _
  | _, _, _, .tup (a := a) h r, n => .tup (f.fr _ _ h fun q => by have := mm a q; rw [h] at this; exact this) (Reps.step f mz mm r n)
  | _, _, _, .lstF z h r, _ => .lstF (f.zz _ z) (f.fr _ _ h fun q => mz _ q z) (Reps.step f mz mm r fun _ q => nomatch q)
  | _, _, _, .lstO h r, n => .lstO (f.fr _ _ h (n _ List.mem_cons_self)) (Reps.step f mz mm r fun a q => n a (List.mem_cons_of_mem _ q))
  | _, _, _, .scr (a := a) h r, _ => .scr (by
      rcases h with ⟨o, h⟩ | h
      · exact .inl ⟨o, f.fr _ _ h fun q => by have := mm a q; rw [h] at this; exact this⟩
      · exact .inr h) (Reps.step f mz mm r fun _ q => nomatch q)
  | _, _, _, .dkF z h e r, _ => .dkF (f.zz _ z) (rd_fr f h fun q => mz _ q z) e (Reps.step f mz mm r fun _ q => nomatch q)
  | _, _, _, .dkO h e r, n => .dkO (f.fr _ _ h (n _ List.mem_cons_self)) e (Reps.step f mz mm r fun a q => n a (List.mem_cons_of_mem _ q))
  | _, _, _, .dtF z h e r, _ => .dtF (f.zz _ z) (rd_fr f h fun q => mz _ q z) e (Reps.step f mz mm r fun _ q => nomatch q)
  | _, _, _, .dtO h e r, n => .dtO (f.fr _ _ h (n _ List.mem_cons_self)) e (Reps.step f mz mm r fun a q => n a (List.mem_cons_of_mem _ q))
  | _, _, _, .insF z h e r, _ => .insF (f.zz _ z) (f.fr _ _ h fun q => mz _ q z) e (Reps.step f mz mm r fun _ q => nomatch q)
  | _, _, _, .insO h e r, n => .insO (f.fr _ _ h (n _ List.mem_cons_self)) e (Reps.step f mz mm r fun a q => n a (List.mem_cons_of_mem _ q))
theorem Reps.step {M : List Addr} (f : Fr k M Z H Z' H') (mz : ∀ a ∈ M, ¬ Z a) (mm : ∀ a ∈ M, Mut (H a)) : ∀ {ds : List D} {vs : List V} {os : List Addr}, Reps k Z H ds vs os → (∀ a ∈ os, a ∉ M) → Reps k Z' H' ds vs os
  | _, _, _, .nil, _ => .nil
  | _, _, _, .cons h t, n => .cons (Rep.step f mz mm h fun a q => n a (List.mem_append_left _ q)) (Reps.step f mz mm t fun a q => n a (List.mem_append_right _ q))
end
theorem EnvR.step {M : List Addr} (f : Fr k M Z H Z' H') (mz : ∀ a ∈ M, ¬ Z a) (mm : ∀ a ∈ M, Mut (H a)) : ∀ {σ : L2.St} {e : Env} {os : List Addr}, EnvR k Z H σ e os → (∀ a ∈ os, a ∉ M) → EnvR k Z' H' σ e os
  | _, _, _, .nil t, _ => .nil (f.tb t)
  | _, _, _, .non t, n => .non (EnvR.step f mz mm t n)
  | _, _, _, .som h t, n => .som (Rep.step f mz mm h fun a q => n a (List.mem_append_left _ q)) (EnvR.step f mz mm t fun a q => n a (List.mem_append_right _ q))

/-- all is tracked that is owned -/
theorem Rep.trk {d : D} {v : V} {os : List Addr} (r : Rep k Z H d v os) : ∀ a ∈ os, H a ≠ none := fun a h => mut_some (r.mut a h)
theorem Reps.trk {ds : List D} {vs : List V} {os : List Addr} (r : Reps k Z H ds vs os) : ∀ a ∈ os, H a ≠ none := fun a h => mut_some (r.mut a h)
theorem EnvR.trk {σ : L2.St} {e : Env} {os : List Addr} (r : EnvR k Z H σ e os) : ∀ a ∈ os, H a ≠ none := fun a h => mut_some (r.mut a h)

/-- the state, with what is at hand besides (ds) -/
structure SS (k : Kx) (Z : Zs) (H : Hp) (σ : L2.St) (e : Env) (ds : List D) (vs : List V) (oe od : List Addr) : Prop where
  er : EnvR k Z H σ e oe
  rp : Reps k Z H ds vs od
  nd : (oe ++ od).Nodup
  dz : ∀ a ∈ oe ++ od, ¬ Z a
  zt : ∀ a, Z a → H a ≠ none

/-- a step of the machine: oe could change; on is owned behind it -/
structure Stp (k : Kx) (Z : Zs) (H : Hp) (oe : List Addr) (Z' : Zs) (H' : Hp) (on : List Addr) : Prop where
  f : Fr k oe Z H Z' H'
  zn : ∀ a, Z' a → Z a ∨ a ∈ oe ∨ H a = none
  ow : ∀ a ∈ on, a ∈ oe ∨ H a = none

theorem Stp.trans {Z1 Z2 Z3 : Zs} {H1 H2 H3 : Hp} {o1 o2 o3 oa : List Addr} (a : Stp k Z1 H1 o1 Z2 H2 oa) (b : Stp k Z2 H2 o2 Z3 H3 o3) (s : ∀ x ∈ o2, x ∈ oa) : Stp k Z1 H1 o1 Z3 H3 o3 := by
  have back : ∀ x, H2 x = none → H1 x = none := fun x h => by
    cases q : H1 x with
    | none => rfl
    | some u => exact absurd h (a.f.tr x (by rw [q]; exact fun z => nomatch z))
  have ow2 : ∀ x ∈ o2, x ∈ o1 ∨ H1 x = none := fun x h => a.ow x (s x h)
  refine ⟨⟨fun x o h n t => ?_, fun x z => b.f.zz x (a.f.zz x z), fun x h => b.f.tr x (a.f.tr x h), fun t => b.f.tb (a.f.tb t)⟩, fun x z => ?_, fun x h => ?_⟩
  · refine b.f.fr x o (a.f.fr x o h n t) (fun q => ?_) t
    rcases ow2 x q with q | q
    · exact n q
    · rw [h] at q; cases q
  · rcases b.zn x z with q | q | q
    · exact a.zn x q
    · rcases ow2 x q with q | q
      · exact .inr (.inl q)
      · exact .inr (.inr q)
    · exact .inr (.inr (back x q))
  · rcases b.ow x h with q | q
    · exact ow2 x q
    · exact .inr (back x q)
theorem Stp.refl (Z : Zs) (H : Hp) (oe : List Addr) : Stp k Z H oe Z H oe := ⟨⟨fun _ _ h _ _ => h, fun _ z => z, fun _ h => h, fun t => t⟩, fun _ z => .inl z, fun _ h => .inl h⟩
theorem Stp.sub {oe on on' : List Addr} (a : Stp k Z H oe Z' H' on) (s : ∀ x ∈ on', x ∈ on) : Stp k Z H oe Z' H' on' := ⟨a.f, a.zn, fun x h => a.ow x (s x h)⟩

/-- what was at hand stays at hand behind a step of the rest -/
theorem SS.push {Z1 Z2 : Zs} {H1 H2 : Hp} {σ σ2 : L2.St} {e1 e2 : Env} {ds1 ds2 : List D} {vs1 vs2 : List V} {oe1 od1 oe2 od2 : List Addr} (a : SS k Z1 H1 σ e1 ds1 vs1 oe1 od1) (b : SS k Z2 H2 σ2 e2 ds2 vs2 oe2 od2) (st : Stp k Z1 H1 oe1 Z2 H2 (oe2 ++ od2)) :
    Reps k Z2 H2 ds1 vs1 od1 ∧ (∀ x ∈ od1, x ∉ oe2 ++ od2) ∧ (∀ x ∈ od1, ¬ Z2 x) := by
  have nd := List.nodup_append.mp a.nd
  have dis : ∀ x ∈ od1, x ∉ oe1 := fun x h q => nd.2.2 x q x h rfl
  refine ⟨Reps.step st.f (fun x q => a.dz x (List.mem_append_left _ q)) (a.er.mut) a.rp dis, fun x h q => ?_, fun x h z => ?_⟩
  · rcases st.ow x q with q | q
    · exact dis x h q
    · exact a.rp.trk x h q
  · rcases st.zn x z with q | q | q
    · exact a.dz x (List.mem_append_right _ h) q
    · exact dis x h q
    · exact a.rp.trk x h q
theorem SS.drop {σ : L2.St} {e : Env} {ds : List D} {vs : List V} {oe od : List Addr} (a : SS k Z H σ e ds vs oe od) : SS k Z H σ e [] [] oe [] :=
  ⟨a.er, .nil, by rw [List.append_nil]; exact (List.nodup_append.mp a.nd).1, fun x h => a.dz x (by rw [List.append_nil] at h; exact List.mem_append_left _ h), a.zt⟩
theorem EnvR.tabs : ∀ {σ : L2.St} {e : Env} {os : List Addr}, EnvR k Z H σ e os → LamX.Tabs k.T H
  | _, _, _, .nil t => t
  | _, _, _, .non t => EnvR.tabs t
  | _, _, _, .som _ t => EnvR.tabs t
/-- only p, which is no table and no code object, is changed -/
theorem tabs_upd {T : List (Addr × Str)} {p : Addr} {o o' : HO} (h : H p = some o) (n1 : ∀ ps, o ≠ .tbl ps) (n2 : ∀ φ, o ≠ .ext φ) (t : LamX.Tabs T H) : LamX.Tabs T (upd H p o') := fun q hq => by
  obtain ⟨ps, h1, h2, h3⟩ := t q hq
  refine ⟨ps, ?_, h2, fun pos cv hc => ?_⟩
  · rw [upd_ne (fun e => by rw [e, h] at h1; exact n1 _ (Option.some.inj h1))]; exact h1
  · obtain ⟨c, e1, e2⟩ := h3 pos cv hc
    refine ⟨c, e1, ?_⟩
    rw [upd_ne (fun e => by rw [e, h] at e2; exact n2 _ (Option.some.inj e2))]
    exact e2
end Bp

/-! the evaluator's results; what an expression's semantic function promises of the machine -/
namespace Bp
open PySem PySem.Spec PyProof.Rows L2

inductive R (α : Type) where
  | ok (a : α) (e : Env)
  | rse (c : Nat) (ns : List Str) (xs : List D) (e : Env)
  | bad
abbrev M (α : Type) := Env → R α
def bnd {α β : Type} (m : M α) (f : α → M β) : M β := fun e => match m e with
  | .ok a e' => f a e'
  | .rse c ns xs e' => .rse c ns xs e'
  | .bad => .bad
def ret {α : Type} (a : α) : M α := fun e => .ok a e
def opt {α : Type} (o : Option α) : M α := fun e => match o with
  | some a => .ok a e
  | none => .bad
theorem bnd_ok {α β : Type} {m : M α} {f : α → M β} {e e' : Env} {a : α} (h : m e = .ok a e') : bnd m f e = f a e' := by unfold bnd; rw [h]
theorem bnd_rse {α β : Type} {m : M α} {f : α → M β} {e e' : Env} {c : Nat} {ns : List Str} {xs : List D} (h : m e = .rse c ns xs e') : bnd m f e = .rse c ns xs e' := by unfold bnd; rw [h]
theorem bnd_bad {α β : Type} {m : M α} {f : α → M β} {e : Env} (h : m e = .bad) : bnd m f e = .bad := by unfold bnd; rw [h]

/-- an exception as it lies -/
def XR (k : Kx) (Z : Zs) (H : Hp) (c : Nat) (ns : List Str) (xs : List D) (cls : Value) (d : Option Addr) : Prop :=
  cls = .ref (k.cA c) ∧ ((ns = [] ∧ xs = [] ∧ d = none) ∨ ∃ dx kvs, d = some dx ∧ H dx = some (.xd kvs) ∧ kvs.map (·.1) = ns ∧ Reps k Z H xs (kvs.map (·.2)) [])

section
variable {k : Kx} {Z Z' : Zs} {H H' : Hp}
mutual
theorem Rep.fz0 : ∀ {d : D} {v : V} {os : List Addr}, Rep k Z H d v os → d.fz = true → os = []
  | _, _, _, .non, _ => rfl
  | _, _, _, .bl _, _ => rfl
  | _, _, _, .int _, _ => rfl
  | _, _, _, .str _, _ => rfl
  | _, _, _, .tup _ r, f => Reps.fz0 r (by simpa [D.fz] using f)
  | _, _, _, .lstF _ _ _, _ => rfl
  | _, _, _, .lstO _ _, f => by simp [D.fz] at f
  | _, _, _, .scr _ _, _ => rfl
  | _, _, _, .dkF _ _ _ _, _ => rfl
  | _, _, _, .dkO _ _ _, f => by simp [D.fz] at f
  | _, _, _, .dtF _ _ _ _, _ => rfl
  | _, _, _, .dtO _ _ _, f => by simp [D.fz] at f
  | _, _, _, .insF _ _ _ _, _ => rfl
  | _, _, _, .insO _ _ _, f => by simp [D.fz] at f
theorem Reps.fz0 : ∀ {ds : List D} {vs : List V} {os : List Addr}, Reps k Z H ds vs os → fzs ds = true → os = []
  | _, _, _, .nil, _ => rfl
  | _, _, _, .cons r t, f => by
    simp only [fzs, Bool.and_eq_true] at f
    rw [Rep.fz0 r f.1, Reps.fz0 t f.2]; rfl
end

theorem EnvR.get : ∀ {σ : L2.St} {e : Env} {oe : List Addr} {i : Nat} {d : D}, EnvR k Z H σ e oe → e[i]? = some (some d) → ∃ v os, σ[i]? = some (some v) ∧ Rep k Z H d v os ∧ ∀ a ∈ os, a ∈ oe
  | _, _, _, _, _, .nil _, h => by simp at h
  | _, _, _, 0, _, .non _, h => by simp at h
  | _, _, _, i + 1, _, .non t, h => by
    obtain ⟨v, os, a, b, c⟩ := EnvR.get (i := i) t (by simpa using h)
    exact ⟨v, os, by simpa using a, b, c⟩
  | _, _, _, 0, _, .som r t, h => by
    simp only [List.getElem?_cons_zero, Option.some.injEq] at h
    subst h
    exact ⟨_, _, rfl, r, fun a q => List.mem_append_left _ q⟩
  | _, _, _, i + 1, _, .som r t, h => by
    obtain ⟨v, os, a, b, c⟩ := EnvR.get (i := i) t (by simpa using h)
    exact ⟨v, os, by simpa using a, b, fun x q => List.mem_append_right _ (c x q)⟩

theorem perm_mid {a b c : List Addr} : (a ++ (b ++ c)).Perm (b ++ (a ++ c)) := by
  rw [← List.append_assoc, ← List.append_assoc]
  exact List.Perm.append_right _ List.perm_append_comm

/-- a slot's thing is taken out -/
theorem EnvR.take : ∀ {σ : L2.St} {e : Env} {oe : List Addr} {i : Nat} {d : D}, EnvR k Z H σ e oe → e[i]? = some (some d) → ∃ v o1 o2, σ[i]? = some (some v) ∧ Rep k Z H d v o1 ∧ EnvR k Z H σ (e.set i none) o2 ∧ oe.Perm (o1 ++ o2)
  | _, _, _, _, _, .nil _, h => by simp at h
  | _, _, _, 0, _, .non _, h => by simp at h
  | _, _, _, i + 1, _, .non t, h => by
    obtain ⟨v, o1, o2, a, b, c, p⟩ := EnvR.take (i := i) t (by simpa using h)
    exact ⟨v, o1, o2, by simpa using a, b, .non c, p⟩
  | _, _, _, 0, _, .som r t, h => by
    simp only [List.getElem?_cons_zero, Option.some.injEq] at h
    subst h
    exact ⟨_, _, _, rfl, r, .non t, List.Perm.refl _⟩
  | _, _, _, i + 1, _, .som (o1 := oa) r t, h => by
    obtain ⟨v, o1, o2, a, b, c, p⟩ := EnvR.take (i := i) t (by simpa using h)
    exact ⟨v, o1, oa ++ o2, by simpa using a, b, .som r c, (p.append_left oa).trans perm_mid⟩
/-- a slot is filled anew -/
theorem EnvR.set {d : D} {v : V} {o1 : List Addr} (r : Rep k Z H d v o1) : ∀ {σ : L2.St} {e : Env} {oe : List Addr} {i : Nat}, EnvR k Z H σ e oe → i < e.length → ∃ o o2, EnvR k Z H (σ.set i (some v)) (e.set i (some d)) o ∧ o.Perm (o1 ++ o2) ∧ o2.Sublist oe
  | _, _, _, _, .nil _, h => by simp at h
  | _, _, _, 0, .non (os := os) t, h => ⟨_, os, .som r t, List.Perm.refl _, List.Sublist.refl _⟩
  | _, _, _, i + 1, .non t, h => by
    obtain ⟨o, o2, a, b, c⟩ := EnvR.set r (i := i) t (by simpa using h)
    exact ⟨o, o2, .non a, b, c⟩
  | _, _, _, 0, .som (o2 := os) q t, h => ⟨_, os, .som r t, List.Perm.refl _, List.sublist_append_right _ _⟩
  | _, _, _, i + 1, .som (o1 := oa) q t, h => by
    obtain ⟨o, o2, a, b, c⟩ := EnvR.set r (i := i) t (by simpa using h)
    exact ⟨oa ++ o, oa ++ o2, .som q a, (b.append_left oa).trans perm_mid, List.Sublist.append (List.Sublist.refl _) c⟩
/-- .. with what stood there already -/
theorem EnvR.back {d : D} {v : V} {o1 : List Addr} (r : Rep k Z H d v o1) : ∀ {σ : L2.St} {e : Env} {oe : List Addr} {i : Nat}, EnvR k Z H σ e oe → e[i]? = some none → σ[i]? = some (some v) → ∃ o, EnvR k Z H σ (e.set i (some d)) o ∧ o.Perm (o1 ++ oe)
  | _, _, _, _, .nil _, h, _ => by simp at h
  | _, _, _, 0, .non (os := os) t, h, g => by
    simp only [List.getElem?_cons_zero, Option.some.injEq] at g
    subst g
    exact ⟨_, .som r t, List.Perm.refl _⟩
  | _, _, _, i + 1, .non t, h, g => by
    obtain ⟨o, a, b⟩ := EnvR.back r (i := i) t (by simpa using h) (by simpa using g)
    exact ⟨o, .non a, b⟩
  | _, _, _, 0, .som q t, h, _ => by simp at h
  | _, _, _, i + 1, .som (o1 := oa) q t, h, g => by
    obtain ⟨o, a, b⟩ := EnvR.back r (i := i) t (by simpa using h) (by simpa using g)
    exact ⟨oa ++ o, .som q a, (b.append_left oa).trans perm_mid⟩
/-- a slot is emptied -/
theorem EnvR.wipe : ∀ {σ : L2.St} {e : Env} {oe : List Addr} (i : Nat), EnvR k Z H σ e oe → ∃ o, EnvR k Z H (σ.set i none) (e.set i none) o ∧ o.Sublist oe
  | _, _, _, _, .nil t => ⟨[], .nil t, List.Sublist.refl _⟩
  | _, _, _, 0, .non t => ⟨_, .non t, List.Sublist.refl _⟩
  | _, _, _, i + 1, .non t => by
    obtain ⟨o, a, b⟩ := EnvR.wipe i t
    exact ⟨o, .non a, b⟩
  | _, _, _, 0, .som q t => ⟨_, .non t, List.sublist_append_right _ _⟩
  | _, _, _, i + 1, .som (o1 := oa) q t => by
    obtain ⟨o, a, b⟩ := EnvR.wipe i t
    exact ⟨oa ++ o, .som q a, List.Sublist.append (List.Sublist.refl _) b⟩

theorem Reps.one {d : D} {v : V} {os : List Addr} (r : Rep k Z H d v os) : Reps k Z H [d] [v] os := by
  have := Reps.cons r (.nil : Reps k Z H [] [] [])
  rw [List.append_nil] at this
  exact this
theorem Reps.one' {d : D} {vs : List V} {os : List Addr} (r : Reps k Z H [d] vs os) : ∃ v, vs = [v] ∧ Rep k Z H d v os := by
  cases r with
  | cons h t =>
    cases t
    exact ⟨_, rfl, by rw [List.append_nil]; exact h⟩
theorem Reps.app : ∀ {ds ds' : List D} {vs vs' : List V} {o1 o2 : List Addr}, Reps k Z H ds vs o1 → Reps k Z H ds' vs' o2 → Reps k Z H (ds ++ ds') (vs ++ vs') (o1 ++ o2)
  | _, _, _, _, _, _, .nil, t => t
  | _, _, _, _, _, _, .cons h r, t => by
    rw [List.append_assoc]
    exact .cons h (Reps.app r t)
theorem Reps.split : ∀ {ds ds' : List D} {vs : List V} {os : List Addr}, Reps k Z H (ds ++ ds') vs os → ∃ v1 v2 o1 o2, vs = v1 ++ v2 ∧ os = o1 ++ o2 ∧ Reps k Z H ds v1 o1 ∧ Reps k Z H ds' v2 o2
  | [], _, _, _, r => ⟨[], _, [], _, rfl, rfl, .nil, r⟩
  | d :: ds, _, _, _, .cons (o1 := oa) h t => by
    obtain ⟨v1, v2, o1, o2, rfl, rfl, a, b⟩ := Reps.split (ds := ds) t
    exact ⟨_ :: v1, v2, oa ++ o1, o2, rfl, by rw [List.append_assoc], .cons h a, b⟩
/-- an item -/
theorem Reps.get : ∀ {ds : List D} {vs : List V} {os : List Addr} {i : Nat} {d : D}, Reps k Z H ds vs os → ds[i]? = some d → ∃ v o, vs[i]? = some v ∧ Rep k Z H d v o ∧ ∀ a ∈ o, a ∈ os
  | _, _, _, _, _, .nil, h => by simp at h
  | _, _, _, 0, _, .cons r t, h => by
    simp only [List.getElem?_cons_zero, Option.some.injEq] at h
    subst h
    exact ⟨_, _, rfl, r, fun a q => List.mem_append_left _ q⟩
  | _, _, _, i + 1, _, .cons r t, h => by
    obtain ⟨v, o, a, b, c⟩ := Reps.get (i := i) t (by simpa using h)
    exact ⟨v, o, by simpa using a, b, fun x q => List.mem_append_right _ (c x q)⟩
end

/-! ### judgements -/
theorem pe_mono {X : Cx} {e : Expr} {t t' : TE} (h : PE X e t) (m : ∀ σ H Q, t' σ H Q → t σ H Q) : PE X e t' := ⟨fun pins s σ H Q I hw => h.run pins s σ H Q I (m σ H Q hw)⟩
theorem pt_mono {X : Cx} {e : Expr} {t t' : TT} (h : PT X e t) (m : ∀ σ H Q, t' σ H Q → t σ H Q) : PT X e t' := ⟨fun pins s σ H Q I hw => h.run pins s σ H Q I (m σ H Q hw)⟩
theorem pw_mono {X : Cx} {e : Expr} {t t' : TT} (h : PW X e t) (m : ∀ σ H Q, t' σ H Q → t σ H Q) : PW X e t' := ⟨fun wh pins s σ H Q I hw => h.run wh pins s σ H Q I (m σ H Q hw)⟩
theorem pa_mono {X : Cx} {es : List Expr} {t t' : TA} (h : PA X es t) (m : ∀ σ H Q, t' σ H Q → t σ H Q) : PA X es t' := ⟨fun pos pins s σ H Q I hw => h.run pos pins s σ H Q I (m σ H Q hw)⟩
theorem ps_mono {X : Cx} {st : Stmt} {t t' : TS} (h : PS X st t) (m : ∀ D σ H, t' D σ H → t D σ H) : PS X st t' := ⟨fun pins s σ H D I hw => h.run pins s σ H D I (m D σ H hw)⟩
theorem pss_mono {X : Cx} {st : List Stmt} {t t' : TS} (h : PSs X st t) (m : ∀ D σ H, t' D σ H → t D σ H) : PSs X st t' := ⟨fun pins s σ H D I hw => h.run pins s σ H D I (m D σ H hw)⟩

/-- an end with things at hand -/
def okEnd (k : Kx) (Z : Zs) (H : Hp) (oe : List Addr) (σ : L2.St) (ds : List D) (e : Env) (Q : List V → Hp → Prop) : Prop :=
  ∀ Z' H' vs oe' od, SS k Z' H' σ e ds vs oe' od → Stp k Z H oe Z' H' (oe' ++ od) → Q vs H'
def xEnd (k : Kx) (Z : Zs) (H : Hp) (oe : List Addr) (σ : L2.St) (c : Nat) (ns : List Str) (xs : List D) (e : Env) (W : WX) : Prop :=
  ∀ Z' H' oe' cls x, SS k Z' H' σ e [] [] oe' [] → XR k Z' H' c ns xs cls x → Stp k Z H oe Z' H' oe' → W cls x σ H'

def rE {α : Type} (k : Kx) (W : WX) (r : R α) (Z : Zs) (H : Hp) (oe : List Addr) (σ : L2.St) (K : α → Env → Prop) : Prop := match r with
  | .ok a e => K a e
  | .rse c ns xs e => xEnd k Z H oe σ c ns xs e W
  | .bad => False

def tE (k : Kx) (W : WX) (f : M D) : TE := fun σ H Q => ∃ Z e oe, SS k Z H σ e [] [] oe [] ∧ rE k W (f e) Z H oe σ fun d e' => okEnd k Z H oe σ [d] e' fun vs H' => ∃ v, vs = [v] ∧ Q v H'
def tA (k : Kx) (W : WX) (f : M (List D)) : TA := fun σ H Q => ∃ Z e oe, SS k Z H σ e [] [] oe [] ∧ rE k W (f e) Z H oe σ fun ds e' => okEnd k Z H oe σ ds e' Q
def tT (k : Kx) (W : WX) (f : M Bool) : TT := fun σ H Q => ∃ Z e oe, SS k Z H σ e [] [] oe [] ∧ rE k W (f e) Z H oe σ fun b e' => okEnd k Z H oe σ [] e' fun _ H' => Q b H'

/-- from a state behind a first step on -/
theorem xEnd.after {k : Kx} {Z1 Z2 : Zs} {H1 H2 : Hp} {o1 o2 oa : List Addr} {σ : L2.St} {c : Nat} {ns : List Str} {xs : List D} {e : Env} {W : WX} (h : xEnd k Z1 H1 o1 σ c ns xs e W) (a : Stp k Z1 H1 o1 Z2 H2 oa) (s : ∀ x ∈ o2, x ∈ oa) : xEnd k Z2 H2 o2 σ c ns xs e W :=
  fun Z' H' oe' cls x ss xr st => h Z' H' oe' cls x ss xr (a.trans st s)

/-- one thing after another -/
theorem rE.bnd {α β : Type} {k : Kx} {W : WX} {m : M α} {f : α → M β} {e : Env} {Z : Zs} {H : Hp} {oe : List Addr} {σ : L2.St} {K : β → Env → Prop} (h : rE k W (bnd m f e) Z H oe σ K) :
    rE k W (m e) Z H oe σ fun a e' => rE k W (f a e') Z H oe σ K := by
  unfold Bp.bnd at h
  cases q : m e with
  | ok a e' => rw [q] at h; exact h
  | rse c ns xs e' => rw [q] at h; exact h
  | bad => rw [q] at h; exact h
theorem rE.imp {α : Type} {k : Kx} {W : WX} {r : R α} {Z : Zs} {H : Hp} {oe : List Addr} {σ : L2.St} {K K' : α → Env → Prop} (h : rE k W r Z H oe σ K) (i : ∀ a e, K a e → K' a e) : rE k W r Z H oe σ K' := by
  cases r with
  | ok a e => exact i a e h
  | rse c ns xs e => exact h
  | bad => exact h
theorem rE.after {α : Type} {k : Kx} {W : WX} {r : R α} {Z1 Z2 : Zs} {H1 H2 : Hp} {o1 o2 oa : List Addr} {σ : L2.St} {K K' : α → Env → Prop} (h : rE k W r Z1 H1 o1 σ K) (a : Stp k Z1 H1 o1 Z2 H2 oa) (s : ∀ x ∈ o2, x ∈ oa) (i : ∀ a e, K a e → K' a e) : rE k W r Z2 H2 o2 σ K' := by
  cases r with
  | ok a e => exact i a e h
  | rse c ns xs e => exact xEnd.after h a s
  | bad => exact h
theorem okEnd.after {k : Kx} {Z1 Z2 : Zs} {H1 H2 : Hp} {o1 o2 oa : List Addr} {σ : L2.St} {ds : List D} {e : Env} {Q : List V → Hp → Prop} (h : okEnd k Z1 H1 o1 σ ds e Q) (a : Stp k Z1 H1 o1 Z2 H2 oa) (s : ∀ x ∈ o2, x ∈ oa) : okEnd k Z2 H2 o2 σ ds e Q :=
  fun Z' H' vs oe' od ss st => h Z' H' vs oe' od ss (a.trans st s)

/-- an end right here -/
theorem okEnd.now {k : Kx} {Z : Zs} {H : Hp} {oe oe' od : List Addr} {σ : L2.St} {ds : List D} {vs : List V} {e : Env} {Q : List V → Hp → Prop} (h : okEnd k Z H oe σ ds e Q) (ss : SS k Z H σ e ds vs oe' od) (s : ∀ x ∈ oe' ++ od, x ∈ oe) : Q vs H :=
  h Z H vs oe' od ss ((Stp.refl Z H oe).sub s)

/-- arguments one by one, each kept -/
def evL : List (M D) → M (List D)
  | [] => ret []
  | f :: fs => bnd f fun d => bnd (evL fs) fun ds => ret (d :: ds)

theorem tA_nil {k : Kx} {W : WX} {σ : L2.St} {H : Hp} {Q : List V → Hp → Prop} (h : tA k W (evL []) σ H Q) : tNil σ H Q := by
  obtain ⟨Z, e, oe, ss, h⟩ := h
  exact okEnd.now (show okEnd k Z H oe σ [] e Q from h) ss (by simp)
theorem tA_cons {k : Kx} {W : WX} {f : M D} {fs : List (M D)} {σ : L2.St} {H : Hp} {Q : List V → Hp → Prop} (h : tA k W (evL (f :: fs)) σ H Q) : tCons (tE k W f) (tA k W (evL fs)) σ H Q := by
  obtain ⟨Z, e, oe, ss, h⟩ := h
  refine ⟨Z, e, oe, ss, (rE.bnd h).imp fun d e1 h1 => ?_⟩
  intro Z1 H1 vs oe1 od1 ss1 st1
  obtain ⟨v, rfl, rv⟩ := ss1.rp.one'
  refine ⟨v, rfl, Z1, e1, oe1, ss1.drop, ?_⟩
  refine (rE.bnd h1).after st1 (fun x q => List.mem_append_left _ q) fun ds e2 h2 => ?_
  intro Z2 H2 vs2 oe2 od2 ss2 st2
  obtain ⟨p1, p2, p3⟩ := ss1.push ss2 st2
  have st := st1.trans st2 (fun x q => List.mem_append_left _ q)
  obtain ⟨v', ev, rv'⟩ := p1.one'
  cases ev
  refine (show okEnd k Z H oe σ (d :: ds) e2 Q from h2) Z2 H2 (v :: vs2) oe2 (od1 ++ od2) ⟨ss2.er, .cons rv' ss2.rp, ?_, fun a q => ?_, ss2.zt⟩ ⟨st.f, st.zn, fun a q => ?_⟩
  · have n1 := (List.nodup_append.mp ss1.nd).2.1
    have n2 := List.nodup_append.mp ss2.nd
    refine List.nodup_append.mpr ⟨n2.1, List.nodup_append.mpr ⟨n1, n2.2.1, fun a ha b hb e => ?_⟩, fun a ha b hb e => ?_⟩
    · subst e; exact p2 a ha (List.mem_append_right _ hb)
    · subst e
      rcases List.mem_append.mp hb with q | q
      · exact p2 a q (List.mem_append_left _ ha)
      · exact n2.2.2 a ha a q rfl
  · rcases List.mem_append.mp q with q | q
    · exact ss2.dz a (List.mem_append_left _ q)
    · rcases List.mem_append.mp q with q | q
      · exact p3 a q
      · exact ss2.dz a (List.mem_append_right _ q)
  · rcases List.mem_append.mp q with q | q
    · exact st.ow a (List.mem_append_left _ q)
    · rcases List.mem_append.mp q with q | q
      · exact st1.ow a (List.mem_append_right _ q)
      · exact st.ow a (List.mem_append_right _ q)
end Bp

/-! places; arguments that are read; operations by values -/
namespace Bp
open PySem PySem.Spec PyProof.Rows L2

/-- the classes' fields -/
structure Tb where
  fk : Nat → Str → Bool
/-- what the written part says of the classes -/
structure TbOk (k : Kx) (T : Tb) : Prop where
  cl : ∀ c f, T.fk c f = true → Cls k.K (k.cA c) ∧ NoAttr k.K (k.cA c) f

inductive P0 where
  | v (i : Nat) | k (n : Int) | ks (x : Str) | s (p q : P0) | f (p : P0) (name : Str)
def P0.isV : P0 → Bool
  | .v _ => true
  | _ => false

def keyK : D → Option Key
  | .int i => some (.inl i)
  | .str x => some (.inr x)
  | _ => none
def keysK : List D → Option (List Key)
  | [] => some []
  | d :: ds => match keyK d, keysK ds with
    | some a, some as => some (a :: as)
    | _, _ => none
def keyT : D → Option (List Key)
  | .tup xs => keysK xs
  | _ => none
def kD : Key → D
  | .inl i => .int i
  | .inr x => .str x
def dget {κ : Type} [DecidableEq κ] : List κ → List D → κ → Option D
  | k' :: ks, x :: xs, k => if k' = k then some x else dget ks xs k
  | _, _, _ => none
def asInt : D → Option Int
  | .int j => some j
  | _ => none
def atD (xs : List D) (i : D) : Option D := match asInt i with
  | some j => atI xs j
  | none => none
def dkAt (ks : List Key) (xs : List D) (i : D) : Option D := match keyK i with
  | some kk => dget ks xs kk
  | none => none
def dtAt (ks : List (List Key)) (xs : List D) (i : D) : Option D := match keyT i with
  | some kk => dget ks xs kk
  | none => none
def strAt (z : Str) (i : D) : Option D := match asInt i with
  | some j => if z.length ≤ sizeLine then (atI z.cps.toList j).map fun c => .str ⟨#[c]⟩ else none
  | none => none
/-- a[i] -/
def subD (d i : D) : Option D := match d with
  | .tup xs => atD xs i
  | .lst _ xs => atD xs i
  | .scr xs => atD xs i
  | .str z => strAt z i
  | .dk _ ks xs => dkAt ks xs i
  | .dt _ ks xs => dtAt ks xs i
  | _ => none
def fldD (T : Tb) (d : D) (name : Str) : Option D := match d with
  | .ins _ c fs xs => if T.fk c name = true then dget fs xs name else none
  | _ => none
def getP (T : Tb) : P0 → Env → Option D
  | .v i, e => match e[i]? with
    | some (some d) => some d
    | _ => none
  | .k n, _ => some (.int n)
  | .ks x, _ => some (.str x)
  | .s p q, e => match getP T p e, getP T q e with
    | some d, some i => subD d i
    | _, _ => none
  | .f p name, e => match getP T p e with
    | some d => fldD T d name
    | none => none

section
variable {k : Kx} {Z : Zs} {H : Hp}
theorem keyK_rep {d : D} {v : V} {os : List Addr} {kk : Key} (r : Rep k Z H d v os) (h : keyK d = some kk) : v = kV kk := by
  cases r with
  | int i => cases h; rfl
  | str x => cases h; rfl
  | _ => cases h
theorem keysK_rep : ∀ {ds : List D} {vs : List V} {os : List Addr} {kk : List Key}, Reps k Z H ds vs os → keysK ds = some kk → vs = kk.map kV
  | _, _, _, _, .nil, h => by cases h; rfl
  | _, _, _, _, .cons (d := d) (ds := ds) r t, h => by
    unfold keysK at h
    cases q1 : keyK d with
    | none => rw [q1] at h; cases h
    | some a =>
      cases q2 : keysK ds with
      | none => rw [q1, q2] at h; cases h
      | some as =>
        rw [q1, q2] at h
        cases h
        rw [keyK_rep r q1, keysK_rep t q2]; rfl
theorem keyT_rep {d : D} {v : V} {os : List Addr} {kk : List Key} (r : Rep k Z H d v os) (h : keyT d = some kk) : ∃ b, v = .ref b ∧ H b = some (.tup (kk.map kV)) := by
  cases r with
  | tup e t => exact ⟨_, rfl, by rw [e, keysK_rep t h]⟩
  | _ => cases h
theorem dget_rep {κ : Type} [DecidableEq κ] : ∀ {ks : List κ} {xs : List D} {kvs : List (κ × V)} {os : List Addr} {kk : κ} {d : D}, kvs.map (·.1) = ks → Reps k Z H xs (kvs.map (·.2)) os → dget ks xs kk = some d →
    ∃ v o, valV kvs kk = some v ∧ Rep k Z H d v o ∧ ∀ a ∈ o, a ∈ os
  | [], _, _, _, _, _, _, _, h => by simp [dget] at h
  | _ :: _, [], _, _, _, _, _, _, h => by simp [dget] at h
  | k' :: ks, x :: xs, [], _, _, _, e, _, _ => by simp at e
  | k' :: ks, x :: xs, kv :: kvs, os, kk, d, e, r, h => by
    simp only [List.map_cons, List.cons.injEq] at e
    obtain ⟨e1, e2⟩ := e
    cases r with
    | cons rx rt =>
      unfold dget at h
      by_cases q : k' = kk
      · rw [if_pos q] at h
        cases h
        exact ⟨kv.2, _, valV_pos (e1.trans q), rx, fun a z => List.mem_append_left _ z⟩
      · rw [if_neg q] at h
        obtain ⟨v, o, a, b, c⟩ := dget_rep e2 rt h
        exact ⟨v, o, by rw [valV_neg (fun z => q (e1.symm.trans z)), a], b, fun x z => List.mem_append_right _ (c x z)⟩
theorem dget_none {κ : Type} [DecidableEq κ] : ∀ {ks : List κ} {xs : List D} {kvs : List (κ × V)} {os : List Addr} {kk : κ}, kvs.map (·.1) = ks → Reps k Z H xs (kvs.map (·.2)) os → dget ks xs kk = none → valV kvs kk = none
  | [], _, [], _, _, _, _, _ => rfl
  | [], _, _ :: _, _, _, e, _, _ => by simp at e
  | k' :: ks, _, [], _, _, e, _, _ => by simp at e
  | k' :: ks, [], kv :: kvs, _, _, _, r, _ => by cases r
  | k' :: ks, x :: xs, kv :: kvs, os, kk, e, r, h => by
    simp only [List.map_cons, List.cons.injEq] at e
    obtain ⟨e1, e2⟩ := e
    cases r with
    | cons rx rt =>
      unfold dget at h
      by_cases q : k' = kk
      · rw [if_pos q] at h; cases h
      · rw [if_neg q] at h
        rw [valV_neg (fun z => q (e1.symm.trans z))]
        exact dget_none e2 rt h
theorem ixN_lt {n : Nat} {i : Int} {j : Nat} (h : ixN n i = some j) : j < n := (ixN_seq h).2.1
theorem atI_rep {xs : List D} {vs : List V} {os : List Addr} {i : Int} {d : D} (r : Reps k Z H xs vs os) (h : atI xs i = some d) : ∃ v o, atI vs i = some v ∧ Rep k Z H d v o ∧ ∀ a ∈ o, a ∈ os := by
  unfold atI at h ⊢
  rw [← r.len]
  cases q : ixN xs.length i with
  | none => rw [q] at h; cases h
  | some j =>
    rw [q] at h
    exact r.get h

theorem asInt_rep {d : D} {v : V} {os : List Addr} {j : Int} (r : Rep k Z H d v os) (h : asInt d = some j) : v = .int j := by
  cases r with
  | int i => cases h; rfl
  | _ => cases h
theorem atD_rep {xs : List D} {vs : List V} {os o2 : List Addr} {i d : D} {y : V} (r : Reps k Z H xs vs os) (ri : Rep k Z H i y o2) (h : atD xs i = some d) : ∃ j v o, y = .int j ∧ atI vs j = some v ∧ Rep k Z H d v o ∧ ∀ a ∈ o, a ∈ os := by
  unfold atD at h
  cases q : asInt i with
  | none => rw [q] at h; cases h
  | some j =>
    rw [q] at h
    obtain ⟨v, o, a, b, c⟩ := atI_rep r h
    exact ⟨j, v, o, asInt_rep ri q, a, b, c⟩
theorem dkAt_rep {ks : List Key} {xs : List D} {kvs : List (Key × V)} {os o2 : List Addr} {i d : D} {y : V} (e : kvs.map (·.1) = ks) (r : Reps k Z H xs (kvs.map (·.2)) os) (ri : Rep k Z H i y o2) (h : dkAt ks xs i = some d) :
    ∃ kk v o, y = kV kk ∧ valV kvs kk = some v ∧ Rep k Z H d v o ∧ ∀ a ∈ o, a ∈ os := by
  unfold dkAt at h
  cases q : keyK i with
  | none => rw [q] at h; cases h
  | some kk =>
    rw [q] at h
    obtain ⟨v, o, a, b, c⟩ := dget_rep e r h
    exact ⟨kk, v, o, keyK_rep ri q, a, b, c⟩
theorem dtAt_rep {ks : List (List Key)} {xs : List D} {kvs : List (List Key × V)} {os o2 : List Addr} {i d : D} {y : V} (e : kvs.map (·.1) = ks) (r : Reps k Z H xs (kvs.map (·.2)) os) (ri : Rep k Z H i y o2) (h : dtAt ks xs i = some d) :
    ∃ kk b v o, y = .ref b ∧ H b = some (.tup (kk.map kV)) ∧ valV kvs kk = some v ∧ Rep k Z H d v o ∧ ∀ a ∈ o, a ∈ os := by
  unfold dtAt at h
  cases q : keyT i with
  | none => rw [q] at h; cases h
  | some kk =>
    rw [q] at h
    obtain ⟨v, o, a, b, c⟩ := dget_rep e r h
    obtain ⟨t, h1, h2⟩ := keyT_rep ri q
    exact ⟨kk, t, v, o, h1, h2, a, b, c⟩

/-- a subscript by values: what is asked -/
def rIxD (k : Kx) : R2 := fun x y H Q => ∃ Z d i o1 o2 dd, Rep k Z H d x o1 ∧ Rep k Z H i y o2 ∧ subD d i = some dd ∧ ∀ v os, Rep k Z H dd v os → (∀ a ∈ os, a ∈ o1) → Q v H
end
theorem ix_dict {X : Cx} (hu : X.A.units + 1 < cLine) : IxR X (fun x y H Q => ∃ a v, x = .ref a ∧ DGet H a y (some v) ∧ Q v H) := by
  intro value slice pins s σ H x y v u Q I rx ry h hs
  obtain ⟨a, w, rfl, g, q⟩ := h
  cases rx
  exact tail_any (dict_typeIs I g) PySem.F.slot_dict_getitem.lookup (d_getItem hu I g ry fun w' s' I' rw' => ⟨w, H, I', rw', q⟩) hs
theorem ix_D {X : Cx} {k : Kx} (hk : k.K = X.K) (hu : X.A.units + 1 < cLine) : IxR X (rIxD k) := by
  have h0 : IxR X (fun x y H Q => rIx X.K x y H Q ∨ ∃ a v, x = .ref a ∧ DGet H a y (some v) ∧ Q v H) := ix_seq.or (ix_dict hu)
  intro value slice pins s σ H x y v u Q I rx ry h hs
  refine h0 value slice pins s σ H x y v u Q I rx ry ?_ hs
  obtain ⟨Z, d, i, o1, o2, dd, r1, r2, hd, q⟩ := h
  cases r1 with
  | tup e r =>
    obtain ⟨j, w, o, rfl, a, b, c⟩ := atD_rep r r2 hd
    exact .inl (.inr (.inl ⟨_, _, j, w, rfl, rfl, SqT.of e, a, q w o b c⟩))
  | lstF z e r =>
    obtain ⟨j, w, o, rfl, a, b, c⟩ := atD_rep r r2 hd
    exact .inl (.inl ⟨_, _, j, w, rfl, rfl, SqL.of e, a, q w o b c⟩)
  | lstO e r =>
    obtain ⟨j, w, o, rfl, a, b, c⟩ := atD_rep r r2 hd
    exact .inl (.inl ⟨_, _, j, w, rfl, rfl, SqL.of e, a, q w o b fun z hz => List.mem_cons_of_mem _ (c z hz)⟩)
  | scr e r =>
    obtain ⟨j, w, o, rfl, a, b, c⟩ := atD_rep r r2 hd
    exact .inl (.inl ⟨_, _, j, w, rfl, rfl, by rw [← hk]; exact e.sq, a, q w o b c⟩)
  | str z =>
    have hd' : strAt z i = some dd := hd
    unfold strAt at hd'
    cases q1 : asInt i with
    | none => rw [q1] at hd'; cases hd'
    | some j =>
      rw [q1] at hd'
      dsimp only at hd'
      by_cases hz : z.length ≤ sizeLine
      · rw [if_pos hz] at hd'
        obtain ⟨c, hc, rfl⟩ := Option.map_eq_some_iff.mp hd'
        exact .inl (.inr (.inr ⟨z, j, c, rfl, asInt_rep r2 q1, hz, hc, q _ _ (.str _) fun _ h => nomatch h⟩))
      · rw [if_neg hz] at hd'; cases hd'
  | dkF z e ek r =>
    obtain ⟨kk, w, o, ey, a, b, c⟩ := dkAt_rep ek r r2 hd
    exact .inr ⟨_, w, rfl, .inl ⟨_, kk, e, ey, a.symm⟩, q w o b c⟩
  | dkO e ek r =>
    obtain ⟨kk, w, o, ey, a, b, c⟩ := dkAt_rep ek r r2 hd
    exact .inr ⟨_, w, rfl, .inl ⟨_, kk, .inl e, ey, a.symm⟩, q w o b fun z hz => List.mem_cons_of_mem _ (c z hz)⟩
  | dtF z e ek r =>
    obtain ⟨kk, t, w, o, ey, et, a, b, c⟩ := dtAt_rep ek r r2 hd
    exact .inr ⟨_, w, rfl, .inr ⟨_, kk, t, e, ey, et, a.symm⟩, q w o b c⟩
  | dtO e ek r =>
    obtain ⟨kk, t, w, o, ey, et, a, b, c⟩ := dtAt_rep ek r r2 hd
    exact .inr ⟨_, w, rfl, .inr ⟨_, kk, t, .inl e, ey, et, a.symm⟩, q w o b fun z hz => List.mem_cons_of_mem _ (c z hz)⟩
  | non => cases hd
  | bl _ => cases hd
  | int _ => cases hd
  | insF _ _ _ _ => cases hd
  | insO _ _ _ => cases hd

/-! ### places as expressions -/
def visB (sc : Scope) (x : Str) : Bool := (sc.names.lookup x == some .local || sc.names.lookup x == some .cell || sc.names.lookup x == some .free) && !(x == ("__debug__" : Str)) && !(x == ("__classdict__" : Str))
theorem vis_of {sc : Scope} {x : Str} (h : visB sc x = true) : Vis sc x ∧ (x == ("__debug__" : Str)) = false ∧ (x == ("__classdict__" : Str)) = false := by
  simp only [visB, Bool.and_eq_true, Bool.or_eq_true, beq_iff_eq, Bool.not_eq_true'] at h
  obtain ⟨⟨h1, h2⟩, h3⟩ := h
  refine ⟨?_, h2, h3⟩
  rcases h1 with (h | h) | h
  · exact .inl h
  · exact .inr (.inl h)
  · exact .inr (.inr h)
/-- not a slice, not starred: what stands as an index -/
def plainIxB : Expr → Bool
  | .Slice _ _ _ _ => false
  | .Starred _ _ => false
  | .Tuple _ _ _ => false
  | _ => true
def atN (N : List Str) (i : Nat) (x : Str) : Bool := N[i]? == some x
theorem atN_of {N : List Str} {i : Nat} {x : Str} (h : atN N i x = true) : N[i]? = some x := by simpa [atN] using h
end Bp

/-! arguments that are read; operations by values -/
namespace Bp
open PySem PySem.Spec PyProof.Rows L2

def RW (k : Kx) (Z : Zs) (H : Hp) (d : D) (v : V) : Prop := ∃ os, Rep k Z H d v os
def RWs (k : Kx) (Z : Zs) (H : Hp) : List D → List V → Prop
  | [], [] => True
  | d :: ds, v :: vs => RW k Z H d v ∧ RWs k Z H ds vs
  | _, _ => False
theorem Reps.rws {k : Kx} {Z : Zs} {H : Hp} : ∀ {ds : List D} {vs : List V} {os : List Addr}, Reps k Z H ds vs os → RWs k Z H ds vs
  | _, _, _, .nil => trivial
  | _, _, _, .cons h t => ⟨⟨_, h⟩, Reps.rws t⟩

inductive Ag where
  | pk (p : P0)
  | ev (f : M D)

section
variable (k : Kx) (T : Tb) (W : WX)
/-- a place that is looked at -/
def tP (p : P0) : TE := fun σ H Q => ∃ Z e oe, SS k Z H σ e [] [] oe [] ∧ ∃ d, getP T p e = some d ∧ ∀ v os, Rep k Z H d v os → (∀ a ∈ os, a ∈ oe) → (∀ i, p = .v i → σ[i]? = some (some v)) → Q v H
def tAg : Ag → TE
  | .pk p => tP k T p
  | .ev f => tE k W f
/-- arguments that are read -/
def evA : List Ag → M (List D)
  | [] => ret []
  | .ev f :: as => bnd f fun d => bnd (evA as) fun ds => ret (d :: ds)
  | .pk p :: as => fun e => match getP T p e with
    | none => .bad
    | some d => match as with
      | [] => .ok [d] e
      | _ :: _ => if p.isV = true then bnd (evA as) (fun ds e' => match getP T p e' with
          | some d' => .ok (d' :: ds) e'
          | none => .bad) e else .bad
def tR (f : M (List D)) (σ : L2.St) (H : Hp) (Q : List V → Hp → Prop) : Prop := ∃ Z e oe, SS k Z H σ e [] [] oe [] ∧ rE k W (f e) Z H oe σ fun ds e' =>
  ∀ Z' H' vs oe', SS k Z' H' σ e' [] [] oe' [] → RWs k Z' H' ds vs → Stp k Z H oe Z' H' oe' → Q vs H'
end

section
variable {k : Kx} {T : Tb} {W : WX} {σ : L2.St} {H : Hp}
theorem getV {i : Nat} {e : Env} {d : D} (h : getP T (.v i) e = some d) : e[i]? = some (some d) := by
  unfold getP at h
  split at h
  · rename_i d' q
    cases h
    exact q
  · cases h
def tRt (k : Kx) (T : Tb) (W : WX) (as : List Ag) : TA := fun σ H Q => match as with
  | [] => Q [] H
  | _ :: _ => tR k W (evA T as) σ H Q
theorem tR_rt {as : List Ag} {Q : List V → Hp → Prop} (h : tR k W (evA T as) σ H Q) : tRt k T W as σ H Q := by
  cases as with
  | cons a as => exact h
  | nil =>
    obtain ⟨Z, e, oe, ss, h⟩ := h
    exact (show ∀ Z' H' vs oe', SS k Z' H' σ e [] [] oe' [] → RWs k Z' H' [] vs → Stp k Z H oe Z' H' oe' → Q vs H' from h) Z H [] oe ss trivial (Stp.refl _ _ _)
theorem tR_cons {a : Ag} {as : List Ag} {Q : List V → Hp → Prop} (h : tR k W (evA T (a :: as)) σ H Q) : tAg k T W a σ H fun v H1 => tRt k T W as σ H1 fun vs H2 => Q (v :: vs) H2 := by
  obtain ⟨Z, e, oe, ss, h⟩ := h
  cases a with
  | ev f =>
    refine ⟨Z, e, oe, ss, (rE.bnd h).imp fun d e1 h1 => ?_⟩
    intro Z1 H1 vs oe1 od1 ss1 st1
    obtain ⟨v, rfl, rv⟩ := ss1.rp.one'
    refine ⟨v, rfl, tR_rt ⟨Z1, e1, oe1, ss1.drop, ?_⟩⟩
    refine (rE.bnd h1).after st1 (fun x q => List.mem_append_left _ q) fun ds e2 h2 => ?_
    intro Z2 H2 vs2 oe2 ss2 rw2 st2
    obtain ⟨p1, p2, p3⟩ := ss1.push ss2 (st2.sub (by simp))
    obtain ⟨v', ev, rv'⟩ := p1.one'
    cases ev
    exact (show ∀ Z' H' vs oe', SS k Z' H' σ e2 [] [] oe' [] → RWs k Z' H' (d :: ds) vs → Stp k Z H oe Z' H' oe' → Q vs H' from h2) Z2 H2 (v :: vs2) oe2 ss2 ⟨⟨_, rv'⟩, rw2⟩ (st1.trans st2 fun x q => List.mem_append_left _ q)
  | pk p =>
    have h' : rE k W (match getP T p e with
      | none => .bad
      | some d => match as with
        | [] => .ok [d] e
        | _ :: _ => if p.isV = true then bnd (evA T as) (fun ds e' => match getP T p e' with
            | some d' => .ok (d' :: ds) e'
            | none => .bad) e else .bad) Z H oe σ (fun ds e' => ∀ Z' H' vs oe', SS k Z' H' σ e' [] [] oe' [] → RWs k Z' H' ds vs → Stp k Z H oe Z' H' oe' → Q vs H') := h
    cases q1 : getP T p e with
    | none => rw [q1] at h'; exact h'.elim
    | some d =>
      rw [q1] at h'
      refine ⟨Z, e, oe, ss, d, q1, fun v os rv so hv => ?_⟩
      cases as with
      | nil =>
        exact (show ∀ Z' H' vs oe', SS k Z' H' σ e [] [] oe' [] → RWs k Z' H' [d] vs → Stp k Z H oe Z' H' oe' → Q vs H' from h') Z H [v] oe ss ⟨⟨_, rv⟩, trivial⟩ (Stp.refl _ _ _)
      | cons b bs =>
        dsimp only at h'
        by_cases hp : p.isV = true
        · rw [if_pos hp] at h'
          refine ⟨Z, e, oe, ss, (rE.bnd h').imp fun ds e1 h1 => ?_⟩
          intro Z1 H1 vs1 oe1 ss1 rw1 st1
          cases p with
          | v i =>
            cases q2 : getP T (.v i) e1 with
            | none => rw [q2] at h1; exact h1.elim
            | some d' =>
              rw [q2] at h1
              obtain ⟨v', os', a, b', c⟩ := ss1.er.get (getV q2)
              have ev : v' = v := by
                have z := hv i rfl
                rw [a] at z
                exact Option.some.inj (Option.some.inj z)
              subst ev
              exact (show ∀ Z' H' vs oe', SS k Z' H' σ e1 [] [] oe' [] → RWs k Z' H' (d' :: ds) vs → Stp k Z H oe Z' H' oe' → Q vs H' from h1) Z1 H1 (v' :: vs1) oe1 ss1 ⟨⟨_, b'⟩, rw1⟩ st1
          | _ => cases hp
        · rw [if_neg hp] at h'; exact h'.elim

/-! ### results of operations that read -/
/-- what is wanted behind an operation that may make a thing -/
def resOk (k : Kx) (Z : Zs) (H : Hp) (d : D) (Q : VK) : Prop := ∀ v H' os, Same H H' → Rep k Z H' d v os → os.Nodup → (∀ a ∈ os, H a = none) → Q v H'
def rSem (k : Kx) (sem : List D → Option D) : List V → Hp → VK → Prop := fun vs H Q => ∃ Z ds d, RWs k Z H ds vs ∧ sem ds = some d ∧ resOk k Z H d Q
def rSem2 (k : Kx) (sem : D → D → Option D) : R2 := fun x y H Q => ∃ Z d1 d2 d, RW k Z H d1 x ∧ RW k Z H d2 y ∧ sem d1 d2 = some d ∧ resOk k Z H d Q
def sem2L (sem : D → D → Option D) : List D → Option D
  | [a, b] => sem a b
  | _ => none
theorem same_fr {H H' : Hp} (s : Same H H') {Z : Zs} : Fr k [] Z H Z H' :=
  ⟨fun a o h _ _ => s a o h, fun _ z => z, fun a h => by
    cases q : H a with
    | none => exact absurd q h
    | some o => rw [s a o q]; exact fun z => (nomatch z), fun t => LamX.Tabs.ext t s⟩
theorem SS.same {Z : Zs} {H H' : Hp} {e : Env} {oe os : List Addr} {d : D} {v : V} (ss : SS k Z H σ e [] [] oe []) (s : Same H H') (r : Rep k Z H' d v os) (nd : os.Nodup) (fr : ∀ a ∈ os, H a = none) : SS k Z H' σ e [d] [v] oe os := by
  have er := ss.er.step (same_fr s (Z := Z)) (fun _ q => nomatch q) (fun _ q => nomatch q) (fun _ _ q => nomatch q)
  refine ⟨er, Reps.one r, List.nodup_append.mpr ⟨by have := ss.nd; simpa using this, nd, fun a ha b hb e => ?_⟩, fun a h => ?_, fun a z => (same_fr (k := k) s (Z := Z)).tr a (ss.zt a z)⟩
  · subst e
    exact ss.er.trk a ha (fr a hb)
  · rcases List.mem_append.mp h with h | h
    · exact ss.dz a (by simpa using h)
    · exact fun z => ss.zt a z (fr a h)
theorem same_stp {Z : Zs} {H H' : Hp} {oe os : List Addr} (s : Same H H') (fr : ∀ a ∈ os, H a = none) : Stp k Z H oe Z H' (oe ++ os) :=
  ⟨⟨fun a o h _ _ => s a o h, fun _ z => z, (same_fr (k := k) s (Z := Z)).tr, fun t => LamX.Tabs.ext t s⟩, fun _ z => .inl z, fun a h => (List.mem_append.mp h).elim .inl fun q => .inr (fr a q)⟩
/-- an operation over arguments that are read -/
theorem tE_sem {as : List Ag} {sem : List D → Option D} {Q : VK} (h : tE k W (bnd (evA T as) fun ds => opt (sem ds)) σ H Q) : tR k W (evA T as) σ H fun vs H1 => rSem k sem vs H1 Q := by
  obtain ⟨Z, e, oe, ss, h⟩ := h
  refine ⟨Z, e, oe, ss, (rE.bnd h).imp fun ds e1 h1 => ?_⟩
  intro Z1 H1 vs oe1 ss1 rw1 st1
  cases q : sem ds with
  | none =>
    rw [q] at h1
    exact (show False from h1).elim
  | some d =>
    rw [q] at h1
    refine ⟨Z1, ds, d, rw1, q, fun v H2 os sm rp nd fr => ?_⟩
    obtain ⟨v', e', hq⟩ := (show okEnd k Z H oe σ [d] e1 _ from h1) Z1 H2 [v] oe1 os (ss1.same sm rp nd fr) (st1.trans (same_stp sm fr) fun x q => q)
    cases e'
    exact hq
theorem rE_mono {α : Type} {r : R α} {Z : Zs} {oe : List Addr} {K K' : α → Env → Prop} (h : rE k W r Z H oe σ K) (i : ∀ a e, K a e → K' a e) : rE k W r Z H oe σ K' := h.imp i
theorem tE_mono {f : M D} {Q Q' : VK} (h : tE k W f σ H Q) (i : ∀ v H, Q v H → Q' v H) : tE k W f σ H Q' := by
  obtain ⟨Z, e, oe, ss, h⟩ := h
  refine ⟨Z, e, oe, ss, h.imp fun d e1 h1 Z' H' vs oe' od s' st => ?_⟩
  obtain ⟨v, ev, q⟩ := h1 Z' H' vs oe' od s' st
  exact ⟨v, ev, i v H' q⟩
theorem tP_mono {p : P0} {Q Q' : VK} (h : tP k T p σ H Q) (i : ∀ v H, Q v H → Q' v H) : tP k T p σ H Q' := by
  obtain ⟨Z, e, oe, ss, d, q, h⟩ := h
  exact ⟨Z, e, oe, ss, d, q, fun v os r so hv => i v H (h v os r so hv)⟩
theorem tAg_mono {a : Ag} {Q Q' : VK} (h : tAg k T W a σ H Q) (i : ∀ v H, Q v H → Q' v H) : tAg k T W a σ H Q' := by
  cases a with
  | pk p => exact tP_mono h i
  | ev f => exact tE_mono h i
theorem tE_sem2 {a b : Ag} {sem : D → D → Option D} {Q : VK} (h : tE k W (bnd (evA T [a, b]) fun ds => opt (sem2L sem ds)) σ H Q) : tOp (rSem2 k sem) (tAg k T W a) (tAg k T W b) σ H Q := by
  refine tAg_mono (tR_cons (tE_sem h)) fun v H1 h1 => tAg_mono (tR_cons h1) fun u H2 h2 => ?_
  obtain ⟨Z, ds, d, rw, hs, q⟩ := (show rSem k (sem2L sem) [v, u] H2 Q from h2)
  match ds, rw, hs with
  | [d1, d2], rw, hs => exact ⟨Z, d1, d2, d, rw.1, rw.2.1, hs, q⟩
  | [], rw, _ => exact (show False from rw).elim
  | [_], rw, _ => exact (show False from rw.2).elim
  | _ :: _ :: _ :: _, rw, _ => exact (show False from rw.2.2).elim
theorem tR_mono {f : M (List D)} {Q Q' : List V → Hp → Prop} (h : tR k W f σ H Q) (i : ∀ v H, Q v H → Q' v H) : tR k W f σ H Q' := by
  obtain ⟨Z, e, oe, ss, h⟩ := h
  exact ⟨Z, e, oe, ss, h.imp fun d e1 h1 Z' H' vs oe' s' rw st => i _ _ (h1 Z' H' vs oe' s' rw st)⟩
theorem tRt_mono {as : List Ag} {Q Q' : List V → Hp → Prop} (h : tRt k T W as σ H Q) (i : ∀ v H, Q v H → Q' v H) : tRt k T W as σ H Q' := by
  cases as with
  | nil => exact i _ _ h
  | cons a as => exact tR_mono h i
end

/-! ### rules -/
section
variable {X : Cx} {k : Kx} {T : Tb} {W : WX}
def stB : Expr → Bool
  | .Starred _ _ => true
  | _ => false
theorem starEach_cons {e : Expr} {es : List Expr} {env : PySem.Env} (h : stB e = false) : starEach (e :: es) env = (false, eval e env) :: starEach es env := by
  cases e <;> first | rfl | cases h
theorem star_any {pos : Pos} {env : PySem.Env} : ∀ {es : List Expr}, es.all (fun e => !stB e) = true → (backTo pos (starEach es env)).any (·.1) = false
  | [], _ => rfl
  | e :: es, h => by
    simp only [List.all_cons, Bool.and_eq_true, Bool.not_eq_true'] at h
    rw [starEach_cons h.1]
    show (false || (backTo pos (starEach es env)).any (·.1)) = false
    rw [star_any h.2]; rfl
theorem pa_rt : ∀ {es : List Expr} {as : List Ag}, Paired (fun e a => PE X e (tAg k T W a) ∧ stB e = false) es as → PA X es (tRt k T W as)
  | _, _, .nil => pa_mono pa_nil fun σ H Q h => h
  | _, _, .cons (a := e) (b := a) h t => pa_mono (pa_cons h.1 (pa_rt t) (starEach_cons h.2)) fun σ H Q q => by
    refine tAg_mono (tR_cons (show tR k W (evA T (a :: _)) σ H Q from q)) fun v H1 h1 => h1
theorem OpR.imp {f : Value → Value → Sem Value} {r r' : R2} (h : OpR X f r) (i : ∀ x y H Q, r' x y H Q → r x y H Q) : OpR X f r' := fun pins s σ H x y v u Q I rx ry q => h pins s σ H x y v u Q I rx ry (i _ _ _ _ q)
theorem CallR.imp {f : Value} {r r' : List V → Hp → VK → Prop} (h : CallR X f r) (i : ∀ xs H Q, r' xs H Q → r xs H Q) : CallR X f r' := fun pins s σ H vs us Q I rv q => h pins s σ H vs us Q I rv (i _ _ _ q)
end
end Bp

/-! two-place operations -/
namespace Bp
open PySem PySem.Spec PyProof.Rows L2

mutual
def toP : D → PyData
  | .non => .none
  | .bl b => .bool b
  | .int i => .int i
  | .str x => .str x
  | .tup xs => .tuple (toPs xs)
  | .lst _ xs => .list (toPs xs)
  | .scr xs => .list (toPs xs)
  | .dk _ _ _ => .dict []
  | .dt _ _ _ => .dict []
  | .ins _ _ _ _ => .dict []
def toPs : List D → List PyData
  | [] => []
  | x :: xs => toP x :: toPs xs
end
theorem toPs_map : ∀ xs : List D, toPs xs = xs.map toP
  | [] => rfl
  | x :: xs => by rw [toPs, toPs_map xs]; rfl
def okP (d : D) : Bool := SeqAt.shaped (toP d)
def eqD (a b : D) : Bool := PyData.eqv (toP a) (toP b)

section
variable {k : Kx} {Z : Zs} {H : Hp}
mutual
theorem Rep.dp : ∀ {d : D} {v : V} {os : List Addr}, Rep k Z H d v os → (toP d).canLay0 = true → Dp k.K H v (toP d)
  | _, _, _, .non, _ => .non
  | _, _, _, .bl b, _ => .bl b
  | _, _, _, .int i, _ => .int i
  | _, _, _, .str x, _ => .str x
  | _, _, _, .tup e r, h => .tup (SqT.of e) (Reps.dp r (by simpa [toP, PyData.canLay0] using h))
  | _, _, _, .lstF _ e r, h => .lst (SqL.of e) (Reps.dp r (by simpa [toP, PyData.canLay0] using h))
  | _, _, _, .lstO e r, h => .lst (SqL.of e) (Reps.dp r (by simpa [toP, PyData.canLay0] using h))
  | _, _, _, .scr e r, h => .lst e.sq (Reps.dp r (by simpa [toP, PyData.canLay0] using h))
  | _, _, _, .dkF _ _ _ _, h => by simp [toP, PyData.canLay0] at h
  | _, _, _, .dkO _ _ _, h => by simp [toP, PyData.canLay0] at h
  | _, _, _, .dtF _ _ _ _, h => by simp [toP, PyData.canLay0] at h
  | _, _, _, .dtO _ _ _, h => by simp [toP, PyData.canLay0] at h
  | _, _, _, .insF _ _ _ _, h => by simp [toP, PyData.canLay0] at h
  | _, _, _, .insO _ _ _, h => by simp [toP, PyData.canLay0] at h
theorem Reps.dp : ∀ {ds : List D} {vs : List V} {os : List Addr}, Reps k Z H ds vs os → PyData.canLayAll0 (toPs ds) = true → DpAll k.K H vs (toPs ds)
  | _, _, _, .nil, _ => .nil
  | _, _, _, .cons r t, h => by
    simp only [toPs, PyData.canLayAll0, Bool.and_eq_true] at h
    exact .cons (Rep.dp r h.1) (Reps.dp t h.2)
end
theorem RW.dp {d : D} {v : V} (r : RW k Z H d v) (h : okP d = true) : Dp k.K H v (toP d) := by
  obtain ⟨os, r⟩ := r
  exact r.dp (SeqAt.canLay_of_shaped h)

/-! views -/
theorem RW.int {i : Int} {v : V} (r : RW k Z H (.int i) v) : v = .int i := by obtain ⟨_, r⟩ := r; cases r; rfl
theorem RW.bl {b : Bool} {v : V} (r : RW k Z H (.bl b) v) : v = .bl b := by obtain ⟨_, r⟩ := r; cases r; rfl
theorem RW.str {x : Str} {v : V} (r : RW k Z H (.str x) v) : v = .str x := by obtain ⟨_, r⟩ := r; cases r; rfl
theorem RW.non {v : V} (r : RW k Z H .non v) : v = .non := by obtain ⟨_, r⟩ := r; cases r; rfl
theorem RW.tup {xs : List D} {v : V} (r : RW k Z H (.tup xs) v) : ∃ a vs os, v = .ref a ∧ H a = some (.tup vs) ∧ Reps k Z H xs vs os := by
  obtain ⟨_, r⟩ := r; cases r with | tup e t => exact ⟨_, _, _, rfl, e, t⟩
theorem RW.lst {o : Bool} {xs : List D} {v : V} (r : RW k Z H (.lst o xs) v) : ∃ a vs os, v = .ref a ∧ H a = some (.lst vs) ∧ Reps k Z H xs vs os := by
  obtain ⟨_, r⟩ := r
  cases r with
  | lstF z e t => exact ⟨_, _, _, rfl, e, t⟩
  | lstO e t => exact ⟨_, _, _, rfl, e, t⟩
theorem RW.scr {xs : List D} {v : V} (r : RW k Z H (.scr xs) v) : ∃ a vs, v = .ref a ∧ SqL k.K H a vs ∧ Reps k Z H xs vs [] := by
  obtain ⟨_, r⟩ := r; cases r with | scr e t => exact ⟨_, _, rfl, e.sq, t⟩
theorem RW.dk {o : Bool} {ks : List Key} {xs : List D} {v : V} (r : RW k Z H (.dk o ks xs) v) : ∃ a kvs os, v = .ref a ∧ Rd H a (.dK kvs) ∧ kvs.map (·.1) = ks ∧ Reps k Z H xs (kvs.map (·.2)) os := by
  obtain ⟨_, r⟩ := r
  cases r with
  | dkF z e h t => exact ⟨_, _, _, rfl, e, h, t⟩
  | dkO e h t => exact ⟨_, _, _, rfl, .inl e, h, t⟩
theorem RW.dt {o : Bool} {ks : List (List Key)} {xs : List D} {v : V} (r : RW k Z H (.dt o ks xs) v) : ∃ a kvs os, v = .ref a ∧ Rd H a (.dT kvs) ∧ kvs.map (·.1) = ks ∧ Reps k Z H xs (kvs.map (·.2)) os := by
  obtain ⟨_, r⟩ := r
  cases r with
  | dtF z e h t => exact ⟨_, _, _, rfl, e, h, t⟩
  | dtO e h t => exact ⟨_, _, _, rfl, .inl e, h, t⟩

/-! plain results -/
theorem resOk.int {i : Int} {Q : VK} (h : resOk k Z H (.int i) Q) : Q (.int i) H := h _ _ [] (Same.refl H) (.int i) List.nodup_nil (fun _ q => nomatch q)
theorem resOk.bl {b : Bool} {Q : VK} (h : resOk k Z H (.bl b) Q) : Q (.bl b) H := h _ _ [] (Same.refl H) (.bl b) List.nodup_nil (fun _ q => nomatch q)
theorem resOk.str {x : Str} {Q : VK} (h : resOk k Z H (.str x) Q) : Q (.str x) H := h _ _ [] (Same.refl H) (.str x) List.nodup_nil (fun _ q => nomatch q)
theorem resOk.non {Q : VK} (h : resOk k Z H .non Q) : Q .non H := h _ _ [] (Same.refl H) .non List.nodup_nil (fun _ q => nomatch q)
theorem same_new {H : Hp} {p : Addr} {o : HO} (h : H p = none) : Same H (upd H p o) := fun b x e => by rw [upd_ne (ne_of_none e h)]; exact e
theorem Reps.same {H' : Hp} (s : Same H H') {ds : List D} {vs : List V} {os : List Addr} (r : Reps k Z H ds vs os) : Reps k Z H' ds vs os :=
  Reps.step (same_fr s (Z := Z)) (fun _ q => nomatch q) (fun _ q => nomatch q) r (fun _ _ q => nomatch q)
theorem Rep.same {H' : Hp} (s : Same H H') {d : D} {v : V} {os : List Addr} (r : Rep k Z H d v os) : Rep k Z H' d v os :=
  Rep.step (same_fr s (Z := Z)) (fun _ q => nomatch q) (fun _ q => nomatch q) r (fun _ _ q => nomatch q)
theorem resOk.lst {xs : List D} {vs : List V} {os : List Addr} {Q : VK} (h : resOk k Z H (.lst true xs) Q) (r : Reps k Z H xs vs os) (f : fzs xs = true) {p : Addr} (hp : H p = none) : Q (.ref p) (upd H p (.lst vs)) := by
  cases r.fz0 f
  exact h _ _ [p] (same_new hp) (.lstO upd_same (r.same (same_new hp))) (by simp) (fun a q => by rw [List.mem_singleton.mp q]; exact hp)
theorem resOk.tup {xs : List D} {vs : List V} {os : List Addr} {Q : VK} (h : resOk k Z H (.tup xs) Q) (r : Reps k Z H xs vs os) (f : fzs xs = true) {p : Addr} (hp : H p = none) : Q (.ref p) (upd H p (.tup vs)) := by
  cases r.fz0 f
  exact h _ _ [] (same_new hp) (.tup upd_same (r.same (same_new hp))) List.nodup_nil (fun _ q => nomatch q)
theorem resOk.old {d : D} {v : V} {os : List Addr} {Q : VK} (h : resOk k Z H d Q) (r : Rep k Z H d v os) (f : d.fz = true) : Q v H := by
  cases r.fz0 f
  exact h _ _ [] (Same.refl H) r List.nodup_nil (fun _ q => nomatch q)
end

inductive O2 where
  | add | sub | mul | fdiv | mod | pow | xor
  | lt | le | gt | ge | eq | ne | is | isn | inn | nin
  deriving DecidableEq
def two64 : Int := 18446744073709551616
def mulOk (i j : Int) : Bool := (decide (-two64 < i) && decide (i < two64)) || (decide (-two64 < j) && decide (j < two64))
def iO (i j : D) (g : Int → Int → Option D) : Option D := match i with
  | .int a => match j with
    | .int b => g a b
    | _ => none
  | _ => none
def addD (a b : D) : Option D := match a with
  | .int _ => iO a b fun i j => some (.int (i + j))
  | .str x => match b with
    | .str y => if x.length + y.length ≤ sizeLine then some (.str (x ++ y)) else none
    | _ => none
  | .lst _ xs => match b with
    | .lst _ ys => if fzs xs && fzs ys && decide (xs.length + ys.length ≤ sizeLine) then some (.lst true (xs ++ ys)) else none
    | _ => none
  | .tup xs => match b with
    | .tup ys => if fzs xs && fzs ys && decide (xs.length + ys.length ≤ sizeLine) then some (.tup (xs ++ ys)) else none
    | _ => none
  | _ => none
def mulD (a b : D) : Option D := match a with
  | .int _ => iO a b fun i j => if mulOk i j then some (.int (i * j)) else none
  | .lst _ xs => match b with
    | .int j => if fzs xs && decide (-(2 ^ 63) ≤ j) && decide (j < 2 ^ 63) && decide (xs.length * j.toNat ≤ sizeLine) then some (.lst true (List.replicate j.toNat xs).flatten) else none
    | _ => none
  | _ => none
def inD (a b : D) : Option Bool := match b with
  | .lst _ xs => if okP a && okP b then some (xs.any fun z => eqD z a) else none
  | .scr xs => if okP a && okP b then some (xs.any fun z => eqD z a) else none
  | .tup xs => if okP a && okP b then some (xs.any fun z => eqD z a) else none
  | .dk _ ks xs => match keyK a with
    | some kk => some (dget ks xs kk).isSome
    | none => none
  | .dt _ ks xs => match keyT a with
    | some kk => some (dget ks xs kk).isSome
    | none => none
  | .str y => match a with
    | .str x => some (!(Builtin.Str.occurrences y x 0 y.length 1).isEmpty)
    | _ => none
  | _ => none
def isD (a b : D) : Option Bool := match b with
  | .non => match a with
    | .non => some true
    | _ => some false
  | .bl y => match a with
    | .bl x => some (decide (x = y))
    | _ => none
  | _ => none
def sem2 (o : O2) (a b : D) : Option D := match o with
  | .add => addD a b
  | .sub => iO a b fun i j => some (.int (i - j))
  | .mul => mulD a b
  | .fdiv => iO a b fun i j => if decide (j ≠ 0) && decide (j.natAbs < 1073741824) then some (.int (i.fdiv j)) else none
  | .mod => iO a b fun i j => if j ≠ 0 then some (.int (i.fmod j)) else none
  | .pow => iO a b fun i j => if decide (0 ≤ j) && decide (j ≤ 1000000) && decide ((i.natAbs : Int) < two64) then some (.int (i ^ j.toNat)) else none
  | .xor => iO a b fun i j => some (.int (Builtin.bitXor i j))
  | .lt => iO a b fun i j => some (.bl (decide (i < j)))
  | .le => iO a b fun i j => some (.bl (decide (i ≤ j)))
  | .gt => iO a b fun i j => some (.bl (decide (j < i)))
  | .ge => iO a b fun i j => some (.bl (decide (j ≤ i)))
  | .eq => if okP a && okP b then some (.bl (eqD a b)) else none
  | .ne => if okP a && okP b then some (.bl (!eqD a b)) else none
  | .is => (isD a b).map .bl
  | .isn => (isD a b).map fun x => .bl (!x)
  | .inn => (inD a b).map .bl
  | .nin => (inD a b).map fun x => .bl (!x)
/-- what stands in the text -/
def O2.bin : O2 → Option Operator
  | .add => some .Add
  | .sub => some .Sub
  | .mul => some .Mult
  | .fdiv => some .FloorDiv
  | .mod => some .Mod
  | .pow => some .Pow
  | .xor => some .BitXor
  | _ => none
def O2.cmp : O2 → Option CmpOp
  | .lt => some .Lt
  | .le => some .LtE
  | .gt => some .Gt
  | .ge => some .GtE
  | .eq => some .Eq
  | .ne => some .NotEq
  | .is => some .Is
  | .isn => some .IsNot
  | .inn => some .In
  | .nin => some .NotIn
  | _ => none
section
variable {k : Kx} {Z : Zs} {H : Hp} {X : Cx}
theorem iO_some {a b d : D} {g : Int → Int → Option D} (h : iO a b g = some d) : ∃ i j, a = .int i ∧ b = .int j ∧ g i j = some d := by
  unfold iO at h
  split at h
  · split at h
    · exact ⟨_, _, rfl, rfl, h⟩
    · cases h
  · cases h
theorem int_op {f : Value → Value → Sem Value} {C : Int → Int → Prop} {g : Int → Int → V} {g' : Int → Int → Option D} (h : OpR X f (rI C g)) (hc : ∀ i j d, g' i j = some d → C i j ∧ ∀ k Z H Q, resOk k Z H d Q → Q (g i j) H) :
    OpR X f (rSem2 k fun a b => iO a b g') := OpR.imp h fun x y H Q ⟨Z, d1, d2, d, r1, r2, hs, q⟩ => by
  obtain ⟨i, j, rfl, rfl, hg⟩ := iO_some hs
  obtain ⟨c, hq⟩ := hc i j d hg
  exact ⟨i, j, r1.int, r2.int, c, hq k Z H Q q⟩
theorem int_op0 {f : Value → Value → Sem Value} {g : Int → Int → V} {g' : Int → Int → Option D} (h : OpR X f (rI0 g)) (hc : ∀ i j d, g' i j = some d → ∀ k Z H Q, resOk k Z H d Q → Q (g i j) H) :
    OpR X f (rSem2 k fun a b => iO a b g') := OpR.imp h fun x y H Q ⟨Z, d1, d2, d, r1, r2, hs, q⟩ => by
  obtain ⟨i, j, rfl, rfl, hg⟩ := iO_some hs
  exact ⟨i, j, r1.int, r2.int, hc i j d hg k Z H Q q⟩
theorem mulOk_of {i j : Int} (h : mulOk i j = true) : CMul i j := by
  have e : two64 = 2 ^ 64 := by decide
  unfold mulOk at h
  rw [e] at h
  simp only [Bool.or_eq_true, Bool.and_eq_true, decide_eq_true_eq] at h
  exact h
theorem fzs_app : ∀ xs ys : List D, fzs (xs ++ ys) = (fzs xs && fzs ys)
  | [], _ => by simp [fzs]
  | x :: xs, ys => by simp [fzs, fzs_app xs ys, Bool.and_assoc]
theorem fzs_flat (xs : List D) (h : fzs xs = true) : ∀ n, fzs (List.replicate n xs).flatten = true
  | 0 => by simp [fzs]
  | n + 1 => by rw [List.replicate_succ, List.flatten_cons, fzs_app, h, fzs_flat xs h n]; rfl
theorem Reps.flat {xs : List D} {vs : List V} (r : Reps k Z H xs vs []) : ∀ n, Reps k Z H (List.replicate n xs).flatten (List.replicate n vs).flatten []
  | 0 => by simp only [List.replicate_zero, List.flatten_nil]; exact .nil
  | n + 1 => by
    rw [List.replicate_succ, List.flatten_cons, List.replicate_succ, List.flatten_cons]
    have := r.app (Reps.flat r n)
    simpa using this
theorem op_addD : OpR X (binaryOp .Add) (rSem2 k addD) := by
  have h0 := (op_add (X := X)).or (op_add_str.or (op_cat.or op_catA))
  refine OpR.imp h0 fun x y H Q ⟨Z, d1, d2, d, r1, r2, hs, q⟩ => ?_
  unfold addD at hs
  split at hs
  · obtain ⟨i, j, e1, rfl, hg⟩ := iO_some hs
    cases e1
    cases hg
    exact .inl ⟨_, _, r1.int, r2.int, q.int⟩
  · split at hs
    · split at hs
      · rename_i hl
        cases hs
        exact .inr (.inl ⟨_, _, r1.str, r2.str, hl, q.str⟩)
      · cases hs
    · cases hs
  · split at hs
    · split at hs
      · rename_i hl
        cases hs
        simp only [Bool.and_eq_true, decide_eq_true_eq] at hl
        obtain ⟨a, vs, os, rfl, ha, ra⟩ := r1.lst
        obtain ⟨b, ws, os2, rfl, hb, rb⟩ := r2.lst
        refine .inr (.inr (.inl ⟨a, b, vs, ws, rfl, rfl, ha, hb, by rw [← ra.len, ← rb.len]; exact hl.2, fun p hp => ?_⟩))
        exact q.lst (ra.app rb) (by rw [fzs_app, hl.1.1, hl.1.2]; rfl) hp
      · cases hs
    · cases hs
  · split at hs
    · split at hs
      · rename_i hl
        cases hs
        simp only [Bool.and_eq_true, decide_eq_true_eq] at hl
        obtain ⟨a, vs, os, rfl, ha, ra⟩ := r1.tup
        obtain ⟨b, ws, os2, rfl, hb, rb⟩ := r2.tup
        refine .inr (.inr (.inr ⟨a, b, vs, ws, rfl, rfl, SqT.of ha, SqT.of hb, by rw [← ra.len, ← rb.len]; exact hl.2, fun e => ?_, fun _ e => ?_, fun _ _ p hp => ?_⟩))
        · subst e
          cases ra
          exact q.old (.tup hb rb) (by simpa [D.fz] using hl.1.2)
        · subst e
          cases rb
          rw [List.append_nil] at q
          exact q.old (.tup ha ra) (by simpa [D.fz] using hl.1.1)
        · exact q.tup (ra.app rb) (by rw [fzs_app, hl.1.1, hl.1.2]; rfl) hp
      · cases hs
    · cases hs
  · cases hs
theorem op_mulD : OpR X (binaryOp .Mult) (rSem2 k mulD) := by
  refine OpR.imp ((op_mul (X := X)).or op_rep) fun x y H Q ⟨Z, d1, d2, d, r1, r2, hs, q⟩ => ?_
  unfold mulD at hs
  split at hs
  · obtain ⟨i, j, e1, rfl, hg⟩ := iO_some hs
    cases e1
    split at hg
    · rename_i hm
      cases hg
      exact .inl ⟨_, _, r1.int, r2.int, mulOk_of hm, q.int⟩
    · cases hg
  · split at hs
    · split at hs
      · rename_i hl
        cases hs
        simp only [Bool.and_eq_true, decide_eq_true_eq] at hl
        obtain ⟨a, vs, os, rfl, ha, ra⟩ := r1.lst
        cases ra.fz0 hl.1.1.1
        refine .inr ⟨a, _, vs, rfl, r2.int, ha, hl.1.1.2, hl.1.2, by rw [← ra.len]; exact hl.2, fun p hp => ?_⟩
        exact q.lst (ra.flat _) (fzs_flat _ hl.1.1.1 _) hp
      · cases hs
    · cases hs
  · cases hs

def isNon : D → Bool
  | .non => true
  | _ => false
theorem not_non {d : D} {v : V} (r : RW k Z H d v) : decide (v = V.non) = isNon d := by
  obtain ⟨_, r⟩ := r
  cases r <;> rfl
theorem isD_non {a : D} : isD a .non = some (isNon a) := by cases a <;> rfl
theorem op_isD : OpR X (compareOp .Is) (rSem2 k fun a b => (isD a b).map .bl) := by
  refine OpR.imp ((op_isN (X := X)).or op_isBl) fun x y H Q ⟨Z, d1, d2, d, r1, r2, hs, q⟩ => ?_
  cases d2 with
  | non =>
    replace hs : (isD d1 .non).map _ = some d := hs
    rw [isD_non] at hs
    cases hs
    refine .inl ⟨r2.non, ?_⟩
    rw [not_non r1]
    exact q.bl
  | bl b =>
    cases d1 with
    | bl a => cases hs; exact .inr ⟨a, b, r1.bl, r2.bl, q.bl⟩
    | _ => cases hs
  | _ => cases hs
theorem op_isnD : OpR X (compareOp .IsNot) (rSem2 k fun a b => (isD a b).map fun x => .bl (!x)) := by
  refine OpR.imp ((op_notN (X := X)).or op_notBl) fun x y H Q ⟨Z, d1, d2, d, r1, r2, hs, q⟩ => ?_
  cases d2 with
  | non =>
    replace hs : (isD d1 .non).map _ = some d := hs
    rw [isD_non] at hs
    cases hs
    refine .inl ⟨r2.non, ?_⟩
    rw [not_non r1]
    exact q.bl
  | bl b =>
    cases d1 with
    | bl a => cases hs; exact .inr ⟨a, b, r1.bl, r2.bl, q.bl⟩
    | _ => cases hs
  | _ => cases hs

theorem op_eqDD (hk : k.K = X.K) (hu : X.A.units + 64 < cLine) : OpR X (compareOp .Eq) (rSem2 k fun a b => if okP a && okP b then some (.bl (eqD a b)) else none) := by
  refine OpR.imp (op_eqD (X := X) hu) fun x y H Q ⟨Z, d1, d2, d, r1, r2, hs, q⟩ => ?_
  dsimp only at hs
  split at hs
  · rename_i h
    cases hs
    simp only [Bool.and_eq_true] at h
    rw [← hk]
    exact ⟨_, _, r1.dp h.1, r2.dp h.2, h.1, h.2, q.bl⟩
  · cases hs
theorem op_neDD (hk : k.K = X.K) (hu : X.A.units + 64 < cLine) : OpR X (compareOp .NotEq) (rSem2 k fun a b => if okP a && okP b then some (.bl (!eqD a b)) else none) := by
  refine OpR.imp (op_neD (X := X) hu) fun x y H Q ⟨Z, d1, d2, d, r1, r2, hs, q⟩ => ?_
  dsimp only at hs
  split at hs
  · rename_i h
    cases hs
    simp only [Bool.and_eq_true] at h
    rw [← hk]
    exact ⟨_, _, r1.dp h.1, r2.dp h.2, h.1, h.2, q.bl⟩
  · cases hs

/-! x in .. -/
def rInT (K : PySem.W.Frag) (neg : Bool) : R2 := fun x y H Q => ∃ d ds, Dp K H x d ∧ Dp K H y (.tuple ds) ∧ SeqAt.shaped d = true ∧ SeqAt.shaped (.tuple ds) = true ∧ Q (.bl (if neg then !(ds.any fun z => PyData.eqv z d) else ds.any fun z => PyData.eqv z d)) H
theorem room_inT {A : Around} {ds : List PyData} {d : PyData} (h : SeqAt.shaped d = true) (hu : A.units + 65 < cLine) : A.units + 1 + min (PyData.depthAll ds) d.depth < cLine := by
  have h1 := SeqAt.depth_of_shaped h
  have h2 : min (PyData.depthAll ds) d.depth ≤ d.depth := Nat.min_le_right _ _
  omega
theorem op_inT (hu : X.A.units + 65 < cLine) : OpR X (compareOp .In) (rInT X.K false) := by
  intro pins s σ H x y v u Q I rx ry h
  obtain ⟨d, ds, hd, he, sd, se, q⟩ := h
  obtain ⟨as, r1⟩ := Dp.reads I d x v hd rx
  obtain ⟨bs, r2⟩ := Dp.reads I (.tuple ds) y u he ry
  exact SeqAt.in_tuple_reads r2 r1 (SeqAt.canLay_of_shaped se) (SeqAt.canLay_of_shaped sd) (room_inT sd hu) ⟨.bl _, H, I, rfl, q⟩
theorem op_notInT (hu : X.A.units + 65 < cLine) : OpR X (compareOp .NotIn) (rInT X.K true) := by
  intro pins s σ H x y v u Q I rx ry h
  obtain ⟨d, ds, hd, he, sd, se, q⟩ := h
  obtain ⟨as, r1⟩ := Dp.reads I d x v hd rx
  obtain ⟨bs, r2⟩ := Dp.reads I (.tuple ds) y u he ry
  exact SeqAt.notIn_tuple_reads r2 r1 (SeqAt.canLay_of_shaped se) (SeqAt.canLay_of_shaped sd) (room_inT sd hu) ⟨.bl _, H, I, rfl, q⟩
theorem op_inDict (hu : X.A.units + 1 < cLine) : OpR X (compareOp .In) (fun y x H Q => ∃ a o, x = .ref a ∧ DGet H a y o ∧ Q (.bl o.isSome) H) := by
  intro pins s σ H y x u v Q I ry rx h
  obtain ⟨a, o, rfl, g, q⟩ := h
  obtain rfl : v = Value.ref a := rx
  exact d_in hu I g ry fun s3 I3 => ⟨.bl o.isSome, H, I3, rfl, q⟩
theorem op_notInDict (hu : X.A.units + 1 < cLine) : OpR X (compareOp .NotIn) (fun y x H Q => ∃ a o, x = .ref a ∧ DGet H a y o ∧ Q (.bl (!o.isSome)) H) := by
  intro pins s σ H y x u v Q I ry rx h
  obtain ⟨a, o, rfl, g, q⟩ := h
  obtain rfl : v = Value.ref a := rx
  exact d_notIn hu I g ry fun s3 I3 => ⟨.bl (!o.isSome), H, I3, rfl, q⟩
theorem any_toP (a : D) (xs : List D) : ((toPs xs).any fun z => PyData.eqv z (toP a)) = xs.any fun z => eqD z a := by
  rw [toPs_map, List.any_map]; rfl
theorem dget_dk {ks : List Key} {xs : List D} {kvs : List (Key × V)} {os : List Addr} {a : Addr} {kk : Key} (rd : Rd H a (.dK kvs)) (e : kvs.map (·.1) = ks) (r : Reps k Z H xs (kvs.map (·.2)) os) : ∃ o, DGet H a (kV kk) o ∧ o.isSome = (dget ks xs kk).isSome := by
  refine ⟨valV kvs kk, .inl ⟨kvs, kk, rd, rfl, rfl⟩, ?_⟩
  cases q : dget ks xs kk with
  | none => rw [dget_none e r q]; rfl
  | some d =>
    obtain ⟨v, o, a, _⟩ := dget_rep e r q
    rw [a]; rfl
theorem dget_dt {ks : List (List Key)} {xs : List D} {kvs : List (List Key × V)} {os : List Addr} {a b : Addr} {kk : List Key} (rd : Rd H a (.dT kvs)) (e : kvs.map (·.1) = ks) (r : Reps k Z H xs (kvs.map (·.2)) os) (hb : H b = some (.tup (kk.map kV))) :
    ∃ o, DGet H a (.ref b) o ∧ o.isSome = (dget ks xs kk).isSome := by
  refine ⟨valV kvs kk, .inr ⟨kvs, kk, b, rd, rfl, hb, rfl⟩, ?_⟩
  cases q : dget ks xs kk with
  | none => rw [dget_none e r q]; rfl
  | some d =>
    obtain ⟨v, o, a, _⟩ := dget_rep e r q
    rw [a]; rfl
theorem okP_tup {xs : List D} (h : okP (.tup xs) = true) : SeqAt.shaped (.tuple (toPs xs)) = true := by
  simpa [okP, toP] using h
theorem okP_lst {o : Bool} {xs : List D} (h : okP (.lst o xs) = true) : SeqAt.shaped (.list (toPs xs)) = true := by
  simpa [okP, toP] using h
theorem okP_scr {xs : List D} (h : okP (.scr xs) = true) : SeqAt.shaped (.list (toPs xs)) = true := by
  simpa [okP, toP] using h
theorem op_innD (hk : k.K = X.K) (hu : X.A.units + 65 < cLine) : OpR X (compareOp .In) (rSem2 k fun a b => (inD a b).map .bl) := by
  have h0 := (op_inD (X := X) hu).or ((op_inT hu).or ((op_inDict (by omega)).or op_in_str))
  refine OpR.imp h0 fun x y H Q ⟨Z, d1, d2, d, r1, r2, hs, q⟩ => ?_
  obtain ⟨c, hc, rfl⟩ := Option.map_eq_some_iff.mp hs
  replace q := q.bl
  unfold inD at hc
  split at hc
  · split at hc
    · rename_i h
      cases hc
      simp only [Bool.and_eq_true] at h
      refine .inl ⟨_, _, by rw [← hk]; exact r1.dp h.1, by rw [← hk]; exact r2.dp h.2, h.1, okP_lst h.2, ?_⟩
      rw [any_toP]; exact q
    · cases hc
  · split at hc
    · rename_i h
      cases hc
      simp only [Bool.and_eq_true] at h
      refine .inl ⟨_, _, by rw [← hk]; exact r1.dp h.1, by rw [← hk]; exact r2.dp h.2, h.1, okP_scr h.2, ?_⟩
      rw [any_toP]; exact q
    · cases hc
  · split at hc
    · rename_i h
      cases hc
      simp only [Bool.and_eq_true] at h
      refine .inr (.inl ⟨_, _, by rw [← hk]; exact r1.dp h.1, by rw [← hk]; exact r2.dp h.2, h.1, okP_tup h.2, ?_⟩)
      rw [any_toP]; exact q
    · cases hc
  · split at hc
    · rename_i kk hkk
      cases hc
      obtain ⟨a, kvs, os, rfl, rd, e, r⟩ := r2.dk
      obtain ⟨o1, r1⟩ := r1
      cases keyK_rep r1 hkk
      obtain ⟨o, g, eo⟩ := dget_dk (kk := kk) rd e r
      exact .inr (.inr (.inl ⟨a, o, rfl, g, by rw [eo]; exact q⟩))
    · cases hc
  · split at hc
    · rename_i kk hkk
      cases hc
      obtain ⟨a, kvs, os, rfl, rd, e, r⟩ := r2.dt
      obtain ⟨o1, r1⟩ := r1
      obtain ⟨b, rfl, hb⟩ := keyT_rep r1 hkk
      obtain ⟨o, g, eo⟩ := dget_dt rd e r hb
      exact .inr (.inr (.inl ⟨a, o, rfl, g, by rw [eo]; exact q⟩))
    · cases hc
  · split at hc
    · cases hc
      exact .inr (.inr (.inr ⟨_, _, r1.str, r2.str, q⟩))
    · cases hc
  · cases hc
theorem op_ninD (hk : k.K = X.K) (hu : X.A.units + 65 < cLine) : OpR X (compareOp .NotIn) (rSem2 k fun a b => (inD a b).map fun x => .bl (!x)) := by
  have h0 := (op_notInD (X := X) hu).or ((op_notInT hu).or ((op_notInDict (by omega)).or op_notin_str))
  refine OpR.imp h0 fun x y H Q ⟨Z, d1, d2, d, r1, r2, hs, q⟩ => ?_
  obtain ⟨c, hc, rfl⟩ := Option.map_eq_some_iff.mp hs
  replace q := q.bl
  unfold inD at hc
  split at hc
  · split at hc
    · rename_i h
      cases hc
      simp only [Bool.and_eq_true] at h
      refine .inl ⟨_, _, by rw [← hk]; exact r1.dp h.1, by rw [← hk]; exact r2.dp h.2, h.1, okP_lst h.2, ?_⟩
      rw [any_toP]; exact q
    · cases hc
  · split at hc
    · rename_i h
      cases hc
      simp only [Bool.and_eq_true] at h
      refine .inl ⟨_, _, by rw [← hk]; exact r1.dp h.1, by rw [← hk]; exact r2.dp h.2, h.1, okP_scr h.2, ?_⟩
      rw [any_toP]; exact q
    · cases hc
  · split at hc
    · rename_i h
      cases hc
      simp only [Bool.and_eq_true] at h
      refine .inr (.inl ⟨_, _, by rw [← hk]; exact r1.dp h.1, by rw [← hk]; exact r2.dp h.2, h.1, okP_tup h.2, ?_⟩)
      rw [any_toP]; exact q
    · cases hc
  · split at hc
    · rename_i kk hkk
      cases hc
      obtain ⟨a, kvs, os, rfl, rd, e, r⟩ := r2.dk
      obtain ⟨o1, r1⟩ := r1
      cases keyK_rep r1 hkk
      obtain ⟨o, g, eo⟩ := dget_dk (kk := kk) rd e r
      exact .inr (.inr (.inl ⟨a, o, rfl, g, by rw [eo]; exact q⟩))
    · cases hc
  · split at hc
    · rename_i kk hkk
      cases hc
      obtain ⟨a, kvs, os, rfl, rd, e, r⟩ := r2.dt
      obtain ⟨o1, r1⟩ := r1
      obtain ⟨b, rfl, hb⟩ := keyT_rep r1 hkk
      obtain ⟨o, g, eo⟩ := dget_dt rd e r hb
      exact .inr (.inr (.inl ⟨a, o, rfl, g, by rw [eo]; exact q⟩))
    · cases hc
  · split at hc
    · cases hc
      exact .inr (.inr (.inr ⟨_, _, r1.str, r2.str, q⟩))
    · cases hc
  · cases hc

/-! all of them -/
theorem op_bin (o : O2) {p : Operator} (h : o.bin = some p) : OpR X (binaryOp p) (rSem2 k (sem2 o)) := by
  cases o <;> cases h
  · exact op_addD
  · exact int_op0 op_sub fun i j d e k Z H Q q => by cases e; exact q.int
  · exact op_mulD
  · refine int_op op_fdivN fun i j d e => ?_
    split at e
    · rename_i h
      cases e
      simp only [Bool.and_eq_true, decide_eq_true_eq] at h
      exact ⟨h, fun k Z H Q q => q.int⟩
    · cases e
  · refine int_op op_modN fun i j d e => ?_
    split at e
    · rename_i h
      cases e
      exact ⟨h, fun k Z H Q q => q.int⟩
    · cases e
  · refine int_op op_pow fun i j d e => ?_
    split at e
    · rename_i h
      cases e
      simp only [Bool.and_eq_true, decide_eq_true_eq] at h
      refine ⟨⟨h.1.1, h.1.2, ?_⟩, fun k Z H Q q => q.int⟩
      have h2 := h.2
      have e : two64 = ((2 ^ 64 : Nat) : Int) := by decide
      rw [e] at h2
      exact Int.ofNat_lt.mp h2
    · cases e
  · exact int_op0 op_xor fun i j d e k Z H Q q => by cases e; exact q.int
theorem op_cmpD (hk : k.K = X.K) (hu : X.A.units + 65 < cLine) (o : O2) {p : CmpOp} (h : o.cmp = some p) : OpR X (compareOp p) (rSem2 k (sem2 o)) := by
  cases o <;> cases h
  · exact int_op0 op_lt fun i j d e k Z H Q q => by cases e; exact q.bl
  · exact int_op0 op_le fun i j d e k Z H Q q => by cases e; exact q.bl
  · exact int_op0 op_gt fun i j d e k Z H Q q => by cases e; exact q.bl
  · exact int_op0 op_ge fun i j d e k Z H Q q => by cases e; exact q.bl
  · exact op_eqDD hk (by omega)
  · exact op_neDD hk (by omega)
  · exact op_isD
  · exact op_isnD
  · exact op_innD hk hu
  · exact op_ninD hk hu
end
end Bp

/-! sorted over data that are alike, empty tuples among them -/
namespace Bp
open PySem PySem.W PySem.Calls PyProof.Rows PySem.SeqAt
section
variable {A : Around} {s : Shared}
theorem tupLtCall {prog : Program} {w : World} {E : Value → Shared → Prop} {Q : Value → Shared → Prop} {l b : Addr} {p q : Array Value} {e r : Nat → Bool} (hl : s.heap.IsTuple l p) (hb : s.heap.IsTuple b q)
    (he : ∀ j (h1 : j < p.size) (h2 : j < q.size), EqAt A.in1 s p[j] q[j] (e j)) (hr : ∀ j (h1 : j < p.size) (h2 : j < q.size), e j = false → RcLt A.in1 s p[j] q[j] (r j))
    (h : Q (.bool (firstLt e r (decide (p.size < q.size)) (List.range (min p.size q.size)))) s) : wpAny (model prog w) A (call (.builtin "tuple.__lt__") [.ref l, .ref b]) Q E s := by
  obtain ⟨⟨c1, d1, t1, z1⟩, o1, k1, n1, m1⟩ := id hl
  obtain ⟨⟨c2, d2, t2, z2⟩, o2, k2, n2, m2⟩ := id hb
  simp only at k1 m1 k2 m2
  subst k1 m1 k2 m2
  exact call_meets F.slot_tuple_lt ⟨_, o1, rfl⟩ F.entry_tuple_lt (F.args_tuple_lt_2 _ _) (tuple_ltAt l b p q n1 n2 d1 d2 z1 z2 e r) ⟨o1, o2, he, hr, h⟩
theorem oneLtTup {prog : Program} {w : World} {E : Value → Shared → Prop} {xs ys : List PyData} {a b : Value} {as bs : List Addr} {Q : Bool → Shared → Prop} (ra : Reads s.heap a (.tuple xs) as) (rb : Reads s.heap b (.tuple ys) bs)
    (h : alikeAll xs ys = true) (hu : A.units + min (PyData.tuple xs).depth (PyData.tuple ys).depth < cLine) (hq : Q (dataLt (.tuple xs) (.tuple ys)) s) : wpAny (model prog w) A (oneLt' true a b) Q E s := by
  cases ra with
  | @tuple l o vs n _ _ h1 h2 h3 h4 =>
    cases rb with
    | @tuple l' o' vs' n' _ _ k1 k2 k3 k4 =>
      have n1 : vs.size = xs.length := by simpa using ReadsAll.length _ _ _ h4
      have n2 : vs'.size = ys.length := by simpa using ReadsAll.length _ _ _ k4
      rw [dataLt_tuple, ← firstLt_toks xs ys h, ← n1, ← n2] at hq
      rw [oneLt'_eq]
      simp only [if_true]
      refine wpAny_bind (wpAny_cRoomFor (room_here hu) ?_)
      refine wpAny_bind (wpAny_callSpecialIfBound?_slot (T := "tuple") ⟨_, h1, h2⟩ F.slot_tuple_lt (tupLtCall (e := pairEq xs ys) (r := fun j => dataLt (xs.getD j .none) (ys.getD j .none)) ⟨_, h1, h2, _, h3⟩ ⟨_, k1, k2, _, k3⟩ (fun j j1 j2 => ?_) (fun j j1 j2 hj => ?_) ?_))
      · have := eqAt_alikeAll xs ys A.in1 s vs.toList vs'.toList _ _ h4 k4 h (room_in hu) j (by simpa using j1) (by simpa using j2)
        simpa using this
      · have := rcLt_alikeAll xs ys A.in1 s vs.toList vs'.toList _ _ h4 k4 h (room_in hu) j (by simpa using j1) (by simpa using j2) hj
        simpa using this
      · exact wpAny_truthy_bool hq
end
/-- tuples and their first items, where there are any -/
def TupFs (h : Heap) : List Value → List (Option Value) → Prop
  | [], [] => True
  | v :: vs, f :: fs => (∃ a o xs n, v = .ref a ∧ h.get? a = some o ∧ o.cls = .type "tuple" ∧ o.data = .seq xs n ∧ xs[0]? = f) ∧ TupFs h vs fs
  | _, _ => False
section
variable {M : Model} {A : Around} {E : Value → Shared → Prop} {s : Shared}
theorem tupFs_run : ∀ (vs : List Value) (fs : List (Option Value)) {Q : List (Option Value) → Shared → Prop}, TupFs s.heap vs fs → Q fs s → wpAny M A (vs.mapM firstOfTuple') Q E s
  | [], [], _, _, h => by rw [List.mapM_nil]; exact wpAny_pure h
  | [], _ :: _, _, t, _ => t.elim
  | _ :: _, [], _, t, _ => t.elim
  | v :: vs, f :: fs, Q, t, h => by
    obtain ⟨⟨a, o, xs, n, rfl, ho, hc, hd, hf⟩, t⟩ := t
    rw [List.mapM_cons]
    refine wpAny_bind ?_
    rw [kas_first_eq]
    refine wpAny_bind (Looks.here (show Looks M s.heap (typeOf (.ref a)) o.cls from (Looks.ld ho).andThen .now) ?_)
    rw [hc, if_neg (by first | decide | simp)]
    refine wpAny_bind (listItems_at ho hd (wpAny_pure ?_))
    rw [hf]
    exact wpAny_bind (tupFs_run vs fs (Q := fun bs s' => wpAny M A (pure (f :: bs)) Q E s') t (wpAny_pure h))
theorem tupFs_of {h : Heap} : ∀ {vs : List Value} {ds : List PyData}, EachIs (fun v d => ∃ as, Reads h v d as) vs ds → (∀ d, d ∈ ds → ∃ r, d = .tuple r) → ∃ fs, TupFs h vs fs ∧ fs.length = vs.length ∧ (∀ i : Nat, ds[i]? = some (PyData.tuple []) → fs[i]? = some none) ∧ ∀ v ∈ vs, ∀ M, Looks M h (typeOf v) (.type "tuple")
  | _, _, .nil, _ => ⟨[], trivial, rfl, fun i q => by simp at q, fun v hv => absurd hv (by simp)⟩
  | _, _, .cons (b := d) ⟨as, r⟩ t, ht => by
    obtain ⟨fs, h1, h2, h3, h4⟩ := tupFs_of t fun d hd => ht d (List.mem_cons_of_mem _ hd)
    obtain ⟨rest, rfl⟩ := ht d (List.mem_cons_self ..)
    cases r with
    | @tuple a o xs n _ _ ho hc hd hr =>
      refine ⟨xs[0]? :: fs, ⟨⟨a, o, xs, n, rfl, ho, hc, hd, rfl⟩, h1⟩, by rw [List.length_cons, List.length_cons, h2], fun i q => ?_, fun v hv M => ?_⟩
      · cases i with
        | zero =>
          simp only [List.getElem?_cons_zero, Option.some.injEq, PyData.tuple.injEq] at q
          subst q
          have : xs.size = 0 := by simpa using ReadsAll.length _ _ _ hr
          simp [this]
        | succ i => simpa using h3 i (by simpa using q)
      · rcases List.mem_cons.mp hv with rfl | hv
        · rw [← hc]
          exact (Looks.ld ho).andThen .now
        · exact h4 v hv M
theorem kindMixed {vs : List Value} {fs : List (Option Value)} {Q : SortKind → Shared → Prop} (h2 : 2 ≤ vs.length) (t : TupFs s.heap vs fs) (hl : fs.length = vs.length) (hn : none ∈ fs) (hT : ∀ v ∈ vs, Looks M s.heap (typeOf v) (.type "tuple"))
    (h : Q (if (fs[0]?.bind id).isSome then general' else oneType') s) : wpAny M A (keyKind' vs.toArray) Q E s := by
  rw [keyKind'_eq, List.mapM_toArray, map_eq_pure_bind]
  refine wpAny_bind (wpAny_bind (tupFs_run vs _ t (wpAny_pure ?_)))
  rw [if_neg (by
    intro q
    rw [List.all_toArray, List.all_eq_true] at q
    exact absurd (q none hn) (by simp))]
  have e0 : fs.toArray[0]? = fs[0]? := by simp
  rw [e0]
  by_cases hf : (fs[0]?.bind id).isSome = true
  · rw [if_pos hf] at h ⊢
    exact wpAny_pure h
  · rw [if_neg hf] at h ⊢
    rw [oneTypeOnly'_eq, List.mapM_toArray, map_eq_pure_bind]
    refine wpAny_bind (wpAny_bind (wpAny_bind (kas_mapM (r := Value.type "tuple") _ (fun v hv Q' hq => (hT v hv).here hq) (wpAny_pure ?_))))
    obtain ⟨v₁, rest, rfl⟩ : ∃ v₁ rest, vs = v₁ :: rest := by
      match vs, h2 with
      | [], h2 => simp at h2
      | v₁ :: rest, _ => exact ⟨v₁, rest, rfl⟩
    have hall : ((List.map (fun _ => Value.type "tuple") (v₁ :: rest)).toArray.all fun x => x == Value.type "tuple") = true := by
      simp only [List.all_toArray, List.all_map, List.all_eq_true]
      intro _ _
      rfl
    have h0 : (List.map (fun _ => Value.type "tuple") (v₁ :: rest)).toArray[0]? = some (Value.type "tuple") := by simp
    rw [h0]
    simp only [hall, if_true]
    exact wpAny_pure (wpAny_pure h)
end
section
variable {prog : Program} {w : World} {A : Around} {s : Shared}
theorem sortsAll {vs : List Value} {ds : List PyData} (e : EachIs (fun v d => ∃ as, Reads s.heap v d as) vs ds) (hal : AllAlike ds) (hn : ∀ d, d ∈ ds → d ≠ .none) (hu : ∀ d, d ∈ ds → A.units + d.depth < cLine) : SortsAt prog w A s (dataKind s.heap ds) vs := by
  by_cases hk : Sortable ds
  · exact SortsAt.data e hal hk hu
  · have room : ∀ {d d' : PyData}, d ∈ ds → A.units + min d.depth d'.depth < cLine := fun {d d'} hd => Nat.lt_of_le_of_lt (Nat.add_le_add_left (Nat.min_le_left _ _) _) (hu d hd)
    have ht : ∀ d, d ∈ ds → ∃ r, d = .tuple r := by
      have h1 : ∃ d ∈ ds, ∃ xs, d = .tuple xs := Classical.byContradiction fun c => hk (.inr fun d hd => ⟨hn d hd, fun xs e => c ⟨d, hd, xs, e⟩⟩)
      obtain ⟨d₁, hd₁, xs, rfl⟩ := h1
      intro d hd
      have q := hal d hd _ hd₁
      cases d with
      | tuple r => exact ⟨r, rfl⟩
      | _ => exact absurd q (by simp [alike])
    have hne : ∃ i : Nat, ds[i]? = some (PyData.tuple []) := by
      refine Classical.byContradiction fun c => hk (.inl fun d hd => ?_)
      obtain ⟨r, rfl⟩ := ht d hd
      cases r with
      | cons x r => exact ⟨x, r, rfl⟩
      | nil =>
        obtain ⟨i, hi⟩ := List.getElem?_of_mem hd
        exact absurd ⟨i, hi⟩ c
    obtain ⟨i, hi⟩ := hne
    obtain ⟨fs, f1, f2, f3, f4⟩ := tupFs_of e ht
    refine ⟨fun v hv => ?_, (if (fs[0]?.bind id).isSome then general' else oneType'), ?_, fun h2 E Q hq => kindMixed h2 f1 f2 (List.mem_of_getElem? (f3 i hi)) (fun v hv => f4 v hv _) hq⟩
    · obtain ⟨d, hd, as, r⟩ := e.left v hv
      exact ⟨_, dataKind_some hal hd r⟩
    · intro E x y a b Q ha hb hq
      obtain ⟨d, as, hd, ra, rfl⟩ := dataKind_inv ha
      obtain ⟨d', as', hd', rb, rfl⟩ := dataKind_inv hb
      have hdd := hal d hd d' hd'
      have hr := room (d' := d') hd
      by_cases hf : (fs[0]?.bind id).isSome = true
      · rw [if_pos hf]
        show wpAny _ _ (oneLt' false x y) _ _ _
        exact oneLt_alike (fun z => nomatch z) ra rb hdd (hn d hd) hr hq
      · rw [if_neg hf, keyLt'_oneType]
        obtain ⟨r1, rfl⟩ := ht d hd
        obtain ⟨r2, rfl⟩ := ht d' hd'
        exact oneLtTup ra rb (by simpa [alike] using hdd) hr hq
theorem sortedAlike {β : Type} {vs : List Value} {bs : List β} {enc : β → PyData} {R : Value → β → Prop} {E : Value → Shared → Prop} {l : Addr} {Q : Value → Shared → Prop} (hl : s.heap.IsList l vs.toArray) (e : EachIs R vs bs) (er : EachIs (fun v b => ∃ as, Reads s.heap v (enc b) as) vs bs) (hal : AllAlike (bs.map enc))
    (hn : ∀ b, b ∈ bs → enc b ≠ .none) (hL : bs.length ≤ sizeLine) (hu : ∀ b, b ∈ bs → A.units + 2 + (enc b).depth < cLine)
    (h : ∀ out, out.length = bs.length → EachIs R out (bs.mergeSort (dataLe false enc)) → Q (.ref (s.heap.objs.size + 1)) { s with heap := sortedAll s.heap vs (List.toArray out) }) :
    wpAny (model prog w) A (call (.builtin "sorted") [.ref l]) Q E s := by
  have er' : EachIs (fun v b => ∃ as, Reads (sortingHeap (copyHeap s.heap vs) (s.heap.objs.size + 1) vs) v (enc b) as) vs bs := er.mono fun _ _ ⟨as, r⟩ => ⟨as, PyProof.Rows.Reads.keeps (fun _ _ => sorting_copy_old) r⟩
  refine sorted_vals hl (sortsAll (s := { s with heap := sortingHeap (copyHeap s.heap vs) (s.heap.objs.size + 1) vs }) (each_map (R := fun v d => ∃ as, Reads (sortingHeap (copyHeap s.heap vs) (s.heap.objs.size + 1) vs) v d as) enc er') hal (fun d hd => ?_) (bound_map hu)) (by rw [e.length]; exact hL)
    (h _ (by rw [sortVals_length false rfl]; exact e.length) (sortVals_data false e er' hal))
  obtain ⟨b, hb, rfl⟩ := List.mem_map.mp hd
  exact hn b hb
end
end Bp

/-! built-in functions over arguments that are read -/
namespace Bp
open PySem PySem.Spec PyProof.Rows L2

/-! ### sorted -/
def leD (a b : D) : Bool := PySem.W.dataLe false toP a b
def sortCk (xs : List D) : Bool := fzs xs && (xs.all fun a => xs.all fun b => PySem.W.alike (toP a) (toP b)) && (xs.all fun a => okP a && !isNon a) && decide (xs.length ≤ sizeLine)
def sortL (xs : List D) : Option D := if sortCk xs then some (.lst true (xs.mergeSort leD)) else none

section
variable {k : Kx} {Z : Zs} {H : Hp} {X : Cx}
open PySem.W in
theorem each_pairs : ∀ {ds : List D} {vs : List V} {us : List Value}, ds.length = vs.length → Vals vs us → EachIs (fun u (p : D × V) => RelV p.2 u) us (ds.zip vs)
  | [], [], _, _, .nil => .nil
  | _ :: _, _ :: _, _, h, .cons r t => .cons r (each_pairs (by simpa using h) t)
open PySem.W in
theorem vals_back : ∀ {us : List Value} {ps : List (D × V)}, EachIs (fun u (p : D × V) => RelV p.2 u) us ps → Vals (ps.map (·.2)) us
  | _, _, .nil => .nil
  | _, _, .cons r t => .cons r (vals_back t)
theorem reps_mem : ∀ {ds : List D} {vs : List V} {os : List Addr}, Reps k Z H ds vs os → ∀ p ∈ ds.zip vs, ∃ o, Rep k Z H p.1 p.2 o ∧ ∀ a ∈ o, a ∈ os
  | _, _, _, .nil, p, h => by simp at h
  | _, _, _, .cons r t, p, h => by
    rw [List.zip_cons_cons] at h
    rcases List.mem_cons.mp h with e | h
    · subst e
      exact ⟨_, r, fun a q => List.mem_append_left _ q⟩
    · obtain ⟨o, a, b⟩ := reps_mem t p h
      exact ⟨o, a, fun x q => List.mem_append_right _ (b x q)⟩
theorem reps_zip {ds : List D} {vs : List V} (r : Reps k Z H ds vs []) (p : D × V) (h : p ∈ ds.zip vs) : Rep k Z H p.1 p.2 [] := by
  obtain ⟨o, a, b⟩ := reps_mem r p h
  cases o with
  | nil => exact a
  | cons x o => exact absurd (b x List.mem_cons_self) (by simp)
theorem reps_of : ∀ {ps : List (D × V)}, (∀ p ∈ ps, Rep k Z H p.1 p.2 []) → Reps k Z H (ps.map (·.1)) (ps.map (·.2)) []
  | [], _ => .nil
  | p :: ps, h => .cons (o1 := []) (o2 := []) (h p List.mem_cons_self) (reps_of fun q hq => h q (List.mem_cons_of_mem _ hq))
open PySem.W in
theorem each_reads {pins : List (Addr × Obj)} {σ : L2.St} {s : Shared} (hk : k.K = X.K) (I : Inv X pins σ H s) : ∀ {us : List Value} {ps : List (D × V)}, EachIs (fun u (p : D × V) => RelV p.2 u) us ps → (∀ p ∈ ps, Rep k Z H p.1 p.2 []) → (∀ p ∈ ps, okP p.1 = true) →
    EachIs (fun u (p : D × V) => ∃ as, Reads s.heap u (toP p.1) as) us ps
  | _, _, .nil, _, _ => .nil
  | _, _, .cons (b := p) r t, h, o => .cons (Dp.reads I _ _ _ (by rw [← hk]; exact RW.dp ⟨[], h p List.mem_cons_self⟩ (o p List.mem_cons_self)) r) (each_reads hk I t (fun q hq => h q (List.mem_cons_of_mem _ hq)) fun q hq => o q (List.mem_cons_of_mem _ hq))

theorem sortCk_of {xs : List D} (h : sortCk xs = true) : fzs xs = true ∧ (∀ a ∈ xs, ∀ b ∈ xs, PySem.W.alike (toP a) (toP b) = true) ∧ (∀ a ∈ xs, okP a = true ∧ isNon a = false) ∧ xs.length ≤ sizeLine := by
  simp only [sortCk, Bool.and_eq_true, List.all_eq_true, Bool.not_eq_true', decide_eq_true_eq] at h
  exact ⟨h.1.1.1, h.1.1.2, h.1.2, h.2⟩
theorem zip_fst : ∀ {ds : List D} {vs : List V}, ds.length = vs.length → (ds.zip vs).map (·.1) = ds
  | [], [], _ => rfl
  | _ :: _, _ :: _, h => by rw [List.zip_cons_cons, List.map_cons, zip_fst (by simpa using h)]
theorem mem_zip_fst {ds : List D} {vs : List V} {p : D × V} (h : p ∈ ds.zip vs) : p.1 ∈ ds := (List.of_mem_zip h).1
/-- what a sort leaves -/
theorem sort_end {ds : List D} {vs : List V} {out : List Value} {Q : VK} (r : Reps k Z H ds vs []) (hl : ds.length = vs.length)
    (e : PySem.W.EachIs (fun u (p : D × V) => RelV p.2 u) out ((ds.zip vs).mergeSort (PySem.W.dataLe false fun p => toP p.1))) (q : resOk k Z H (.lst true (ds.mergeSort leD)) Q) (f : fzs ds = true) :
    ∃ ws, Vals ws out ∧ ∀ p, H p = none → Q (.ref p) (upd H p (.lst ws)) := by
  refine ⟨_, vals_back e, fun p hp => ?_⟩
  have h1 : Reps k Z H (((ds.zip vs).mergeSort (PySem.W.dataLe false fun p => toP p.1)).map (·.1)) (((ds.zip vs).mergeSort (PySem.W.dataLe false fun p => toP p.1)).map (·.2)) [] :=
    reps_of fun p hp => reps_zip r p ((List.mergeSort_perm _ _).mem_iff.mp hp)
  have h2 : ((ds.zip vs).mergeSort (PySem.W.dataLe false fun p => toP p.1)).map (·.1) = ds.mergeSort leD := by
    rw [List.map_mergeSort (r := PySem.W.dataLe false fun p : D × V => toP p.1) (s := leD) (f := (·.1)) (fun a _ b _ => rfl), zip_fst hl]
  rw [h2] at h1
  refine q.lst h1 ?_ hp
  have : ∀ xs : List D, (∀ x ∈ xs, x.fz = true) → fzs xs = true := fun xs => by
    induction xs with
    | nil => intro _; rfl
    | cons x xs ih => intro h; simp only [fzs, Bool.and_eq_true]; exact ⟨h x List.mem_cons_self, ih fun y hy => h y (List.mem_cons_of_mem _ hy)⟩
  have all : ∀ xs : List D, fzs xs = true → ∀ x ∈ xs, x.fz = true := fun xs => by
    induction xs with
    | nil => intro _ x hx; cases hx
    | cons x xs ih =>
      intro h y hy
      simp only [fzs, Bool.and_eq_true] at h
      rcases List.mem_cons.mp hy with e | hy
      · rw [e]; exact h.1
      · exact ih h.2 y hy
  exact this _ fun x hx => all _ f x ((List.mergeSort_perm _ _).mem_iff.mp hx)
theorem room_srt {A : Around} (hu : A.units + 80 < cLine) {d : D} (h : okP d = true) : A.units + 2 + (toP d).depth < cLine := by
  have := SeqAt.depth_of_shaped h
  omega
/-- sorted(list) -/
theorem call_sortedL (hk : k.K = X.K) (hu : X.A.units + 80 < cLine) : CallR X (.builtin "sorted") (fun xs H Q => ∃ Z a ds vs, xs = [.ref a] ∧ SqL X.K H a vs ∧ Reps k Z H ds vs [] ∧ sortCk ds = true ∧ resOk k Z H (.lst true (ds.mergeSort leD)) Q) := by
  intro pins s σ H xs us Q I rv h
  obtain ⟨Z, a, ds, vs, rfl, hs, r, ck, q⟩ := h
  obtain ⟨c1, c2, c3, c4⟩ := sortCk_of ck
  obtain ⟨its, rits, pl, hz⟩ := I.list hs
  rw [Vals.ref1 rv]
  have e0 := each_pairs r.len rits
  have hm : ∀ p ∈ ds.zip vs, p.1 ∈ ds := fun p hp => mem_zip_fst hp
  have hlen : (ds.zip vs).length = ds.length := by rw [List.length_zip, ← r.len, Nat.min_self]
  refine sortedAlike (enc := fun p => toP p.1) pl.isList e0 (each_reads hk I e0 (fun p hp => reps_zip r p hp) fun p hp => (c3 _ (hm p hp)).1) (fun d hd d' hd' => ?_) (fun p hp e => ?_) (by rw [hlen]; exact c4) (fun p hp => room_srt hu (c3 _ (hm p hp)).1) fun out hol he => ?_
  · obtain ⟨p, hp, rfl⟩ := List.mem_map.mp hd
    obtain ⟨p', hp', rfl⟩ := List.mem_map.mp hd'
    exact c2 _ (hm p hp) _ (hm p' hp')
  · have z := (c3 _ (hm p hp)).2
    cases hd : p.1 <;> rw [hd] at e z <;> simp [toP, isNon] at e z
  · obtain ⟨ws, hv, hq⟩ := sort_end r r.len he q c1
    obtain ⟨ep, he'⟩ := PyProof.Rows.sortedAll_at s.heap its out.toArray
    refine ⟨.ref _, upd H (s.heap.objs.size + 1) (.lst ws), I.laid (t' := s.toks) (fun _ _ => PyProof.Rows.sortedAll_old) (Nat.le_succ _) ⟨?_, out, ep, hv, he'⟩, rfl, hq _ (I.hok.fresh (Nat.le_succ _))⟩
    rw [hv.length, hol, hlen]; exact c4
/-- sorted(what is gone through once) -/
theorem sorted_src {pins : List (Addr × Obj)} {σ : L2.St} {s : Shared} {T : String} {a d : Addr} {n : Nat} {P : Nat → Value → Prop} {OK : Heap → Prop} {Q : VK} {ds : List D} {vs : List V} (hk : k.K = X.K) (hu : X.A.units + 80 < cLine) (hc : X.calm = true) (I : Inv X pins σ H s)
    (src : PySem.W.KdlSrc X.prog X.w T a d n P OK) (ok : OK s.heap) (hn : n ≤ sizeLine) (r : Reps k Z H ds vs []) (ck : sortCk ds = true) (hv : ∀ acc : Array Value, ItemsOf P acc n → Vals vs acc.toList) (q : resOk k Z H (.lst true (ds.mergeSort leD)) Q) :
    wpAny (model X.prog X.w) X.A (call (.builtin "sorted") [.ref a]) (EP X pins σ Q) X.xe s := by
  obtain ⟨c1, c2, c3, c4⟩ := sortCk_of ck
  have hm : ∀ p ∈ ds.zip vs, p.1 ∈ ds := fun p hp => mem_zip_fst hp
  have hlen : (ds.zip vs).length = ds.length := by rw [List.length_zip, ← r.len, Nat.min_self]
  refine Calls.call_function_entry PyProof.Rows.kind_sorted PyProof.Rows.plain_sorted PyProof.Rows.entry_sorted (PyProof.Rows.args_sorted1 _) ?_
  unfold Builtin.«sorted»
  refine wpAny_bind (m := checkCount "sorted" 1 1 _) (wpAny_pure ?_)
  refine wpAny_bind (PySem.W.kdu_collect (A := X.A.in1) src (I.ok.hd hc) ok hn fun h' tk acc hkp hacc => ?_)
  have hvs := hv acc hacc
  have I1 : Inv X pins σ H { s with heap := h', toks := tk } := I.kept hkp
  have hal : acc.toList.length = ds.length := by rw [← hvs.length, ← r.len]
  refine wpAny_bind (wpAny_newList ?_ (by rw [hal]; exact c4))
  have hoL : (h'.push (seqObj "list" acc.toList.toArray 0)).get? h'.objs.size = some (seqObj "list" acc.toList.toArray 0) := Heap.get?_push_size _ rfl
  have I2 : Inv X pins σ H { s with heap := h'.push (seqObj "list" acc.toList.toArray 0), toks := tk } := I1.kept fun b o e => Heap.get?_push_of_some _ e
  have keepS : ∀ b o, h'.get? b = some o → (PySem.W.sortingHeap (h'.push (seqObj "list" acc.toList.toArray 0)) h'.objs.size acc.toList).get? b = some o := fun b o e =>
    PySem.W.sortingHeap_old (Nat.ne_of_lt (Heap.lt_size e)) (Heap.get?_push_of_some _ e)
  have e0 := each_pairs r.len hvs
  have er := each_reads hk I1 e0 (fun p hp => reps_zip r p hp) fun p hp => (c3 _ (hm p hp)).1
  have er2 : PySem.W.EachIs (fun u (p : D × V) => ∃ as, Reads (PySem.W.sortingHeap (h'.push (seqObj "list" acc.toList.toArray 0)) h'.objs.size acc.toList) u (toP p.1) as) acc.toList (ds.zip vs) := er.mono fun _ _ ⟨as, z⟩ => ⟨as, PyProof.Rows.Reads.keeps keepS z⟩
  have S := sortsAll (prog := X.prog) (w := X.w) (A := X.A.in1.in1) (s := { s with heap := PySem.W.sortingHeap (h'.push (seqObj "list" acc.toList.toArray 0)) h'.objs.size acc.toList, toks := tk }) (PySem.W.each_map (R := fun v d => ∃ as, Reads (PySem.W.sortingHeap (h'.push (seqObj "list" acc.toList.toArray 0)) h'.objs.size acc.toList) v d as) (fun p : D × V => toP p.1) er2)
    (fun d hd d' hd' => by
      obtain ⟨p, hp, rfl⟩ := List.mem_map.mp hd
      obtain ⟨p', hp', rfl⟩ := List.mem_map.mp hd'
      exact c2 _ (hm p hp) _ (hm p' hp'))
    (fun d hd e => by
      obtain ⟨p, hp, rfl⟩ := List.mem_map.mp hd
      have z := (c3 _ (hm p hp)).2
      cases hd : p.1 <;> rw [hd] at e z <;> simp [toP, isNon] at e z)
    (fun d hd => by
      obtain ⟨p, hp, rfl⟩ := List.mem_map.mp hd
      exact room_srt hu (c3 _ (hm p hp)).1)
  show wpAny _ _ _ _ _ { s with heap := h'.push (seqObj "list" acc.toList.toArray 0), toks := tk }
  refine wpAny_bind (wpAny_holding (wpAny_call_entry PyProof.Rows.slot_list_sort ⟨_, hoL, rfl⟩ PyProof.Rows.entry_list_sort
    (PySem.W.list_sort_vals (s := { s with heap := h'.push (seqObj "list" acc.toList.toArray 0), toks := tk }) hoL S (by rw [hal]; exact c4) ⟨_, rfl, ?_⟩) (PyProof.Rows.args_list_sort _)))
  have he := PySem.W.sortVals_data (h' := PySem.W.sortingHeap (h'.push (seqObj "list" acc.toList.toArray 0)) h'.objs.size acc.toList) (enc := fun p : D × V => toP p.1) false e0 er2 (fun d hd d' hd' => by
      obtain ⟨p, hp, rfl⟩ := List.mem_map.mp hd
      obtain ⟨p', hp', rfl⟩ := List.mem_map.mp hd'
      exact c2 _ (hm p hp) _ (hm p' hp'))
  have hol := he.length
  obtain ⟨ws, hw, hq⟩ := sort_end r r.len he q c1
  obtain ⟨e', he'⟩ := PyProof.Rows.sortedHeap_at (vs := acc.toList) (out := (PySem.W.sortVals (PySem.W.dataKind (PySem.W.sortingHeap (h'.push (seqObj "list" acc.toList.toArray 0)) h'.objs.size acc.toList) ((ds.zip vs).map fun p : D × V => toP p.1)) false acc.toList acc.toList).toArray) hoL
  refine wpAny_pure ⟨_, rfl, .ref h'.objs.size, upd H h'.objs.size (.lst ws), I1.laid (t' := tk) (fun b u e => ?_) (Nat.le_refl _)
    (show ObjOk X.prog X.w _ _ _ (.lst ws) from ⟨?_, _, e', hw, he'⟩), rfl, hq _ (I1.hok.fresh (Nat.le_refl _))⟩
  · have hb : b < h'.objs.size := Heap.lt_size e
    show (PyProof.Rows.sortedHeap _ _ _ _).get? b = _
    rw [PyProof.Rows.sortedHeap_old (Nat.ne_of_lt hb) (by rw [size_push']; exact Nat.lt_succ_of_lt hb)]
    exact Heap.get?_push_of_some _ e
  · rw [hw.length, hol, List.length_mergeSort, hlen]; exact c4
end
end Bp

/-! the built-in functions -/
namespace Bp
open PySem PySem.Spec PyProof.Rows L2

inductive Bf where
  | len | abs | int | lst | tup | sorted | all | any | sum | maxL | minL | max2 | min2
  deriving DecidableEq
def intsOf : List D → Option (List Int)
  | [] => some []
  | d :: ds => match asInt d with
    | some i => match intsOf ds with
      | some is => some (i :: is)
      | none => none
    | none => none
def asBl : D → Option Bool
  | .bl b => some b
  | _ => none
def blsOf : List D → Option (List Bool)
  | [] => some []
  | d :: ds => match asBl d with
    | some i => match blsOf ds with
      | some is => some (i :: is)
      | none => none
    | none => none
def keysD (ks : List Key) : List D := ks.map kD
def keysT (ks : List (List Key)) : List D := ks.map fun k => .tup (k.map kD)
/-- the items of a list -/
def seqD : D → Option (List D)
  | .lst _ xs => some xs
  | .scr xs => some xs
  | _ => none
/-- what is gone through -/
def itemsD : D → Option (List D)
  | .lst _ xs => some xs
  | .scr xs => some xs
  | .tup xs => some xs
  | .dk _ ks _ => some (keysD ks)
  | .dt _ ks _ => some (keysT ks)
  | _ => none
def lenD : D → Option Nat
  | .lst _ xs => some xs.length
  | .scr xs => some xs.length
  | .tup xs => some xs.length
  | .dk _ ks _ => some ks.length
  | .dt _ ks _ => some ks.length
  | .str x => if x.length ≤ sizeLine then some x.length else none
  | _ => none
def lstD (d : D) : Option D := match itemsD d with
  | some xs => if fzs xs then some (.lst true xs) else none
  | none => none
def tupD (d : D) : Option D := match d with
  | .lst _ xs => if fzs xs then some (.tup xs) else none
  | .scr xs => if fzs xs then some (.tup xs) else none
  | .tup xs => if fzs xs then some (.tup xs) else none
  | _ => none
def sortedD (d : D) : Option D := match d with
  | .lst _ xs => sortL xs
  | .scr xs => sortL xs
  | .dk _ ks _ => sortL (keysD ks)
  | .dt _ ks _ => sortL (keysT ks)
  | _ => none
def maxI : List Int → Option Int
  | [] => none
  | x :: xs => some (xs.foldl (fun a b => if a < b then b else a) x)
def minI : List Int → Option Int
  | [] => none
  | x :: xs => some (xs.foldl (fun a b => if b < a then b else a) x)
def one (f : D → Option D) : List D → Option D
  | [d] => f d
  | _ => none
def overI (f : List Int → Option D) (d : D) : Option D := match seqD d with
  | some xs => match intsOf xs with
    | some is => f is
    | none => none
  | none => none
def overB (f : List Bool → Option D) (d : D) : Option D := match seqD d with
  | some xs => match blsOf xs with
    | some is => f is
    | none => none
  | none => none
def absD : D → Option D
  | .int i => some (.int (if i < 0 then -i else i))
  | _ => none
def intD : D → Option D
  | .int i => some (.int i)
  | .bl b => some (.int (if b then 1 else 0))
  | _ => none
def semB (b : Bf) (ds : List D) : Option D := match b with
  | .len => one (fun d => (lenD d).map fun n : Nat => D.int ((n : Nat) : Int)) ds
  | .abs => one absD ds
  | .int => one intD ds
  | .lst => one lstD ds
  | .tup => one tupD ds
  | .sorted => one sortedD ds
  | .all => one (overB fun bs => some (.bl (bs.all id))) ds
  | .any => one (overB fun bs => some (.bl (bs.any id))) ds
  | .sum => one (overI fun is => some (.int is.sum)) ds
  | .maxL => one (overI fun is => (maxI is).map .int) ds
  | .minL => one (overI fun is => (minI is).map .int) ds
  | .max2 => sem2L (fun a b => iO a b fun i j => some (.int (if j > i then j else i))) ds
  | .min2 => sem2L (fun a b => iO a b fun i j => some (.int (if j < i then j else i))) ds
/-- its name, and what the name means -/
def Bf.nm : Bf → Str
  | .len => "len" | .abs => "abs" | .int => "int" | .lst => "list" | .tup => "tuple" | .sorted => "sorted" | .all => "all" | .any => "any" | .sum => "sum"
  | .maxL => "max" | .minL => "min" | .max2 => "max" | .min2 => "min"
def Bf.val : Bf → Value
  | .len => .builtin "len" | .abs => .builtin "abs" | .int => .type "int" | .lst => .type "list" | .tup => .type "tuple" | .sorted => .builtin "sorted" | .all => .builtin "all" | .any => .builtin "any"
  | .sum => .builtin "sum" | .maxL => .builtin "max" | .minL => .builtin "min" | .max2 => .builtin "max" | .min2 => .builtin "min"

section
variable {k : Kx} {Z : Zs} {H : Hp} {X : Cx}
theorem intsOf_rep : ∀ {ds : List D} {vs : List V} {os : List Addr} {is : List Int}, Reps k Z H ds vs os → intsOf ds = some is → vs = is.map V.int
  | _, _, _, _, .nil, h => by cases h; rfl
  | _, _, _, _, .cons (d := d) (ds := ds) r t, h => by
    unfold intsOf at h
    split at h
    · rename_i i q
      split at h
      · rename_i js q2
        cases h
        rw [asInt_rep r q, intsOf_rep t q2]; rfl
      · cases h
    · cases h
theorem asBl_rep {d : D} {v : V} {os : List Addr} {b : Bool} (r : Rep k Z H d v os) (h : asBl d = some b) : v = .bl b := by
  cases r with
  | bl c => cases h; rfl
  | _ => cases h
theorem blsOf_rep : ∀ {ds : List D} {vs : List V} {os : List Addr} {is : List Bool}, Reps k Z H ds vs os → blsOf ds = some is → vs = is.map V.bl
  | _, _, _, _, .nil, h => by cases h; rfl
  | _, _, _, _, .cons (d := d) (ds := ds) r t, h => by
    unfold blsOf at h
    split at h
    · rename_i i q
      split at h
      · rename_i js q2
        cases h
        rw [asBl_rep r q, blsOf_rep t q2]; rfl
      · cases h
    · cases h
theorem RW.seq {d : D} {v : V} {xs : List D} (r : RW k Z H d v) (h : seqD d = some xs) : ∃ a vs os, v = .ref a ∧ SqL k.K H a vs ∧ Reps k Z H xs vs os := by
  unfold seqD at h
  split at h
  · cases h
    obtain ⟨a, vs, os, e, h1, h2⟩ := r.lst
    exact ⟨a, vs, os, e, SqL.of h1, h2⟩
  · cases h
    obtain ⟨a, vs, e, h1, h2⟩ := r.scr
    exact ⟨a, vs, [], e, h1, h2⟩
  · cases h
theorem rws1 {ds : List D} {vs : List V} {f : D → Option D} {d : D} (r : RWs k Z H ds vs) (h : one f ds = some d) : ∃ x v, ds = [x] ∧ vs = [v] ∧ RW k Z H x v ∧ f x = some d := by
  match ds, vs, r, h with
  | [x], [v], r, h => exact ⟨x, v, rfl, rfl, r.1, h⟩
  | [], _, _, h => cases h
  | [_], [], r, _ => exact (show False from r).elim
  | [_], _ :: _ :: _, r, _ => exact (show False from r.2).elim
  | _ :: _ :: _, _, _, h => cases h
theorem rws2 {ds : List D} {vs : List V} {f : D → D → Option D} {d : D} (r : RWs k Z H ds vs) (h : sem2L f ds = some d) : ∃ x y v u, ds = [x, y] ∧ vs = [v, u] ∧ RW k Z H x v ∧ RW k Z H y u ∧ f x y = some d := by
  match ds, vs, r, h with
  | [x, y], [v, u], r, h => exact ⟨x, y, v, u, rfl, rfl, r.1, r.2.1, h⟩
  | [], _, _, h => cases h
  | [_], _, _, h => cases h
  | _ :: _ :: _ :: _, _, _, h => cases h
  | [_, _], [], r, _ => exact (show False from r).elim
  | [_, _], [_], r, _ => exact (show False from r.2).elim
  | [_, _], _ :: _ :: _ :: _, r, _ => exact (show False from r.2.2).elim
theorem overI_some {f : List Int → Option D} {x d : D} (h : overI f x = some d) : ∃ xs is, seqD x = some xs ∧ intsOf xs = some is ∧ f is = some d := by
  unfold overI at h
  split at h
  · split at h
    · exact ⟨_, _, by assumption, by assumption, h⟩
    · cases h
  · cases h
theorem overB_some {f : List Bool → Option D} {x d : D} (h : overB f x = some d) : ∃ xs is, seqD x = some xs ∧ blsOf xs = some is ∧ f is = some d := by
  unfold overB at h
  split at h
  · split at h
    · exact ⟨_, _, by assumption, by assumption, h⟩
    · cases h
  · cases h
theorem maxI_is : ∀ (xs : List Int) (x : Int), (∀ y, y = x ∨ y ∈ xs → y ≤ xs.foldl (fun a b => if a < b then b else a) x) ∧ (xs.foldl (fun a b => if a < b then b else a) x = x ∨ xs.foldl (fun a b => if a < b then b else a) x ∈ xs)
  | [], x => ⟨fun y h => h.elim (fun h => by rw [h]; exact Int.le_refl _) (fun h => nomatch h), .inl rfl⟩
  | z :: xs, x => by
    obtain ⟨ih1, ih2⟩ := maxI_is xs (if x < z then z else x)
    have hx : x ≤ (if x < z then z else x) ∧ z ≤ (if x < z then z else x) ∧ ((if x < z then z else x) = x ∨ (if x < z then z else x) = z) := by split <;> omega
    rw [List.foldl_cons]
    generalize (if x < z then z else x) = m at ih1 ih2 hx ⊢
    have b := ih1 m (.inl rfl)
    refine ⟨fun y h => ?_, ?_⟩
    · rcases h with h | h
      · rw [h]; omega
      · rcases List.mem_cons.mp h with h | h
        · rw [h]; omega
        · exact ih1 y (.inr h)
    · rcases ih2 with h | h
      · rw [h]
        rcases hx.2.2 with e | e
        · exact .inl e
        · rw [e]; exact .inr List.mem_cons_self
      · exact .inr (List.mem_cons_of_mem _ h)
theorem minI_is : ∀ (xs : List Int) (x : Int), (∀ y, y = x ∨ y ∈ xs → xs.foldl (fun a b => if b < a then b else a) x ≤ y) ∧ (xs.foldl (fun a b => if b < a then b else a) x = x ∨ xs.foldl (fun a b => if b < a then b else a) x ∈ xs)
  | [], x => ⟨fun y h => h.elim (fun h => by rw [h]; exact Int.le_refl _) (fun h => nomatch h), .inl rfl⟩
  | z :: xs, x => by
    obtain ⟨ih1, ih2⟩ := minI_is xs (if z < x then z else x)
    have hx : (if z < x then z else x) ≤ x ∧ (if z < x then z else x) ≤ z ∧ ((if z < x then z else x) = x ∨ (if z < x then z else x) = z) := by split <;> omega
    rw [List.foldl_cons]
    generalize (if z < x then z else x) = m at ih1 ih2 hx ⊢
    have b := ih1 m (.inl rfl)
    refine ⟨fun y h => ?_, ?_⟩
    · rcases h with h | h
      · rw [h]; omega
      · rcases List.mem_cons.mp h with h | h
        · rw [h]; omega
        · exact ih1 y (.inr h)
    · rcases ih2 with h | h
      · rw [h]
        rcases hx.2.2 with e | e
        · exact .inl e
        · rw [e]; exact .inr List.mem_cons_self
      · exact .inr (List.mem_cons_of_mem _ h)
theorem reps_keys : ∀ ks : List Key, Reps k Z H (ks.map kD) (ks.map kV) []
  | [] => .nil
  | .inl i :: ks => .cons (o1 := []) (o2 := []) (.int i) (reps_keys ks)
  | .inr x :: ks => .cons (o1 := []) (o2 := []) (.str x) (reps_keys ks)
theorem reps_keysT : ∀ {kvs : List (List Key × V)} {bs : List Addr}, IsKeys H kvs bs → Reps k Z H (keysT (kvs.map (·.1))) (bs.map V.ref) []
  | _, _, .nil => .nil
  | _, _, .cons h t => .cons (o1 := []) (o2 := []) (.tup h (reps_keys _)) (reps_keysT t)
theorem fzs_keys : ∀ ks : List Key, fzs (ks.map kD) = true
  | [] => rfl
  | .inl i :: ks => by simp [fzs, kD, D.fz, fzs_keys ks]
  | .inr x :: ks => by simp [fzs, kD, D.fz, fzs_keys ks]

/-! the length -/
theorem call_lenT : CallR X (.builtin "len") (fun xs H Q => ∃ (a : Addr) (kvs : List (List Key × V)), xs = [.ref a] ∧ Rd H a (.dT kvs) ∧ Q (.int (kvs.length : Nat)) H) := by
  intro pins s σ H xs us Q I r h
  obtain ⟨a, kvs, rfl, ha, q⟩ := h
  obtain ⟨u, rfl, ru⟩ := vals1 r
  obtain rfl : u = .ref a := ru
  obtain ⟨z, hd, ys, rel, dd⟩ := dt_rd I.hok ha
  have hl : kvs.length = ys.length := Paired.length rel
  refine call_len_dictH hd dd (by rw [← hl]; rw [sizeLine_eq] at z; omega) ?_
  rw [← hl]
  exact ⟨.int (kvs.length : Nat), H, I.tok _, ⟨_, rfl⟩, q⟩
theorem call_lenK : CallR X (.builtin "len") (fun xs H Q => ∃ (a : Addr) (kvs : List (Key × V)), xs = [.ref a] ∧ Rd H a (.dK kvs) ∧ Q (.int (kvs.length : Nat)) H) := by
  intro pins s σ H xs us Q I r h
  obtain ⟨a, kvs, rfl, ha, q⟩ := h
  obtain ⟨u, rfl, ru⟩ := vals1 r
  obtain rfl : u = .ref a := ru
  exact d_len I ha fun t s' I' => ⟨.int (kvs.length : Nat), H, I', ⟨t, rfl⟩, q⟩
theorem bf_len (hk : k.K = X.K) : CallR X (.builtin "len") (rSem k (semB .len)) := by
  refine CallR.imp ((call_len_seq (X := X)).or (call_len_str.or (call_lenK.or call_lenT))) fun vs H Q ⟨Z, ds, d, rw', hs, q⟩ => ?_
  obtain ⟨x, v, rfl, rfl, r, hx⟩ := rws1 rw' hs
  obtain ⟨n, hn, rfl⟩ := Option.map_eq_some_iff.mp hx
  replace q := q.int
  cases x with
  | lst o xs =>
    cases hn
    obtain ⟨a, vs, os, rfl, h1, h2⟩ := r.lst
    exact .inl ⟨a, vs, rfl, .inl (SqL.of h1), by rw [← h2.len]; exact q⟩
  | scr xs =>
    cases hn
    obtain ⟨a, vs, rfl, h1, h2⟩ := r.scr
    exact .inl ⟨a, vs, rfl, .inl (by rw [← hk]; exact h1), by rw [← h2.len]; exact q⟩
  | tup xs =>
    cases hn
    obtain ⟨a, vs, os, rfl, h1, h2⟩ := r.tup
    exact .inl ⟨a, vs, rfl, .inr (SqT.of h1), by rw [← h2.len]; exact q⟩
  | str z =>
    have hn' : (if z.length ≤ sizeLine then some (z.length : Nat) else none) = some n := hn
    split at hn'
    · rename_i hz
      cases hn'
      cases r.str
      exact .inr (.inl ⟨z, rfl, hz, q⟩)
    · cases hn'
  | dk o ks xs =>
    cases hn
    obtain ⟨a, kvs, os, rfl, h1, e, h2⟩ := r.dk
    exact .inr (.inr (.inl ⟨a, kvs, rfl, h1, by rw [← e, List.length_map] at q; exact q⟩))
  | dt o ks xs =>
    cases hn
    obtain ⟨a, kvs, os, rfl, h1, e, h2⟩ := r.dt
    exact .inr (.inr (.inr ⟨a, kvs, rfl, h1, by rw [← e, List.length_map] at q; exact q⟩))
  | _ => cases hn
theorem bf_abs : CallR X (.builtin "abs") (rSem k (semB .abs)) := by
  refine CallR.imp call_abs fun vs H Q ⟨Z, ds, d, rw', hs, q⟩ => ?_
  obtain ⟨x, v, rfl, rfl, r, hx⟩ := rws1 rw' hs
  cases x with
  | int i => cases hx; cases r.int; exact ⟨i, rfl, q.int⟩
  | _ => cases hx
theorem bf_int : CallR X (.type "int") (rSem k (semB .int)) := by
  refine CallR.imp call_int1 fun vs H Q ⟨Z, ds, d, rw', hs, q⟩ => ?_
  obtain ⟨x, v, rfl, rfl, r, hx⟩ := rws1 rw' hs
  cases x with
  | int i => cases hx; cases r.int; exact .inl ⟨i, rfl, q.int⟩
  | bl b => cases hx; cases r.bl; exact .inr ⟨b, rfl, q.int⟩
  | _ => cases hx
theorem lstD_some {d x : D} (h : lstD x = some d) : ∃ xs, itemsD x = some xs ∧ fzs xs = true ∧ d = .lst true xs := by
  unfold lstD at h
  split at h
  · split at h
    · cases h
      exact ⟨_, by assumption, by assumption, rfl⟩
    · cases h
  · cases h
theorem call_listK (hc : X.calm = true) : CallR X (.type "list") (fun xs H Q => ∃ p kvs, xs = [.ref p] ∧ Rd H p (.dK kvs) ∧ ∀ q, H q = none → Q (.ref q) (upd H q (.lst (kvs.map fun kv => kV kv.1)))) := by
  intro pins s σ H xs us Q I r h
  obtain ⟨p, kvs, e, hp, q⟩ := h
  subst e
  obtain ⟨u, eu, rx⟩ := vals1 r
  subst eu
  obtain rfl : u = Value.ref p := rx
  obtain ⟨z, lo, vs, rk, hd⟩ := dk_rd I.hok hp
  obtain ⟨ep, hat⟩ := hd.dictAt
  have hl : kvs.length = vs.length := Paired.length rk
  refine PySem.W.kdl_call (PySem.W.kdl_dict (knd := mixKind X.prog X.w) (kvs := vs) (ep := ep) lo) (I.ok.hd hc) hat (by rw [← hl]; exact z) fun h' tk acc' c' hkeep hS hacc => ?_
  refine ⟨.ref s.heap.objs.size, upd H s.heap.objs.size (.lst (kvs.map fun kv => kV kv.1)), I.laid hkeep (Nat.le_refl _) (show ObjOk X.prog X.w _ _ _ (.lst (kvs.map fun kv => kV kv.1)) from ⟨by rw [List.length_map]; exact z, acc'.toList, c', ?_, by rw [Array.toArray_toList]; exact hS⟩), rfl, q _ (I.hok.fresh (Nat.le_refl _))⟩
  have hsz : acc'.toList.length = vs.length := (Array.length_toList (xs := acc')).trans hacc.1
  refine vals_of_at (by rw [List.length_map, hsz, hl]) fun j x w h1 h2 => ?_
  obtain ⟨k, y, hky, hi⟩ := hacc.2 j w (by rw [← Array.getElem?_toList]; exact h2)
  have e1 : (kvs.map (·.1))[j]? = some k := by rw [KV.keys rk, List.getElem?_map, hky]; rfl
  have e3 : (kvs.map fun kv => kV kv.1) = (kvs.map (·.1)).map kV := by rw [List.map_map]; rfl
  rw [e3, List.getElem?_map, e1] at h1
  cases h1
  exact keyIs_rel hi
theorem bf_lst (hk : k.K = X.K) (hc : X.calm = true) : CallR X (.type "list") (rSem k (semB .lst)) := by
  refine CallR.imp ((call_list_of (X := X)).or ((call_listK hc).or (call_list_dT hc))) fun vs H Q ⟨Z, ds, d, rw', hs, q⟩ => ?_
  obtain ⟨x, v, rfl, rfl, r, hx⟩ := rws1 rw' hs
  obtain ⟨xs, h1, h2, rfl⟩ := lstD_some hx
  cases x with
  | lst o ys =>
    cases h1
    obtain ⟨a, vs, os, rfl, g1, g2⟩ := r.lst
    exact .inl ⟨a, vs, rfl, .inl (SqL.of g1), fun l hl => q.lst g2 h2 hl⟩
  | scr ys =>
    cases h1
    obtain ⟨a, vs, rfl, g1, g2⟩ := r.scr
    exact .inl ⟨a, vs, rfl, .inl (by rw [← hk]; exact g1), fun l hl => q.lst g2 h2 hl⟩
  | tup ys =>
    cases h1
    obtain ⟨a, vs, os, rfl, g1, g2⟩ := r.tup
    exact .inl ⟨a, vs, rfl, .inr (SqT.of g1), fun l hl => q.lst g2 h2 hl⟩
  | dk o ks ys =>
    cases h1
    obtain ⟨a, kvs, os, rfl, g1, e, g2⟩ := r.dk
    refine .inr (.inl ⟨a, kvs, rfl, g1, fun l hl => ?_⟩)
    have e3 : (kvs.map fun kv => kV kv.1) = ks.map kV := by rw [← e, List.map_map]; rfl
    rw [e3]
    exact q.lst (reps_keys ks) h2 hl
  | dt o ks ys =>
    cases h1
    obtain ⟨a, kvs, os, rfl, g1, e, g2⟩ := r.dt
    refine .inr (.inr ⟨a, kvs, rfl, g1, fun l bs hl hb => ?_⟩)
    have := reps_keysT (k := k) (Z := Z) hb
    rw [e] at this
    exact q.lst this h2 hl
  | _ => cases h1
theorem bf_tup (hk : k.K = X.K) : CallR X (.type "tuple") (rSem k (semB .tup)) := by
  refine CallR.imp (call_tuple_of (X := X)) fun vs H Q ⟨Z, ds, d, rw', hs, q⟩ => ?_
  obtain ⟨x, v, rfl, rfl, r, hx⟩ := rws1 rw' hs
  unfold tupD at hx
  split at hx
  · split at hx
    · cases hx
      obtain ⟨a, vs, os, rfl, g1, g2⟩ := r.lst
      exact ⟨a, vs, rfl, .inl ⟨SqL.of g1, fun l hl => q.tup g2 (by assumption) hl⟩⟩
    · cases hx
  · split at hx
    · cases hx
      obtain ⟨a, vs, rfl, g1, g2⟩ := r.scr
      exact ⟨a, vs, rfl, .inl ⟨by rw [← hk]; exact g1, fun l hl => q.tup g2 (by assumption) hl⟩⟩
    · cases hx
  · split at hx
    · cases hx
      obtain ⟨a, vs, os, rfl, g1, g2⟩ := r.tup
      refine ⟨a, vs, rfl, .inr ⟨SqT.of g1, ?_⟩⟩
      exact q.old (.tup g1 g2) (by simpa [D.fz] using by assumption)
    · cases hx
  · cases hx
theorem sortL_some {xs : List D} {d : D} (h : sortL xs = some d) : sortCk xs = true ∧ d = .lst true (xs.mergeSort leD) := by
  unfold sortL at h
  split at h
  · cases h
    exact ⟨by assumption, rfl⟩
  · cases h
theorem call_sortedK (hk : k.K = X.K) (hu : X.A.units + 80 < cLine) (hc : X.calm = true) : CallR X (.builtin "sorted") (fun xs H Q => ∃ Z a kvs, xs = [.ref a] ∧ Rd H a (.dK kvs) ∧ sortCk (keysD (kvs.map (·.1))) = true ∧ resOk k Z H (.lst true ((keysD (kvs.map (·.1))).mergeSort leD)) Q) := by
  intro pins s σ H xs us Q I r h
  obtain ⟨Z, p, kvs, e, hp, ck, q⟩ := h
  subst e
  obtain ⟨u, eu, rx⟩ := vals1 r
  subst eu
  obtain rfl : u = Value.ref p := rx
  obtain ⟨z, lo, vs, rk, hd⟩ := dk_rd I.hok hp
  obtain ⟨ep, hat⟩ := hd.dictAt
  have hl : kvs.length = vs.length := Paired.length rk
  refine sorted_src hk hu hc I (PySem.W.kdl_dict (knd := mixKind X.prog X.w) (kvs := vs) (ep := ep) lo) hat (by rw [← hl]; exact z) (show Reps k Z H (keysD (kvs.map (·.1))) ((kvs.map (·.1)).map kV) [] from reps_keys (kvs.map (·.1))) ck (fun acc hacc => ?_) q
  have hsz : acc.toList.length = vs.length := (Array.length_toList (xs := acc)).trans hacc.1
  refine vals_of_at (by rw [List.length_map, List.length_map, hsz, hl]) fun j x w h1 h2 => ?_
  obtain ⟨k, y, hky, hi⟩ := hacc.2 j w (by rw [← Array.getElem?_toList]; exact h2)
  have e1 : (kvs.map (·.1))[j]? = some k := by rw [KV.keys rk, List.getElem?_map, hky]; rfl
  rw [List.getElem?_map, e1] at h1
  cases h1
  exact keyIs_rel hi
theorem call_sortedT (hk : k.K = X.K) (hu : X.A.units + 80 < cLine) (hc : X.calm = true) : CallR X (.builtin "sorted") (fun xs H Q => ∃ Z a kvs, xs = [.ref a] ∧ Rd H a (.dT kvs) ∧ sortCk (keysT (kvs.map (·.1))) = true ∧ resOk k Z H (.lst true ((keysT (kvs.map (·.1))).mergeSort leD)) Q) := by
  intro pins s σ H xs us Q I r h
  obtain ⟨Z, d, kvs, e, hd, ck, q⟩ := h
  subst e
  obtain ⟨u, eu, rx⟩ := vals1 r
  subst eu
  obtain rfl : u = Value.ref d := rx
  obtain ⟨z, hs, ks, pr, o, es, ep, ho, hx, hdt, he, hn⟩ := (show ObjOk X.prog X.w H s.heap d (.dT kvs) from hd.ok I.hok)
  have l1 : es.size = ks.length := size_of_entries he
  have l2 : kvs.length = ks.length := Paired.length pr
  refine sorted_src hk hu hc I (kdl_raw hs hx hdt) ho (by omega) (reps_keysT (k := k) (Z := Z) (isKeys_of pr)) ck (fun acc it => ?_) q
  have hsz : acc.toList.length = ks.length := ((Array.length_toList (xs := acc)).trans it.1).trans l1
  refine vals_of_at (by rw [List.length_map, List.length_map, hsz]) fun j x w h1 h2 => ?_
  obtain ⟨en, hen, hv⟩ := it.2 j w (by rw [← Array.getElem?_toList]; exact h2)
  have qe := entry_at he j
  rw [hen] at qe
  cases hb : ks[j]? with
  | none =>
    rw [hb] at qe
    exact nomatch (show some en = none from qe)
  | some b =>
    rw [hb] at qe
    have e2 : en = entryOfKey (tupleKind (mixKind X.prog X.w)) b := Option.some.inj qe
    rw [List.getElem?_map, List.getElem?_map, hb] at h1
    cases h1
    rw [hv, e2]
    rfl
theorem bf_sorted (hk : k.K = X.K) (hu : X.A.units + 80 < cLine) (hc : X.calm = true) : CallR X (.builtin "sorted") (rSem k (semB .sorted)) := by
  refine CallR.imp ((call_sortedL (X := X) (k := k) hk hu).or ((call_sortedK (k := k) hk hu hc).or (call_sortedT (k := k) hk hu hc))) fun vs H Q ⟨Z, ds, d, rw', hs, q⟩ => ?_
  obtain ⟨x, v, rfl, rfl, r, hx⟩ := rws1 rw' hs
  cases x with
  | lst o ys =>
    obtain ⟨h1, rfl⟩ := sortL_some hx
    obtain ⟨a, vs, os, rfl, g1, g2⟩ := r.lst
    cases g2.fz0 (sortCk_of h1).1
    exact .inl ⟨Z, a, ys, vs, rfl, SqL.of g1, g2, h1, q⟩
  | scr ys =>
    obtain ⟨h1, rfl⟩ := sortL_some hx
    obtain ⟨a, vs, rfl, g1, g2⟩ := r.scr
    exact .inl ⟨Z, a, ys, vs, rfl, by rw [← hk]; exact g1, g2, h1, q⟩
  | dk o ks ys =>
    obtain ⟨h1, rfl⟩ := sortL_some hx
    obtain ⟨a, kvs, os, rfl, g1, e, g2⟩ := r.dk
    subst e
    exact .inr (.inl ⟨Z, a, kvs, rfl, g1, h1, q⟩)
  | dt o ks ys =>
    obtain ⟨h1, rfl⟩ := sortL_some hx
    obtain ⟨a, kvs, os, rfl, g1, e, g2⟩ := r.dt
    subst e
    exact .inr (.inr ⟨Z, a, kvs, rfl, g1, h1, q⟩)
  | _ => cases hx
theorem maxI_some {is : List Int} {m : Int} (h : maxI is = some m) : 0 < is.length ∧ m ∈ is ∧ ∀ y ∈ is, y ≤ m := by
  cases is with
  | nil => cases h
  | cons x xs =>
    cases h
    have := maxI_is xs x
    exact ⟨Nat.succ_pos _, this.2.elim (fun h => by rw [h]; exact List.mem_cons_self) (List.mem_cons_of_mem _), fun y hy => this.1 y (List.mem_cons.mp hy)⟩
theorem minI_some {is : List Int} {m : Int} (h : minI is = some m) : 0 < is.length ∧ m ∈ is ∧ ∀ y ∈ is, m ≤ y := by
  cases is with
  | nil => cases h
  | cons x xs =>
    cases h
    have := minI_is xs x
    exact ⟨Nat.succ_pos _, this.2.elim (fun h => by rw [h]; exact List.mem_cons_self) (List.mem_cons_of_mem _), fun y hy => this.1 y (List.mem_cons.mp hy)⟩
theorem bf_ok (hk : k.K = X.K) (hu : X.A.units + 80 < cLine) (hc : X.calm = true) (b : Bf) : CallR X b.val (rSem k (semB b)) := by
  cases b with
  | len => exact bf_len hk
  | abs => exact bf_abs
  | int => exact bf_int
  | lst => exact bf_lst hk hc
  | tup => exact bf_tup hk
  | sorted => exact bf_sorted hk hu hc
  | all =>
    refine CallR.imp (cr_all hc) fun vs H Q ⟨Z, ds, d, rw', hs, q⟩ => ?_
    obtain ⟨x, v, rfl, rfl, r, hx⟩ := rws1 rw' hs
    obtain ⟨xs, bs, h1, h2, h3⟩ := overB_some hx
    cases h3
    obtain ⟨a, vs, os, rfl, g1, g2⟩ := r.seq h1
    cases blsOf_rep g2 h2
    exact ⟨a, bs, rfl, by rw [← hk]; exact g1, q.bl⟩
  | any =>
    refine CallR.imp (cr_any hc) fun vs H Q ⟨Z, ds, d, rw', hs, q⟩ => ?_
    obtain ⟨x, v, rfl, rfl, r, hx⟩ := rws1 rw' hs
    obtain ⟨xs, bs, h1, h2, h3⟩ := overB_some hx
    cases h3
    obtain ⟨a, vs, os, rfl, g1, g2⟩ := r.seq h1
    cases blsOf_rep g2 h2
    exact ⟨a, bs, rfl, by rw [← hk]; exact g1, q.bl⟩
  | sum =>
    refine CallR.imp (cr_sum hc) fun vs H Q ⟨Z, ds, d, rw', hs, q⟩ => ?_
    obtain ⟨x, v, rfl, rfl, r, hx⟩ := rws1 rw' hs
    obtain ⟨xs, bs, h1, h2, h3⟩ := overI_some hx
    cases h3
    obtain ⟨a, vs, os, rfl, g1, g2⟩ := r.seq h1
    cases intsOf_rep g2 h2
    exact ⟨a, bs, rfl, by rw [← hk]; exact g1, q.int⟩
  | maxL =>
    refine CallR.imp (cr_max hc) fun vs H Q ⟨Z, ds, d, rw', hs, q⟩ => ?_
    obtain ⟨x, v, rfl, rfl, r, hx⟩ := rws1 rw' hs
    obtain ⟨xs, bs, h1, h2, h3⟩ := overI_some hx
    obtain ⟨m, hm, rfl⟩ := Option.map_eq_some_iff.mp h3
    obtain ⟨a, vs, os, rfl, g1, g2⟩ := r.seq h1
    cases intsOf_rep g2 h2
    obtain ⟨m1, m2, m3⟩ := maxI_some hm
    refine ⟨a, bs, rfl, by rw [← hk]; exact g1, m1, fun m' a1 a2 => ?_⟩
    rw [show m' = m from Int.le_antisymm (m3 _ a1) (a2 _ m2)]
    exact q.int
  | minL =>
    refine CallR.imp (cr_min hc) fun vs H Q ⟨Z, ds, d, rw', hs, q⟩ => ?_
    obtain ⟨x, v, rfl, rfl, r, hx⟩ := rws1 rw' hs
    obtain ⟨xs, bs, h1, h2, h3⟩ := overI_some hx
    obtain ⟨m, hm, rfl⟩ := Option.map_eq_some_iff.mp h3
    obtain ⟨a, vs, os, rfl, g1, g2⟩ := r.seq h1
    cases intsOf_rep g2 h2
    obtain ⟨m1, m2, m3⟩ := minI_some hm
    refine ⟨a, bs, rfl, by rw [← hk]; exact g1, m1, fun m' a1 a2 => ?_⟩
    rw [show m' = m from Int.le_antisymm (a2 _ m2) (m3 _ a1)]
    exact q.int
  | max2 =>
    refine CallR.imp (call_max2 hc) fun vs H Q ⟨Z, ds, d, rw', hs, q⟩ => ?_
    obtain ⟨x, y, v, u, rfl, rfl, r1, r2, hx⟩ := rws2 rw' hs
    obtain ⟨i, j, rfl, rfl, hg⟩ := iO_some hx
    cases hg
    cases r1.int
    cases r2.int
    exact ⟨i, j, rfl, q.int⟩
  | min2 =>
    refine CallR.imp (call_min2 hc) fun vs H Q ⟨Z, ds, d, rw', hs, q⟩ => ?_
    obtain ⟨x, y, v, u, rfl, rfl, r1, r2, hx⟩ := rws2 rw' hs
    obtain ⟨i, j, rfl, rfl, hg⟩ := iO_some hx
    cases hg
    cases r1.int
    cases r2.int
    exact ⟨i, j, rfl, q.int⟩
end
end Bp

/-! expressions by their semantic functions, 1 -/
namespace Bp
open PySem PySem.Spec PyProof.Rows L2

section
variable {X : Cx} {k : Kx} {T : Tb} {W : WX}

/-! ### places -/
theorem nodup_app_sub {a b : List Addr} (h : a.Nodup) (s : b.Sublist a) : b.Nodup := h.sublist s
theorem pe_v {i : Nat} {x : Str} {pos : Pos} (hN : X.N[i]? = some x) (hv : visB X.env.scope x = true) : PE X (.Name x pos) (tP k T (.v i)) := by
  obtain ⟨h1, h2, h3⟩ := vis_of hv
  refine pe_mono (pe_var hN h1 h2 h3) fun σ H Q ⟨Z, e, oe, ss, d, hd, q⟩ => ?_
  obtain ⟨v, os, a, b, c⟩ := ss.er.get (getV hd)
  exact ⟨v, a, q v os b c fun j e => by cases e; exact a⟩
theorem plainIx_of {b : Expr} (h : plainIxB b = true) : PlainIx b := by
  intro o i
  cases b <;> first | rfl | cases h
def chkP (N : List Str) (sc : Scope) : P0 → Expr → Bool
  | .v i, e => match e with
    | .Name x _ => atN N i x && visB sc x
    | _ => false
  | .k n, e => match e with
    | .Constant (.int m) _ _ => n == m
    | _ => false
  | .ks n, e => match e with
    | .Constant (.str m) _ _ => n == m
    | _ => false
  | .s p q, e => match e with
    | .Subscript a b _ => chkP N sc p a && chkP N sc q b && plainIxB b
    | _ => false
  | .f p nm, e => match e with
    | .Attribute a nm' _ => chkP N sc p a && nm == nm' && (match a with | .Call _ _ _ _ => false | _ => true)
    | _ => false
/-- places of no state -/
theorem attrBase_of {a : Expr} {nm : Str} {env : PySem.Env} (h : (match a with | .Call _ _ _ _ => false | _ => true) = true) : attributeBase a nm env (eval a env) = eval a env := by
  cases a <;> first | rfl | cases h
theorem fldD_some {d dd : D} {nm : Str} (h : fldD T d nm = some dd) : ∃ o c fs xs, d = .ins o c fs xs ∧ T.fk c nm = true ∧ dget fs xs nm = some dd := by
  unfold fldD at h
  split at h
  · split at h
    · exact ⟨_, _, _, _, rfl, by assumption, h⟩
    · cases h
  · cases h
theorem rep_ins {Z : Zs} {H : Hp} {o : Bool} {c : Nat} {fs : List Str} {xs : List D} {v : V} {os : List Addr} (r : Rep k Z H (.ins o c fs xs) v os) :
    ∃ a dx kvs o2, v = .ref a ∧ H a = some (.ins (k.cA c) dx kvs) ∧ kvs.map (·.1) = fs ∧ Reps k Z H xs (kvs.map (·.2)) o2 ∧ ∀ x ∈ o2, x ∈ os := by
  cases r with
  | insF z h e r => exact ⟨_, _, _, _, rfl, h, e, r, fun _ q => nomatch q⟩
  | insO h e r => exact ⟨_, _, _, _, rfl, h, e, r, fun x q => List.mem_cons_of_mem _ q⟩
theorem valV_lookup {kvs : List (Str × V)} {nm : Str} : valV kvs nm = kvs.lookup nm := by
  induction kvs with
  | nil => rfl
  | cons p r ih =>
    obtain ⟨a, b⟩ := p
    by_cases e : a = nm
    · subst e
      rw [valV_pos rfl]; simp [List.lookup]
    · rw [valV_neg e, ih]
      have : (nm == a) = false := by simpa using fun z : nm = a => e z.symm
      simp [List.lookup, this]
theorem pe_P0 (hk : k.K = X.K) (tb : TbOk k T) (hu : X.A.units + 80 < cLine) : ∀ (p : P0) (e : Expr), chkP X.N X.env.scope p e = true → PE X e (tP k T p)
  | .v i, e, h => by
    unfold chkP at h
    split at h
    · simp only [Bool.and_eq_true] at h
      exact pe_v (atN_of h.1) h.2
    · cases h
  | .k n, e, h => by
    unfold chkP at h
    split at h
    · cases (beq_iff_eq.mp h)
      refine pe_mono pe_int fun σ H Q ⟨Z, e, oe, ss, d, hd, q⟩ => ?_
      cases hd
      exact q _ [] (.int _) (fun _ z => nomatch z) fun _ z => nomatch z
    · cases h
  | .ks n, e, h => by
    unfold chkP at h
    split at h
    · cases (beq_iff_eq.mp h)
      refine pe_mono pe_str fun σ H Q ⟨Z, e, oe, ss, d, hd, q⟩ => ?_
      cases hd
      exact q _ [] (.str _) (fun _ z => nomatch z) fun _ z => nomatch z
    · cases h
  | .s p q, e, h => by
    unfold chkP at h
    split at h
    · rename_i a b pos
      simp only [Bool.and_eq_true] at h
      refine pe_mono (pe_ix (ix_D hk (by omega)) (pe_P0 hk tb hu p a h.1.1) (pe_P0 hk tb hu q b h.1.2) (plainIx_of h.2)) fun σ H Q ⟨Z, e, oe, ss, d, hd, qq⟩ => ?_
      have hd' : (match getP T p e, getP T q e with | some d, some i => subD d i | _, _ => none) = some d := hd
      cases q1 : getP T p e with
      | none => rw [q1] at hd'; cases hd'
      | some d1 =>
        cases q2 : getP T q e with
        | none => rw [q1, q2] at hd'; cases hd'
        | some d2 =>
          rw [q1, q2] at hd'
          refine ⟨Z, e, oe, ss, d1, q1, fun v os r so _ => ⟨Z, e, oe, ss, d2, q2, fun u os2 r2 so2 _ => ?_⟩⟩
          exact ⟨Z, d1, d2, os, os2, d, r, r2, hd', fun w o3 r3 s3 => qq w o3 r3 (fun x hx => so x (s3 x hx)) fun _ z => nomatch z⟩
    · cases h
  | .f p nm, e, h => by
    unfold chkP at h
    split at h
    · rename_i a nm' pos
      simp only [Bool.and_eq_true, beq_iff_eq] at h
      obtain ⟨⟨h1, rfl⟩, h3⟩ := h
      refine pe_mono (pe_fld (pe_P0 hk tb hu p a h1) (attrBase_of h3)) fun σ H Q ⟨Z, e, oe, ss, d, hd, qq⟩ => ?_
      have hd' : (match getP T p e with | some d => fldD T d nm | none => none) = some d := hd
      cases q1 : getP T p e with
      | none => rw [q1] at hd'; cases hd'
      | some d1 =>
        rw [q1] at hd'
        refine ⟨Z, e, oe, ss, d1, q1, fun v os r so _ => ?_⟩
        obtain ⟨o, c, fs, xs, rfl, hf, hg⟩ := fldD_some hd'
        obtain ⟨a, dx, kvs, o2, rfl, h1, h2, h3, h4⟩ := rep_ins r
        obtain ⟨w, o3, g1, g2, g3⟩ := dget_rep h2 h3 hg
        obtain ⟨c1, c2⟩ := tb.cl c nm hf
        rw [← hk]
        exact ⟨a, _, dx, kvs, w, rfl, h1, c1, c2, by rw [← valV_lookup]; exact g1, qq w o3 g2 (fun x hx => so x (h4 x (g3 x hx))) fun _ z => nomatch z⟩
    · cases h

/-! ### leaves -/
/-- a place that is read, to be kept: it must be shared -/
def fRd (T : Tb) (p : P0) : M D := fun e => match getP T p e with
  | some d => if d.fz then .ok d e else .bad
  | none => .bad
def fMov (i : Nat) : M D := fun e => match getP ⟨fun _ _ => false⟩ (.v i) e with
  | some d => .ok d (e.set i none)
  | none => .bad
def fShr (i : Nat) : M D := fun e => match getP ⟨fun _ _ => false⟩ (.v i) e with
  | some d => .ok d.sh (e.set i (some d.sh))
  | none => .bad
theorem okEnd.fz {Z : Zs} {H : Hp} {oe : List Addr} {σ : L2.St} {d : D} {e : Env} {Q : VK} {v : V} (h : okEnd k Z H oe σ [d] e fun vs H' => ∃ v, vs = [v] ∧ Q v H') (ss : SS k Z H σ e [] [] oe []) (r : Rep k Z H d v []) : Q v H := by
  obtain ⟨v', e', q⟩ := h Z H [v] oe [] ⟨ss.er, .one r, by simpa using ss.nd, ss.dz, ss.zt⟩ ((Stp.refl _ _ _).sub (by simp))
  cases e'
  exact q
theorem ee_rd {p : P0} {e : Expr} (h : PE X e (tP k T p)) : PE X e (tE k W (fRd T p)) := by
  refine pe_mono h fun σ H Q ⟨Z, env, oe, ss, q⟩ => ?_
  unfold fRd at q
  cases q1 : getP T p env with
  | none => rw [q1] at q; exact (show False from q).elim
  | some d =>
    rw [q1] at q
    dsimp only at q
    split at q
    · rename_i hf
      refine ⟨Z, env, oe, ss, d, q1, fun v os r _ _ => ?_⟩
      cases r.fz0 hf
      exact okEnd.fz (show okEnd k Z H oe σ [d] env _ from q) ss r
    · exact (show False from q).elim
theorem ee_mov {i : Nat} {x : Str} {pos : Pos} (hN : X.N[i]? = some x) (hv : visB X.env.scope x = true) : PE X (.Name x pos) (tE k W (fMov i)) := by
  obtain ⟨h1, h2, h3⟩ := vis_of hv
  refine pe_mono (pe_var hN h1 h2 h3) fun σ H Q ⟨Z, e, oe, ss, q⟩ => ?_
  unfold fMov at q
  cases q1 : getP (⟨fun _ _ => false⟩ : Tb) (.v i) e with
  | none => rw [q1] at q; exact (show False from q).elim
  | some d =>
    rw [q1] at q
    obtain ⟨v, o1, o2, a, b, c, p⟩ := ss.er.take (getV q1)
    have nd : (o2 ++ o1).Nodup := (p.trans List.perm_append_comm).nodup_iff.mp (by simpa using ss.nd)
    have sub : ∀ x ∈ o2 ++ o1, x ∈ oe := fun x hx => p.mem_iff.mpr (List.perm_append_comm.mem_iff.mp hx)
    obtain ⟨v', e', hq⟩ := (show okEnd k Z H oe σ [d] (e.set i none) _ from q) Z H [v] o2 o1 ⟨c, .one b, nd, fun x hx => ss.dz x (by simpa using sub x hx), ss.zt⟩ ((Stp.refl _ _ _).sub sub)
    cases e'
    exact ⟨v, a, hq⟩
mutual
/-- to share a thing is to own it no more -/
theorem Rep.shr {Z Z' : Zs} {H : Hp} (zz : ∀ a, Z a → Z' a) : ∀ {d : D} {v : V} {os : List Addr}, Rep k Z H d v os → (∀ a ∈ os, Z' a) → Rep k Z' H d.sh v []
  | _, _, _, .non, _ => .non
  | _, _, _, .bl _, _ => .bl _
  | _, _, _, .int _, _ => .int _
  | _, _, _, .str _, _ => .str _
  | _, _, _, .tup h r, n => by rw [D.sh]; exact .tup h (Reps.shr zz r n)
  | _, _, _, .lstF z h r, _ => by rw [D.sh]; exact .lstF (zz _ z) h (Reps.shr zz r fun _ q => nomatch q)
  | _, _, _, .lstO h r, n => by rw [D.sh]; exact .lstF (n _ List.mem_cons_self) h (Reps.shr zz r fun a q => n a (List.mem_cons_of_mem _ q))
  | _, _, _, .scr h r, _ => by rw [D.sh]; exact .scr h (Reps.shr zz r fun _ q => nomatch q)
  | _, _, _, .dkF z h e r, _ => by rw [D.sh]; exact .dkF (zz _ z) h e (Reps.shr zz r fun _ q => nomatch q)
  | _, _, _, .dkO h e r, n => by rw [D.sh]; exact .dkF (n _ List.mem_cons_self) (.inl h) e (Reps.shr zz r fun a q => n a (List.mem_cons_of_mem _ q))
  | _, _, _, .dtF z h e r, _ => by rw [D.sh]; exact .dtF (zz _ z) h e (Reps.shr zz r fun _ q => nomatch q)
  | _, _, _, .dtO h e r, n => by rw [D.sh]; exact .dtF (n _ List.mem_cons_self) (.inl h) e (Reps.shr zz r fun a q => n a (List.mem_cons_of_mem _ q))
  | _, _, _, .insF z h e r, _ => by rw [D.sh]; exact .insF (zz _ z) h e (Reps.shr zz r fun _ q => nomatch q)
  | _, _, _, .insO h e r, n => by rw [D.sh]; exact .insF (n _ List.mem_cons_self) h e (Reps.shr zz r fun a q => n a (List.mem_cons_of_mem _ q))
theorem Reps.shr {Z Z' : Zs} {H : Hp} (zz : ∀ a, Z a → Z' a) : ∀ {ds : List D} {vs : List V} {os : List Addr}, Reps k Z H ds vs os → (∀ a ∈ os, Z' a) → Reps k Z' H (shs ds) vs []
  | _, _, _, .nil, _ => .nil
  | _, _, _, .cons h t, n => .cons (o1 := []) (o2 := []) (Rep.shr zz h fun a q => n a (List.mem_append_left _ q)) (Reps.shr zz t fun a q => n a (List.mem_append_right _ q))
end
theorem Rep.zmono {Z Z' : Zs} {H : Hp} (zz : ∀ a, Z a → Z' a) {d : D} {v : V} {os : List Addr} (r : Rep k Z H d v os) : Rep k Z' H d v os :=
  Rep.step (M := []) ⟨fun a o h _ _ => h, zz, fun a h => h, fun t => t⟩ (fun _ q => nomatch q) (fun _ q => nomatch q) r (fun _ _ q => nomatch q)
theorem EnvR.zmono {Z Z' : Zs} {H : Hp} (zz : ∀ a, Z a → Z' a) {σ : L2.St} {e : Env} {os : List Addr} (r : EnvR k Z H σ e os) : EnvR k Z' H σ e os :=
  EnvR.step (M := []) ⟨fun a o h _ _ => h, zz, fun a h => h, fun t => t⟩ (fun _ q => nomatch q) (fun _ q => nomatch q) r (fun _ _ q => nomatch q)
theorem set_none_get {e : Env} {i : Nat} {d : D} (h : e[i]? = some (some d)) : (e.set i none)[i]? = some none := by
  have : i < e.length := by
    obtain ⟨h1, _⟩ := List.getElem?_eq_some_iff.mp h
    exact h1
  rw [List.getElem?_set_self this]
theorem ee_shr {i : Nat} {x : Str} {pos : Pos} (hN : X.N[i]? = some x) (hv : visB X.env.scope x = true) : PE X (.Name x pos) (tE k W (fShr i)) := by
  obtain ⟨h1, h2, h3⟩ := vis_of hv
  refine pe_mono (pe_var hN h1 h2 h3) fun σ H Q ⟨Z, e, oe, ss, q⟩ => ?_
  unfold fShr at q
  cases q1 : getP (⟨fun _ _ => false⟩ : Tb) (.v i) e with
  | none => rw [q1] at q; exact (show False from q).elim
  | some d =>
    rw [q1] at q
    obtain ⟨v, o1, o2, a, b, c, p⟩ := ss.er.take (getV q1)
    have nd : (o1 ++ o2).Nodup := p.nodup_iff.mp (by simpa using ss.nd)
    have zz : ∀ a, Z a → (Z a ∨ a ∈ o1) := fun a z => .inl z
    have r' := b.shr (Z' := fun a => Z a ∨ a ∈ o1) zz fun a q => .inr q
    obtain ⟨o3, e3, p3⟩ := EnvR.back r' (c.zmono zz) (set_none_get (getV q1)) a
    rw [List.set_set, List.nil_append] at *
    have sub : ∀ x ∈ o3, x ∈ o2 := fun x hx => p3.mem_iff.mp hx
    have n2 := List.nodup_append.mp nd
    have tr : ∀ x ∈ o1, H x ≠ none := b.trk
    obtain ⟨v', e', hq⟩ := (show okEnd k Z H oe σ [d.sh] (e.set i (some d.sh)) _ from q) (fun a => Z a ∨ a ∈ o1) H [v] o3 [] ⟨e3, .one r', by
        rw [List.append_nil]; exact p3.nodup_iff.mpr n2.2.1, fun x hx z => by
        rw [List.append_nil] at hx
        rcases z with z | z
        · exact ss.dz x (by rw [List.append_nil]; exact p.mem_iff.mpr (List.mem_append_right _ (sub x hx))) z
        · exact n2.2.2 x z x (sub x hx) rfl, fun x z => z.elim (ss.zt x) (tr x)⟩
      ⟨⟨fun _ _ h _ _ => h, zz, fun _ h => h, fun t => t⟩, fun x z => z.elim .inl fun z => .inr (.inl (p.mem_iff.mpr (List.mem_append_left _ z))), fun x hx => by
        rw [List.append_nil] at hx
        exact .inl (p.mem_iff.mpr (List.mem_append_right _ (sub x hx)))⟩
    cases e'
    exact ⟨v, a, hq⟩
def fC (d : D) : M D := ret d
theorem ee_int {n : Int} {j : Nat} {pos : Pos} : PE X (.Constant (.int n) j pos) (tE k W (fC (.int n))) := pe_mono pe_int fun σ H Q ⟨Z, e, oe, ss, q⟩ => okEnd.fz (show okEnd k Z H oe σ [.int n] e _ from q) ss (.int n)
theorem ee_str {n : Str} {j : Nat} {pos : Pos} : PE X (.Constant (.str n) j pos) (tE k W (fC (.str n))) := pe_mono pe_str fun σ H Q ⟨Z, e, oe, ss, q⟩ => okEnd.fz (show okEnd k Z H oe σ [.str n] e _ from q) ss (.str n)
theorem ee_bl {n : Bool} {j : Nat} {pos : Pos} : PE X (.Constant (.bool n) j pos) (tE k W (fC (.bl n))) := pe_mono pe_bl fun σ H Q ⟨Z, e, oe, ss, q⟩ => okEnd.fz (show okEnd k Z H oe σ [.bl n] e _ from q) ss (.bl n)
theorem ee_non {j : Nat} {pos : Pos} : PE X (.Constant .none j pos) (tE k W (fC .non)) := pe_mono pe_non fun σ H Q ⟨Z, e, oe, ss, q⟩ => okEnd.fz (show okEnd k Z H oe σ [.non] e _ from q) ss .non
theorem ee_glb {x : Str} {n : Int} {u : Value} {pos : Pos} (hg : Gl X x) (hm : X.mg x = some u) (r : RelV (.int n) u) (hd : (x == ("__debug__" : Str)) = false) : PE X (.Name x pos) (tE k W (fC (.int n))) :=
  pe_mono (pe_glob hg hm r hd) fun σ H Q ⟨Z, e, oe, ss, q⟩ => okEnd.fz (show okEnd k Z H oe σ [.int n] e _ from q) ss (.int n)
end
end Bp

/-! expressions by their semantic functions, 2: operations, displays, tests -/
namespace Bp
open PySem PySem.Spec PyProof.Rows L2

section
variable {X : Cx} {k : Kx} {T : Tb} {W : WX}

def fOp (T : Tb) (o : O2) (a b : Ag) : M D := bnd (evA T [a, b]) fun ds => opt (sem2L (sem2 o) ds)
theorem tOp_imp {r r' : R2} {ta tb : TE} {σ : L2.St} {H : Hp} {Q : VK} (i : ∀ x y H Q, r x y H Q → r' x y H Q) (ma : ∀ {σ H Q Q'}, ta σ H Q → (∀ v H, Q v H → Q' v H) → ta σ H Q') (mb : ∀ {σ H Q Q'}, tb σ H Q → (∀ v H, Q v H → Q' v H) → tb σ H Q') (h : tOp r ta tb σ H Q) : tOp r' ta tb σ H Q :=
  ma h fun v H1 h1 => mb h1 fun u H2 h2 => i _ _ _ _ h2
theorem ee_op {o : O2} {p : Operator} {a b : Ag} {ea eb : Expr} {pos : Pos} (h : o.bin = some p) (ha : PE X ea (tAg k T W a)) (hb : PE X eb (tAg k T W b)) : PE X (.BinOp ea p eb pos) (tE k W (fOp T o a b)) :=
  pe_mono (pe_op (op_bin (k := k) o h) ha hb) fun _ _ _ q => tE_sem2 q
theorem ee_cmp (hk : k.K = X.K) (hu : X.A.units + 80 < cLine) {o : O2} {p : CmpOp} {a b : Ag} {ea eb : Expr} {pos : Pos} (h : o.cmp = some p) (hm : behindInMarks p eb = false) (ha : PE X ea (tAg k T W a)) (hb : PE X eb (tAg k T W b)) : PE X (.Compare ea [p] [eb] pos) (tE k W (fOp T o a b)) :=
  pe_mono (pe_cmpR (op_cmpD hk (by omega) o h) ha hb hm) fun _ _ _ q => tE_sem2 q

/-! ### tests -/
def mB (d : D) : M Bool := fun e => match asBl d with
  | some b => .ok b e
  | none => .bad
def fT (f : M D) : M Bool := bnd f mB
theorem tT_bl {f : M D} {σ : L2.St} {H : Hp} {Q : Bool → Hp → Prop} (h : tT k W (fT f) σ H Q) : tE k W f σ H fun v H' => ∃ b, v = .bl b ∧ Q b H' := by
  obtain ⟨Z, e, oe, ss, h⟩ := h
  refine ⟨Z, e, oe, ss, (rE.bnd h).imp fun d e1 h1 Z' H' vs oe' od s' st => ?_⟩
  obtain ⟨v, rfl, rv⟩ := s'.rp.one'
  cases d with
  | bl b =>
    cases rv
    exact ⟨_, rfl, b, rfl, (show okEnd k Z H oe σ [] e1 _ from h1) Z' H' [] oe' [] s'.drop (st.sub (by simp))⟩
  | _ => exact (show False from h1).elim
theorem et_of {e : Expr} {f : M D} (h : PT X e fun σ H Q => tE k W f σ H fun v H' => ∃ b, v = .bl b ∧ Q b H') : PT X e (tT k W (fT f)) := pt_mono h fun _ _ _ q => tT_bl q
theorem et_cmp (hk : k.K = X.K) (hu : X.A.units + 80 < cLine) {o : O2} {p : CmpOp} {a b : Ag} {ea eb : Expr} {pos : Pos} (h : o.cmp = some p) (hm : behindInMarks p eb = false) (ha : PE X ea (tAg k T W a)) (hb : PE X eb (tAg k T W b)) : PT X (.Compare ea [p] [eb] pos) (tT k W (fT (fOp T o a b))) :=
  et_of (pt_mono (pt_cmpR (op_cmpD hk (by omega) o h) ha hb hm) fun _ _ _ q => tE_sem2 q)
/-- forms that are tested by their value -/
def plainT : Expr → Bool
  | .Constant _ _ _ => true
  | .Name _ _ => true
  | .Call _ _ _ _ => true
  | .Subscript _ _ _ => true
  | .Attribute _ _ _ => true
  | _ => false
theorem et_val {e : Expr} {f : M D} (hp : plainT e = true) (h : PE X e (tE k W f)) : PT X e (tT k W (fT f)) := by
  refine et_of ?_
  cases e with
  | Constant _ _ _ => exact pt_val h fun _ => rfl
  | Name _ _ => exact pt_val h fun _ => rfl
  | Call _ _ _ _ => exact pt_val h fun _ => rfl
  | Subscript _ _ _ => exact pt_val h fun _ => rfl
  | Attribute _ _ _ => exact pt_val h fun _ => rfl
  | _ => cases hp

/-- a sequence of two, the first of them at hand no more -/
theorem tE_bnd {β : Type} {f : M D} {g : D → M D} {σ : L2.St} {H : Hp} {Q : VK} (h : tE k W (bnd f g) σ H Q) : ∃ Z e oe, SS k Z H σ e [] [] oe [] ∧ rE k W (f e) Z H oe σ fun d e' => rE k W (g d e') Z H oe σ fun d e' => okEnd k Z H oe σ [d] e' fun vs H' => ∃ v, vs = [v] ∧ Q v H' := by
  obtain ⟨Z, e, oe, ss, h⟩ := h
  exact ⟨Z, e, oe, ss, rE.bnd h⟩
/-- a truth at hand, and then -/
theorem tT_seq {f : M Bool} {g : Bool → M D} {σ : L2.St} {H : Hp} {Q : VK} (h : tE k W (bnd f g) σ H Q) : tT k W f σ H fun b H1 => tE k W (g b) σ H1 Q := by
  obtain ⟨Z, e, oe, ss, h⟩ := h
  refine ⟨Z, e, oe, ss, (rE.bnd h).imp fun b e1 h1 Z' H' vs oe' od s' st => ?_⟩
  refine ⟨Z', e1, oe', s'.drop, h1.after st (fun x q => List.mem_append_left _ q) fun d e2 h2 => okEnd.after h2 st fun x q => List.mem_append_left _ q⟩
theorem tT_seqT {f : M Bool} {g : Bool → M Bool} {σ : L2.St} {H : Hp} {Q : Bool → Hp → Prop} (h : tT k W (bnd f g) σ H Q) : tT k W f σ H fun b H1 => tT k W (g b) σ H1 Q := by
  obtain ⟨Z, e, oe, ss, h⟩ := h
  refine ⟨Z, e, oe, ss, (rE.bnd h).imp fun b e1 h1 Z' H' vs oe' od s' st => ?_⟩
  refine ⟨Z', e1, oe', s'.drop, h1.after st (fun x q => List.mem_append_left _ q) fun d e2 h2 => okEnd.after h2 st fun x q => List.mem_append_left _ q⟩
theorem tT_mono {f : M Bool} {σ : L2.St} {H : Hp} {Q Q' : Bool → Hp → Prop} (h : tT k W f σ H Q) (i : ∀ v H, Q v H → Q' v H) : tT k W f σ H Q' := by
  obtain ⟨Z, e, oe, ss, h⟩ := h
  exact ⟨Z, e, oe, ss, h.imp fun d e1 h1 Z' H' vs oe' od s' st => i d H' (h1 Z' H' vs oe' od s' st)⟩
theorem tT_ret {b : Bool} {σ : L2.St} {H : Hp} {Q : Bool → Hp → Prop} (h : tT k W (ret b) σ H Q) : Q b H := by
  obtain ⟨Z, e, oe, ss, h⟩ := h
  exact (show okEnd k Z H oe σ [] e _ from h) Z H [] oe [] ss ((Stp.refl _ _ _).sub (by simp))
theorem tE_retB {b : Bool} {σ : L2.St} {H : Hp} {Q : VK} (h : tE k W (ret (.bl b)) σ H Q) : Q (.bl b) H := by
  obtain ⟨Z, e, oe, ss, h⟩ := h
  exact okEnd.fz (show okEnd k Z H oe σ [.bl b] e _ from h) ss (.bl b)

def fNotT (f : M Bool) : M Bool := bnd f fun b => ret (!b)
def fAndT (f g : M Bool) : M Bool := bnd f fun b => if b = true then g else ret false
def fOrT (f g : M Bool) : M Bool := bnd f fun b => if b = true then ret true else g
def fNot (f : M Bool) : M D := bnd f fun b => ret (.bl (!b))
def fAnd (f : M Bool) (g : M D) : M D := bnd f fun b => if b = true then g else ret (.bl false)
def fOr (f : M Bool) (g : M D) : M D := bnd f fun b => if b = true then ret (.bl true) else g
def fIfE (c : M Bool) (f g : M D) : M D := bnd c fun b => if b = true then f else g
theorem bnd_assoc {α β γ : Type} {m : M α} {f : α → M β} {g : β → M γ} : bnd (bnd m f) g = bnd m fun a => bnd (f a) g := by
  funext e
  unfold bnd
  cases m e <;> rfl
theorem bnd_ret {α β : Type} {a : α} {f : α → M β} : bnd (ret a) f = f a := rfl
theorem fT_not {f : M Bool} : fT (fNot f) = fNotT f := by
  unfold fT fNot fNotT
  rw [bnd_assoc]; rfl
theorem fT_and {f : M Bool} {g : M D} : fT (fAnd f g) = fAndT f (fT g) := by
  unfold fT fAnd fAndT
  rw [bnd_assoc]
  congr 1
  funext b
  cases b <;> rfl
theorem fT_or {f : M Bool} {g : M D} : fT (fOr f g) = fOrT f (fT g) := by
  unfold fT fOr fOrT
  rw [bnd_assoc]
  congr 1
  funext b
  cases b <;> rfl
/-- the value of a test is its truth -/
theorem tE_ofT {f : M D} {g : Bool → M D} {σ : L2.St} {H : Hp} {Q : VK} (h : tE k W (bnd (fT f) g) σ H Q) : tE k W f σ H fun v H1 => ∃ b, v = .bl b ∧ tE k W (g b) σ H1 Q := tT_bl (tT_seq h)
theorem ee_not {f : M D} {e : Expr} {pos : Pos} (h : PE X e (tE k W f)) : PE X (.UnaryOp .Not e pos) (tE k W (fNot (fT f))) :=
  pe_mono (pe_not h) fun σ H Q q => tE_mono (tE_ofT q) fun v H1 ⟨b, e1, q1⟩ => ⟨b, e1, tE_retB q1⟩
theorem ee_and {f g : M D} {a b : Expr} {r : List Expr} {pos : Pos} (h : PE X a (tE k W f)) (h2 : PE X (.BoolOp .And (b :: r) pos) (tE k W g)) : PE X (.BoolOp .And (a :: b :: r) pos) (tE k W (fAnd (fT f) g)) :=
  pe_mono (pe_and h h2) fun σ H Q q => tE_mono (tE_ofT q) fun v H1 ⟨b, e1, q1⟩ => ⟨b, e1, by
    cases b
    · exact tE_retB q1
    · exact q1⟩
theorem ee_or {f g : M D} {a b : Expr} {r : List Expr} {pos : Pos} (h : PE X a (tE k W f)) (h2 : PE X (.BoolOp .Or (b :: r) pos) (tE k W g)) : PE X (.BoolOp .Or (a :: b :: r) pos) (tE k W (fOr (fT f) g)) :=
  pe_mono (pe_or h h2) fun σ H Q q => tE_mono (tE_ofT q) fun v H1 ⟨b, e1, q1⟩ => ⟨b, e1, by
    cases b
    · exact q1
    · exact tE_retB q1⟩
theorem ee_if {c : M Bool} {f g : M D} {ec ea eb : Expr} {pos : Pos} (hc : PT X ec (tT k W c)) (ha : PE X ea (tE k W f)) (hb : PE X eb (tE k W g)) : PE X (.IfExp ec ea eb pos) (tE k W (fIfE c f g)) :=
  pe_mono (pe_ifExp hc ha hb) fun σ H Q q => tT_mono (tT_seq q) fun b H1 q1 => by
    cases b
    · exact q1
    · exact q1
theorem et_not {f : M Bool} {e : Expr} {pos : Pos} (h : PT X e (tT k W f)) : PT X (.UnaryOp .Not e pos) (tT k W (fNotT f)) :=
  pt_mono (pt_not h) fun σ H Q q => tT_mono (tT_seqT q) fun b H1 q1 => tT_ret q1
theorem ew_and {f g : M Bool} {a b : Expr} {r : List Expr} {pos : Pos} (h : PT X a (tT k W f)) (h2 : PW X (.BoolOp .And (b :: r) pos) (tT k W g)) : PW X (.BoolOp .And (a :: b :: r) pos) (tT k W (fAndT f g)) :=
  pw_mono (pw_and h h2) fun σ H Q q => tT_mono (tT_seqT q) fun b H1 q1 => by
    cases b
    · exact tT_ret q1
    · exact q1
theorem ew_or {f g : M Bool} {a b : Expr} {r : List Expr} {pos : Pos} (h : PT X a (tT k W f)) (h2 : PW X (.BoolOp .Or (b :: r) pos) (tT k W g)) : PW X (.BoolOp .Or (a :: b :: r) pos) (tT k W (fOrT f g)) :=
  pw_mono (pw_or h h2) fun σ H Q q => tT_mono (tT_seqT q) fun b H1 q1 => by
    cases b
    · exact q1
    · exact tT_ret q1

/-! ### chains of two comparisons, over integers -/
def blO : Option D → Option Bool
  | some (.bl b) => some b
  | _ => none
theorem blO_some {o : Option D} {b : Bool} (h : blO o = some b) : o = some (.bl b) := by
  unfold blO at h
  split at h
  · cases h; rfl
  · cases h
def chn2 (T : Tb) (o o' : O2) (c : P0) (ds : List D) : M D := fun e => match ds with
  | [x, .int j] => match blO (sem2 o x (.int j)), getP T c e with
    | some true, some w => opt (sem2 o' (.int j) w) e
    | some false, _ => .ok (.bl false) e
    | _, _ => .bad
  | _ => .bad
def fChn (T : Tb) (o o' : O2) (a b : Ag) (c : P0) : M D := bnd (evA T [a, b]) (chn2 T o o' c)
theorem rws_two {Z : Zs} {H : Hp} {x y : D} {v u : V} (h : RWs k Z H [x, y] [v, u]) : RW k Z H x v ∧ RW k Z H y u := ⟨h.1, h.2.1⟩
theorem tChain_of {o o' : O2} {a b : Ag} {c : P0} {σ : L2.St} {H : Hp} {Q : VK} (h : tE k W (fChn T o o' a b c) σ H Q) : tChain (rSem2 k (sem2 o)) (rSem2 k (sem2 o')) (tAg k T W a) (tAg k T W b) (tP k T c) σ H Q := by
  obtain ⟨Z, e, oe, ss, h⟩ := h
  have h1 : tR k W (evA T [a, b]) σ H fun vs H1 => ∃ Z1 ds e1 oe1, SS k Z1 H1 σ e1 [] [] oe1 [] ∧ RWs k Z1 H1 ds vs ∧ rE k W (chn2 T o o' c ds e1) Z1 H1 oe1 σ fun d e' => okEnd k Z1 H1 oe1 σ [d] e' fun vs H' => ∃ v, vs = [v] ∧ Q v H' :=
    ⟨Z, e, oe, ss, (rE.bnd h).imp fun ds e1 h1 Z' H' vs oe' s' rw st => ⟨Z', ds, e1, oe', s', rw, h1.after st (fun x q => q) fun d e2 h2 => okEnd.after h2 st fun x q => q⟩⟩
  refine tAg_mono (tR_cons h1) fun v H1 h1 => tAg_mono (tR_cons h1) fun u H2 h2 => ?_
  obtain ⟨Z1, ds, e1, oe1, s1, rw, h3⟩ := (show ∃ Z1 ds e1 oe1, SS k Z1 H2 σ e1 [] [] oe1 [] ∧ RWs k Z1 H2 ds [v, u] ∧ rE k W (chn2 T o o' c ds e1) Z1 H2 oe1 σ fun d e' => okEnd k Z1 H2 oe1 σ [d] e' fun vs H' => ∃ v, vs = [v] ∧ Q v H' from h2)
  unfold chn2 at h3
  split at h3
  · rename_i x j
    obtain ⟨r1, r2⟩ := rws_two rw
    cases r2.int
    cases q0 : blO (sem2 o x (.int j)) with
    | none => rw [q0] at h3; exact (show False from h3).elim
    | some bb =>
    rw [q0] at h3
    cases bb
    rotate_left
    · have q1 := blO_some q0
      refine ⟨Z1, x, .int j, .bl true, r1, r2, q1, fun z H3 os sm rz nd fr => ?_⟩
      cases rz
      refine ⟨true, rfl, ?_⟩
      rw [if_pos rfl]
      cases q2 : getP T c e1 with
      | none => rw [q2] at h3; exact (show False from h3).elim
      | some w =>
        rw [q2] at h3
        have s3 := s1.same sm (.bl true) List.nodup_nil (fun _ q => nomatch q)
        refine ⟨Z1, e1, oe1, s3.drop, w, q2, fun v3 os3 rv3 so3 _ => ?_⟩
        cases q3 : sem2 o' (.int j) w with
        | none => simp only [q3] at h3; exact (show False from h3).elim
        | some d =>
          simp only [q3] at h3
          refine ⟨Z1, .int j, w, d, ⟨[], .int j⟩, ⟨_, rv3⟩, q3, fun v4 H4 os4 sm4 r4 nd4 fr4 => ?_⟩
          obtain ⟨v', e', hq⟩ := (show okEnd k Z1 H2 oe1 σ [d] e1 _ from h3) Z1 H4 [v4] oe1 os4 (s3.drop.same sm4 r4 nd4 fr4) ((same_stp sm (os := []) fun _ q => nomatch q).trans (same_stp sm4 fr4) fun x q => by simpa using q)
          cases e'
          exact hq
    · have q1 := blO_some q0
      refine ⟨Z1, x, .int j, .bl false, r1, r2, q1, fun z H3 os sm rz nd fr => ?_⟩
      cases rz
      refine ⟨false, rfl, ?_⟩
      rw [if_neg (by decide)]
      obtain ⟨v', e', hq⟩ := (show okEnd k Z1 H2 oe1 σ [.bl false] e1 _ from h3) Z1 H3 [.bl false] oe1 [] (s1.same sm (.bl false) List.nodup_nil (fun _ q => nomatch q)) (same_stp sm fun _ q => nomatch q)
      cases e'
      exact hq
  · exact (show False from h3).elim
theorem ee_chn (hk : k.K = X.K) (hu : X.A.units + 80 < cLine) {o o' : O2} {p p' : CmpOp} {a b : Ag} {c : P0} {ea eb ec : Expr} {pos : Pos} (h : o.cmp = some p) (h' : o'.cmp = some p') (hm : lastMarks [p, p'] [eb, ec] = false) (ha : PE X ea (tAg k T W a)) (hb : PE X eb (tAg k T W b)) (hc : PE X ec (tP k T c)) : PE X (.Compare ea [p, p'] [eb, ec] pos) (tE k W (fChn T o o' a b c)) :=
  pe_mono (pe_chain (op_cmpD hk (by omega) o h) (op_cmpD hk (by omega) o' h') ha hb hc hm) fun _ _ _ q => tChain_of q
theorem et_chn (hk : k.K = X.K) (hu : X.A.units + 80 < cLine) {o o' : O2} {p p' : CmpOp} {a b : Ag} {c : P0} {ea eb ec : Expr} {pos : Pos} (h : o.cmp = some p) (h' : o'.cmp = some p') (hm : lastMarks [p, p'] [eb, ec] = false) (ha : PE X ea (tAg k T W a)) (hb : PE X eb (tAg k T W b)) (hc : PE X ec (tP k T c)) : PT X (.Compare ea [p, p'] [eb, ec] pos) (tT k W (fT (fChn T o o' a b c))) :=
  et_of (pt_mono (pt_chain (op_cmpD hk (by omega) o h) (op_cmpD hk (by omega) o' h') ha hb hc hm) fun _ _ _ q => tChain_of q)

/-! ### displays -/
theorem evL_len : ∀ {fs : List (M D)} {e e' : Env} {ds : List D}, evL fs e = .ok ds e' → ds.length = fs.length
  | [], _, _, _, h => by cases h; rfl
  | f :: fs, e, e', ds, h => by
    unfold evL at h
    cases q1 : f e with
    | bad => rw [bnd_bad q1] at h; cases h
    | rse c ns xs e1 => rw [bnd_rse q1] at h; cases h
    | ok d e1 =>
      rw [bnd_ok q1] at h
      cases q2 : evL fs e1 with
      | bad => rw [bnd_bad q2] at h; cases h
      | rse c ns xs e2 => rw [bnd_rse q2] at h; cases h
      | ok ds1 e2 =>
        rw [bnd_ok q2] at h
        cases h
        rw [List.length_cons, List.length_cons, evL_len q2]
def fTup (fs : List (M D)) : M D := bnd (evL fs) fun ds => ret (.tup ds)
def fLst (fs : List (M D)) : M D := bnd (evL fs) fun ds => ret (.lst true ds)
theorem ee_args : ∀ {es : List Expr} {fs : List (M D)}, Paired (fun e f => PE X e (tE k W f) ∧ stB e = false) es fs → PA X es (tA k W (evL fs))
  | _, _, .nil => pa_mono pa_nil fun σ H Q h => tA_nil h
  | _, _, .cons h t => pa_mono (pa_cons h.1 (ee_args t) (starEach_cons h.2)) fun σ H Q q => tA_cons q
theorem rE_len {fs : List (M D)} {e : Env} {Z : Zs} {H : Hp} {oe : List Addr} {σ : L2.St} {K K' : List D → Env → Prop} (h : rE k W (evL fs e) Z H oe σ K) (i : ∀ ds e', ds.length = fs.length → K ds e' → K' ds e') : rE k W (evL fs e) Z H oe σ K' := by
  cases q : evL fs e with
  | ok ds e' => rw [q] at h; exact i ds e' (evL_len q) h
  | rse c ns xs e' => rw [q] at h; exact h
  | bad => rw [q] at h; exact h
theorem SS.new {Z : Zs} {H : Hp} {σ : L2.St} {e : Env} {oe od os : List Addr} {ds : List D} {vs : List V} {d : D} {p : Addr} {o : HO} (ss : SS k Z H σ e ds vs oe od) (hp : H p = none) (r : Rep k Z (upd H p o) d (.ref p) os) (nd : os.Nodup) (so : ∀ a ∈ os, a = p ∨ a ∈ od) : SS k Z (upd H p o) σ e [d] [.ref p] oe os := by
  have f : Fr k [] Z H Z (upd H p o) := same_fr (same_new hp)
  have nn := List.nodup_append.mp ss.nd
  refine ⟨ss.er.step f (fun _ q => nomatch q) (fun _ q => nomatch q) (fun _ _ q => nomatch q), .one r, List.nodup_append.mpr ⟨nn.1, nd, fun a ha b hb e => ?_⟩, fun a ha => ?_, fun a z => f.tr a (ss.zt a z)⟩
  · subst e
    rcases so a hb with q | q
    · subst q; exact ss.er.trk a ha hp
    · exact nn.2.2 a ha a q rfl
  · rcases List.mem_append.mp ha with q | q
    · exact ss.dz a (List.mem_append_left _ q)
    · rcases so a q with q | q
      · subst q; exact fun z => ss.zt a z hp
      · exact ss.dz a (List.mem_append_right _ q)
theorem new_stp {Z : Zs} {H : Hp} {oe od os : List Addr} {p : Addr} {o : HO} (hp : H p = none) (so : ∀ a ∈ os, a = p ∨ a ∈ od) : Stp k Z H (oe ++ od) Z (upd H p o) (oe ++ os) :=
  ⟨⟨fun a u h _ _ => same_new hp a u h, fun _ z => z, (same_fr (k := k) (same_new hp) (Z := Z)).tr, fun t => LamX.Tabs.ext t (same_new hp)⟩, fun _ z => .inl z, fun a h => by
    rcases List.mem_append.mp h with q | q
    · exact .inl (List.mem_append_left _ q)
    · rcases so a q with q | q
      · subst q; exact .inr hp
      · exact .inl (List.mem_append_right _ q)⟩
theorem line_small {n : Nat} (h : n ≤ 1000) : n ≤ sizeLine := by rw [sizeLine_eq]; omega
theorem ee_tup {es : List Expr} {fs : List (M D)} {pos : Pos} {x1} (hl : fs.length ≤ 1000) (h : Paired (fun e f => PE X e (tE k W f) ∧ stB e = false) es fs) : PE X (.Tuple es x1 pos) (tE k W (fTup fs)) :=
  pe_mono (pe_tup (ee_args h)) fun σ H Q ⟨Z, e, oe, ss, q⟩ => by
    refine ⟨Z, e, oe, ss, rE_len (rE.bnd q) fun ds e1 hn h1 Z' H' vs oe' od s' st => ?_⟩
    refine ⟨line_small (by rw [← s'.rp.len, hn]; exact hl), fun p hp => ?_⟩
    have r : Rep k Z' (upd H' p (.tup vs)) (.tup ds) (.ref p) od := .tup upd_same (s'.rp.same (same_new hp))
    obtain ⟨v', e', hq⟩ := (show okEnd k Z H oe σ [.tup ds] e1 _ from h1) Z' _ [.ref p] oe' od (s'.new hp r (List.nodup_append.mp s'.nd).2.1 fun a q => .inr q) (st.trans (new_stp hp fun a q => .inr q) fun x q => q)
    cases e'
    exact hq
theorem ee_lst {es : List Expr} {fs : List (M D)} {pos : Pos} (hl : fs.length ≤ 1000) (h : Paired (fun e f => PE X e (tE k W f) ∧ stB e = false) es fs) : PE X (.List es pos) (tE k W (fLst fs)) :=
  pe_mono (pe_lst (ee_args h)) fun σ H Q ⟨Z, e, oe, ss, q⟩ => by
    refine ⟨Z, e, oe, ss, rE_len (rE.bnd q) fun ds e1 hn h1 Z' H' vs oe' od s' st => ?_⟩
    refine ⟨line_small (by rw [← s'.rp.len, hn]; exact hl), fun p hp => ?_⟩
    have r : Rep k Z' (upd H' p (.lst vs)) (.lst true ds) (.ref p) (p :: od) := .lstO upd_same (s'.rp.same (same_new hp))
    have n2 := (List.nodup_append.mp s'.nd).2.1
    obtain ⟨v', e', hq⟩ := (show okEnd k Z H oe σ [.lst true ds] e1 _ from h1) Z' _ [.ref p] oe' (p :: od) (s'.new hp r (List.nodup_cons.mpr ⟨fun z => s'.rp.trk p z hp, n2⟩) fun a q => List.mem_cons.mp q) (st.trans (new_stp hp fun a q => List.mem_cons.mp q) fun x q => q)
    cases e'
    exact hq
/-- {} -/
def fDk : M D := ret (.dk true [] [])
def fDt : M D := ret (.dt true [] [])
theorem okEnd.new {Z : Zs} {H : Hp} {oe : List Addr} {σ : L2.St} {d : D} {e : Env} {Q : VK} {p : Addr} {o : HO} (h : okEnd k Z H oe σ [d] e fun vs H' => ∃ v, vs = [v] ∧ Q v H') (ss : SS k Z H σ e [] [] oe []) (hp : H p = none) (r : Rep k Z (upd H p o) d (.ref p) [p]) : Q (.ref p) (upd H p o) := by
  obtain ⟨v', e', hq⟩ := h Z _ [.ref p] oe [p] (ss.new hp r (by simp) fun a q => .inl (List.mem_singleton.mp q)) (by
    have := new_stp (k := k) (Z := Z) (oe := oe) (od := []) (os := [p]) (o := o) hp fun a q => .inl (List.mem_singleton.mp q)
    rw [List.append_nil] at this
    exact this)
  cases e'
  exact hq
theorem ee_dk {pos : Pos} : PE X (.Dict [] [] pos) (tE k W fDk) := pe_mono pe_dnewK fun σ H Q ⟨Z, e, oe, ss, q⟩ p hp =>
  okEnd.new (show okEnd k Z H oe σ [.dk true [] []] e _ from q) ss hp (.dkO (kvs := []) upd_same rfl .nil)
theorem ee_dt {pos : Pos} : PE X (.Dict [] [] pos) (tE k W fDt) := pe_mono pe_dnewT fun σ H Q ⟨Z, e, oe, ss, q⟩ p hp =>
  okEnd.new (show okEnd k Z H oe σ [.dt true [] []] e _ from q) ss hp (.dtO (kvs := []) upd_same rfl .nil)

/-! ### subscripts and built-in calls over arguments that are read -/
def fzO (o : Option D) : Option D := match o with
  | some d => if d.fz = true then some d else none
  | none => none
theorem fzO_some {o : Option D} {d : D} (h : fzO o = some d) : o = some d ∧ d.fz = true := by
  unfold fzO at h
  split at h
  · split at h
    · cases h; exact ⟨rfl, by assumption⟩
    · cases h
  · cases h
def fSub (T : Tb) (a i : Ag) : M D := bnd (evA T [a, i]) fun ds => opt (sem2L (fun x y => fzO (subD x y)) ds)
theorem ee_sub (hk : k.K = X.K) (hu : X.A.units + 80 < cLine) {a i : Ag} {ea ei : Expr} {pos : Pos} (hp : plainIxB ei = true) (ha : PE X ea (tAg k T W a)) (hb : PE X ei (tAg k T W i)) : PE X (.Subscript ea ei pos) (tE k W (fSub T a i)) := by
  refine pe_mono (pe_ix (ix_D hk (by omega)) ha hb (plainIx_of hp)) fun σ H Q q => ?_
  refine tOp_imp (r := rSem2 k fun x y => fzO (subD x y)) (fun x y H Q ⟨Z, d1, d2, d, r1, r2, hs, q⟩ => ?_) (fun h i => tAg_mono h i) (fun h i => tAg_mono h i) (tE_sem2 q)
  obtain ⟨o1, r1⟩ := r1
  obtain ⟨o2, r2⟩ := r2
  obtain ⟨h1, h2⟩ := fzO_some hs
  exact ⟨Z, d1, d2, o1, o2, d, r1, r2, h1, fun v os r so => q.old r h2⟩
def fB (T : Tb) (sem : List D → Option D) (as : List Ag) : M D := bnd (evA T as) fun ds => opt (sem ds)
theorem ee_callB {id : String} {x : Str} {p pos : Pos} {e : Expr} {es : List Expr} {a : Ag} {as : List Ag} {sem : List D → Option D} (hc : CallR X (.builtin id) (rSem k sem)) (hg : Gl X x) (hm : X.mg x = none) (hv : bootBuiltins x = some (.builtin id)) (hn : x ≠ "__name__") (hdb : (x == ("__debug__" : Str)) = false)
    (ha : Paired (fun e a => PE X e (tAg k T W a) ∧ stB e = false) (e :: es) (a :: as)) (hs : (e :: es).all (fun e => !stB e) = true) : PE X (.Call (.Name x p) (e :: es) [] pos) (tE k W (fB T sem (a :: as))) := by
  simp only [List.all_cons, Bool.and_eq_true, Bool.not_eq_true'] at hs
  exact pe_mono (pe_callB hc hg hm hv (pa_rt ha) hn hdb (starEach_cons hs.1) (star_any hs.2)) fun σ H Q q => tE_sem q
theorem ee_callTy {id : String} {x : Str} {p pos : Pos} {e : Expr} {es : List Expr} {a : Ag} {as : List Ag} {sem : List D → Option D} (hc : CallR X (.type id) (rSem k sem)) (hg : Gl X x) (hm : X.mg x = none) (hv : bootBuiltins x = some (.type id)) (hn : x ≠ "__name__") (hdb : (x == ("__debug__" : Str)) = false)
    (ha : Paired (fun e a => PE X e (tAg k T W a) ∧ stB e = false) (e :: es) (a :: as)) (hs : (e :: es).all (fun e => !stB e) = true) : PE X (.Call (.Name x p) (e :: es) [] pos) (tE k W (fB T sem (a :: as))) := by
  simp only [List.all_cons, Bool.and_eq_true, Bool.not_eq_true'] at hs
  exact pe_mono (pe_callTy hc hg hm hv (pa_rt ha) hn hdb (starEach_cons hs.1) (star_any hs.2)) fun σ H Q q => tE_sem q
end
end Bp

/-! statements by their semantic functions, 1 -/
namespace Bp
open PySem PySem.Spec PyProof.Rows L2

inductive Ct where
  | nx | bk | ct | rt (d : D)

/-- only the slots of A have changed -/
def KpE (A : List Nat) (σ σ' : L2.St) : Prop := σ'.length = σ.length ∧ ∀ i, i ∉ A → σ'[i]? = σ[i]?
theorem KpE.refl {A : List Nat} {σ : L2.St} : KpE A σ σ := ⟨rfl, fun _ _ => rfl⟩
theorem KpE.trans {A : List Nat} {a b c : L2.St} (h : KpE A a b) (g : KpE A b c) : KpE A a c := ⟨g.1.trans h.1, fun i n => (g.2 i n).trans (h.2 i n)⟩
theorem KpE.set {A : List Nat} {σ : L2.St} {i : Nat} {v : Option V} (h : i ∈ A) : KpE A σ (σ.set i v) := ⟨List.length_set, fun j n => by
  rw [List.getElem?_set_ne]
  intro e; subst e; exact n h⟩

section
variable {X : Cx} {k : Kx} {T : Tb} {W : WX} {A : List Nat}
def sEnd (k : Kx) (A : List Nat) (Z : Zs) (H : Hp) (oe : List Addr) (σ : L2.St) (ds : List D) (e : Env) (Q : L2.St → List V → Hp → Prop) : Prop :=
  ∀ Z' H' σ' vs oe' od, SS k Z' H' σ' e ds vs oe' od → KpE A σ σ' → Stp k Z H oe Z' H' (oe' ++ od) → Q σ' vs H'
def xEndS (k : Kx) (A : List Nat) (Z : Zs) (H : Hp) (oe : List Addr) (σ : L2.St) (c : Nat) (ns : List Str) (xs : List D) (e : Env) (W : WX) : Prop :=
  ∀ Z' H' σ' oe' cls x, SS k Z' H' σ' e [] [] oe' [] → XR k Z' H' c ns xs cls x → KpE A σ σ' → Stp k Z H oe Z' H' oe' → W cls x σ' H'
def rS {α : Type} (k : Kx) (A : List Nat) (W : WX) (r : R α) (Z : Zs) (H : Hp) (oe : List Addr) (σ : L2.St) (K : α → Env → Prop) : Prop := match r with
  | .ok a e => K a e
  | .rse c ns xs e => xEndS k A Z H oe σ c ns xs e W
  | .bad => False
/-- what is wished by the way it ends -/
def cEnd (k : Kx) (A : List Nat) (Z : Zs) (H : Hp) (oe : List Addr) (σ : L2.St) (D : Ends) (c : Ct) (e : Env) : Prop := match c with
  | .nx => sEnd k A Z H oe σ [] e fun σ' _ H' => D.nx σ' H'
  | .bk => sEnd k A Z H oe σ [] e fun σ' _ H' => D.bk σ' H'
  | .ct => sEnd k A Z H oe σ [] e fun σ' _ H' => D.ct σ' H'
  | .rt d => sEnd k A Z H oe σ [d] e fun _ vs H' => ∃ v, vs = [v] ∧ D.rt v H'
def tS (k : Kx) (A : List Nat) (W : WX) (f : M Ct) : TS := fun D σ H => ∃ Z e oe, SS k Z H σ e [] [] oe [] ∧ rS k A W (f e) Z H oe σ fun c e' => cEnd k A Z H oe σ D c e'

theorem xEndS.toE {Z : Zs} {H : Hp} {oe : List Addr} {σ : L2.St} {c : Nat} {ns : List Str} {xs : List D} {e : Env} (h : xEndS k A Z H oe σ c ns xs e W) : xEnd k Z H oe σ c ns xs e W :=
  fun Z' H' oe' cls x ss xr st => h Z' H' σ oe' cls x ss xr KpE.refl st
theorem rS.toE {α : Type} {r : R α} {Z : Zs} {H : Hp} {oe : List Addr} {σ : L2.St} {K : α → Env → Prop} (h : rS k A W r Z H oe σ K) : rE k W r Z H oe σ K := by
  cases r with
  | ok a e => exact h
  | rse c ns xs e => exact xEndS.toE h
  | bad => exact h
theorem rS.bnd {α β : Type} {m : M α} {f : α → M β} {e : Env} {Z : Zs} {H : Hp} {oe : List Addr} {σ : L2.St} {K : β → Env → Prop} (h : rS k A W (bnd m f e) Z H oe σ K) :
    rS k A W (m e) Z H oe σ fun a e' => rS k A W (f a e') Z H oe σ K := by
  unfold Bp.bnd at h
  cases q : m e with
  | ok a e' => rw [q] at h; exact h
  | rse c ns xs e' => rw [q] at h; exact h
  | bad => rw [q] at h; exact h
theorem rS.imp {α : Type} {r : R α} {Z : Zs} {H : Hp} {oe : List Addr} {σ : L2.St} {K K' : α → Env → Prop} (h : rS k A W r Z H oe σ K) (i : ∀ a e, K a e → K' a e) : rS k A W r Z H oe σ K' := by
  cases r with
  | ok a e => exact i a e h
  | rse c ns xs e => exact h
  | bad => exact h
theorem xEndS.after {Z1 Z2 : Zs} {H1 H2 : Hp} {o1 o2 oa : List Addr} {σ σ2 : L2.St} {c : Nat} {ns : List Str} {xs : List D} {e : Env} (h : xEndS k A Z1 H1 o1 σ c ns xs e W) (a : Stp k Z1 H1 o1 Z2 H2 oa) (kp : KpE A σ σ2) (s : ∀ x ∈ o2, x ∈ oa) : xEndS k A Z2 H2 o2 σ2 c ns xs e W :=
  fun Z' H' σ' oe' cls x ss xr kp' st => h Z' H' σ' oe' cls x ss xr (kp.trans kp') (a.trans st s)
theorem rS.after {α : Type} {r : R α} {Z1 Z2 : Zs} {H1 H2 : Hp} {o1 o2 oa : List Addr} {σ σ2 : L2.St} {K K' : α → Env → Prop} (h : rS k A W r Z1 H1 o1 σ K) (a : Stp k Z1 H1 o1 Z2 H2 oa) (kp : KpE A σ σ2) (s : ∀ x ∈ o2, x ∈ oa) (i : ∀ a e, K a e → K' a e) : rS k A W r Z2 H2 o2 σ2 K' := by
  cases r with
  | ok a e => exact i a e h
  | rse c ns xs e => exact xEndS.after h a kp s
  | bad => exact h
theorem sEnd.after {Z1 Z2 : Zs} {H1 H2 : Hp} {o1 o2 oa : List Addr} {σ σ2 : L2.St} {ds : List D} {e : Env} {Q : L2.St → List V → Hp → Prop} (h : sEnd k A Z1 H1 o1 σ ds e Q) (a : Stp k Z1 H1 o1 Z2 H2 oa) (kp : KpE A σ σ2) (s : ∀ x ∈ o2, x ∈ oa) : sEnd k A Z2 H2 o2 σ2 ds e Q :=
  fun Z' H' σ' vs oe' od ss kp' st => h Z' H' σ' vs oe' od ss (kp.trans kp') (a.trans st s)
theorem cEnd.after {Z1 Z2 : Zs} {H1 H2 : Hp} {o1 o2 oa : List Addr} {σ σ2 : L2.St} {c : Ct} {e : Env} {D : Ends} (h : cEnd k A Z1 H1 o1 σ D c e) (a : Stp k Z1 H1 o1 Z2 H2 oa) (kp : KpE A σ σ2) (s : ∀ x ∈ o2, x ∈ oa) : cEnd k A Z2 H2 o2 σ2 D c e := by
  cases c with
  | nx => exact sEnd.after h a kp s
  | bk => exact sEnd.after h a kp s
  | ct => exact sEnd.after h a kp s
  | rt d => exact sEnd.after h a kp s
/-- other ends -/
theorem cEnd.ends {Z : Zs} {H : Hp} {oe : List Addr} {σ : L2.St} {c : Ct} {e : Env} {D D' : Ends} (h : cEnd k A Z H oe σ D c e) (n : ∀ σ H, D.nx σ H → D'.nx σ H) (b : ∀ σ H, D.bk σ H → D'.bk σ H) (t : ∀ σ H, D.ct σ H → D'.ct σ H) (r : ∀ v H, D.rt v H → D'.rt v H) : cEnd k A Z H oe σ D' c e := by
  cases c with
  | nx => exact fun Z' H' σ' vs oe' od ss kp st => n _ _ (h Z' H' σ' vs oe' od ss kp st)
  | bk => exact fun Z' H' σ' vs oe' od ss kp st => b _ _ (h Z' H' σ' vs oe' od ss kp st)
  | ct => exact fun Z' H' σ' vs oe' od ss kp st => t _ _ (h Z' H' σ' vs oe' od ss kp st)
  | rt d =>
    intro Z' H' σ' vs oe' od ss kp st
    obtain ⟨v, e1, q⟩ := h Z' H' σ' vs oe' od ss kp st
    exact ⟨v, e1, r _ _ q⟩

/-- from a state behind an expression on -/
theorem tS_of {f : M Ct} {D : Ends} {Z Z' : Zs} {H H' : Hp} {σ : L2.St} {e : Env} {oe oe' oa : List Addr} (ss : SS k Z' H' σ e [] [] oe' []) (h : rS k A W (f e) Z H oe σ fun c e' => cEnd k A Z H oe σ D c e') (st : Stp k Z H oe Z' H' oa) (s : ∀ x ∈ oe', x ∈ oa) : tS k A W f D σ H' :=
  ⟨Z', e, oe', ss, h.after st KpE.refl s fun c e' q => q.after st KpE.refl s⟩
/-- a wish of a statement's expression -/
theorem tS_expr {f : M D} {g : D → M Ct} {D : Ends} {σ : L2.St} {H : Hp} (h : tS k A W (bnd f g) D σ H) : tE k W f σ H fun v H1 => ∃ Z Z1 H0 e1 oe oe1 od d, SS k Z1 H1 σ e1 [d] [v] oe1 od ∧ Stp k Z H0 oe Z1 H1 (oe1 ++ od) ∧ rS k A W (g d e1) Z H0 oe σ fun c e' => cEnd k A Z H0 oe σ D c e' := by
  obtain ⟨Z, e, oe, ss, h⟩ := h
  refine ⟨Z, e, oe, ss, (rS.bnd h).toE.imp fun d e1 h1 Z' H' vs oe' od s' st => ?_⟩
  obtain ⟨v, rfl, rv⟩ := s'.rp.one'
  exact ⟨v, rfl, Z, Z', H, e1, oe, oe', od, d, s', st, h1⟩
theorem tS_test {f : M Bool} {g : Bool → M Ct} {D : Ends} {σ : L2.St} {H : Hp} (h : tS k A W (bnd f g) D σ H) : tT k W f σ H fun b H1 => tS k A W (g b) D σ H1 := by
  obtain ⟨Z, e, oe, ss, h⟩ := h
  refine ⟨Z, e, oe, ss, (rS.bnd h).toE.imp fun b e1 h1 Z' H' vs oe' od s' st => ?_⟩
  exact tS_of s'.drop h1 st fun x q => List.mem_append_left _ q
/-! ### sequences -/
def fSeq (f g : M Ct) : M Ct := bnd f fun c => match c with
  | .nx => g
  | c => ret c
theorem tS_seq {f g : M Ct} {D : Ends} {σ : L2.St} {H : Hp} (h : tS k A W (fSeq f g) D σ H) : tS k A W f { D with nx := tS k A W g D } σ H := by
  obtain ⟨Z, e, oe, ss, h⟩ := h
  refine ⟨Z, e, oe, ss, (rS.bnd h).imp fun c e1 h1 => ?_⟩
  cases c with
  | nx =>
    intro Z' H' σ' vs oe' od s' kp st
    cases s'.rp
    exact ⟨Z', e1, oe', s', (show rS k A W (g e1) Z H oe σ _ from h1).after st kp (fun x q => List.mem_append_left _ q) fun c e2 h2 => h2.after st kp fun x q => List.mem_append_left _ q⟩
  | bk => exact h1
  | ct => exact h1
  | rt d => exact h1
def fNx : M Ct := ret .nx
theorem tS_nx {D : Ends} {σ : L2.St} {H : Hp} (h : tS k A W fNx D σ H) : tNext D σ H := by
  obtain ⟨Z, e, oe, ss, h⟩ := h
  exact (show cEnd k A Z H oe σ D .nx e from h) Z H σ [] oe [] ss KpE.refl ((Stp.refl _ _ _).sub (by simp))
theorem es_nil : PSs X [] (tS k A W fNx) := pss_mono pss_nil fun D σ H h => tS_nx h
theorem es_cons {st : Stmt} {rest : List Stmt} {f g : M Ct} (h1 : PS X st (tS k A W f)) (h2 : PSs X rest (tS k A W g)) : PSs X (st :: rest) (tS k A W (fSeq f g)) := pss_mono (pss_cons h1 h2) fun D σ H h => tS_seq h
theorem es_pass {pos : Pos} : PS X (.Pass pos) (tS k A W fNx) := ps_mono ps_pass fun D σ H h => tS_nx h
theorem es_break {pos : Pos} : PS X (.Break pos) (tS k A W (ret .bk)) := ps_mono ps_break fun D σ H ⟨Z, e, oe, ss, h⟩ =>
  (show cEnd k A Z H oe σ D .bk e from h) Z H σ [] oe [] ss KpE.refl ((Stp.refl _ _ _).sub (by simp))
theorem es_continue {pos : Pos} : PS X (.Continue pos) (tS k A W (ret .ct)) := ps_mono ps_continue fun D σ H ⟨Z, e, oe, ss, h⟩ =>
  (show cEnd k A Z H oe σ D .ct e from h) Z H σ [] oe [] ss KpE.refl ((Stp.refl _ _ _).sub (by simp))
theorem es_retN {pos : Pos} : PS X (.Return none pos) (tS k A W (ret (.rt .non))) := ps_mono ps_retN fun D σ H ⟨Z, e, oe, ss, h⟩ => by
  obtain ⟨v, e', q⟩ := (show cEnd k A Z H oe σ D (.rt .non) e from h) Z H σ [.non] oe [] ⟨ss.er, .one .non, ss.nd, ss.dz, ss.zt⟩ KpE.refl ((Stp.refl _ _ _).sub (by simp))
  cases e'
  exact q
def fRet (f : M D) : M Ct := bnd f fun d => ret (.rt d)
theorem es_ret {e : Expr} {f : M D} {pos : Pos} (h : PE X e (tE k W f)) : PS X (.Return (some e) pos) (tS k A W (fRet f)) := ps_mono (ps_ret h) fun D σ H q => tE_mono (tS_expr q) fun v H1 ⟨Z, Z1, H0, e1, oe, oe1, od, d, s1, st, q1⟩ => by
  obtain ⟨v', e', q⟩ := (show cEnd k A Z H0 oe σ D (.rt d) e1 from q1) Z1 H1 σ [v] oe1 od s1 KpE.refl st
  cases e'
  exact q
def fDrop (f : M D) : M Ct := bnd f fun _ => ret .nx
theorem es_expr {e : Expr} {f : M D} {pos : Pos} (h : PE X e (tE k W f)) (hs : swapsWith e none pos.line X.env = pure false) : PS X (.Expr e pos) (tS k A W (fDrop f)) := ps_mono (ps_expr h hs) fun D σ H q => tE_mono (tS_expr q) fun v H1 ⟨Z, Z1, H0, e1, oe, oe1, od, d, s1, st, q1⟩ =>
  (show cEnd k A Z H0 oe σ D .nx e1 from q1) Z1 H1 σ [] oe1 [] s1.drop KpE.refl (st.sub fun x q => List.mem_append_left _ (by simpa using q))
def fIf (c : M Bool) (f g : M Ct) : M Ct := bnd c fun b => if b = true then f else g
theorem es_if {c : Expr} {p q : List Stmt} {t : M Bool} {f g : M Ct} {pos : Pos} (hc : PT X c (tT k W t)) (ha : PSs X p (tS k A W f)) (hb : PSs X q (tS k A W g)) : PS X (.If c p q pos) (tS k A W (fIf t f g)) := ps_mono (ps_if hc ha hb) fun D σ H q => tT_mono (tS_test q) fun b H1 q1 => by
  cases b
  · exact q1
  · exact q1
/-! ### names that are set -/
theorem SS.put {Z : Zs} {H : Hp} {σ : L2.St} {e : Env} {d : D} {v : V} {oe od : List Addr} {i : Nat} (ss : SS k Z H σ e [d] [v] oe od) : ∃ oe', SS k Z H (σ.set i (some v)) (e.set i (some d)) [] [] oe' [] ∧ ∀ a ∈ oe', a ∈ oe ++ od := by
  obtain ⟨v', ev, rv⟩ := ss.rp.one'
  cases ev
  by_cases hi : i < e.length
  · obtain ⟨o, o2, a, b, c⟩ := EnvR.set rv ss.er hi
    have sub : ∀ a ∈ o, a ∈ oe ++ od := fun a ha => (List.mem_append.mp (b.mem_iff.mp ha)).elim (fun q => List.mem_append_right _ q) fun q => List.mem_append_left _ (c.subset q)
    refine ⟨o, ⟨a, .nil, ?_, fun x hx => ss.dz x (sub x (by simpa using hx)), ss.zt⟩, sub⟩
    rw [List.append_nil]
    refine b.nodup_iff.mpr ?_
    have nn := List.nodup_append.mp ss.nd
    exact List.nodup_append.mpr ⟨nn.2.1, nn.1.sublist c, fun x hx y hy e => nn.2.2 y (c.subset hy) x hx e.symm⟩
  · have e1 : e.set i (some d) = e := List.set_eq_of_length_le (by omega)
    have e2 : σ.set i (some v) = σ := List.set_eq_of_length_le (by rw [ss.er.len]; omega)
    rw [e1, e2]
    exact ⟨oe, ss.drop, fun a q => List.mem_append_left _ q⟩
/-- a thing that is stored by a target -/
def tgSet (i : Nat) (d : D) : M Ct := fun e => .ok .nx (e.set i (some d))
def fSet (i : Nat) (f : M D) : M Ct := bnd f (tgSet i)
theorem es_set {i : Nat} {x : Str} {e : Expr} {f : M D} {pos pos' : Pos} (hN : X.N.Nodup) (hi : X.N[i]? = some x) (hx : Loc X.env.scope x) (iA : i ∈ A) (h : PE X e (tE k W f)) (hs : swapsWith e (some (.Name x pos')) pos.line X.env = pure false) (hf : X.fn x = true ∨ X.env.scope.names.lookup x = some .local) :
    PS X (.Assign [.Name x pos'] e pos) (tS k A W (fSet i f)) := ps_mono (ps_set hN hi hx h hs hf) fun D σ H q => tE_mono (tS_expr q) fun v H1 ⟨Z, Z1, H0, e1, oe, oe1, od, d, s1, st, q1⟩ => by
  obtain ⟨oe', s2, sub⟩ := s1.put (i := i)
  exact (show cEnd k A Z H0 oe σ D .nx (e1.set i (some d)) from q1) Z1 H1 _ [] oe' [] s2 (KpE.set iA) (st.sub fun x q => sub x (by simpa using q))
end
end Bp

/-! targets, iterators, the for statement -/
namespace Bp
open PySem PySem.Spec PyProof.Rows L2

inductive Tg where
  | nm (i : Nat)
  | tp (ts : List Tg)
def eSet (i : Nat) (d : D) (e : Env) : Option Env := if i < e.length then some (e.set i (some d)) else none
mutual
def tgE : Tg → D → Env → Option Env
  | .nm i, d, e => some (e.set i (some d))
  | .tp ts, d, e => match d with
    | .tup ds => tgEs ts ds e
    | _ => none
def tgEs : List Tg → List D → Env → Option Env
  | [], ds, e => match ds with
    | [] => some e
    | _ => none
  | t :: ts, ds, e => match ds with
    | [] => none
    | d :: ds => match tgE t d e with
      | some e' => tgEs ts ds e'
      | none => none
end
def tgM (t : Tg) (d : D) : M Unit := fun e => match tgE t d e with
  | some e' => .ok () e'
  | none => .bad

section
variable {X : Cx} {k : Kx} {T : Tb} {W : WX} {A : List Nat}
theorem Reps.head {Z : Zs} {H : Hp} {d : D} {ds : List D} {v : V} {vs : List V} {os : List Addr} (r : Reps k Z H (d :: ds) (v :: vs) os) : ∃ o1 o2, os = o1 ++ o2 ∧ Rep k Z H d v o1 ∧ Reps k Z H ds vs o2 := by
  cases r with
  | cons h t => exact ⟨_, _, rfl, h, t⟩
theorem SS.put1 {Z : Zs} {H : Hp} {σ : L2.St} {e : Env} {d : D} {ds : List D} {v : V} {vs : List V} {oe od : List Addr} {i : Nat} (ss : SS k Z H σ e (d :: ds) (v :: vs) oe od) :
    ∃ oe' od', SS k Z H (σ.set i (some v)) (e.set i (some d)) ds vs oe' od' ∧ ∀ a ∈ oe' ++ od', a ∈ oe ++ od := by
  obtain ⟨o1, o2, rfl, rv, rt⟩ := ss.rp.head
  have nn := List.nodup_append.mp ss.nd
  have n2 := List.nodup_append.mp nn.2.1
  by_cases hi : i < e.length
  · obtain ⟨o, o3, a, b, c⟩ := EnvR.set rv ss.er hi
    have sub : ∀ x ∈ o, x ∈ oe ++ o1 := fun x ha => (List.mem_append.mp (b.mem_iff.mp ha)).elim (fun q => List.mem_append_right _ q) fun q => List.mem_append_left _ (c.subset q)
    have sub2 : ∀ x ∈ o ++ o2, x ∈ oe ++ (o1 ++ o2) := fun x hx => by
      rcases List.mem_append.mp hx with q | q
      · rcases List.mem_append.mp (sub x q) with q | q
        · exact List.mem_append_left _ q
        · exact List.mem_append_right _ (List.mem_append_left _ q)
      · exact List.mem_append_right _ (List.mem_append_right _ q)
    refine ⟨o, o2, ⟨a, rt, List.nodup_append.mpr ⟨b.nodup_iff.mpr (List.nodup_append.mpr ⟨n2.1, nn.1.sublist c, fun x hx y hy e => nn.2.2 y (c.subset hy) x (List.mem_append_left _ hx) e.symm⟩), n2.2.1, fun x hx y hy e => ?_⟩, fun x hx => ss.dz x (sub2 x hx), ss.zt⟩, sub2⟩
    rcases List.mem_append.mp (sub x hx) with q | q
    · exact nn.2.2 x q y (List.mem_append_right _ hy) e
    · exact n2.2.2 x q y hy e
  · have e1 : e.set i (some d) = e := List.set_eq_of_length_le (by omega)
    have e2 : σ.set i (some v) = σ := List.set_eq_of_length_le (by rw [ss.er.len]; omega)
    rw [e1, e2]
    have sub2 : ∀ x ∈ oe ++ o2, x ∈ oe ++ (o1 ++ o2) := fun x hx => (List.mem_append.mp hx).elim (fun q => List.mem_append_left _ q) fun q => List.mem_append_right _ (List.mem_append_right _ q)
    exact ⟨oe, o2, ⟨ss.er, rt, List.nodup_append.mpr ⟨nn.1, n2.2.1, fun x hx y hy e => nn.2.2 x hx y (List.mem_append_right _ hy) e⟩, fun x hx => ss.dz x (sub2 x hx), ss.zt⟩, sub2⟩
def gG (k : Kx) (A : List Nat) (t : Tg) : TG := fun v σ H Q => ∃ Z e d ds vs oe od e', SS k Z H σ e (d :: ds) (v :: vs) oe od ∧ tgE t d e = some e' ∧
  ∀ σ' oe' od', SS k Z H σ' e' ds vs oe' od' → (∀ a ∈ oe' ++ od', a ∈ oe ++ od) → KpE A σ σ' → Q σ' H
def gGs (k : Kx) (A : List Nat) (ts : List Tg) : TGs := fun us σ H Q => ∃ Z e ds0 ds vs oe od e', SS k Z H σ e (ds0 ++ ds) (us ++ vs) oe od ∧ ds0.length = us.length ∧ tgEs ts ds0 e = some e' ∧
  ∀ σ' oe' od', SS k Z H σ' e' ds vs oe' od' → (∀ a ∈ oe' ++ od', a ∈ oe ++ od) → KpE A σ σ' → Q σ' H
theorem pg_mono {e : Expr} {t t' : TG} (h : PG X e t) (m : ∀ v σ H Q, t' v σ H Q → t v σ H Q) : PG X e t' := ⟨fun pins s σ H v u Q I r hw => h.run pins s σ H v u Q I r (m v σ H Q hw)⟩
theorem pgs_mono {e : List Expr} {t t' : TGs} (h : PGs X e t) (m : ∀ v σ H Q, t' v σ H Q → t v σ H Q) : PGs X e t' := ⟨fun pins s σ H v u Q I r hw => h.run pins s σ H v u Q I r (m v σ H Q hw)⟩
theorem eg_nm {i : Nat} {x : Str} {pos : Pos} (hN : X.N.Nodup) (hi : X.N[i]? = some x) (hx : Loc X.env.scope x) (iA : i ∈ A) (hf : X.fn x = true ∨ X.env.scope.names.lookup x = some .local) : PG X (.Name x pos) (gG k A (.nm i)) :=
  pg_mono (pg_name hN hi hx hf) fun v σ H Q ⟨Z, e, d, ds, vs, oe, od, e', ss, h, q⟩ => by
    cases h
    obtain ⟨oe', od', s', sub⟩ := ss.put1 (i := i)
    exact q _ oe' od' s' sub (KpE.set iA)
theorem egs_nil : PGs X [] (gGs k A []) := pgs_mono pgs_nil fun v σ H Q ⟨Z, e, ds0, ds, vs, oe, od, e', ss, hl, h, q⟩ => by
  unfold tgEs at h
  split at h
  · cases h
    cases v with
    | nil => exact ⟨rfl, q σ oe od ss (fun _ h => h) KpE.refl⟩
    | cons _ _ => cases hl
  · cases h
theorem assignEach_cons {e : Expr} {es : List Expr} {env : PySem.Env} (h : stB e = false) : assignEach (e :: es) env = (false, assign e env) :: assignEach es env := by
  cases e <;> first | rfl | cases h
theorem egs_cons {e : Expr} {es : List Expr} {t : Tg} {ts : List Tg} (h1 : PG X e (gG k A t)) (h2 : PGs X es (gGs k A ts)) (hs : stB e = false) : PGs X (e :: es) (gGs k A (t :: ts)) :=
  pgs_mono (pgs_cons h1 h2 (by rw [assignEach_cons hs]; rfl)) fun us σ H Q ⟨Z, e, ds0, ds, vs, oe, od, e', ss, hl, h, q⟩ => by
    unfold tgEs at h
    split at h
    · cases h
    · rename_i d ds1
      cases us with
      | nil => cases hl
      | cons v us =>
        split at h
        · rename_i e1 q1
          refine ⟨v, us, rfl, Z, e, d, ds1 ++ ds, us ++ vs, oe, od, e1, ss, q1, fun σ1 oe1 od1 s1 sub1 kp1 => ?_⟩
          refine ⟨Z, e1, ds1, ds, vs, oe1, od1, e', s1, Nat.succ.inj hl, h, fun σ2 oe2 od2 s2 sub2 kp2 => q σ2 oe2 od2 s2 (fun a ha => sub1 a (sub2 a ha)) (kp1.trans kp2)⟩
        · cases h
theorem each_len {env : PySem.Env} : ∀ {es : List Expr}, es.all (fun e => !stB e) = true → (assignEach es env).length = es.length ∧ (assignEach es env).findIdx? (·.1) = none
  | [], _ => ⟨rfl, rfl⟩
  | e :: es, h => by
    simp only [List.all_cons, Bool.and_eq_true, Bool.not_eq_true'] at h
    obtain ⟨a, b⟩ := each_len (env := env) h.2
    rw [assignEach_cons h.1]
    refine ⟨by rw [List.length_cons, List.length_cons, a], ?_⟩
    rw [List.findIdx?_cons]
    simp [b]
theorem tgEs_len : ∀ {ts : List Tg} {ds : List D} {e e' : Env}, tgEs ts ds e = some e' → ds.length = ts.length
  | [], [], _, _, _ => rfl
  | [], _ :: _, _, _, h => by simp [tgEs] at h
  | t :: ts, [], _, _, h => by simp [tgEs] at h
  | t :: ts, d :: ds, e, e', h => by
    simp only [tgEs] at h
    split at h
    · rw [List.length_cons, List.length_cons, tgEs_len h]
    · cases h
theorem eg_tp {es : List Expr} {ts : List Tg} {n : Nat} {pos : Pos} (hc : X.calm = true) (hl : ts.length = es.length) (hs : es.all (fun e => !stB e) = true) (h : PGs X es (gGs k A ts)) : PG X (.Tuple es n pos) (gG k A (.tp ts)) :=
  pg_mono (pg_tup hc h (each_len hs).1 (each_len hs).2) fun v σ H Q ⟨Z, e, d, ds, vs, oe, od, e', ss, h, q⟩ => by
    unfold tgE at h
    split at h
    · rename_i ds0
      obtain ⟨o1, o2, rfl, rv, rt⟩ := ss.rp.head
      cases rv with
      | tup eq rr =>
        refine ⟨_, _, rfl, SqT.of eq, by rw [← rr.len, tgEs_len h, hl], Z, e, ds0, ds, _, oe, o1 ++ o2, e', ⟨ss.er, rr.app rt, ss.nd, ss.dz, ss.zt⟩, rr.len, h, q⟩
    · cases h

/-! ### what is held on -/
theorem SS.join {Z1 Z2 : Zs} {H1 H2 : Hp} {σ σ2 : L2.St} {e1 e2 : Env} {ds1 ds2 : List D} {vs1 vs2 : List V} {oe1 od1 oe2 od2 : List Addr} (a : SS k Z1 H1 σ e1 ds1 vs1 oe1 od1) (b : SS k Z2 H2 σ2 e2 ds2 vs2 oe2 od2) (st : Stp k Z1 H1 oe1 Z2 H2 (oe2 ++ od2)) :
    SS k Z2 H2 σ2 e2 (ds2 ++ ds1) (vs2 ++ vs1) oe2 (od2 ++ od1) := by
  obtain ⟨p1, p2, p3⟩ := a.push b st
  have n1 := (List.nodup_append.mp a.nd).2.1
  have n2 := List.nodup_append.mp b.nd
  refine ⟨b.er, b.rp.app p1, List.nodup_append.mpr ⟨n2.1, List.nodup_append.mpr ⟨n2.2.1, n1, fun x hx y hy e => ?_⟩, fun x hx y hy e => ?_⟩, fun x hx => ?_, b.zt⟩
  · subst e; exact p2 x hy (List.mem_append_right _ hx)
  · subst e
    rcases List.mem_append.mp hy with q | q
    · exact n2.2.2 x hx x q rfl
    · exact p2 x q (List.mem_append_left _ hx)
  · rcases List.mem_append.mp hx with q | q
    · exact b.dz x (List.mem_append_left _ q)
    · rcases List.mem_append.mp q with q | q
      · exact b.dz x (List.mem_append_right _ q)
      · exact p3 x q
/-- the held ones, the heap grown -/
theorem SS.grow {Z : Zs} {H H' : Hp} {σ : L2.St} {e : Env} {ds : List D} {vs : List V} {oe od : List Addr} (a : SS k Z H σ e ds vs oe od) (s : Same H H') : SS k Z H' σ e ds vs oe od :=
  ⟨a.er.step (same_fr (k := k) s) (fun _ q => nomatch q) (fun _ q => nomatch q) (fun _ _ q => nomatch q), a.rp.same s, a.nd, a.dz, fun x z => (same_fr (k := k) s (Z := Z)).tr x (a.zt x z)⟩

/-! ### iterators -/
structure ItR where
  hold : List D
  its : List D
def GOK (k : Kx) (hs : List D) (vh : List V) (G : Hp → Prop) : Prop := ∀ Z H os, Reps k Z H hs vh os → G H
def YOK (k : Kx) (hs : List D) (vh : List V) (ds : List D) (Y : Nat → Hp → V → Hp → Prop) : Prop := ∀ i x H H' Z os, Reps k Z H hs vh os → Y i H x H' → i < ds.length → ∃ d, ds[i]? = some d ∧ Same H H' ∧ Rep k Z H' d x []
def tIt (k : Kx) (W : WX) (f : M ItR) : TI := fun σ H R => ∃ Z e oe, SS k Z H σ e [] [] oe [] ∧ rE k W (f e) Z H oe σ fun r e' =>
  ∀ Z' H' vh oe' od J G Y, SS k Z' H' σ e' r.hold vh oe' od → Stp k Z H oe Z' H' (oe' ++ od) → Walk J r.its.length G Y → GOK k r.hold vh G → YOK k r.hold vh r.its Y → R J H'
theorem pi_mono {tg e : Expr} {t t' : TI} (h : PI X tg e t) (m : ∀ σ H R, t' σ H R → t σ H R) : PI X tg e t' := ⟨fun pins s σ H R I hw => h.run pins s σ H R I (m σ H R hw)⟩

def seqO (d : D) : Option (List D) := match d with
  | .tup xs => if fzs xs = true then some xs else none
  | .lst _ xs => if fzs xs = true then some xs else none
  | .scr xs => if fzs xs = true then some xs else none
  | _ => none
def itSeq (d : D) : M ItR := fun e => match seqO d with
  | some xs => .ok ⟨[d], xs⟩ e
  | none => .bad
def fItC (f : M D) : M ItR := bnd f itSeq
theorem reps_fz {Z : Zs} {H : Hp} {xs : List D} {vs : List V} {os : List Addr} (h : fzs xs = true) (r : Reps k Z H xs vs os) : Reps k Z H xs vs [] := by
  have := r.fz0 h
  subst this
  exact r
theorem yok_at {Z : Zs} {H : Hp} {xs : List D} {vs : List V} {i : Nat} {x : V} (r : Reps k Z H xs vs []) (hx : vs[i]? = some x) (hi : i < xs.length) : ∃ d, xs[i]? = some d ∧ Rep k Z H d x [] := by
  obtain ⟨v, o, a, b, c⟩ := r.get (List.getElem?_eq_getElem hi)
  have e0 : o = [] := List.eq_nil_iff_forall_not_mem.mpr fun a ha => nomatch c a ha
  subst e0
  rw [hx] at a
  cases a
  exact ⟨_, List.getElem?_eq_getElem hi, b⟩
def isTup : D → Bool
  | .tup _ => true
  | _ => false
theorem seqO_some {d : D} {xs : List D} (h : seqO d = some xs) : fzs xs = true ∧ (d = .tup xs ∨ (∃ o, d = .lst o xs) ∨ d = .scr xs) := by
  unfold seqO at h
  split at h
  · split at h
    · cases h; exact ⟨by assumption, .inl rfl⟩
    · cases h
  · split at h
    · cases h; exact ⟨by assumption, .inr (.inl ⟨_, rfl⟩)⟩
    · cases h
  · split at h
    · cases h; exact ⟨by assumption, .inr (.inr rfl)⟩
    · cases h
  · cases h
theorem walk_lst {K : PySem.W.Frag} {a : Addr} {n : Nat} : Walk (Itl K a) n (fun H => ∃ us, SqL K H a us ∧ us.length = n) (fun i H x H' => H' = H ∧ ∀ xs, SqL K H a xs → xs[i]? = some x) :=
  ⟨fun i _ hi ⟨us, q, e⟩ => ⟨us, us[i]'(by omega), q, by simp [show i < us.length by omega]⟩, fun _ ⟨us, q, e⟩ => ⟨us, q, by omega⟩, fun _ _ _ _ _ _ y => y⟩
theorem walk_tpl {K : PySem.W.Frag} {a : Addr} {n : Nat} : Walk (Itt K a) n (fun H => ∃ us, SqT K H a us ∧ us.length = n) (fun i H x H' => H' = H ∧ ∀ xs, SqT K H a xs → xs[i]? = some x) :=
  ⟨fun i _ hi ⟨us, q, e⟩ => ⟨us, us[i]'(by omega), q, by simp [show i < us.length by omega]⟩, fun _ ⟨us, q, e⟩ => ⟨us, q, by omega⟩, fun _ _ _ _ _ _ y => y⟩
theorem hold_tup {Z : Zs} {H : Hp} {xs : List D} {a : Addr} {os : List Addr} {K : PySem.W.Frag} (r : Reps k Z H [.tup xs] [.ref a] os) : ∃ us o, SqT K H a us ∧ Reps k Z H xs us o := by
  obtain ⟨v, e, rv⟩ := r.one'
  cases e
  cases rv with
  | tup e rr => exact ⟨_, _, SqT.of e, rr⟩
theorem hold_seq {Z : Zs} {H : Hp} {d : D} {xs : List D} {a : Addr} {os : List Addr} (hd : (∃ o, d = .lst o xs) ∨ d = .scr xs) (r : Reps k Z H [d] [.ref a] os) : ∃ us o, SqL k.K H a us ∧ Reps k Z H xs us o := by
  obtain ⟨v, e, rv⟩ := r.one'
  cases e
  rcases hd with ⟨o, rfl⟩ | rfl
  · cases rv with
    | lstF z e rr => exact ⟨_, _, SqL.of e, rr⟩
    | lstO e rr => exact ⟨_, _, SqL.of e, rr⟩
  · cases rv with
    | scr e rr => exact ⟨_, _, e.sq, rr⟩
theorem isref_seq {Z : Zs} {H : Hp} {d : D} {xs : List D} {v : V} {os : List Addr} (hd : (∃ o, d = .lst o xs) ∨ d = .scr xs) (r : Rep k Z H d v os) : ∃ a, v = .ref a := by
  rcases hd with ⟨o, rfl⟩ | rfl
  · cases r with
    | lstF _ _ _ => exact ⟨_, rfl⟩
    | lstO _ _ => exact ⟨_, rfl⟩
  · cases r with
    | scr _ _ => exact ⟨_, rfl⟩
theorem ei_seq (hk : k.K = X.K) {tg e : Expr} {f : M D} (h : PE X e (tE k W f)) : PI X tg e (tIt k W (fItC f)) := by
  refine ⟨fun pins s σ H R I hw => ?_⟩
  obtain ⟨Z, env, oe, ss, q⟩ := hw
  have q := rE.bnd q
  cases q1 : f env with
  | bad => rw [q1] at q; exact (show False from q).elim
  | rse c ns xs e1 =>
    rw [q1] at q
    refine (pi_list h).run pins s σ H R I ⟨Z, env, oe, ss, ?_⟩
    rw [q1]
    exact q
  | ok d e1 =>
    rw [q1] at q
    have q2 : rE k W (itSeq d e1) Z H oe σ _ := q
    unfold itSeq at q2
    cases q3 : seqO d with
    | none => rw [q3] at q2; exact (show False from q2).elim
    | some xs =>
      rw [q3] at q2
      have q4 : ∀ Z' H' vh oe' od J G Y, SS k Z' H' σ e1 [d] vh oe' od → Stp k Z H oe Z' H' (oe' ++ od) → Walk J xs.length G Y → GOK k [d] vh G → YOK k [d] vh xs Y → R J H' := q2
      obtain ⟨fz, hd⟩ := seqO_some q3
      rcases hd with rfl | hd
      · refine (pi_tup h).run pins s σ H R I ⟨Z, env, oe, ss, ?_⟩
        rw [q1]
        intro Z' H' vs oe' od s' st
        obtain ⟨v, rfl, rv⟩ := s'.rp.one'
        cases rv with
        | tup e rr =>
          refine ⟨_, rfl, _, rfl, ⟨_, SqT.of e⟩, q4 Z' H' _ oe' od _ _ _ s' st walk_tpl (fun Z2 H2 os r => ?_) fun i x H2 H3 Z2 os r y hi => ?_⟩
          · obtain ⟨us, o, a, b⟩ := hold_tup (K := X.K) r
            exact ⟨us, a, b.len.symm⟩
          · obtain ⟨us, o, a, b⟩ := hold_tup (K := X.K) r
            obtain ⟨d, c1, c2⟩ := yok_at (reps_fz fz b) (y.2 us a) hi
            rw [y.1]
            exact ⟨d, c1, Same.refl _, c2⟩
      · refine (pi_list h).run pins s σ H R I ⟨Z, env, oe, ss, ?_⟩
        rw [q1]
        intro Z' H' vs oe' od s' st
        obtain ⟨v, rfl, rv⟩ := s'.rp.one'
        obtain ⟨a, rfl⟩ := isref_seq hd rv
        obtain ⟨us0, _, b0, _⟩ := hold_seq hd s'.rp
        refine ⟨_, rfl, a, rfl, ⟨us0, by rw [← hk]; exact b0⟩, q4 Z' H' _ oe' od _ _ _ s' st walk_lst (fun Z2 H2 os r => ?_) fun i x H2 H3 Z2 os r y hi => ?_⟩
        · obtain ⟨us, o, a, b⟩ := hold_seq hd r
          exact ⟨us, by rw [← hk]; exact a, b.len.symm⟩
        · obtain ⟨us, o, a, b⟩ := hold_seq hd r
          obtain ⟨d, c1, c2⟩ := yok_at (reps_fz fz b) (y.2 us (by rw [← hk]; exact a)) hi
          rw [y.1]
          exact ⟨d, c1, Same.refl _, c2⟩
/-! ### for -/
def forM (t : Tg) (b : M Ct) : List D → M Ct
  | [] => ret .nx
  | d :: ds => bnd (tgM t d) fun _ => bnd b fun c => match c with
    | .nx => forM t b ds
    | .ct => forM t b ds
    | .bk => ret .nx
    | .rt d => ret (.rt d)
def fFor (f : M ItR) (t : Tg) (b : M Ct) : M Ct := bnd f fun r => forM t b r.its
def noSet : Expr → Bool
  | .Set _ _ _ => false
  | _ => true
theorem folded_of {e : Expr} {env : PySem.Env} (h : noSet e = true) : ∀ x, foldedSetIterable e env x = pure x := by
  intro x
  cases e <;> first | rfl | cases h
theorem es_for {iter tg : Expr} {body : List Stmt} {f : M ItR} {t : Tg} {b : M Ct} {pos : Pos} (hp : PassesOwn (model X.prog X.w) X.A X.env X.xe) (hc : X.calm = true) (hi : PI X tg iter (tIt k W f)) (hg : PG X tg (gG k A t)) (hb : PSs X body (tS k A W b)) (hs : noSet iter = true) :
    PS X (.For tg iter body [] pos) (tS k A W (fFor f t b)) := ps_mono (ps_for hp hc hi hg hb (folded_of hs)) fun D σ H ⟨Z, e, oe, ss, q⟩ => by
  refine ⟨Z, e, oe, ss, (rS.bnd q).toE.imp fun r e1 q1 => ?_⟩
  intro Z1 H1 vh oe1 od1 J G Y s1 st1 w hG hY
  have goal := for_it w (g := gG k A t) (tb := tS k A W b) (D := D) (σ := σ) (H := H1) (Pv := fun i σ H => ∃ Z e oe od, SS k Z H σ e r.hold vh oe od ∧ rS k A W (forM t b (r.its.drop i) e) Z H oe σ fun c e' => cEnd k A Z H oe σ D c e')
    ⟨Z1, e1, oe1, od1, s1, (show rS k A W (forM t b r.its e1) Z H oe σ _ from q1).after st1 KpE.refl (fun x q => List.mem_append_left _ q) fun c e' q => q.after st1 KpE.refl fun x q => List.mem_append_left _ q⟩
    (fun i σ H _ ⟨Z, e, oe, od, s, _⟩ => hG Z H od s.rp)
    (fun i x σ2 H2 H3 hi ⟨Z2, e2, oe2, od2, s2, q2⟩ y => ?_)
    (fun σ2 H2 ⟨Z2, e2, oe2, od2, s2, q2⟩ => ?_)
  · exact goal
  · obtain ⟨d, g1, g2, g3⟩ := hY i x H2 H3 Z2 od2 s2.rp y hi
    have s3 := s2.grow g2
    rw [List.drop_eq_getElem_cons hi] at q2
    rw [List.getElem?_eq_getElem hi] at g1
    cases g1
    have q3 := rS.bnd q2
    unfold tgM at q3
    cases q4 : tgE t r.its[i] e2 with
    | none => rw [q4] at q3; exact (show False from q3).elim
    | some e3 =>
      rw [q4] at q3
      have q5 := rS.bnd (show rS k A W (bnd b _ e3) Z2 H2 oe2 σ2 _ from q3)
      have s4 : SS k Z2 H3 σ2 e2 [r.its[i]] [x] oe2 [] := ⟨s3.er, .one g3, by simpa using (List.nodup_append.mp s3.nd).1, fun a ha => s3.dz a (List.mem_append_left _ (by simpa using ha)), s3.zt⟩
      refine ⟨Z2, e2, _, [], [], oe2, [], e3, s4, q4, fun σ3 oe3 od3 s5 sub5 kp5 => ?_⟩
      have st5 : Stp k Z2 H2 oe2 Z2 H3 (oe3 ++ od3) := ⟨⟨fun a o h _ _ => g2 a o h, fun _ z => z, (same_fr (k := k) g2 (Z := Z2)).tr, fun t => LamX.Tabs.ext t g2⟩, fun _ z => .inl z, fun a ha => .inl (by simpa using sub5 a ha)⟩
      have s6 := s2.join s5 st5
      have sd := s5.drop
      refine ⟨Z2, e3, oe3, sd, q5.after st5 kp5 (fun x q => List.mem_append_left _ q) fun c e4 q6 => ?_⟩
      have st7 : Stp k Z2 H2 oe2 Z2 H3 oe3 := st5.sub fun x q => List.mem_append_left _ q
      have more : ∀ {Z' H' σ' vs oe' od'}, SS k Z' H' σ' e4 [] vs oe' od' → KpE A σ3 σ' → Stp k Z2 H3 oe3 Z' H' (oe' ++ od') → rS k A W (forM t b (r.its.drop (i + 1)) e4) Z2 H2 oe2 σ2 (fun c e' => cEnd k A Z2 H2 oe2 σ2 D c e') →
          ∃ Z e oe od, SS k Z H' σ' e r.hold vh oe od ∧ rS k A W (forM t b (r.its.drop (i + 1)) e) Z H' oe σ' fun c e' => cEnd k A Z H' oe σ' D c e' := by
        intro Z' H' σ' vs oe' od' s8 kp8 st8 q8
        have st9 := st7.trans st8 (fun x q => q)
        have s9 := s2.join s8 st9
        cases s8.rp
        exact ⟨Z', e4, oe', _, s9, q8.after st9 (kp5.trans kp8) (fun x q => List.mem_append_left _ q) fun c e' q => q.after st9 (kp5.trans kp8) fun x q => List.mem_append_left _ q⟩
      cases c with
      | nx => exact fun Z' H' σ' vs oe' od' s8 kp8 st8 => more s8 kp8 st8 q6
      | ct => exact fun Z' H' σ' vs oe' od' s8 kp8 st8 => more s8 kp8 st8 q6
      | bk =>
        intro Z' H' σ' vs oe' od' s8 kp8 st8
        have st9 := st7.trans st8 (fun x q => q)
        cases s8.rp
        exact (show cEnd k A Z2 H2 oe2 σ2 D .nx e4 from q6) Z' H' σ' [] oe' [] s8 (kp5.trans kp8) st9
      | rt d =>
        intro Z' H' σ' vs oe' od' s8 kp8 st8
        have st9 := st7.trans st8 (fun x q => q)
        exact (show cEnd k A Z2 H2 oe2 σ2 D (.rt d) e4 from q6) Z' H' σ' vs oe' od' s8 (kp5.trans kp8) st9
  · rw [List.drop_length] at q2
    exact (show cEnd k A Z2 H2 oe2 σ2 D .nx e2 from q2) Z2 H2 σ2 [] oe2 [] s2.drop KpE.refl ((Stp.refl _ _ _).sub (by simp))
end
end Bp

/-! comprehensions of lists; ranges -/
namespace Bp
open PySem PySem.Spec PyProof.Rows L2

def WF : WX := fun _ _ _ _ => False
def noR {α : Type} (m : M α) : M α := fun e => match m e with
  | .ok a e' => .ok a e'
  | _ => .bad
def wipeE (e : Env) : List Nat → Env
  | [] => e
  | v :: vs => (wipeE e vs).set v none
theorem wipeE_len (e : Env) : ∀ vs : List Nat, (wipeE e vs).length = e.length
  | [] => rfl
  | v :: vs => by unfold wipeE; rw [List.length_set, wipeE_len e vs]
theorem wipeE_some {e : Env} {i : Nat} {d : D} : ∀ {vs : List Nat}, (wipeE e vs)[i]? = some (some d) → e[i]? = some (some d) ∧ i ∉ vs
  | [], h => ⟨h, fun q => nomatch q⟩
  | v :: vs, h => by
    unfold wipeE at h
    by_cases q : v = i
    · subst q
      by_cases hl : v < (wipeE e vs).length
      · rw [List.getElem?_set_self hl] at h; cases h
      · rw [List.getElem?_eq_none (by rw [List.length_set]; omega)] at h; cases h
    · rw [List.getElem?_set_ne q] at h
      obtain ⟨a, b⟩ := wipeE_some h
      exact ⟨a, fun z => (List.mem_cons.mp z).elim (fun z => q z.symm) b⟩
section
variable {X : Cx} {k : Kx} {T : Tb} {W W' : WX} {A : List Nat}
theorem rE_noR {α : Type} {m : M α} {e : Env} {Z : Zs} {H : Hp} {oe : List Addr} {σ : L2.St} {K : α → Env → Prop} (h : rE k W (noR m e) Z H oe σ K) : rE k W' (m e) Z H oe σ K := by
  unfold noR at h
  cases q : m e with
  | ok a e' => rw [q] at h; exact h
  | rse c ns xs e' => rw [q] at h; exact (show False from h).elim
  | bad => rw [q] at h; exact (show False from h).elim
theorem EnvR.agree {Z : Zs} {H : Hp} : ∀ {σ σ' : L2.St} {e : Env} {oe : List Addr}, EnvR k Z H σ e oe → σ'.length = σ.length → (∀ (i : Nat) d, e[i]? = some (some d) → σ'[i]? = σ[i]?) → EnvR k Z H σ' e oe
  | [], [], _, _, .nil t, _, _ => .nil t
  | [], _ :: _, _, _, .nil _, h, _ => by cases h
  | x :: σ, [], _, _, _, h, _ => by cases h
  | _ :: σ, y :: σ', _, _, .non t, h, g => .non (EnvR.agree t (Nat.succ.inj h) fun i d q => g (i + 1) d q)
  | _ :: σ, y :: σ', _, _, .som r t, h, g => by
    have e0 := g 0 _ rfl
    have e0 : some y = some (some _) := e0
    cases e0
    exact .som r (EnvR.agree t (Nat.succ.inj h) fun i d q => g (i + 1) d q)
theorem EnvR.none1 {Z : Zs} {H : Hp} : ∀ {σ : L2.St} {e : Env} {oe : List Addr} (i : Nat), EnvR k Z H σ e oe → ∃ o, EnvR k Z H σ (e.set i none) o ∧ o.Sublist oe
  | _, _, _, _, .nil t => ⟨[], .nil t, List.Sublist.refl _⟩
  | _, _, _, 0, .non t => ⟨_, .non t, List.Sublist.refl _⟩
  | _, _, _, i + 1, .non t => by
    obtain ⟨o, a, b⟩ := EnvR.none1 i t
    exact ⟨o, .non a, b⟩
  | _, _, _, 0, .som r t => ⟨_, .non t, List.sublist_append_right _ _⟩
  | _, _, _, i + 1, .som (o1 := oa) r t => by
    obtain ⟨o, a, b⟩ := EnvR.none1 i t
    exact ⟨oa ++ o, .som r a, List.Sublist.append (List.Sublist.refl _) b⟩
theorem EnvR.nones {Z : Zs} {H : Hp} {σ : L2.St} {e : Env} {oe : List Addr} (r : EnvR k Z H σ e oe) : ∀ vs : List Nat, ∃ o, EnvR k Z H σ (wipeE e vs) o ∧ o.Sublist oe
  | [] => ⟨oe, r, List.Sublist.refl _⟩
  | v :: vs => by
    obtain ⟨o, a, b⟩ := r.nones vs
    obtain ⟨o', a', b'⟩ := a.none1 v
    exact ⟨o', a', b'.trans b⟩
theorem SS.sub {Z : Zs} {H : Hp} {σ σ' : L2.St} {e e' : Env} {ds : List D} {vs : List V} {oe oe' od : List Addr} (a : SS k Z H σ e ds vs oe od) (h : EnvR k Z H σ' e' oe') (s : oe'.Sublist oe) : SS k Z H σ' e' ds vs oe' od :=
  ⟨h, a.rp, a.nd.sublist (List.Sublist.append s (List.Sublist.refl _)), fun x hx => a.dz x ((List.mem_append.mp hx).elim (fun q => List.mem_append_left _ (s.subset q)) fun q => List.mem_append_right _ q), a.zt⟩
/-- behind a turn: back at the slots σ, the block's own ones forgotten -/
theorem SS.turn {Z : Zs} {H : Hp} {σ σ2 : L2.St} {e : Env} {ds : List D} {vs : List V} {oe od : List Addr} {os : List Nat} (a : SS k Z H σ2 e ds vs oe od) (hw : wipe σ2 os = wipe σ os) : ∃ oe', SS k Z H σ (wipeE e os) ds vs oe' od ∧ oe'.Sublist oe := by
  obtain ⟨o, r, s⟩ := a.er.nones os
  refine ⟨o, a.sub (r.agree ?_ fun i d q => ?_) s, s⟩
  · rw [← wipe_length σ os, ← hw, wipe_length]
  · obtain ⟨_, n⟩ := wipeE_some q
    rw [← wipe_out (σ := σ) n, ← hw, wipe_out n]
theorem SS.into {Z : Zs} {H : Hp} {σ : L2.St} {e : Env} {ds : List D} {vs : List V} {oe od : List Addr} {os : List Nat} (a : SS k Z H σ e ds vs oe od) : ∃ oe', SS k Z H (wipe σ os) (wipeE e os) ds vs oe' od ∧ oe'.Sublist oe := by
  obtain ⟨o, r, s⟩ := a.er.nones os
  refine ⟨o, a.sub (r.agree (wipe_length _ _) fun i d q => ?_) s, s⟩
  obtain ⟨_, n⟩ := wipeE_some q
  rw [wipe_out n]
theorem Stp.wide {Z Z' : Zs} {H H' : Hp} {oe on : List Addr} (a : Stp k Z H oe Z' H' on) (od : List Addr) : Stp k Z H (oe ++ od) Z' H' (on ++ od) :=
  ⟨⟨fun x o h n t => a.f.fr x o h (fun q => n (List.mem_append_left _ q)) t, a.f.zz, a.f.tr, a.f.tb⟩, fun x z => (a.zn x z).elim .inl fun q => q.elim (fun q => .inr (.inl (List.mem_append_left _ q))) fun q => .inr (.inr q), fun x h => (List.mem_append.mp h).elim (fun q => (a.ow x q).elim (fun q => .inl (List.mem_append_left _ q)) .inr) fun q => .inl (List.mem_append_right _ q)⟩

/-- what is at hand is put at the end of a list at hand -/
theorem SS.app1 {Z : Zs} {H : Hp} {σ : L2.St} {e : Env} {yd : D} {acc hs : List D} {y w : V} {vh : List V} {oe od : List Addr} (a : SS k Z H σ e (yd :: .lst true acc :: hs) (y :: w :: vh) oe od) :
    ∃ p accV od', w = .ref p ∧ H p = some (.lst accV) ∧ accV.length = acc.length ∧ SS k Z (upd H p (.lst (accV ++ [y]))) σ e (.lst true (acc ++ [yd]) :: hs) (.ref p :: vh) oe od' ∧ (∀ x ∈ od', x ∈ od) ∧ Stp k Z H (oe ++ od) Z (upd H p (.lst (accV ++ [y]))) (oe ++ od') := by
  obtain ⟨o1, o2, rfl, ry, rr⟩ := a.rp.head
  obtain ⟨o3, o4, rfl, rl, rh⟩ := rr.head
  cases rl with
  | lstO e1 r1 =>
    rename_i p accV os
    have nn := List.nodup_append.mp a.nd
    have n1 := List.nodup_append.mp nn.2.1
    have n2 := List.nodup_append.mp n1.2.1
    have n3 := List.nodup_cons.mp n2.1
    have nz : ¬ Z p := a.dz p (by simp)
    have f : Fr k [p] Z H Z (upd H p (.lst (accV ++ [y]))) := ⟨fun b o h n _ => by rw [upd_ne (by intro q; subst q; exact n (by simp))]; exact h, fun _ z => z, fun b h => by
      by_cases q : b = p
      · subst q; rw [upd_same]; exact fun z => nomatch z
      · rw [upd_ne q]; exact h, fun t => tabs_upd e1 (fun ps z => by cases z) (fun φ z => by cases z) t⟩
    have mz : ∀ b ∈ [p], ¬ Z b := fun b hb => by rw [List.mem_singleton.mp hb]; exact nz
    have mm : ∀ b ∈ [p], Mut (H b) := fun b hb => by rw [List.mem_singleton.mp hb, e1]; exact trivial
    have out : ∀ {l : List Addr}, p ∉ l → ∀ b ∈ l, b ∉ [p] := fun h b hb q => h (by rw [List.mem_singleton.mp q] at hb; exact hb)
    have pe : p ∉ oe := fun q => nn.2.2 p q p (by simp) rfl
    have py : p ∉ o1 := fun q => n1.2.2 p q p (by simp) rfl
    have ph : p ∉ o4 := fun q => n2.2.2 p (by simp) p q rfl
    have r2 := (Reps.step f mz mm r1 (out n3.1)).app (Reps.one (Rep.step f mz mm ry (out py)))
    have sub : ∀ x ∈ (p :: (os ++ o1)) ++ o4, x ∈ o1 ++ ((p :: os) ++ o4) := fun x hx => by
      simp only [List.mem_append, List.mem_cons] at hx ⊢
      rcases hx with (q | q | q) | q
      · exact .inr (.inl (.inl q))
      · exact .inr (.inl (.inr q))
      · exact .inl q
      · exact .inr (.inr q)
    refine ⟨p, accV, (p :: (os ++ o1)) ++ o4, rfl, e1, r1.len.symm, ⟨a.er.step f mz mm (out pe), .cons (.lstO upd_same r2) (Reps.step f mz mm rh (out ph)), ?_, fun x hx => a.dz x ?_, fun x z => f.tr x (a.zt x z)⟩, sub, ⟨fun b o h n t => f.fr b o h (fun q => n (by rw [List.mem_singleton.mp q]; simp)) t, fun _ z => z, f.tr, f.tb⟩, fun _ z => .inl z, fun x hx => .inl ?_⟩
    · have p1 : (p :: (os ++ o1)).Perm (o1 ++ (p :: os)) := (List.Perm.cons p List.perm_append_comm).trans List.perm_middle.symm
      have p2 : ((p :: (os ++ o1)) ++ o4).Perm (o1 ++ ((p :: os) ++ o4)) := by
        rw [← List.append_assoc o1]
        exact p1.append_right o4
      exact (p2.append_left oe).nodup_iff.mpr a.nd
    · rcases List.mem_append.mp hx with q | q
      · exact List.mem_append_left _ q
      · exact List.mem_append_right _ (sub x q)
    · rcases List.mem_append.mp hx with q | q
      · exact List.mem_append_left _ q
      · exact List.mem_append_right _ (sub x q)

/-! ### list comprehensions -/
def rO {α : Type} (r : R α) (K : α → Env → Prop) : Prop := match r with
  | .ok a e => K a e
  | _ => False
theorem rO.bnd {α β : Type} {m : M α} {f : α → M β} {e : Env} {K : β → Env → Prop} (h : rO (bnd m f e) K) : rO (m e) fun a e' => rO (f a e') K := by
  unfold Bp.bnd at h
  cases q : m e with
  | ok a e' => rw [q] at h; exact h
  | rse c ns xs e' => rw [q] at h; exact (show False from h).elim
  | bad => rw [q] at h; exact (show False from h).elim
theorem rO.imp {α : Type} {r : R α} {K K' : α → Env → Prop} (h : rO r K) (i : ∀ a e, K a e → K' a e) : rO r K' := by
  cases r with
  | ok a e => exact i a e h
  | rse c ns xs e => exact (show False from h).elim
  | bad => exact (show False from h).elim
theorem rO.rE {α : Type} {r : R α} {Z : Zs} {H : Hp} {oe : List Addr} {σ : L2.St} {K : α → Env → Prop} (h : rO r K) : rE k W r Z H oe σ K := by
  cases r with
  | ok a e => exact h
  | rse c ns xs e => exact (show False from h).elim
  | bad => exact (show False from h).elim
theorem rO_noR {α : Type} {m : M α} {e : Env} {Z : Zs} {H : Hp} {oe : List Addr} {σ : L2.St} {K : α → Env → Prop} (h : rE k W (noR m e) Z H oe σ K) : rO (m e) K := by
  unfold noR at h
  cases q : m e with
  | ok a e' => rw [q] at h; exact h
  | rse c ns xs e' => rw [q] at h; exact (show False from h).elim
  | bad => rw [q] at h; exact (show False from h).elim
def lcGo {α : Type} (vs : List Nat) (t : Tg) (c : M Bool) (b : α → M α) : List D → α → M α
  | [], acc => fun e => .ok acc (wipeE e vs)
  | d :: ds, acc => fun e => bnd (tgM t d) (fun _ => bnd c fun y => if y = true then bnd (b acc) (lcGo vs t c b ds) else lcGo vs t c b ds acc) (wipeE e vs)
def lcEl (f : M D) (acc : List D) : M (List D) := fun e => if decide (acc.length < 16777216) = true then bnd f (fun y => ret (acc ++ [y])) e else .bad
def fLc (vs : List Nat) (i : M ItR) (t : Tg) (c : M Bool) (f : M D) : M D := bnd i fun r => noR (bnd (lcGo vs t c (lcEl f) r.its []) fun xs => ret (.lst true xs))
theorem line_lt {n : Nat} (h : decide (n < 16777216) = true) : n < sizeLine := by rw [sizeLine_eq]; exact of_decide_eq_true h
theorem wipeE_at {e : Env} {i : Nat} : ∀ {vs : List Nat}, i ∈ vs → i < e.length → (wipeE e vs)[i]? = some none
  | v :: vs, h, hl => by
    unfold wipeE
    by_cases q : v = i
    · subst q; rw [List.getElem?_set_self (by rw [wipeE_len]; exact hl)]
    · rw [List.getElem?_set_ne q]
      exact wipeE_at ((List.mem_cons.mp h).resolve_left fun z => q z.symm) hl
theorem wipeE_out {e : Env} {i : Nat} : ∀ {vs : List Nat}, i ∉ vs → (wipeE e vs)[i]? = e[i]?
  | [], _ => rfl
  | v :: vs, h => by
    unfold wipeE
    rw [List.getElem?_set_ne (fun z => h (by rw [z]; exact List.mem_cons_self)), wipeE_out fun z => h (List.mem_cons_of_mem _ z)]
theorem wipeE_idem (e : Env) (vs : List Nat) : wipeE (wipeE e vs) vs = wipeE e vs := by
  apply List.ext_getElem?
  intro i
  by_cases h : i ∈ vs
  · by_cases hl : i < e.length
    · rw [wipeE_at h (by rw [wipeE_len]; exact hl), wipeE_at h hl]
    · rw [List.getElem?_eq_none (by rw [wipeE_len, wipeE_len]; omega), List.getElem?_eq_none (by rw [wipeE_len]; omega)]
  · rw [wipeE_out h]
theorem wipe_at {σ : L2.St} {i : Nat} : ∀ {vs : List Nat}, i ∈ vs → i < σ.length → (wipe σ vs)[i]? = some none
  | v :: vs, h, hl => by
    unfold wipe
    by_cases q : v = i
    · subst q; rw [List.getElem?_set_self (by rw [wipe_length]; exact hl)]
    · rw [List.getElem?_set_ne q]
      exact wipe_at ((List.mem_cons.mp h).resolve_left fun z => q z.symm) hl
theorem wipe_back {σ σ2 : L2.St} {vs : List Nat} (hl : σ2.length = σ.length) (kp : KpE vs (wipe σ vs) σ2) : wipe σ2 vs = wipe σ vs := by
  apply List.ext_getElem?
  intro i
  by_cases h : i ∈ vs
  · by_cases hi : i < σ.length
    · rw [wipe_at h (by omega), wipe_at h hi]
    · rw [List.getElem?_eq_none (by rw [wipe_length]; omega), List.getElem?_eq_none (by rw [wipe_length]; omega)]
  · rw [wipe_out h, kp.2 i h]
theorem lcGo_wipe {α : Type} {vs : List Nat} {t : Tg} {c : M Bool} {b : α → M α} {ds : List D} {acc : α} {e : Env} : lcGo vs t c b ds acc (wipeE e vs) = lcGo vs t c b ds acc e := by
  cases ds with
  | nil => unfold lcGo; rw [wipeE_idem]
  | cons d ds => unfold lcGo; rw [wipeE_idem]
mutual
theorem tgE_len : ∀ {t : Tg} {d : D} {e e' : Env}, tgE t d e = some e' → e'.length = e.length
  | .nm i, d, e, e', h => by
    simp only [tgE, Option.some.injEq] at h
    rw [← h, List.length_set]
  | .tp ts, d, e, e', h => by
    unfold tgE at h
    split at h
    · exact tgEs_len' h
    · cases h
theorem tgEs_len' : ∀ {ts : List Tg} {ds : List D} {e e' : Env}, tgEs ts ds e = some e' → e'.length = e.length
  | [], ds, e, e', h => by
    unfold tgEs at h
    split at h
    · cases h; rfl
    · cases h
  | t :: ts, ds, e, e', h => by
    unfold tgEs at h
    split at h
    · cases h
    · split at h
      · rename_i q
        rw [tgEs_len' h, tgE_len q]
      · cases h
end
/-- what stays wished behind a step -/
def FnC (k : Kx) {α : Type} (F : Zs → Hp → List Addr → α → Env → Prop) : Prop := ∀ Z H o acc e Z' H' oa o', F Z H o acc e → Stp k Z H o Z' H' oa → (∀ x ∈ o', x ∈ oa) → F Z' H' o' acc e
/-- one turn -/
theorem lc_turn {α : Type} (hd : α → D) {F : Zs → Hp → List Addr → α → Env → Prop} (FC : FnC k F) {vs : List Nat} {t : Tg} {c : M Bool} {b : α → M α} {σ : L2.St} {d : D} {ds : List D} {acc : α} {hs : List D} {x : V} {vh : List V} {Z : Zs} {H H' : Hp} {e : Env} {oe od : List Addr} {p : Addr} {TB : L2.St → Hp → Prop} {NX : Hp → Prop}
    (ss : SS k Z H σ e (hd acc :: hs) (.ref p :: vh) oe od) (sm : Same H H') (rd : Rep k Z H' d x [])
    (q : rO (lcGo vs t c b (d :: ds) acc e) (F Z H (oe ++ od)))
    (body : ∀ Z e oe od σ2 H, wipe σ2 vs = wipe σ vs → SS k Z H σ2 e (hd acc :: hs) (.ref p :: vh) oe od → rO (bnd (b acc) (lcGo vs t c b ds) e) (F Z H (oe ++ od)) → TB σ2 H)
    (next : ∀ Z e oe od H, SS k Z H σ e (hd acc :: hs) (.ref p :: vh) oe od → rO (lcGo vs t c b ds acc e) (F Z H (oe ++ od)) → NX H) :
    gG k vs t x (wipe σ vs) H' fun σ2 H2 => wipe σ2 vs = wipe σ vs ∧ tT k WF c σ2 H2 fun y H3 => if y = true then TB σ2 H3 else NX H3 := by
  obtain ⟨oe1, s1, sub1⟩ := (ss.grow sm).into (os := vs)
  unfold lcGo at q
  have q1 := rO.bnd q
  unfold tgM at q1
  cases q2 : tgE t d (wipeE e vs) with
  | none => rw [q2] at q1; exact (show False from q1).elim
  | some e2 =>
    rw [q2] at q1
    have q3 := rO.bnd (show rO (bnd c _ e2) _ from q1)
    have s2 : SS k Z H' (wipe σ vs) (wipeE e vs) [d] [x] oe1 [] := ⟨s1.er, .one rd, by simpa using (List.nodup_append.mp s1.nd).1, fun a ha => s1.dz a (List.mem_append_left _ (by simpa using ha)), s1.zt⟩
    refine ⟨Z, _, d, [], [], oe1, [], e2, s2, q2, fun σ2 oe2 od2 s3 sub3 kp3 => ?_⟩
    have hl : σ2.length = σ.length := by rw [s3.er.len, tgE_len q2, wipeE_len, ← ss.er.len]
    have hw := wipe_back hl kp3
    have st3 : Stp k Z H' oe1 Z H' (oe2 ++ od2) := ⟨(Stp.refl _ _ _).f, fun _ z => .inl z, fun a ha => .inl (by simpa using sub3 a ha)⟩
    have s4 := s1.join s3 st3
    have b4 : Stp k Z H (oe ++ od) Z H' ((oe2 ++ od2) ++ od) := by
      refine Stp.wide (on := oe2 ++ od2) ⟨⟨fun a o h _ _ => sm a o h, fun _ z => z, (same_fr (k := k) sm (Z := Z)).tr, fun t => LamX.Tabs.ext t sm⟩, fun _ z => .inl z, fun a ha => .inl (sub1.subset (by simpa using sub3 a ha))⟩ od
    refine ⟨hw, Z, e2, oe2, s3.drop, q3.rE.imp fun y e3 q4 => ?_⟩
    intro Z5 H5 us oe5 od5 s5 st5
    have er5 := s5.rp
    cases er5
    have s6 := (show SS k Z H' σ2 e2 (hd acc :: hs) (.ref p :: vh) oe2 (od2 ++ od) from s4).join s5 st5
    have b6 : Stp k Z H (oe ++ od) Z5 H5 (oe5 ++ (od2 ++ od)) := (b4.trans ((st5.sub (on' := oe5) (by simp)).wide (od2 ++ od)) fun a ha => by rw [List.append_assoc]; exact ha)
    have cl : ∀ (o' : List Addr), (∀ a ∈ o', a ∈ oe5 ++ (od2 ++ od)) → ∀ (m : M α), rO (m e3) (F Z H (oe ++ od)) → rO (m e3) (F Z5 H5 o') := fun o' so m h => h.imp fun acc' e' f => FC _ _ _ _ _ _ _ _ _ f b6 so
    cases y with
    | true =>
      show TB σ2 H5
      refine body Z5 e3 oe5 (od2 ++ od) σ2 H5 hw s6 ?_
      exact cl _ (fun a ha => ha) (bnd (b acc) (lcGo vs t c b ds)) (by simpa using q4)
    | false =>
      show NX H5
      obtain ⟨oe7, s7, sub7⟩ := s6.turn hw
      refine next Z5 _ oe7 (od2 ++ od) H5 s7 ?_
      rw [lcGo_wipe]
      refine cl _ (fun a ha => ?_) (lcGo vs t c b ds acc) (by simpa using q4)
      rcases List.mem_append.mp ha with z | z
      · exact List.mem_append_left _ (sub7.subset z)
      · exact List.mem_append_right _ z
/-- an item is kept -/
theorem lc_keep {F : Zs → Hp → List Addr → List D → Env → Prop} (FC : FnC k F) {vs : List Nat} {f : M D} {m : List D → M (List D)} (hm : ∀ acc e, m acc (wipeE e vs) = m acc e) {σ σ2 : L2.St} {acc hs : List D} {vh : List V} {Z : Zs} {H : Hp} {e : Env} {oe od : List Addr} {p : Addr} {NX : Hp → Prop}
    (hw : wipe σ2 vs = wipe σ vs) (ss : SS k Z H σ2 e (.lst true acc :: hs) (.ref p :: vh) oe od) (q : rO (bnd (lcEl f acc) m e) (F Z H (oe ++ od)))
    (next : ∀ Z e acc oe od H, SS k Z H σ e (.lst true acc :: hs) (.ref p :: vh) oe od → rO (m acc e) (F Z H (oe ++ od)) → NX H) :
    tE k WF f σ2 H fun y H4 => ∃ accV, H4 p = some (.lst accV) ∧ accV.length < sizeLine ∧ NX (upd H4 p (.lst (accV ++ [y]))) := by
  have q1 := rO.bnd q
  unfold lcEl at q1
  by_cases hz : decide (acc.length < 16777216) = true
  · rw [if_pos hz] at q1
    have q2 := rO.bnd q1
    refine ⟨Z, e, oe, ss.drop, q2.rE.imp fun yd e2 q3 => ?_⟩
    intro Z5 H5 us oe5 od5 s5 st5
    obtain ⟨y, rfl, ry⟩ := s5.rp.one'
    refine ⟨y, rfl, ?_⟩
    have s6 := ss.join s5 st5
    have b6 : Stp k Z H (oe ++ od) Z5 H5 (oe5 ++ (od5 ++ od)) := by
      rw [← List.append_assoc]
      exact st5.wide od
    obtain ⟨p', accV, od', e1, h1, h2, s7, sub7, st7⟩ := (show SS k Z5 H5 σ2 e2 (yd :: .lst true acc :: hs) (y :: .ref p :: vh) oe5 (od5 ++ od) from s6).app1
    cases e1
    obtain ⟨oe8, s8, sub8⟩ := s7.turn hw
    refine ⟨accV, h1, by rw [h2]; exact line_lt hz, next Z5 _ _ oe8 od' _ s8 ?_⟩
    rw [hm]
    have b7 := b6.trans st7 fun a ha => ha
    exact (show rO (m (acc ++ [yd]) e2) (F Z H (oe ++ od)) from q3).imp fun acc' e' f => FC _ _ _ _ _ _ _ _ _ f b7 fun a ha => (List.mem_append.mp ha).elim (fun z => List.mem_append_left _ (sub8.subset z)) fun z => List.mem_append_right _ z
  · rw [if_neg hz] at q1; exact (show False from q1).elim
/-- the new list at hand, ahead of the first turn -/
theorem SS.list {Z : Zs} {H : Hp} {σ : L2.St} {e : Env} {hs : List D} {vh : List V} {oe od : List Addr} {p : Addr} (ss : SS k Z H σ e hs vh oe od) (hp : H p = none) : SS k Z (upd H p (.lst [])) σ e (.lst true [] :: hs) (.ref p :: vh) oe (p :: od) ∧ Stp k Z H (oe ++ od) Z (upd H p (.lst [])) (oe ++ (p :: od)) := by
  have s := ss.grow (same_new (o := .lst []) hp)
  have ne : p ∉ oe := fun q => ss.er.trk p q hp
  have nd : p ∉ od := fun q => ss.rp.trk p q hp
  have nn := List.nodup_append.mp ss.nd
  have r : Rep k Z (upd H p (.lst [])) (.lst true []) (.ref p) [p] := .lstO upd_same .nil
  refine ⟨⟨s.er, Reps.cons r s.rp, List.nodup_append.mpr ⟨nn.1, List.nodup_cons.mpr ⟨nd, nn.2.1⟩, fun a ha b hb e => ?_⟩, fun a ha z => ?_, s.zt⟩, ⟨fun a u h _ _ => same_new hp a u h, fun _ z => z, (same_fr (k := k) (same_new hp) (Z := Z)).tr, fun t => LamX.Tabs.ext t (same_new hp)⟩, fun _ z => .inl z, fun a ha => ?_⟩
  · subst e
    rcases List.mem_cons.mp hb with q | q
    · subst q; exact ne ha
    · exact nn.2.2 a ha a q rfl
  · rcases List.mem_append.mp ha with q | q
    · exact ss.dz a (List.mem_append_left _ q) z
    · rcases List.mem_cons.mp q with q | q
      · subst q; exact ss.zt a z hp
      · exact ss.dz a (List.mem_append_right _ q) z
  · rcases List.mem_append.mp ha with q | q
    · exact .inl (List.mem_append_left _ q)
    · rcases List.mem_cons.mp q with q | q
      · subst q; exact .inr hp
      · exact .inl (List.mem_append_right _ q)
/-- the end of the turns -/
def fnE (k : Kx) (σ : L2.St) (Q : VK) : Zs → Hp → List Addr → List D → Env → Prop := fun Z H o acc e => okEnd k Z H o σ [.lst true acc] e fun vs H' => ∃ v, vs = [v] ∧ Q v H'
theorem fnE_c {σ : L2.St} {Q : VK} : FnC k (fnE k σ Q) := fun Z H o acc e Z' H' oa o' h st s => okEnd.after h st s
theorem lc_end {σ : L2.St} {Q : VK} {Z : Zs} {H : Hp} {e : Env} {acc hs : List D} {vh : List V} {oe od : List Addr} {p : Addr} {vs : List Nat} (ss : SS k Z H σ e (.lst true acc :: hs) (.ref p :: vh) oe od) (q : fnE k σ Q Z H (oe ++ od) acc (wipeE e vs)) : Q (.ref p) H := by
  obtain ⟨o1, o2, rfl, r1, r2⟩ := ss.rp.head
  obtain ⟨o, r, s⟩ := ss.er.nones vs
  have nn := List.nodup_append.mp ss.nd
  obtain ⟨v, e', hq⟩ := q Z H [.ref p] o o1 ⟨r, .one r1, List.nodup_append.mpr ⟨nn.1.sublist s, (List.nodup_append.mp nn.2.1).1, fun a ha b hb => nn.2.2 a (s.subset ha) b (List.mem_append_left _ hb)⟩, fun a ha => ss.dz a ((List.mem_append.mp ha).elim (fun z => List.mem_append_left _ (s.subset z)) fun z => List.mem_append_right _ (List.mem_append_left _ z)), ss.zt⟩
    ((Stp.refl _ _ _).sub fun a ha => (List.mem_append.mp ha).elim (fun z => List.mem_append_left _ (s.subset z)) fun z => List.mem_append_right _ (List.mem_append_left _ z))
  cases e'
  exact hq
def cT : M Bool := ret true
theorem ets_nil : PTs X [] (tT k WF cT) := ⟨fun pins s σ H Q I hw => pts_nil.run pins s σ H Q I (tT_ret hw)⟩
theorem ets_one {e : Expr} {f : M Bool} (h : PT X e (tT k WF f)) : PTs X [e] (tT k WF f) := pts_one h
theorem tLc_of {vs : List Nat} {i : M ItR} {t : Tg} {c : M Bool} {f : M D} {σ : L2.St} {H : Hp} {Q : VK} (q : tE k W (fLc vs i t c f) σ H Q) : tLc (tIt k W i) (gG k vs t) (tT k WF c) (tE k WF f) vs σ H Q := by
  obtain ⟨Z, e, oe, ss, q⟩ := q
  refine ⟨Z, e, oe, ss, (rE.bnd q).imp fun r e1 q1 => ?_⟩
  intro Z1 H1 vh oe1 od1 J G Y s1 st1 w hG hY p hp
  have q2 := rO.bnd (rO_noR q1)
  obtain ⟨s2, st2⟩ := s1.list hp
  have b2 := st1.trans st2 fun a ha => ha
  refine lc_it w (Pv := fun i H => ∃ Z e acc oe od, SS k Z H σ e (.lst true acc :: r.hold) (.ref p :: vh) oe od ∧ rO (lcGo vs t c (lcEl f) (r.its.drop i) acc e) (fnE k σ Q Z H (oe ++ od)))
    ⟨Z1, e1, [], oe1, p :: od1, s2, q2.imp fun acc' e' q3 => okEnd.after q3 b2 fun a ha => ha⟩
    (fun i H _ ⟨Z, e, acc, oe, od, s, _⟩ => hG Z H _ s.rp.head.choose_spec.choose_spec.2.2)
    (fun i x H2 H3 hi ⟨Z2, e2, acc, oe2, od2, s2, q2⟩ y => ?_)
    (fun H2 ⟨Z2, e2, acc, oe2, od2, s2, q2⟩ => ?_)
  · obtain ⟨d, g1, g2, g3⟩ := hY i x H2 H3 Z2 _ s2.rp.head.choose_spec.choose_spec.2.2 y hi
    rw [List.drop_eq_getElem_cons hi] at q2
    rw [List.getElem?_eq_getElem hi] at g1
    cases g1
    let NX : Hp → Prop := fun H => ∃ Z e acc oe od, SS k Z H σ e (.lst true acc :: r.hold) (.ref p :: vh) oe od ∧ rO (lcGo vs t c (lcEl f) (r.its.drop (i + 1)) acc e) (fnE k σ Q Z H (oe ++ od))
    exact lc_turn (D.lst true) (NX := NX) (TB := fun σ2 H3 => tE k WF f σ2 H3 fun y H4 => ∃ acc, H4 p = some (.lst acc) ∧ acc.length < sizeLine ∧ NX (upd H4 p (.lst (acc ++ [y])))) fnE_c s2 g2 g3 q2
      (fun Z e oe od σ2 H hw s q => lc_keep (NX := NX) fnE_c (fun acc e => lcGo_wipe) hw s q fun Z e acc oe od H s q => ⟨Z, e, acc, oe, od, s, q⟩) fun Z e oe od H s q => ⟨Z, e, acc, oe, od, s, q⟩
  · rw [List.drop_length] at q2
    exact lc_end s2 q2
theorem ee_lc {elt tg iter : Expr} {ifs : List Expr} {scope : Scope} {own : List (Str × Nat)} {pos : Pos} {i : M ItR} {t : Tg} {c : M Bool} {f : M D} (hc : X.calm = true) (hN : X.N.Nodup) (hi : PI X tg iter (tIt k W i)) (ok : BlkOk X.N X.env.scope scope own)
    (hg : ∀ (s : Shared) (H : Hp) (C : Addr) (cl : List (Str × Addr)) (fp : List Addr), PG (X.blk s H scope (compEnvC scope cl C X.env) fp) tg (gG k (own.map (·.2)) t)) (ht : ∀ (s : Shared) (H : Hp) (C : Addr) (cl : List (Str × Addr)) (fp : List Addr), PTs (X.blk s H scope (compEnvC scope cl C X.env) fp) ifs (tT k WF c))
    (he : ∀ (s : Shared) (H : Hp) (C : Addr) (cl : List (Str × Addr)) (fp : List Addr), PE (X.blk s H scope (compEnvC scope cl C X.env) fp) elt (tE k WF f)) (hs : noSet iter = true) :
    PE X (.ListComp elt [⟨tg, iter, ifs, 0⟩] scope pos) (tE k W (fLc (own.map (·.2)) i t c f)) := pe_mono (pe_lc hc hN hi ok hg ht he (folded_of hs)) fun σ H Q q => tLc_of q
theorem es_setLc {j : Nat} {y : Str} {py : Pos} {elt tg iter : Expr} {ifs : List Expr} {scope : Scope} {own : List (Str × Nat)} {pos spos : Pos} {i : M ItR} {t : Tg} {c : M Bool} {f : M D} (hc : X.calm = true) (hN : X.N.Nodup) (hy : X.N[j]? = some y) (hyl : X.env.scope.names.lookup y = some .local) (jA : j ∈ A)
    (hsw : swapsWith (.ListComp elt [⟨tg, iter, ifs, 0⟩] scope pos) (some (.Name y py)) spos.line X.env = pure true) (hi : PI X tg iter (tIt k W i)) (ok : BlkOk X.N X.env.scope scope own)
    (hg : ∀ (s : Shared) (H : Hp) (C : Addr) (cl : List (Str × Addr)) (fp : List Addr), PG (X.blk s H scope (compEnvC scope cl C X.env) fp) tg (gG k (own.map (·.2)) t)) (ht : ∀ (s : Shared) (H : Hp) (C : Addr) (cl : List (Str × Addr)) (fp : List Addr), PTs (X.blk s H scope (compEnvC scope cl C X.env) fp) ifs (tT k WF c))
    (he : ∀ (s : Shared) (H : Hp) (C : Addr) (cl : List (Str × Addr)) (fp : List Addr), PE (X.blk s H scope (compEnvC scope cl C X.env) fp) elt (tE k WF f)) (hs : noSet iter = true) :
    PS X (.Assign [.Name y py] (.ListComp elt [⟨tg, iter, ifs, 0⟩] scope pos) spos) (tS k A W (fSet j (fLc (own.map (·.2)) i t c f))) := ps_mono (ps_setLc hc hN hy hyl hsw hi ok hg ht he (folded_of hs)) fun D σ H q => tLc_of (tE_mono (tS_expr q) fun v H1 ⟨Z, Z1, H0, e1, oe, oe1, od, d, s1, st, q1⟩ => by
    obtain ⟨oe', s2, sub⟩ := s1.put (i := j)
    exact (show cEnd k A Z H0 oe σ D .nx (e1.set j (some d)) from q1) Z1 H1 _ [] oe' [] s2 (KpE.set jA) (st.sub fun x q => sub x (by simpa using q)))
end
end Bp

/-! comprehensions with two fors; ranges, zip -/
namespace Bp
open PySem PySem.Spec PyProof.Rows L2
section
variable {X : Cx} {k : Kx} {T : Tb} {W W' : WX} {A : List Nat}
theorem Reps.mid {Z : Zs} {H : Hp} {d : D} {v : V} {ys : List D} {us : List V} : ∀ {xs : List D} {vs : List V} {os : List Addr}, xs.length = vs.length → Reps k Z H (xs ++ d :: ys) (vs ++ v :: us) os → ∃ os', Reps k Z H (d :: (xs ++ ys)) (v :: (vs ++ us)) os' ∧ os'.Perm os
  | [], [], os, _, r => ⟨os, r, List.Perm.refl _⟩
  | [], _ :: _, _, h, _ => by cases h
  | _ :: _, [], _, h, _ => by cases h
  | x :: xs, w :: vs, os, h, r => by
    obtain ⟨o1, o2, rfl, r1, r2⟩ := r.head
    obtain ⟨o3, r3, p3⟩ := Reps.mid (Nat.succ.inj h) r2
    obtain ⟨o4, o5, rfl, r4, r5⟩ := r3.head
    exact ⟨o4 ++ (o1 ++ o5), .cons r4 (.cons r1 r5), perm_mid.trans (p3.append_left o1)⟩
theorem SS.mid {Z : Zs} {H : Hp} {σ : L2.St} {e : Env} {d : D} {v : V} {xs ys : List D} {vs us : List V} {oe od : List Addr} (hl : xs.length = vs.length) (a : SS k Z H σ e (xs ++ d :: ys) (vs ++ v :: us) oe od) : ∃ od', SS k Z H σ e (d :: (xs ++ ys)) (v :: (vs ++ us)) oe od' ∧ od'.Perm od := by
  obtain ⟨o, r, p⟩ := Reps.mid hl a.rp
  exact ⟨o, ⟨a.er, r, (p.append_left oe).nodup_iff.mpr a.nd, fun x hx => a.dz x ((p.append_left oe).mem_iff.mp hx), a.zt⟩, p⟩
theorem SS.cut {Z : Zs} {H : Hp} {σ : L2.St} {e : Env} {d : D} {v : V} {xs ys : List D} {vs us : List V} {oe od : List Addr} (hl : xs.length = vs.length) (a : SS k Z H σ e (d :: (xs ++ ys)) (v :: (vs ++ us)) oe od) : ∃ od', SS k Z H σ e (d :: ys) (v :: us) oe od' ∧ od'.Sublist od := by
  obtain ⟨o1, o2, rfl, r1, r2⟩ := a.rp.head
  obtain ⟨v1, v2, o3, o4, e1, rfl, r3, r4⟩ := Reps.split r2
  have e2 : v1 = vs ∧ v2 = us := by
    have := List.append_inj e1.symm (by rw [← r3.len, hl])
    exact this
  obtain ⟨rfl, rfl⟩ := e2
  have s : (o1 ++ o4).Sublist (o1 ++ (o3 ++ o4)) := List.Sublist.append (List.Sublist.refl _) (List.sublist_append_right _ _)
  exact ⟨o1 ++ o4, ⟨a.er, .cons r1 r4, a.nd.sublist (List.Sublist.append (List.Sublist.refl _) s), fun x hx => a.dz x ((List.mem_append.mp hx).elim (fun q => List.mem_append_left _ q) fun q => List.mem_append_right _ (s.subset q)), a.zt⟩, s⟩
theorem lc_it1 {J : It} {n : Nat} {G : Hp → Prop} {Y : Nat → Hp → V → Hp → Prop} (w : Walk J n G Y) {H4 : Hp} {R : Hp → Prop} {B : (Hp → Prop) → V → Hp → Prop} (Pv : Nat → Hp → Prop) (h0 : Pv 0 H4) (hG : ∀ i H, i ≤ n → Pv i H → G H)
    (hs : ∀ i x H H', i < n → Pv i H → Y i H x H' → B (Pv (i + 1)) x H') (hd : ∀ H, Pv n H → R H) :
    ∃ W : Nat → Nat → Hp → Prop, (∃ m, W 0 m H4) ∧ ∀ i m H, W i m H →
      (J.stop i H ∧ R H) ∨ (J.go i H ∧ ∃ Nx : Hp → Prop, (∀ H', Nx H' → ∃ m', m' < m ∧ W (i + 1) m' H') ∧ ∀ x H', J.yld i H x H' → B Nx x H') := by
  refine ⟨fun i m H => m = n - i ∧ i ≤ n ∧ Pv i H, ⟨n, by simp, Nat.zero_le _, h0⟩, ?_⟩
  rintro i m H ⟨rfl, hi, p⟩
  have q := hG i H hi p
  by_cases hlt : i < n
  · exact .inr ⟨w.goes i H hlt q, Pv (i + 1), fun H' p' => ⟨n - (i + 1), by omega, rfl, hlt, p'⟩, fun x H' y => hs i x H H' hlt p (w.yields i H x H' hlt q y)⟩
  · have e : i = n := by omega
    subst e
    exact .inl ⟨w.stops H q, hd H p⟩
def lcIn (vs1 : List Nat) (i1 : M ItR) (t1 : Tg) (c1 : M Bool) (f : M D) (acc : List D) : M (List D) := bnd i1 fun r => lcGo vs1 t1 c1 (lcEl f) r.its acc
def fLc2 (vs vs1 : List Nat) (i : M ItR) (t : Tg) (c : M Bool) (i1 : M ItR) (t1 : Tg) (c1 : M Bool) (f : M D) : M D := bnd i fun r => noR (bnd (lcGo vs t c (lcIn vs1 i1 t1 c1 f) r.its []) fun xs => ret (.lst true xs))
theorem hold_len {Z : Zs} {H : Hp} {σ : L2.St} {e : Env} {ds : List D} {vs : List V} {oe od : List Addr} (a : SS k Z H σ e ds vs oe od) : ds.length = vs.length := a.rp.len
theorem tLc2_of {vs vs1 : List Nat} {i i1 : M ItR} {t t1 : Tg} {c c1 : M Bool} {f : M D} {σ : L2.St} {H : Hp} {Q : VK} (q : tE k W (fLc2 vs vs1 i t c i1 t1 c1 f) σ H Q) :
    tLc2 (tIt k W i) (gG k vs t) (tT k WF c) (tIt k WF i1) (gG k vs1 t1) (tT k WF c1) (tE k WF f) vs vs1 σ H Q := by
  obtain ⟨Z, e, oe, ss, q⟩ := q
  refine ⟨Z, e, oe, ss, (rE.bnd q).imp fun r e1 q1 => ?_⟩
  intro Z1 H1 vh oe1 od1 J G Y s1 st1 w hG hY p hp
  have q2 := rO.bnd (rO_noR q1)
  obtain ⟨s2, st2⟩ := s1.list hp
  have b2 := st1.trans st2 fun a ha => ha
  refine lc_it1 w (B := fun Nx x H' => gG k vs t x (wipe σ vs) H' fun σ2 H2 => wipe σ2 vs = wipe σ vs ∧ tT k WF c σ2 H2 fun b H3 => if b = true then tIt k WF i1 σ2 H3 fun J1 H4 => ∃ W1 : Nat → Nat → Hp → Prop, (∃ m, W1 0 m H4) ∧ ∀ j k' H, W1 j k' H →
      (J1.stop j H ∧ Nx H) ∨ (J1.go j H ∧ ∃ Nx1 : Hp → Prop, (∀ H', Nx1 H' → ∃ k'', k'' < k' ∧ W1 (j + 1) k'' H') ∧ ∀ x H', J1.yld j H x H' → gG k vs1 t1 x (wipe σ2 vs1) H' fun σ3 H5 => wipe σ3 vs1 = wipe σ2 vs1 ∧ tT k WF c1 σ3 H5 fun b H6 =>
        if b = true then tE k WF f σ3 H6 fun y H7 => ∃ acc, H7 p = some (.lst acc) ∧ acc.length < sizeLine ∧ Nx1 (upd H7 p (.lst (acc ++ [y]))) else Nx1 H6)
    else Nx H3) (Pv := fun j H => ∃ Z e acc oe od, SS k Z H σ e (.lst true acc :: r.hold) (.ref p :: vh) oe od ∧ rO (lcGo vs t c (lcIn vs1 i1 t1 c1 f) (r.its.drop j) acc e) (fnE k σ Q Z H (oe ++ od)))
    ⟨Z1, e1, [], oe1, p :: od1, s2, q2.imp fun acc' e' q3 => okEnd.after q3 b2 fun a ha => ha⟩
    (fun i H _ ⟨Z, e, acc, oe, od, s, _⟩ => hG Z H _ s.rp.head.choose_spec.choose_spec.2.2)
    (fun j x H2 H3 hi ⟨Z2, e2, acc, oe2, od2, s2, q2⟩ y => ?_)
    (fun H2 ⟨Z2, e2, acc, oe2, od2, s2, q2⟩ => ?_)
  · obtain ⟨d, g1, g2, g3⟩ := hY j x H2 H3 Z2 _ s2.rp.head.choose_spec.choose_spec.2.2 y hi
    rw [List.drop_eq_getElem_cons hi] at q2
    rw [List.getElem?_eq_getElem hi] at g1
    cases g1
    refine lc_turn (D.lst true) fnE_c s2 g2 g3 q2 (fun Z e oe od σ2 H hw s q => ?_) fun Z e oe od H s q => ⟨Z, e, acc, oe, od, s, q⟩
    -- the inner for
    have F1c : FnC k (fun Z H o acc e => rO (lcGo vs t c (lcIn vs1 i1 t1 c1 f) (r.its.drop (j + 1)) acc e) (fnE k σ Q Z H o)) := fun Z H o acc e Z' H' oa o' h st s => h.imp fun a e' h' => fnE_c _ _ _ _ _ _ _ _ _ h' st s
    have q5 := rO.bnd q
    unfold lcIn at q5
    have q6 := rO.bnd q5
    refine ⟨Z, e, oe, s.drop, q6.rE.imp fun r1 e5 q7 => ?_⟩
    intro Z6 H6 vh1 oe6 od6 J1 G1 Y1 s6 st6 w1 hG1 hY1
    have l1 := hold_len s6
    obtain ⟨od7, s7, pm7⟩ := (s.join s6 st6).mid l1
    have b7 : Stp k Z H (oe ++ od) Z6 H6 (oe6 ++ od7) := ((st6.wide od).sub fun a ha => by
      rw [List.append_assoc]
      exact (pm7.append_left oe6).mem_iff.mp ha)
    refine lc_it1 w1 (B := fun Nx1 x H' => gG k vs1 t1 x (wipe σ2 vs1) H' fun σ3 H5 => wipe σ3 vs1 = wipe σ2 vs1 ∧ tT k WF c1 σ3 H5 fun b H6 =>
        if b = true then tE k WF f σ3 H6 fun y H7 => ∃ acc, H7 p = some (.lst acc) ∧ acc.length < sizeLine ∧ Nx1 (upd H7 p (.lst (acc ++ [y]))) else Nx1 H6)
      (Pv := fun i H => ∃ Z e acc oe od, SS k Z H σ2 e (.lst true acc :: (r1.hold ++ r.hold)) (.ref p :: (vh1 ++ vh)) oe od ∧ rO (lcGo vs1 t1 c1 (lcEl f) (r1.its.drop i) acc e) fun acc e => rO (lcGo vs t c (lcIn vs1 i1 t1 c1 f) (r.its.drop (j + 1)) acc e) (fnE k σ Q Z H (oe ++ od)))
      ⟨Z6, e5, acc, oe6, od7, s7, q7.imp fun acc' e' q8 => F1c _ _ _ _ _ _ _ _ _ q8 b7 fun a ha => ha⟩
      (fun i H _ ⟨Z, e, acc, oe, od, s, _⟩ => by
        obtain ⟨o1, o2, _, _, rr⟩ := s.rp.head
        obtain ⟨v1, v2, o3, o4, e1, _, r3, _⟩ := Reps.split rr
        have e2 := (List.append_inj e1.symm (by rw [← r3.len, l1])).1
        subst e2
        exact hG1 Z H _ r3)
      (fun i x H2 H3 hi ⟨Z2, e2, acc, oe2, od2, s2, q2⟩ y => ?_)
      (fun H2 ⟨Z2, e2, acc, oe2, od2, s2, q2⟩ => ?_)
    · have : ∃ d, r1.its[i]? = some d ∧ Same H2 H3 ∧ Rep k Z2 H3 d x [] := by
        obtain ⟨o1, o2, _, _, rr⟩ := s2.rp.head
        obtain ⟨v1, v2, o3, o4, e1, _, r3, _⟩ := Reps.split rr
        have e2 := (List.append_inj e1.symm (by rw [← r3.len, l1])).1
        subst e2
        exact hY1 i x H2 H3 Z2 _ r3 y hi
      obtain ⟨d, g1, g2, g3⟩ := this
      rw [List.drop_eq_getElem_cons hi] at q2
      rw [List.getElem?_eq_getElem hi] at g1
      cases g1
      let NX : Hp → Prop := fun H => ∃ Z e acc oe od, SS k Z H σ2 e (.lst true acc :: (r1.hold ++ r.hold)) (.ref p :: (vh1 ++ vh)) oe od ∧ rO (lcGo vs1 t1 c1 (lcEl f) (r1.its.drop (i + 1)) acc e) fun acc e => rO (lcGo vs t c (lcIn vs1 i1 t1 c1 f) (r.its.drop (j + 1)) acc e) (fnE k σ Q Z H (oe ++ od))
      exact lc_turn (D.lst true) (NX := NX) (TB := fun σ3 H6 => tE k WF f σ3 H6 fun y H7 => ∃ acc, H7 p = some (.lst acc) ∧ acc.length < sizeLine ∧ NX (upd H7 p (.lst (acc ++ [y])))) F1c s2 g2 g3 q2
        (fun Z e oe od σ3 H hw s q => lc_keep (NX := NX) F1c (fun acc e => lcGo_wipe) hw s q fun Z e acc oe od H s q => ⟨Z, e, acc, oe, od, s, q⟩) fun Z e oe od H s q => ⟨Z, e, acc, oe, od, s, q⟩
    · rw [List.drop_length] at q2
      obtain ⟨od8, s8, sub8⟩ := s2.cut l1
      obtain ⟨oeA, erA, subA⟩ := s8.er.nones vs1
      obtain ⟨oe9, s9, sub9⟩ := (s8.sub erA subA).turn hw
      refine ⟨Z2, _, acc, oe9, od8, s9, ?_⟩
      rw [lcGo_wipe]
      exact (show rO (lcGo vs t c (lcIn vs1 i1 t1 c1 f) (r.its.drop (j + 1)) acc (wipeE e2 vs1)) (fnE k σ Q Z2 H2 (oe2 ++ od2)) from q2).imp fun a e' h' => fnE_c _ _ _ _ _ _ _ _ _ h' (Stp.refl _ _ _) fun x hx => (List.mem_append.mp hx).elim (fun z => List.mem_append_left _ (subA.subset (sub9.subset z))) fun z => List.mem_append_right _ (sub8.subset z)
  · rw [List.drop_length] at q2
    exact lc_end s2 q2
theorem ee_lc2 {elt tg iter tg1 iter1 : Expr} {ifs ifs1 : List Expr} {scope : Scope} {own : List (Str × Nat)} {vs1 : List Nat} {pos : Pos} {i i1 : M ItR} {t t1 : Tg} {c c1 : M Bool} {f : M D} (hc : X.calm = true) (hN : X.N.Nodup) (hi : PI X tg iter (tIt k W i)) (ok : BlkOk X.N X.env.scope scope own) (hv : ∀ i ∈ vs1, i ∈ own.map (·.2))
    (hg : ∀ (s : Shared) (H : Hp) (C : Addr) (cl : List (Str × Addr)) (fp : List Addr), PG (X.blk s H scope (compEnvC scope cl C X.env) fp) tg (gG k (own.map (·.2)) t)) (ht : ∀ (s : Shared) (H : Hp) (C : Addr) (cl : List (Str × Addr)) (fp : List Addr), PTs (X.blk s H scope (compEnvC scope cl C X.env) fp) ifs (tT k WF c))
    (hi1 : ∀ (s : Shared) (H : Hp) (C : Addr) (cl : List (Str × Addr)) (fp : List Addr), PI (X.blk s H scope (compEnvC scope cl C X.env) fp) tg1 iter1 (tIt k WF i1))
    (hg1 : ∀ (s : Shared) (H : Hp) (C : Addr) (cl : List (Str × Addr)) (fp : List Addr), PG (X.blk s H scope (compEnvC scope cl C X.env) fp) tg1 (gG k vs1 t1)) (ht1 : ∀ (s : Shared) (H : Hp) (C : Addr) (cl : List (Str × Addr)) (fp : List Addr), PTs (X.blk s H scope (compEnvC scope cl C X.env) fp) ifs1 (tT k WF c1))
    (he : ∀ (s : Shared) (H : Hp) (C : Addr) (cl : List (Str × Addr)) (fp : List Addr), PE (X.blk s H scope (compEnvC scope cl C X.env) fp) elt (tE k WF f)) (hs : noSet iter = true) (hs1 : noSet iter1 = true) :
    PE X (.ListComp elt [⟨tg, iter, ifs, 0⟩, ⟨tg1, iter1, ifs1, 0⟩] scope pos) (tE k W (fLc2 (own.map (·.2)) vs1 i t c i1 t1 c1 f)) := pe_mono (pe_lc2 hc hN hi ok hv hg ht hi1 hg1 ht1 he (folded_of hs) (fun env => folded_of hs1)) fun σ H Q q => tLc2_of q
theorem es_setLc2 {j : Nat} {y : Str} {py : Pos} {elt tg iter tg1 iter1 : Expr} {ifs ifs1 : List Expr} {scope : Scope} {own : List (Str × Nat)} {vs1 : List Nat} {pos spos : Pos} {i i1 : M ItR} {t t1 : Tg} {c c1 : M Bool} {f : M D} (hc : X.calm = true) (hN : X.N.Nodup) (hy : X.N[j]? = some y) (hyl : X.env.scope.names.lookup y = some .local) (jA : j ∈ A)
    (hsw : swapsWith (.ListComp elt [⟨tg, iter, ifs, 0⟩, ⟨tg1, iter1, ifs1, 0⟩] scope pos) (some (.Name y py)) spos.line X.env = pure true) (hi : PI X tg iter (tIt k W i)) (ok : BlkOk X.N X.env.scope scope own) (hv : ∀ i ∈ vs1, i ∈ own.map (·.2))
    (hg : ∀ (s : Shared) (H : Hp) (C : Addr) (cl : List (Str × Addr)) (fp : List Addr), PG (X.blk s H scope (compEnvC scope cl C X.env) fp) tg (gG k (own.map (·.2)) t)) (ht : ∀ (s : Shared) (H : Hp) (C : Addr) (cl : List (Str × Addr)) (fp : List Addr), PTs (X.blk s H scope (compEnvC scope cl C X.env) fp) ifs (tT k WF c))
    (hi1 : ∀ (s : Shared) (H : Hp) (C : Addr) (cl : List (Str × Addr)) (fp : List Addr), PI (X.blk s H scope (compEnvC scope cl C X.env) fp) tg1 iter1 (tIt k WF i1))
    (hg1 : ∀ (s : Shared) (H : Hp) (C : Addr) (cl : List (Str × Addr)) (fp : List Addr), PG (X.blk s H scope (compEnvC scope cl C X.env) fp) tg1 (gG k vs1 t1)) (ht1 : ∀ (s : Shared) (H : Hp) (C : Addr) (cl : List (Str × Addr)) (fp : List Addr), PTs (X.blk s H scope (compEnvC scope cl C X.env) fp) ifs1 (tT k WF c1))
    (he : ∀ (s : Shared) (H : Hp) (C : Addr) (cl : List (Str × Addr)) (fp : List Addr), PE (X.blk s H scope (compEnvC scope cl C X.env) fp) elt (tE k WF f)) (hs : noSet iter = true) (hs1 : noSet iter1 = true) :
    PS X (.Assign [.Name y py] (.ListComp elt [⟨tg, iter, ifs, 0⟩, ⟨tg1, iter1, ifs1, 0⟩] scope pos) spos) (tS k A W (fSet j (fLc2 (own.map (·.2)) vs1 i t c i1 t1 c1 f))) := ps_mono (ps_setLc2 hc hN hy hyl hsw hi ok hv hg ht hi1 hg1 ht1 he (folded_of hs) (fun env => folded_of hs1)) fun D σ H q => tLc2_of (tE_mono (tS_expr q) fun v H1 ⟨Z, Z1, H0, e1, oe, oe1, od, d, s1, st, q1⟩ => by
    obtain ⟨oe', s2, sub⟩ := s1.put (i := j)
    exact (show cEnd k A Z H0 oe σ D .nx (e1.set j (some d)) from q1) Z1 H1 _ [] oe' [] s2 (KpE.set jA) (st.sub fun x q => sub x (by simpa using q)))

/-! ### ranges, zip -/
def rngD (lo : Int) (n : Nat) : List D := (List.range n).map fun i => .int (lo + (i : Nat))
def rngOk (i : Int) : Bool := decide (-4611686018427387904 ≤ i) && decide (i < 4611686018427387904)
theorem rngOk_of {i : Int} (h : rngOk i = true) : -(2 ^ 62) ≤ i ∧ i < 2 ^ 62 := by
  unfold rngOk at h
  simp only [Bool.and_eq_true, decide_eq_true_eq] at h
  exact ⟨by have := h.1; omega, by have := h.2; omega⟩
theorem tR_it {as : List Ag} {g : List D → M ItR} {σ : L2.St} {H : Hp} {R : It → Hp → Prop} (q : tIt k W (bnd (evA T as) g) σ H R) : tR k W (evA T as) σ H fun vs H1 => ∃ Z0 H0 Z1 e1 oe oe1 ds, SS k Z1 H1 σ e1 [] [] oe1 [] ∧ RWs k Z1 H1 ds vs ∧ Stp k Z0 H0 oe Z1 H1 oe1 ∧ rE k W (g ds e1) Z0 H0 oe σ fun r e' =>
    ∀ Z' H' vh oe' od J G Y, SS k Z' H' σ e' r.hold vh oe' od → Stp k Z0 H0 oe Z' H' (oe' ++ od) → Walk J r.its.length G Y → GOK k r.hold vh G → YOK k r.hold vh r.its Y → R J H' := by
  obtain ⟨Z, e, oe, ss, q⟩ := q
  exact ⟨Z, e, oe, ss, (rE.bnd q).imp fun ds e1 q1 Z' H' vs oe' s' rw st => ⟨Z, H, Z', e1, oe, oe', ds, s', rw, st, q1⟩⟩
def rng1 (ds : List D) : M ItR := fun e => match ds with
  | [.int j] => if rngOk j = true then .ok ⟨[], rngD 0 j.toNat⟩ e else .bad
  | _ => .bad
def rng2 (ds : List D) : M ItR := fun e => match ds with
  | [.int i, .int j] => if (rngOk i && rngOk j) = true then .ok ⟨[], rngD i (j - i).toNat⟩ e else .bad
  | _ => .bad
theorem rngD_len (lo : Int) (n : Nat) : (rngD lo n).length = n := by simp [rngD]
theorem walk_rng {lo : Int} {n : Nat} : Walk (Itr lo n) (rngD lo n).length (fun _ => True) (YFn fun i => .int (lo + i)) := by
  rw [rngD_len]; exact walk_range
theorem yok_rng {lo : Int} {n : Nat} : YOK k [] [] (rngD lo n) (YFn fun i => .int (lo + i)) := fun i x H H' Z os _ y hi => by
  obtain ⟨rfl, rfl⟩ := y
  rw [rngD_len] at hi
  exact ⟨.int (lo + (i : Nat)), by simp [rngD, hi], Same.refl _, .int _⟩
def rng (n : Nat) (ds : List D) : M ItR := match n with
  | 1 => rng1 ds
  | _ => rng2 ds
theorem ei_rng1 {tg e : Expr} {p pos : Pos} {a : Ag} (hg : Gl X "range") (hm : X.mg "range" = none) (ha : PE X e (tAg k T W a)) (hs : stB e = false) : PI X tg (.Call (.Name "range" p) [e] [] pos) (tIt k W (bnd (evA T [a]) rng1)) :=
  pi_mono (pi_range1 hg hm (pa_rt (.cons ⟨ha, hs⟩ .nil)) (starEach_cons hs)) fun σ H R q => tR_mono (tR_it q) fun vs H1 ⟨Z0, H0, Z1, e1, oe, oe1, ds, s1, rw, st, q⟩ => by
    unfold rng1 at q
    split at q
    · rename_i j
      split at q
      · rename_i hj
        match vs, rw with
        | [v], rw =>
          cases rw.1.int
          obtain ⟨h1, h2⟩ := rngOk_of hj
          exact ⟨j, rfl, h1, h2, q Z1 H1 [] oe1 [] _ _ _ s1 (st.sub (by simp)) walk_rng (fun _ _ _ _ => trivial) yok_rng⟩
        | [], rw => exact (show False from rw).elim
        | _ :: _ :: _, rw => exact (show False from rw.2).elim
      · exact (show False from q).elim
    · exact (show False from q).elim
theorem ei_rng2 {tg e e2 : Expr} {p pos : Pos} {a b : Ag} (hg : Gl X "range") (hm : X.mg "range" = none) (ha : PE X e (tAg k T W a)) (hb : PE X e2 (tAg k T W b)) (hs : stB e = false) (hs2 : stB e2 = false) : PI X tg (.Call (.Name "range" p) [e, e2] [] pos) (tIt k W (bnd (evA T [a, b]) rng2)) :=
  pi_mono (pi_range2 hg hm (pa_rt (.cons ⟨ha, hs⟩ (.cons ⟨hb, hs2⟩ .nil))) (by rw [starEach_cons hs, starEach_cons hs2]; rfl) (starEach_cons hs2)) fun σ H R q => tR_mono (tR_it q) fun vs H1 ⟨Z0, H0, Z1, e1, oe, oe1, ds, s1, rw, st, q⟩ => by
    unfold rng2 at q
    split at q
    · rename_i i j
      split at q
      · rename_i hj
        simp only [Bool.and_eq_true] at hj
        match vs, rw with
        | [v, u], rw =>
          cases rw.1.int
          cases rw.2.1.int
          obtain ⟨h1, h2⟩ := rngOk_of hj.1
          obtain ⟨h3, h4⟩ := rngOk_of hj.2
          exact ⟨i, j, rfl, ⟨h1, h2, h3, h4⟩, q Z1 H1 [] oe1 [] _ _ _ s1 (st.sub (by simp)) walk_rng (fun _ _ _ _ => trivial) yok_rng⟩
        | [], rw => exact (show False from rw).elim
        | [_], rw => exact (show False from rw.2).elim
        | _ :: _ :: _ :: _, rw => exact (show False from rw.2.2).elim
      · exact (show False from q).elim
    · exact (show False from q).elim
end
end Bp

/-! enumerate over tuples (and lists, through the same road) -/
namespace Bp
open PySem PySem.Spec PyProof.Rows L2
open AutoSeq1 (wpAny_loadPart')

set_option maxHeartbeats 1000000 in
theorem enumNew1 {v : Value} {o : Obj} {Hh : Heap → Prop} (B : Begins v o Hh) :
    Meets (Builtin.«enumerate.__new__» ⟨[.type "enumerate", v], []⟩) (fun _ R s => Hh s.heap ∧
      R (.ok (.ret (.ref (s.heap.push o).objs.size))) { s with heap := (s.heap.push o).push { cls := .type "enumerate", data := .fields #[.none, .bool false, .ref s.heap.objs.size, rawInt 0, .none, .none] } }) :=
  .of_wp fun prog w A R s hyp => by
    obtain ⟨hp, g, d, tk, os⟩ := s
    obtain ⟨hB, hyp⟩ := hyp
    have sube := sub_enumerate
    have itr : ∀ {A' : Around} {E' : Value → Shared → Prop} {Q' : Value → Shared → Prop}, Q' (.ref hp.objs.size) ⟨hp.push o, g, d, tk, os⟩ → wpAny (model prog w) A' (pyIter v) Q' E' ⟨hp, g, d, tk, os⟩ :=
      fun q => B.iter prog w _ _ ⟨hp, g, d, tk, os⟩ _ hB q
    wp_walk using itr
    refine wpAny_stack_any fun stk => wpAny_pure ?_
    split
    · rename_i cc _ _ _ _ _
      cases (cc == Value.type "enumerate") <;> (wp_walk using itr; exact ⟨_, rfl, hyp⟩)
    · wp_walk using itr
      exact ⟨_, rfl, hyp⟩
theorem call_enum1 {prog : Program} {w : World} {A : Around} {E : Value → Shared → Prop} {s : Shared} {v : Value} {o : Obj} {Hh : Heap → Prop} {Q : Value → Shared → Prop} (B : Begins v o Hh) (hB : Hh s.heap)
    (h : ∀ h', IsEnum h' (s.heap.objs.size + 1) s.heap.objs.size 0 .none → h'.get? s.heap.objs.size = some o → (∀ b o, s.heap.get? b = some o → h'.get? b = some o) → Q (.ref (s.heap.objs.size + 1)) { s with heap := h' }) :
    wpAny (model prog w) A (call (.type "enumerate") [v]) Q E s := by
  refine callType_new F.called_enumerate (by decide) (F.typeCall_enumerate_1 _) (F.newCall_enumerate_1 _) (fun obj => F.args_object_init_2 obj _) F.entry_enumerate_new (enumNew1 B) ⟨hB, ?_⟩
  have sz : (s.heap.push o).objs.size = s.heap.objs.size + 1 := Heap.size_push ..
  show _ ∧ _
  rw [sz]
  have en : IsEnum ((s.heap.push o).push { cls := .type "enumerate", data := .fields #[.none, .bool false, .ref s.heap.objs.size, rawInt 0, .none, .none] }) (s.heap.objs.size + 1) s.heap.objs.size 0 .none := by
    have t := Heap.get?_push_size (s.heap.push o) (o := { cls := .type "enumerate", data := .fields #[.none, .bool false, .ref s.heap.objs.size, rawInt 0, .none, .none] }) rfl
    rw [sz] at t
    exact t
  exact ⟨⟨_, en, rfl⟩, h _ en (Heap.get?_push_of_some _ (Heap.get?_push_size _ B.free)) fun b ob x => Heap.get?_push_of_some _ (Heap.get?_push_of_some _ x)⟩

/-- the tuple at a, counted -/
def ItET (K : PySem.W.Frag) (a : Addr) : It :=
  ⟨fun i H => ∃ (xs : List V) (x : V), SqT K H a xs ∧ xs[i]? = some x, fun i H v H' => ∃ T x, v = .ref T ∧ H T = none ∧ H' = upd H T (.tup [.int (i : Nat), x]) ∧ ∀ xs, SqT K H a xs → xs[i]? = some x, fun i H => ∃ xs : List V, SqT K H a xs ∧ xs.length ≤ i⟩
theorem turn_enumT {P : Program} {w : World} {K : PySem.W.Frag} {elts : List Expr} {kk : Nat} {tpos : Pos} (a e it : Addr) (hat : a ≠ it) (hae : a ≠ e) :
    Turn P w K (.Tuple elts kk tpos) (ItET K a) [e, it] e (fun i h => (∃ old, IsEnum h e it ((i : Nat) : Int) old) ∧ h.IsTupleIter it a i ∧ e ≠ it) where
  mem := by simp
  obj := fun i h st b hb => by
    obtain ⟨⟨old, he⟩, ⟨o, ho, hc, hd⟩, _⟩ := st
    have cs : b = e ∨ b = it := by simpa using hb
    rcases cs with z | z <;> subst z
    · exact ⟨_, he, fun v q => nomatch q⟩
    · exact ⟨o, ho, fun v q => by rw [hd] at q; cases q⟩
  keep := fun i h h' st kp => by
    obtain ⟨⟨old, he⟩, hi, hne⟩ := st
    exact ⟨⟨old, kp e (by simp) _ he⟩, hi.at fun o q => kp it (by simp) o q, hne⟩
  item := by
    intro X hP hw hK hc i pins s σ H E I hf st hg
    subst hP hw hK
    obtain ⟨⟨old, he⟩, hit, hne⟩ := st
    obtain ⟨xs, x, hq, hx⟩ := hg
    obtain ⟨its, rv, pt, hz⟩ := I.tuple hq
    obtain ⟨u, hu, ru⟩ := rv.get hx
    have hel : e < s.heap.objs.size := Heap.lt_size he
    have hil : it < s.heap.objs.size := by obtain ⟨_, q, _⟩ := hit; exact Heap.lt_size q
    have D : Draws X.prog X.w X.A.in1 it [it, a] its.toArray.size (fun i v => its.toArray[i]? = some v) (fun i h => h.IsTupleIter it a i ∧ h.IsTuple a its.toArray) := Draws.tuple (show X.A.in1.handled = none from I.ok.hd hc) it a hat its.toArray
    have hlt : i < its.toArray.size := by
      obtain ⟨q, _⟩ := List.getElem?_eq_some_iff.mp hu
      simpa using q
    refine wpAny_pyNext_enum_itemD D he ⟨hit, pt⟩ hlt hne (by simp [hne, hae.symm]) fun y h' tk hy ho hst' hT hsz hk => ?_
    have ey : y = u := by
      have z : its.toArray[i]? = some u := by simpa using hu
      have := hy.symm.trans z
      exact Option.some.inj this
    subst ey
    refine ⟨_, rfl, wpAny_letOwnedTupleGo_enum (s := { s with heap := h', toks := tk + 1 }) ho fun h2 he2 sb => ?_⟩
    have hT2 : h2.get? s.heap.objs.size = some { cls := .type "tuple", data := .seq #[.int i tk, y] } := (sb.2 _ (Nat.ne_of_gt hel)).trans hT
    have new : ObjOk X.prog X.w (upd H s.heap.objs.size (.tup [.int (i : Nat), x])) h2 s.heap.objs.size (.tup [.int (i : Nat), x]) :=
      ⟨by show 2 ≤ sizeLine; decide, [.int i tk, y], .cons ⟨_, rfl⟩ (.cons ru .nil), ⟨_, hT2, rfl, _, rfl⟩⟩
    have I1 : Inv X pins σ (upd H s.heap.objs.size (.tup [.int (i : Nat), x])) { s with heap := h2, toks := tk + 1 } :=
      I.turnedNew (ch := [e, it]) (fun b ob hb q => (sb.2 b fun z => hb (by simp [z])).trans (hk b ob (fun z => hb (by simp [z])) (fun z => hb (by simp [z])) q)) hf (Nat.le_refl _) new
    refine ⟨.ref s.heap.objs.size, _, I1, rfl, ⟨_, x, rfl, I.hok.fresh (Nat.le_refl _), rfl, fun ys hy => by rw [I.tuple_inj hy hq]; exact hx⟩, ⟨⟨y, ?_⟩, hst'.1.at fun o q => (sb.2 it (Ne.symm hne)).trans q, hne⟩, fun b hb => ?_⟩
    · rw [show ((i + 1 : Nat) : Int) = (i : Int) + 1 by omega]
      exact he2
    · have hb' : b < s.heap.objs.size := by
        have cs : b = e ∨ b = it := by simpa using hb
        rcases cs with z | z <;> subst z
        · exact hel
        · exact hil
      rw [upd_ne (Nat.ne_of_lt hb')]
      exact (hf b hb).1
  done := by
    intro X hP hw hK hc i pins s σ H E I hf st hg
    subst hP hw hK
    obtain ⟨⟨old, he⟩, hit, hne⟩ := st
    obtain ⟨xs, hq, hx⟩ := hg
    obtain ⟨its, rv, pt, hz⟩ := I.tuple hq
    obtain ⟨f0, f1, f2, f3, f4, f5⟩ := hf it (by simp)
    have hl := rv.length
    have hTy : s.TypeIs (.ref e) "enumerate" := ⟨_, he, rfl⟩
    unfold pyNext
    refine wpAny_bind (wpAny_attempt (wpAny_callSpecial?_slot (name := Str.ofString "__next__") hTy F.slot_enumerate_next (wpAny_call_entry F.slot_enumerate_next hTy F.entry_enumerate_next ?_ (F.args_enumerate_next_1 _))))
    show wpAny _ _ (field (.ref e) 2 >>= _) _ _ _
    refine wpAny_bind (wpAny_field he rfl (x := .ref it) rfl (wpAny_bind (wpAny_nextOf_tuple_end (show X.A.in1.handled = none from I.ok.hd hc) hit pt (by simp; omega) fun h' x he' hx' => ?_)))
    obtain ⟨o, ho, hcl⟩ := hx'
    refine wpAny_bind (wpAny_isInstance (T := "StopIteration") (b := true) ⟨o, ho, hcl⟩ isSubtype_stop (wpAny_pure ?_))
    exact ⟨rfl, I.turned (t' := s.toks) (fun b o hb q => he' b o hb q) f0 f1 f3 f4 f5⟩
  self := fun A i s Q E st h => let ⟨⟨_, he⟩, _⟩ := st; wpAny_pyIter_enum he h
def iEnumT (K : PySem.W.Frag) (ta : TA) : TI := fun σ H R => ta σ H fun vs H1 => ∃ a xs, vs = [.ref a] ∧ SqT K H1 a xs ∧ R (ItET K a) H1
theorem pi_enumT {X : Cx} {e : Expr} {ta : TA} {p pos tpos : Pos} {elts : List Expr} {kk : Nat} (hg : Gl X "enumerate") (hm : X.mg "enumerate" = none) (ha : PA X [e] ta) (hs : starEach [e] X.env = [(false, eval e X.env)]) :
    PI X (.Tuple elts kk tpos) (.Call (.Name "enumerate" p) [e] [] pos) (iEnumT X.K ta) := by
  refine ⟨fun pins s σ H R I h => ?_⟩
  refine Call_ (ld_blt I hg hm boot_enumerate (PyProof.Rows.callWith_type1 (thn (ha.run pos pins s σ H _ I h) fun us s1 ⟨vs, H1, I1, r1, q1⟩ => ?_) hs rfl))
  obtain ⟨a, xs, ex, hq, q⟩ := q1
  subst ex
  cases r1 with
  | cons r rr =>
    cases rr
    cases r
    obtain ⟨its, rv, pt, hz⟩ := I1.tuple hq
    have hal : a < s1.heap.objs.size := by obtain ⟨_, z, _⟩ := (show s1.heap.IsTuple a its.toArray from pt); exact Heap.lt_size z
    refine call_enum1 (begins_tuple a its.toArray) pt fun h' he hit hk => wpAny_pyIter_enum he ?_
    have I2 : Inv X pins σ H1 { s1 with heap := h' } := I1.kept (t' := s1.toks) hk
    refine ⟨s1.heap.objs.size + 1, [s1.heap.objs.size + 1, s1.heap.objs.size], _, _, H1, rfl, I2, turn_enumT a (s1.heap.objs.size + 1) s1.heap.objs.size (Nat.ne_of_lt hal) (Nat.ne_of_lt (Nat.lt_succ_of_lt hal)), ⟨⟨.none, he⟩, ⟨_, hit, rfl, rfl⟩, Nat.succ_ne_self _⟩, fun b hb => ?_, q⟩
    have hle : s1.heap.objs.size ≤ b := by
      have cs : b = s1.heap.objs.size + 1 ∨ b = s1.heap.objs.size := by simpa using hb
      rcases cs with z | z
      · rw [z]; exact Nat.le_succ _
      · rw [z]; exact Nat.le_refl _
    exact I1.fpOk hle (I1.hok.fresh hle)
section
variable {X : Cx} {k : Kx} {T : Tb} {W : WX}
def enD (xs : List D) : List D := xs.mapIdx fun i d => .tup [.int (i : Nat), d]
def itEnum (d : D) : M ItR := fun e => match seqO d with
  | some xs => .ok ⟨[d], enD xs⟩ e
  | none => .bad
theorem enD_len (xs : List D) : (enD xs).length = xs.length := by simp [enD]
theorem walk_enL {K : PySem.W.Frag} {a : Addr} {n : Nat} : Walk (Ite K a) n (fun H => ∃ us, SqL K H a us ∧ us.length = n) (fun i H v H' => ∃ T x, v = .ref T ∧ H T = none ∧ H' = upd H T (.tup [.int (i : Nat), x]) ∧ ∀ xs, SqL K H a xs → xs[i]? = some x) :=
  ⟨fun i _ hi ⟨us, q, e⟩ => ⟨us, us[i]'(by omega), q, by simp [show i < us.length by omega]⟩, fun _ ⟨us, q, e⟩ => ⟨us, q, by omega⟩, fun _ _ _ _ _ _ y => y⟩
theorem walk_enT {K : PySem.W.Frag} {a : Addr} {n : Nat} : Walk (ItET K a) n (fun H => ∃ us, SqT K H a us ∧ us.length = n) (fun i H v H' => ∃ T x, v = .ref T ∧ H T = none ∧ H' = upd H T (.tup [.int (i : Nat), x]) ∧ ∀ xs, SqT K H a xs → xs[i]? = some x) :=
  ⟨fun i _ hi ⟨us, q, e⟩ => ⟨us, us[i]'(by omega), q, by simp [show i < us.length by omega]⟩, fun _ ⟨us, q, e⟩ => ⟨us, q, by omega⟩, fun _ _ _ _ _ _ y => y⟩
theorem yok_pair {Z : Zs} {H : Hp} {xs : List D} {us : List V} {i : Nat} {x : V} {T : Addr} (r : Reps k Z H xs us []) (hx : us[i]? = some x) (hi : i < (enD xs).length) (hT : H T = none) :
    ∃ d, (enD xs)[i]? = some d ∧ Same H (upd H T (.tup [.int (i : Nat), x])) ∧ Rep k Z (upd H T (.tup [.int (i : Nat), x])) d (.ref T) [] := by
  rw [enD_len] at hi
  obtain ⟨d, c1, c2⟩ := yok_at r hx hi
  refine ⟨.tup [.int (i : Nat), d], by simp [enD, c1], same_new hT, .tup upd_same ?_⟩
  exact Reps.cons (o1 := []) (o2 := []) (.int _) (Reps.one (c2.same (same_new hT)))
theorem ei_enum (hk : k.K = X.K) {e : Expr} {f : M D} {p pos tpos : Pos} {elts : List Expr} {kk : Nat} (hg : Gl X "enumerate") (hm : X.mg "enumerate" = none) (h : PE X e (tE k W f)) (hs : stB e = false) : PI X (.Tuple elts kk tpos) (.Call (.Name "enumerate" p) [e] [] pos) (tIt k W (bnd f itEnum)) := by
  have pa : PA X [e] (tCons (tE k W f) tNil) := pa_cons h pa_nil (starEach_cons hs)
  refine ⟨fun pins s σ H R I hw => ?_⟩
  obtain ⟨Z, env, oe, ss, q⟩ := hw
  have q := rE.bnd q
  cases q1 : f env with
  | bad => rw [q1] at q; exact (show False from q).elim
  | rse c ns xs e1 =>
    rw [q1] at q
    refine (pi_enum hg hm pa (starEach_cons hs)).run pins s σ H R I ⟨Z, env, oe, ss, ?_⟩
    rw [q1]
    exact q
  | ok d e1 =>
    rw [q1] at q
    have q2 : rE k W (itEnum d e1) Z H oe σ _ := q
    unfold itEnum at q2
    cases q3 : seqO d with
    | none => rw [q3] at q2; exact (show False from q2).elim
    | some xs =>
      rw [q3] at q2
      have q4 : ∀ Z' H' vh oe' od J G Y, SS k Z' H' σ e1 [d] vh oe' od → Stp k Z H oe Z' H' (oe' ++ od) → Walk J (enD xs).length G Y → GOK k [d] vh G → YOK k [d] vh (enD xs) Y → R J H' := q2
      obtain ⟨fz, hd⟩ := seqO_some q3
      rcases hd with rfl | hd
      · refine (pi_enumT hg hm pa (starEach_cons hs)).run pins s σ H R I ⟨Z, env, oe, ss, ?_⟩
        rw [q1]
        intro Z' H' vs oe' od s' st
        obtain ⟨v, rfl, rv⟩ := s'.rp.one'
        cases rv with
        | tup e rr =>
          refine ⟨_, rfl, _, _, rfl, SqT.of e, q4 Z' H' _ oe' od _ _ _ s' st walk_enT (fun Z2 H2 os r => ?_) fun i x H2 H3 Z2 os r y hi => ?_⟩
          · obtain ⟨us, o, a, b⟩ := hold_tup (K := X.K) r
            exact ⟨us, a, by rw [enD_len]; exact b.len.symm⟩
          · obtain ⟨us, o, a, b⟩ := hold_tup (K := X.K) r
            obtain ⟨T, w, rfl, hT, rfl, hy⟩ := y
            exact yok_pair (reps_fz fz b) (hy us a) hi hT
      · refine (pi_enum hg hm pa (starEach_cons hs)).run pins s σ H R I ⟨Z, env, oe, ss, ?_⟩
        rw [q1]
        intro Z' H' vs oe' od s' st
        obtain ⟨v, rfl, rv⟩ := s'.rp.one'
        obtain ⟨a, rfl⟩ := isref_seq hd rv
        obtain ⟨us0, _, b0, _⟩ := hold_seq hd s'.rp
        refine ⟨_, rfl, a, us0, rfl, by rw [← hk]; exact b0, q4 Z' H' _ oe' od _ _ _ s' st walk_enL (fun Z2 H2 os r => ?_) fun i x H2 H3 Z2 os r y hi => ?_⟩
        · obtain ⟨us, o, a, b⟩ := hold_seq hd r
          exact ⟨us, by rw [← hk]; exact a, by rw [enD_len]; exact b.len.symm⟩
        · obtain ⟨us, o, a, b⟩ := hold_seq hd r
          obtain ⟨T, w, rfl, hT, rfl, hy⟩ := y
          exact yok_pair (reps_fz fz b) (hy us (by rw [← hk]; exact a)) hi hT
end
end Bp

/-! calls of own functions, making of own instances -/
namespace Bp
open PySem PySem.Spec PyProof.Rows L2

/-- what a function of the evaluator promises -/
def spE (k : Kx) (n : Nat) (f : List D → R D) : Sp := fun vs H Q E => vs.length = n ∧ ∃ Z ds os, SS k Z H [] [] ds vs [] os ∧ match f ds with
  | .ok d e' => ∀ Z' H' v oe od, SS k Z' H' (vs.map some) e' [d] [v] oe od → Stp k Z H os Z' H' (oe ++ od) → Q v H'
  | .rse c ns xs e' => ∀ Z' H' oe cls x, SS k Z' H' (vs.map some) e' [] [] oe [] → XR k Z' H' c ns xs cls x → Stp k Z H os Z' H' oe → E cls x H'
  | .bad => False

inductive CAg where
  | ev (f : M D)
  | ln (i : Nat)
def evCA : List CAg → M (List D)
  | [] => ret []
  | .ev f :: as => bnd f fun d => bnd (evCA as) fun ds => ret (d :: ds)
  | .ln i :: as => fun e => match e[i]? with
    | some (some _) => evCA as e
    | _ => .bad
def mrg : List CAg → List D → Env → Option (List D × Env)
  | [], _, e => some ([], e)
  | .ev _ :: as, ds, e => match ds with
    | [] => none
    | d :: ds => match mrg as ds e with
      | some (xs, e') => some (d :: xs, e')
      | none => none
  | .ln i :: as, ds, e => match e[i]? with
    | some (some d) => match mrg as ds (e.set i none) with
      | some (xs, e') => some (d :: xs, e')
      | none => none
    | _ => none
def sv (σ : L2.St) (i : Nat) : V := match σ[i]? with
  | some (some v) => v
  | _ => .non
def mrgV (σ : L2.St) : List CAg → List V → List V
  | [], _ => []
  | .ev _ :: as, vs => match vs with
    | [] => []
    | v :: vs => v :: mrgV σ as vs
  | .ln i :: as, vs => sv σ i :: mrgV σ as vs
def bkE : List CAg → Env → Env → Env
  | .ev _ :: as, _ :: ps, e => bkE as ps e
  | .ln i :: as, p :: ps, e => bkE as ps (e.set i p)
  | _, _, e => e
def fCall (cf : List D → R D) (as : List CAg) : M D := bnd (evCA as) fun ds e => match mrg as ds e with
  | none => .bad
  | some (xs, e1) => match cf xs with
    | .ok d ps => .ok d (bkE as ps e1)
    | .rse c ns ys ps => .rse c ns ys (bkE as ps e1)
    | .bad => .bad

section
variable {X : Cx} {k : Kx} {T : Tb} {W : WX} {A : List Nat}
def tCA (k : Kx) (W : WX) : List CAg → TA
  | [] => tNil
  | .ev f :: as => tCons (tE k W f) (tCA k W as)
  | .ln i :: as => tCons (tVar i) (tCA k W as)
/-- the arguments, one by one -/
theorem tCA_of : ∀ {as : List CAg} {σ : L2.St} {H : Hp} {Q : List V → Hp → Prop}, (∃ Z e oe, SS k Z H σ e [] [] oe [] ∧ rE k W (evCA as e) Z H oe σ fun ds e' => ∀ Z' H' vs oe' od, SS k Z' H' σ e' ds vs oe' od → Stp k Z H oe Z' H' (oe' ++ od) → Q (mrgV σ as vs) H') → tCA k W as σ H Q
  | [], σ, H, Q, ⟨Z, e, oe, ss, h⟩ => (show ∀ Z' H' vs oe' od, SS k Z' H' σ e [] vs oe' od → Stp k Z H oe Z' H' (oe' ++ od) → Q (mrgV σ [] vs) H' from h) Z H [] oe [] ss ((Stp.refl _ _ _).sub (by simp))
  | .ln i :: as, σ, H, Q, ⟨Z, e, oe, ss, h⟩ => by
    unfold evCA at h
    split at h
    · rename_i d q
      obtain ⟨v, os, a, b, c⟩ := ss.er.get q
      refine ⟨v, a, tCA_of ⟨Z, e, oe, ss, h.imp fun ds e' h' Z' H' vs oe' od s' st => ?_⟩⟩
      have := h' Z' H' vs oe' od s' st
      unfold mrgV sv at this
      rw [a] at this
      exact this
    · exact (show False from h).elim
  | .ev f :: as, σ, H, Q, ⟨Z, e, oe, ss, h⟩ => by
    refine ⟨Z, e, oe, ss, (rE.bnd h).imp fun d e1 h1 => ?_⟩
    intro Z1 H1 vs oe1 od1 ss1 st1
    obtain ⟨v, rfl, rv⟩ := ss1.rp.one'
    refine ⟨v, rfl, tCA_of ⟨Z1, e1, oe1, ss1.drop, ?_⟩⟩
    refine (rE.bnd h1).after st1 (fun x q => List.mem_append_left _ q) fun ds e2 h2 => ?_
    intro Z2 H2 vs2 oe2 od2 ss2 st2
    have s3 := ss1.join ss2 st2
    have st3 := st1.trans st2 (fun x q => List.mem_append_left _ q)
    have st4 : Stp k Z H oe Z2 H2 (oe2 ++ (od1 ++ od2)) := ⟨st3.f, st3.zn, fun x hx => by
      simp only [List.mem_append] at hx
      rcases hx with q | q | q
      · exact st3.ow x (List.mem_append_left _ q)
      · exact st1.ow x (List.mem_append_right _ q)
      · exact st3.ow x (List.mem_append_right _ q)⟩
    obtain ⟨o1, o2, eo, r1, r2⟩ : ∃ o1 o2, od1 = o1 ∧ od2 = o2 ∧ Reps k Z2 H2 [d] [v] od1 ∧ Reps k Z2 H2 ds vs2 od2 := by
      obtain ⟨p1, p2, p3⟩ := ss1.push ss2 st2
      exact ⟨od1, od2, rfl, rfl, p1, ss2.rp⟩
    have s5 : SS k Z2 H2 σ e2 (d :: ds) (v :: vs2) oe2 (od1 ++ od2) := by
      refine ⟨ss2.er, r2.1.app r2.2, ?_, fun a ha => s3.dz a ?_, ss2.zt⟩
      · exact (List.Perm.append_left oe2 List.perm_append_comm).nodup_iff.mp s3.nd
      · exact (List.Perm.append_left oe2 List.perm_append_comm).mem_iff.mp ha
    exact (show ∀ Z' H' vs oe' od, SS k Z' H' σ e2 (d :: ds) vs oe' od → Stp k Z H oe Z' H' (oe' ++ od) → Q (mrgV σ (.ev f :: as) vs) H' from h2) Z2 H2 (v :: vs2) oe2 _ s5 st4
theorem Reps.ins {Z : Zs} {H : Hp} {d : D} {v : V} {o1 : List Addr} (r : Rep k Z H d v o1) {xs ys : List D} {vs us : List V} {os : List Addr} (hl : xs.length = vs.length) (rs : Reps k Z H (xs ++ ys) (vs ++ us) os) : ∃ os', Reps k Z H (xs ++ d :: ys) (vs ++ v :: us) os' ∧ os'.Perm (o1 ++ os) := by
  obtain ⟨v1, v2, o3, o4, e1, rfl, r3, r4⟩ := Reps.split rs
  obtain ⟨rfl, rfl⟩ := List.append_inj e1.symm (by rw [← r3.len, hl])
  exact ⟨o3 ++ (o1 ++ o4), r3.app (.cons r r4), perm_mid⟩
theorem mrg_len : ∀ {as : List CAg} {ds xs : List D} {e e1 : Env}, mrg as ds e = some (xs, e1) → xs.length = as.length
  | [], _, _, _, _, h => by cases h; rfl
  | .ev f :: as, ds, xs, e, e1, h => by
    unfold mrg at h
    split at h
    · cases h
    · split at h
      · rename_i q
        cases h
        rw [List.length_cons, List.length_cons, mrg_len q]
      · cases h
  | .ln j :: as, ds, xs, e, e1, h => by
    unfold mrg at h
    split at h
    · split at h
      · rename_i q
        cases h
        rw [List.length_cons, List.length_cons, mrg_len q]
      · cases h
    · cases h
theorem mrg_ss {Z : Zs} {H : Hp} {σ : L2.St} : ∀ {as : List CAg} {pre ds xs : List D} {prv vs : List V} {e e1 : Env} {oe od : List Addr}, pre.length = prv.length → SS k Z H σ e (pre ++ ds) (prv ++ vs) oe od → mrg as ds e = some (xs, e1) →
    ∃ oe1 od1, SS k Z H σ e1 (pre ++ xs) (prv ++ mrgV σ as vs) oe1 od1 ∧ ∀ a ∈ oe1 ++ od1, a ∈ oe ++ od
  | [], pre, ds, xs, prv, vs, e, e1, oe, od, hl, ss, h => by
    cases h
    obtain ⟨v1, v2, o3, o4, e1, rfl, r3, r4⟩ := Reps.split ss.rp
    obtain ⟨rfl, rfl⟩ := List.append_inj e1.symm (by rw [← r3.len, hl])
    have s : (oe ++ o3).Sublist (oe ++ (o3 ++ o4)) := List.Sublist.append (List.Sublist.refl _) (List.sublist_append_left _ _)
    refine ⟨oe, o3, ⟨ss.er, ?_, ss.nd.sublist s, fun a ha => ss.dz a (s.subset ha), ss.zt⟩, fun a ha => s.subset ha⟩
    simp only [mrgV, List.append_nil]
    exact r3
  | .ev f :: as, pre, ds, xs, prv, vs, e, e1, oe, od, hl, ss, h => by
    unfold mrg at h
    split at h
    · cases h
    · rename_i d ds1
      split at h
      · rename_i xs1 e2 q
        cases h
        cases vs with
        | nil =>
          have := ss.rp.len
          simp at this
          omega
        | cons v vs =>
          have s1 : SS k Z H σ e ((pre ++ [d]) ++ ds1) ((prv ++ [v]) ++ vs) oe od := by simpa using ss
          obtain ⟨oe1, od1, a, b⟩ := mrg_ss (by simp [hl]) s1 q
          exact ⟨oe1, od1, by simpa [mrgV] using a, b⟩
      · cases h
  | .ln i :: as, pre, ds, xs, prv, vs, e, e1, oe, od, hl, ss, h => by
    unfold mrg at h
    split at h
    · rename_i d q1
      split at h
      · rename_i xs1 e2 q
        cases h
        obtain ⟨v, o1, o2, a, b, c, p⟩ := ss.er.take q1
        obtain ⟨od', r, pr⟩ := Reps.ins b hl ss.rp
        have pm : (o2 ++ od').Perm (oe ++ od) := by
          refine (List.Perm.append_left o2 pr).trans ?_
          refine perm_mid.trans ?_
          rw [← List.append_assoc]
          exact (List.Perm.append_right od p).symm
        have s1 : SS k Z H σ (e.set i none) ((pre ++ [d]) ++ ds) ((prv ++ [v]) ++ vs) o2 od' :=
          ⟨c, by simpa using r, pm.nodup_iff.mpr ss.nd, fun x hx => ss.dz x (pm.mem_iff.mp hx), ss.zt⟩
        obtain ⟨oe1, od1, s2, sub⟩ := mrg_ss (by simp [hl]) s1 q
        refine ⟨oe1, od1, ?_, fun x hx => pm.mem_iff.mp (sub x hx)⟩
        have ev : sv σ i = v := by unfold sv; rw [a]
        simpa [mrgV, ev] using s2
      · cases h
    · cases h
theorem set_sv {σ : L2.St} {i : Nat} {v : V} (h : σ[i]? = some (some v)) : σ.set i (some (sv σ i)) = σ := by
  have e : sv σ i = v := by unfold sv; rw [h]
  rw [e]
  apply List.ext_getElem?
  intro j
  by_cases q : i = j
  · subst q
    obtain ⟨hl, _⟩ := List.getElem?_eq_some_iff.mp h
    rw [List.getElem?_set_self hl, h]
  · rw [List.getElem?_set_ne q]
/-- what the callee gives back is in its slots again -/
theorem bk_ss {Z : Zs} {H : Hp} {σ : L2.St} : ∀ {as : List CAg} {vs : List V} {ps e : Env} {oe op : List Addr}, EnvR k Z H σ e oe → EnvR k Z H ((mrgV σ as vs).map some) ps op → (oe ++ op).Nodup →
    (∀ i, CAg.ln i ∈ as → ∃ v, σ[i]? = some (some v)) → ∃ o, EnvR k Z H σ (bkE as ps e) o ∧ o.Nodup ∧ ∀ a ∈ o, a ∈ oe ++ op
  | [], vs, ps, e, oe, op, r, rp, nd, hs => ⟨oe, by unfold bkE; exact r, (List.nodup_append.mp nd).1, fun a h => List.mem_append_left _ h⟩
  | .ev f :: as, [], ps, e, oe, op, r, rp, nd, hs => by
    simp only [mrgV, List.map_nil] at rp
    cases rp
    exact ⟨oe, by unfold bkE; exact r, (List.nodup_append.mp nd).1, fun a h => List.mem_append_left _ h⟩
  | .ev f :: as, v :: vs, ps, e, oe, op, r, rp, nd, hs => by
    simp only [mrgV, List.map_cons] at rp
    cases rp with
    | non t =>
      unfold bkE
      exact bk_ss r t nd fun i h => hs i (List.mem_cons_of_mem _ h)
    | som rr t =>
      unfold bkE
      rename_i o1 o2
      have s : (oe ++ o2).Sublist (oe ++ (o1 ++ o2)) := List.Sublist.append (List.Sublist.refl _) (List.sublist_append_right _ _)
      obtain ⟨o, a, b, c⟩ := bk_ss r t (nd.sublist s) fun i h => hs i (List.mem_cons_of_mem _ h)
      exact ⟨o, a, b, fun x hx => s.subset (c x hx)⟩
  | .ln i :: as, vs, ps, e, oe, op, r, rp, nd, hs => by
    simp only [mrgV, List.map_cons] at rp
    have hs' : ∀ j, CAg.ln j ∈ as → ∃ v, σ[j]? = some (some v) := fun j h => hs j (List.mem_cons_of_mem _ h)
    obtain ⟨v, hv⟩ := hs i List.mem_cons_self
    cases rp with
    | non t =>
      unfold bkE
      obtain ⟨o, a, b⟩ := r.none1 i
      have s : (o ++ op).Sublist (oe ++ op) := List.Sublist.append b (List.Sublist.refl _)
      obtain ⟨o', a', b', c'⟩ := bk_ss a t (nd.sublist s) hs'
      exact ⟨o', a', b', fun x hx => s.subset (c' x hx)⟩
    | som rr t =>
      unfold bkE
      rename_i ps' d o1 o2
      by_cases hi : i < e.length
      · obtain ⟨o, o3, a, p, s⟩ := EnvR.set rr r hi
        rw [set_sv hv] at a
        have pm : (o ++ o2).Perm (o3 ++ (o1 ++ o2)) := by
          refine (List.Perm.append_right o2 p).trans ?_
          rw [List.append_assoc]
          exact perm_mid
        have s2 : (o3 ++ (o1 ++ o2)).Sublist (oe ++ (o1 ++ o2)) := List.Sublist.append s (List.Sublist.refl _)
        obtain ⟨o', a', b', c'⟩ := bk_ss a t (pm.nodup_iff.mpr (nd.sublist s2)) hs'
        exact ⟨o', a', b', fun x hx => s2.subset (pm.mem_iff.mp (c' x hx))⟩
      · rw [List.set_eq_of_length_le (by omega)]
        have s : (oe ++ o2).Sublist (oe ++ (o1 ++ o2)) := List.Sublist.append (List.Sublist.refl _) (List.sublist_append_right _ _)
        obtain ⟨o, a, b, c⟩ := bk_ss r t (nd.sublist s) hs'
        exact ⟨o, a, b, fun x hx => s.subset (c x hx)⟩
theorem mrg_ln {σ : L2.St} {Z : Zs} {H : Hp} : ∀ {as : List CAg} {ds xs : List D} {e e1 : Env} {oe : List Addr}, EnvR k Z H σ e oe → mrg as ds e = some (xs, e1) → ∀ i, CAg.ln i ∈ as → ∃ v, σ[i]? = some (some v)
  | [], _, _, _, _, _, _, _, i, h => nomatch h
  | .ev f :: as, ds, xs, e, e1, oe, r, h, i, hi => by
    unfold mrg at h
    split at h
    · cases h
    · split at h
      · rename_i q
        exact mrg_ln r q i ((List.mem_cons.mp hi).resolve_left fun z => nomatch z)
      · cases h
  | .ln j :: as, ds, xs, e, e1, oe, r, h, i, hi => by
    unfold mrg at h
    split at h
    · rename_i d q1
      split at h
      · rename_i q
        obtain ⟨v, o1, o2, a, b, c, p⟩ := r.take q1
        rcases List.mem_cons.mp hi with z | z
        · cases z
          exact ⟨v, a⟩
        · exact mrg_ln c q i z
      · cases h
    · cases h
/-- a call -/
theorem tCall_of {cf : List D → R D} {n : Nat} {as : List CAg} (hn : as.length = n) {σ : L2.St} {H : Hp} {Q : VK} (q : tE k W (fCall cf as) σ H Q) : tCallS (spE k n cf) (WE W) (tCA k W as) σ H Q := by
  obtain ⟨Z, e, oe, ss, q⟩ := q
  refine tCA_of ⟨Z, e, oe, ss, (rE.bnd q).imp fun ds e1 q1 => ?_⟩
  intro Z1 H1 vs oe1 od1 s1 st1
  cases q2 : mrg as ds e1 with
  | none => rw [q2] at q1; exact (show False from q1).elim
  | some p =>
    obtain ⟨xs, e2⟩ := p
    rw [q2] at q1
    obtain ⟨oe2, od2, s2, sub2⟩ := mrg_ss (pre := []) (prv := []) rfl s1 q2
    have s2 : SS k Z1 H1 σ e2 xs (mrgV σ as vs) oe2 od2 := s2
    have hln := mrg_ln s1.er q2
    have nn := List.nodup_append.mp s2.nd
    have b2 : Stp k Z H oe Z1 H1 (oe2 ++ od2) := st1.sub sub2
    -- behind the call
    have after : ∀ {Z' H' ps dv u op od}, SS k Z' H' ((mrgV σ as vs).map some) ps dv u op od → Stp k Z1 H1 od2 Z' H' (op ++ od) → ∃ o, SS k Z' H' σ (bkE as ps e2) dv u o od ∧ Stp k Z H oe Z' H' (o ++ od) := by
      intro Z' H' ps dv u op od s3 st3
      have er3 : EnvR k Z' H' σ e2 oe2 := s2.er.step st3.f (fun x hx => s2.dz x (List.mem_append_right _ hx)) s2.rp.mut fun x hx hy => nn.2.2 x hx x hy rfl
      have dis : ∀ x ∈ oe2, x ∉ op ++ od := fun x hx hy => by
        rcases st3.ow x hy with z | z
        · exact nn.2.2 x hx x z rfl
        · exact s2.er.trk x hx z
      have n3 := List.nodup_append.mp s3.nd
      obtain ⟨o, r, nd, sub⟩ := bk_ss er3 s3.er (List.nodup_append.mpr ⟨nn.1, n3.1, fun x hx y hy e => dis x hx (by rw [e]; exact List.mem_append_left _ hy)⟩) hln
      have nz : ∀ x ∈ oe2, ¬ Z' x := fun x hx z => by
        rcases st3.zn x z with w | w | w
        · exact s2.dz x (List.mem_append_left _ hx) w
        · exact nn.2.2 x hx x w rfl
        · exact s2.er.trk x hx w
      refine ⟨o, ⟨r, s3.rp, List.nodup_append.mpr ⟨nd, n3.2.1, fun x hx y hy e => ?_⟩, fun x hx => ?_, s3.zt⟩, ?_⟩
      · subst e
        rcases List.mem_append.mp (sub x hx) with z | z
        · exact dis x z (List.mem_append_right _ hy)
        · exact n3.2.2 x z x hy rfl
      · rcases List.mem_append.mp hx with z | z
        · rcases List.mem_append.mp (sub x z) with z | z
          · exact nz x z
          · exact s3.dz x (List.mem_append_left _ z)
        · exact s3.dz x (List.mem_append_right _ z)
      · have st4 : Stp k Z1 H1 (oe2 ++ od2) Z' H' (o ++ od) := ⟨⟨fun x u h n t => st3.f.fr x u h (fun z => n (List.mem_append_right _ z)) t, st3.f.zz, st3.f.tr, st3.f.tb⟩, fun x z => (st3.zn x z).elim .inl fun z => z.elim (fun z => .inr (.inl (List.mem_append_right _ z))) fun z => .inr (.inr z), fun x hx => by
          rcases List.mem_append.mp hx with z | z
          · rcases List.mem_append.mp (sub x z) with z | z
            · exact .inl (List.mem_append_left _ z)
            · exact (st3.ow x (List.mem_append_left _ z)).elim (fun z => .inl (List.mem_append_right _ z)) .inr
          · exact (st3.ow x (List.mem_append_right _ z)).elim (fun z => .inl (List.mem_append_right _ z)) .inr⟩
        exact b2.trans st4 fun x hx => hx
    have hlen : (mrgV σ as vs).length = n := by
      rw [← s2.rp.len, ← hn]
      exact mrg_len q2
    refine ⟨hlen, Z1, xs, od2, ⟨.nil s2.er.tabs, s2.rp, by simpa using nn.2.1, fun x hx => s2.dz x (List.mem_append_right _ (by simpa using hx)), s2.zt⟩, ?_⟩
    cases q3 : cf xs with
    | bad => simp only [q3] at q1; exact (show False from q1).elim
    | ok d ps =>
      simp only [q3] at q1
      intro Z' H' v op od s3 st3
      obtain ⟨o, s4, st4⟩ := after s3 st3
      obtain ⟨v', e', hq⟩ := (show okEnd k Z H oe σ [d] (bkE as ps e2) _ from q1) Z' H' [v] o od s4 st4
      cases e'
      exact hq
    | rse c ns ys ps =>
      simp only [q3] at q1
      intro Z' H' op cls x s3 xr st3
      obtain ⟨o, s4, st4⟩ := after s3 (by rw [List.append_nil]; exact st3)
      exact (show xEnd k Z H oe σ c ns ys (bkE as ps e2) W from q1) Z' H' o cls x s4 xr (by rw [List.append_nil] at st4; exact st4)
/-- an argument of a call as an expression -/
inductive CAok (X : Cx) (k : Kx) (W : WX) : List Expr → List CAg → Prop
  | nil : CAok X k W [] []
  | ev {e : Expr} {es : List Expr} {f : M D} {as : List CAg} (h : PE X e (tE k W f)) (hs : stB e = false) (t : CAok X k W es as) : CAok X k W (e :: es) (.ev f :: as)
  | ln {i : Nat} {x : Str} {p : Pos} {es : List Expr} {as : List CAg} (hN : X.N[i]? = some x) (hv : visB X.env.scope x = true) (t : CAok X k W es as) : CAok X k W (.Name x p :: es) (.ln i :: as)
theorem pa_ca : ∀ {es : List Expr} {as : List CAg}, CAok X k W es as → PA X es (tCA k W as)
  | _, _, .nil => pa_nil
  | _, _, .ev h hs t => pa_cons h (pa_ca t) (starEach_cons hs)
  | _, _, .ln hN hv t => pa_cons (pe_var hN (vis_of hv).1 (vis_of hv).2.1 (vis_of hv).2.2) (pa_ca t) (starEach_cons rfl)
theorem ca_st : ∀ {es : List Expr} {as : List CAg}, CAok X k W es as → es.all (fun e => !stB e) = true
  | _, _, .nil => rfl
  | _, _, .ev h hs t => by simp only [List.all_cons, hs, Bool.not_false, Bool.true_and]; exact ca_st t
  | _, _, .ln hN hv t => by simp only [List.all_cons, stB, Bool.not_false, Bool.true_and]; exact ca_st t
theorem ee_call {j n : Nat} {f : Addr} {fd : FuncData} {ps : List Str} {cf : List D → R D} {x : Str} {p pos : Pos} {e : Expr} {es : List Expr} {as : List CAg} (F : FnOk X.prog X.w X.K X.mg X.base (L2.CX X.prog X.w) j f fd ps (spE k n cf)) (hr : Room j X.A) (hg : Gl X x) (hm : X.mg x = some (.ref f)) (hk : PySem.W.keepIn X.K (.ref f) = true) (hb : Binds X.K fd ps [])
    (tk : Takes X W) (ha : CAok X k W (e :: es) as) (hn : as.length = n) (hdb : (x == ("__debug__" : Str)) = false) : PE X (.Call (.Name x p) (e :: es) [] pos) (tE k W (fCall cf as)) := by
  have hs := ca_st ha
  simp only [List.all_cons, Bool.and_eq_true, Bool.not_eq_true'] at hs
  exact pe_mono (pe_callS F hr hg hm hk hb (passAt tk) (pa_ca ha) hdb (starEach_cons hs.1) (star_any hs.2)) fun σ H Q q => tCall_of hn q
end
end Bp

/-! a def of the text as a function of the evaluator; making of instances -/
namespace Bp
open PySem PySem.Spec PyProof.Rows L2

def evBody (As : List Nat) (n m : Nat) (f : M Ct) (ds : List D) : R D := match f (ds.map some ++ List.replicate m none) with
  | .ok (.rt d) e => .ok d (wipeE (e.take n) As)
  | .ok .nx e => .ok .non (wipeE (e.take n) As)
  | .ok _ _ => .bad
  | .rse c ns xs e => .rse c ns xs (wipeE (e.take n) As)
  | .bad => .bad
section
variable {k : Kx} {A : List Nat}
theorem EnvR.args {Z : Zs} {H : Hp} : ∀ {ds : List D} {vs : List V} {os : List Addr} (m : Nat), LamX.Tabs k.T H → Reps k Z H ds vs os → EnvR k Z H (vs.map some ++ List.replicate m none) (ds.map some ++ List.replicate m none) os
  | _, _, _, 0, tb, .nil => .nil tb
  | _, _, _, m + 1, tb, .nil => .non (EnvR.args m tb .nil)
  | _, _, _, m, tb, .cons r t => .som r (EnvR.args m tb t)
theorem EnvR.cut {Z : Zs} {H : Hp} : ∀ {σ : L2.St} {e : Env} {oe : List Addr} (n : Nat), EnvR k Z H σ e oe → ∃ o, EnvR k Z H (σ.take n) (e.take n) o ∧ o.Sublist oe
  | _, _, _, 0, r => ⟨[], .nil r.tabs, List.nil_sublist _⟩
  | _, _, _, n + 1, .nil t => ⟨[], .nil t, List.Sublist.refl _⟩
  | _, _, _, n + 1, .non t => by
    obtain ⟨o, a, b⟩ := EnvR.cut n t
    exact ⟨o, .non a, b⟩
  | _, _, _, n + 1, .som (o1 := oa) r t => by
    obtain ⟨o, a, b⟩ := EnvR.cut n t
    exact ⟨oa ++ o, .som r a, List.Sublist.append (List.Sublist.refl _) b⟩
/-- behind the body: the parameters that were not set -/
theorem SS.params {Z : Zs} {H : Hp} {vs : List V} {m : Nat} {σ' : L2.St} {e : Env} {ds : List D} {us : List V} {oe od : List Addr} (kp : KpE A (vs.map some ++ List.replicate m none) σ') (s : SS k Z H σ' e ds us oe od) :
    ∃ o, SS k Z H (vs.map some) (wipeE (e.take vs.length) A) ds us o od ∧ o.Sublist oe := by
  obtain ⟨o1, r1, s1⟩ := s.er.cut vs.length
  obtain ⟨o2, r2, s2⟩ := r1.nones A
  have hl : σ'.length = vs.length + m := by rw [kp.1]; simp
  refine ⟨o2, s.sub (r2.agree (by simp [hl]) fun i d q => ?_) (s2.trans s1), s2.trans s1⟩
  obtain ⟨q1, n⟩ := wipeE_some q
  have hi : i < vs.length := by
    obtain ⟨z, _⟩ := List.getElem?_eq_some_iff.mp q1
    rw [List.length_take] at z
    omega
  rw [List.getElem?_take_of_lt hi, kp.2 i n, List.getElem?_append_left (by simpa using hi)]
/-- THE RULE for a def -/
theorem fn_ev {P : Program} {w : World} {K : PySem.W.Frag} {mg : Str → Option Value} {base : Heap} {x qual : Str} {st : Stmt} {f : Addr} {fd : FuncData} {N ps : List Str} {j : Nat} {fb : M Ct} (F : Fun K x qual st f fd) (S : FnScope N ps (defScope st))
    (hb : ∀ (cdv : Value) (A' : Around) (outer : List PySem.Env) (s : Shared) (H : Hp) (E : XK), Room j (A'.deeper (envOfC qual (defScope st) s.heap.objs.size f cdv)) →
      PSs (cxOf (L2.CX P w) P w K mg base N qual (defScope st) f cdv A' outer s H E) (defBody st) (tS k A (fun cls d _ H => E cls d H) fb)) :
    FnOk P w K mg base (L2.CX P w) (j + 1) f fd ps (spE k ps.length (evBody A ps.length (N.length - ps.length) fb)) := by
  refine F.okX S (fun vs H Q E h => h.1) fun cdv A' outer s H vs Q E hr h => ⟨_, hb cdv A' outer s H E hr, ?_⟩
  obtain ⟨hl, Z, ds, os, ss, h⟩ := h
  have st : L2.start N vs = vs.map some ++ List.replicate (N.length - ps.length) none := by unfold L2.start; rw [hl]
  rw [st]
  have dl := ss.rp.len
  refine ⟨Z, _, os, ⟨EnvR.args _ ss.er.tabs ss.rp, .nil, by simpa using ss.nd, fun a ha => ss.dz a (by simpa using ha), ss.zt⟩, ?_⟩
  have h' : (match evBody A ps.length (N.length - ps.length) fb ds with
    | .ok d e' => ∀ Z' H' v oe od, SS k Z' H' (vs.map some) e' [d] [v] oe od → Stp k Z H os Z' H' (oe ++ od) → Q v H'
    | .rse c ns xs e' => ∀ Z' H' oe cls x, SS k Z' H' (vs.map some) e' [] [] oe [] → XR k Z' H' c ns xs cls x → Stp k Z H os Z' H' oe → E cls x H'
    | .bad => False) := h
  unfold evBody at h'
  cases q : fb (ds.map some ++ List.replicate (N.length - ps.length) none) with
  | bad => rw [q] at h'; exact h'
  | rse c ns xs e =>
    rw [q] at h'
    intro Z' H' σ' oe cls x s1 xr kp st1
    obtain ⟨o, s2, sub⟩ := s1.params kp
    rw [hl] at s2
    exact h' Z' H' o cls x s2 xr (st1.sub fun a ha => sub.subset ha)
  | ok c e =>
    rw [q] at h'
    cases c with
    | bk => exact h'.elim
    | ct => exact h'.elim
    | nx =>
      intro Z' H' σ' us oe od s1 kp st1
      have er := s1.rp
      cases er
      obtain ⟨o, s2, sub⟩ := s1.params kp
      rw [hl] at s2
      exact h' Z' H' .non o [] ⟨s2.er, .one .non, s2.nd, s2.dz, s2.zt⟩ (st1.sub fun a ha => List.mem_append_left _ (sub.subset (by simpa using ha)))
    | rt d =>
      intro Z' H' σ' us oe od s1 kp st1
      obtain ⟨v, rfl, rv⟩ := s1.rp.one'
      obtain ⟨o, s2, sub⟩ := s1.params kp
      rw [hl] at s2
      exact ⟨v, rfl, h' Z' H' v o od s2 (st1.sub fun a ha => (List.mem_append.mp ha).elim (fun z => List.mem_append_left _ (sub.subset z)) fun z => List.mem_append_right _ z)⟩
end
/-! ### own instances -/
def fMake (c : Nat) (cf : List D → R D) (fs : List (M D)) : M D := bnd (evL fs) fun ds e => match cf (.ins true c [] [] :: ds) with
  | .ok .non (some d :: _) => .ok d e
  | .rse c' ns ys _ => .rse c' ns ys e
  | _ => .bad
section
variable {X : Cx} {k : Kx} {T : Tb} {W : WX} {A : List Nat}
def tMakeS (C : Addr) (sp : Sp) (E : L2.St → XK) (t : TA) : TE := fun σ H Q => t σ H fun vs H1 => ∀ x dx, H1 x = none → H1 dx = none → dx ≠ x →
  sp (.ref x :: vs) (upd (upd H1 dx (.own x)) x (.ins C dx [])) (fun v H2 => v = .non ∧ Q (.ref x) H2) (E σ)
theorem run_makeS {C f : Addr} {fd : FuncData} {ps : List Str} {sp : Sp} {j : Nat} {E : L2.St → XK} {pins : List (Addr × Obj)} {σ : L2.St} {H : Hp} {s : Shared} {Q : VK} {us : List Value} {vs : List V} (M : Mk X.K C f) (F : FnOk X.prog X.w X.K X.mg X.base (L2.CX X.prog X.w) j f fd ps sp) (hr : Room (j + 1) X.A) (hb : Binds X.K fd ps [])
    (hx : PassesAt (L2.CX X.prog X.w) X σ (E σ)) (I : Inv X pins σ H s) (r : Vals vs us)
    (h : ∀ x dx, H x = none → H dx = none → dx ≠ x → sp (.ref x :: vs) (upd (upd H dx (.own x)) x (.ins C dx [])) (fun v H2 => v = .non ∧ Q (.ref x) H2) (E σ)) :
    wpAny (model X.prog X.w) X.A (call (.ref C) us) (EP X pins σ Q) X.xe s := by
  have hq := h (s.heap.objs.size + 1) s.heap.objs.size (I.hok.fresh (Nat.le_succ _)) (I.hok.fresh (Nat.le_refl _)) (Nat.ne_of_lt (Nat.lt_succ_self _))
  have I2 := Inv.made (C := C) I
  have r2 : Vals (V.ref (s.heap.objs.size + 1) :: vs) (Value.ref (s.heap.objs.size + 1) :: us) := .cons rfl r
  have hl : (Value.ref (s.heap.objs.size + 1) :: us ++ []).length = ps.length := by
    have e := r2.length
    rw [F.len _ _ _ _ hq] at e
    rw [List.append_nil]
    exact e.symm
  have bb := hb _ (Value.ref (s.heap.objs.size + 1) :: us) I2.kIn hl
  rw [List.append_nil] at bb
  refine wpAny_call (make_map (f := f) I.kIn M.makes M.init (beq_iff_eq.mp M.fn) (codeAny_mono (F.run _ X.stack _ _ ⟨Value.ref (s.heap.objs.size + 1) :: us, []⟩ (Value.ref (s.heap.objs.size + 1) :: us) _ _ (E σ) (hr.make C us []) (I2.env0.make C us []) bb r2 hq) fun r s' hq' => ?_))
  cases r with
  | error e => exact hx pins _ _ e s' I2 hq'
  | ok fl =>
    cases fl with
    | ret u =>
      obtain ⟨v, H', I3, rv, ev, q3⟩ := I2.after hq'
      subst ev
      exact ⟨rv, ⟨V.ref (s.heap.objs.size + 1), H', I3, rfl, q3⟩⟩
    | next => exact False.elim hq'
    | brk => exact False.elim hq'
    | cont => exact False.elim hq'
theorem pe_makeS {C f : Addr} {fd : FuncData} {ps : List Str} {sp : Sp} {j : Nat} {E : L2.St → XK} {x : Str} {p pos : Pos} {e : Expr} {es : List Expr} {t : TA} (M : Mk X.K C f) (F : FnOk X.prog X.w X.K X.mg X.base (L2.CX X.prog X.w) j f fd ps sp) (hr : Room (j + 1) X.A) (hg : Gl X x) (hm : X.mg x = some (.ref C)) (hb : Binds X.K fd ps [])
    (hx : ∀ σ, PassesAt (L2.CX X.prog X.w) X σ (E σ)) (ha : PA X (e :: es) t) (hdb : (x == ("__debug__" : Str)) = false) (he : starEach (e :: es) X.env = (false, eval e X.env) :: starEach es X.env) (hpl : (backTo pos (starEach es X.env)).any (·.1) = false) :
    PE X (.Call (.Name x p) (e :: es) [] pos) (tMakeS C sp E t) := by
  refine ⟨fun pins s σ H Q I h => wpAny_Call_Name_kw (ld_glob I hg hm ?_ hdb)⟩
  exact PySem.W.callWith_K (h₀ := X.base) I.ok.mod.kin M.kp (thn (ha.run pos pins s σ H _ I h) fun us s1 ⟨vs, H1, I1, r, q⟩ => ⟨I1.kIn, run_makeS M F hr hb (hx σ) I1 r q⟩) he hpl
theorem EnvR.fst {Z : Zs} {H : Hp} {v : V} {σ : L2.St} {d : D} {e : Env} {oe : List Addr} (r : EnvR k Z H (some v :: σ) (some d :: e) oe) : ∃ o1 o2, oe = o1 ++ o2 ∧ Rep k Z H d v o1 := by
  cases r with
  | som h t => exact ⟨_, _, rfl, h⟩
theorem tMake_of {cf : List D → R D} {c n : Nat} {fs : List (M D)} (hn : fs.length + 1 = n) {σ : L2.St} {H : Hp} {Q : VK} (q : tE k W (fMake c cf fs) σ H Q) : tMakeS (k.cA c) (spE k n cf) (WE W) (tA k W (evL fs)) σ H Q := by
  obtain ⟨Z, e, oe, ss, q⟩ := q
  refine ⟨Z, e, oe, ss, rE_len (rE.bnd q) fun ds e1 hl q1 => ?_⟩
  intro Z1 H1 vs oe1 od1 s1 st1 x dx hx hdx hne
  let H2 := upd (upd H1 dx (.own x)) x (.ins (k.cA c) dx [])
  have sm1 : Same H1 (upd H1 dx (.own x)) := same_new hdx
  have hx2 : (upd H1 dx (.own x)) x = none := by rw [upd_ne (Ne.symm hne)]; exact hx
  have sm : Same H1 H2 := sm1.trans (same_new hx2)
  have g2 : H2 x = some (.ins (k.cA c) dx []) := upd_same
  have s2 := s1.grow sm
  have nn := List.nodup_append.mp s1.nd
  have xo : x ∉ oe1 ++ od1 := fun z => (List.mem_append.mp z).elim (fun z => s1.er.trk x z hx) fun z => s1.rp.trk x z hx
  have n3 := List.nodup_append.mp s2.nd
  have s3 : SS k Z1 H2 [] [] (.ins true c [] [] :: ds) (.ref x :: vs) [] (x :: od1) := ⟨.nil s2.er.tabs, Reps.cons (o1 := [x]) (.insO (os := []) (kvs := []) g2 rfl .nil) s2.rp, by
      simp only [List.nil_append]
      exact List.nodup_cons.mpr ⟨fun z => xo (List.mem_append_right _ z), nn.2.1⟩, fun a ha z => by
      rcases List.mem_cons.mp (by simpa using ha) with w | w
      · subst w; exact s1.zt a z hx
      · exact s1.dz a (List.mem_append_right _ w) z, s2.zt⟩
  refine ⟨by rw [List.length_cons, ← s1.rp.len, hl, hn], Z1, _, x :: od1, s3, ?_⟩
  -- behind the call
  have after : ∀ {Z' H' ps dv u op od}, SS k Z' H' ((V.ref x :: vs).map some) ps dv u op od → Stp k Z1 H2 (x :: od1) Z' H' (op ++ od) → SS k Z' H' σ e1 [] [] oe1 [] ∧ (∀ a ∈ oe1, a ∉ op ++ od) ∧ Stp k Z H oe Z' H' (oe1 ++ (op ++ od)) := by
    intro Z' H' ps dv u op od s4 st4
    have dx1 : ∀ a ∈ oe1, a ∉ x :: od1 := fun a ha hb => by
      rcases List.mem_cons.mp hb with w | w
      · subst w; exact xo (List.mem_append_left _ ha)
      · exact nn.2.2 a ha a w rfl
    have er4 : EnvR k Z' H' σ e1 oe1 := s2.er.step st4.f (fun a ha => s3.dz a ha) s3.rp.mut dx1
    have dis : ∀ a ∈ oe1, a ∉ op ++ od := fun a ha hb => by
      rcases st4.ow a hb with z | z
      · exact dx1 a ha z
      · exact s2.er.trk a ha z
    have nz : ∀ a ∈ oe1, ¬ Z' a := fun a ha z => by
      rcases st4.zn a z with w | w | w
      · exact s1.dz a (List.mem_append_left _ ha) w
      · exact dx1 a ha w
      · exact s2.er.trk a ha w
    refine ⟨⟨er4, .nil, by simpa using nn.1, fun a ha => nz a (by simpa using ha), s4.zt⟩, dis, ?_⟩
    have b1 : Stp k Z1 H1 (oe1 ++ od1) Z1 H2 (oe1 ++ (x :: od1)) := ⟨⟨fun a o h _ _ => sm a o h, fun _ z => z, (same_fr (k := k) sm (Z := Z1)).tr, fun t => LamX.Tabs.ext t sm⟩, fun _ z => .inl z, fun a ha => by
      rcases List.mem_append.mp ha with z | z
      · exact .inl (List.mem_append_left _ z)
      · rcases List.mem_cons.mp z with z | z
        · subst z; exact .inr hx
        · exact .inl (List.mem_append_right _ z)⟩
    have b2 : Stp k Z1 H2 (oe1 ++ (x :: od1)) Z' H' (oe1 ++ (op ++ od)) := ⟨⟨fun a o h n t => st4.f.fr a o h (fun z => n (List.mem_append_right _ z)) t, st4.f.zz, st4.f.tr, st4.f.tb⟩, fun a z => (st4.zn a z).elim .inl fun z => z.elim (fun z => .inr (.inl (List.mem_append_right _ z))) fun z => .inr (.inr z), fun a ha => by
      rcases List.mem_append.mp ha with z | z
      · exact .inl (List.mem_append_left _ z)
      · exact (st4.ow a z).elim (fun z => .inl (List.mem_append_right _ z)) .inr⟩
    exact (st1.trans b1 fun a ha => ha).trans b2 fun a ha => ha
  cases q3 : cf (.ins true c [] [] :: ds) with
  | bad => simp only [q3] at q1; exact (show False from q1).elim
  | rse c' ns ys ps =>
    simp only [q3] at q1
    intro Z' H' op cls y s4 xr st4
    obtain ⟨s5, dis, st5⟩ := after s4 (by rw [List.append_nil]; exact st4)
    exact (show xEnd k Z H oe σ c' ns ys e1 W from q1) Z' H' oe1 cls y s5 xr (st5.sub fun a ha => List.mem_append_left _ ha)
  | ok d ps =>
    simp only [q3] at q1
    split at q1
    · rename_i d' ps' e5
      cases e5
      intro Z' H' v op od s4 st4
      obtain ⟨s5, dis, st5⟩ := after s4 st4
      obtain ⟨v', ev, rv⟩ := s4.rp.one'
      cases ev
      cases rv
      refine ⟨rfl, ?_⟩
      obtain ⟨o1, o2, rfl, r1⟩ := EnvR.fst (show EnvR k Z' H' (some (.ref x) :: vs.map some) (some d' :: ps') op from s4.er)
      have n4 := List.nodup_append.mp s4.nd
      have n5 := List.nodup_append.mp n4.1
      obtain ⟨v', e', hq⟩ := (show okEnd k Z H oe σ [d'] e1 _ from q1) Z' H' [.ref x] oe1 o1 ⟨s5.er, .one r1, List.nodup_append.mpr ⟨nn.1, n5.1, fun a ha b hb e => dis a ha (by rw [e]; exact List.mem_append_left _ (List.mem_append_left _ hb))⟩, fun a ha => (List.mem_append.mp ha).elim (fun z => s5.dz a (by simpa using z)) fun z => s4.dz a (List.mem_append_left _ (List.mem_append_left _ z)), s5.zt⟩
        (st5.sub fun a ha => (List.mem_append.mp ha).elim (fun z => List.mem_append_left _ z) fun z => List.mem_append_right _ (List.mem_append_left _ (List.mem_append_left _ z)))
      cases e'
      exact hq
    · rename_i e5
      cases e5
    · exact (show False from q1).elim
theorem ee_make {C f : Addr} {fd : FuncData} {ps : List Str} {j n c : Nat} {cf : List D → R D} {x : Str} {p pos : Pos} {e : Expr} {es : List Expr} {fs : List (M D)} (hC : k.cA c = C) (M : Mk X.K C f) (F : FnOk X.prog X.w X.K X.mg X.base (L2.CX X.prog X.w) j f fd ps (spE k n cf)) (hr : Room (j + 1) X.A) (hg : Gl X x) (hm : X.mg x = some (.ref C)) (hb : Binds X.K fd ps [])
    (tk : Takes X W) (ha : Paired (fun e f => PE X e (tE k W f) ∧ stB e = false) (e :: es) fs) (hs : (e :: es).all (fun e => !stB e) = true) (hn : fs.length + 1 = n) (hdb : (x == ("__debug__" : Str)) = false) : PE X (.Call (.Name x p) (e :: es) [] pos) (tE k W (fMake c cf fs)) := by
  subst hC
  simp only [List.all_cons, Bool.and_eq_true, Bool.not_eq_true'] at hs
  exact pe_mono (pe_makeS M F hr hg hm hb (passAt tk) (ee_args ha) hdb (starEach_cons hs.1) (star_any hs.2)) fun σ H Q q => tMake_of hn q
end
end Bp

/-! places that are changed -/
namespace Bp
open PySem PySem.Spec PyProof.Rows L2

/-! ### a place's value in the machine -/
def IxV (K : PySem.W.Frag) (H : Hp) (x y w : V) : Prop := (∃ a xs j, x = .ref a ∧ y = .int j ∧ (SqL K H a xs ∨ SqT K H a xs) ∧ atI xs j = some w) ∨ (∃ z j c, x = .str z ∧ y = .int j ∧ z.length ≤ sizeLine ∧ atI z.cps.toList j = some c ∧ w = .str ⟨#[c]⟩) ∨ ∃ a, x = .ref a ∧ DGet H a y (some w)
def VofP (k : Kx) (H : Hp) (σ : L2.St) : P0 → V → Prop
  | .v i, v => σ[i]? = some (some v)
  | .k n, v => v = .int n
  | .ks x, v => v = .str x
  | .s p q, w => ∃ x y, VofP k H σ p x ∧ VofP k H σ q y ∧ IxV k.K H x y w
  | .f p nm, w => ∃ a C dx kvs, VofP k H σ p (.ref a) ∧ H a = some (.ins C dx kvs) ∧ Cls k.K C ∧ NoAttr k.K C nm ∧ kvs.lookup nm = some w
def tPV (k : Kx) (p : P0) : TE := fun σ H Q => ∃ v, VofP k H σ p v ∧ Q v H
section
variable {X : Cx} {k : Kx} {T : Tb} {W : WX} {A : List Nat}
theorem ix_V (hk : k.K = X.K) (hu : X.A.units + 80 < cLine) : IxR X (fun x y H Q => ∃ w, IxV k.K H x y w ∧ Q w H) := by
  have h0 : IxR X (fun x y H Q => rIx X.K x y H Q ∨ ∃ a v, x = .ref a ∧ DGet H a y (some v) ∧ Q v H) := ix_seq.or (ix_dict (by omega))
  intro value slice pins s σ H x y v u Q I rx ry h hs
  refine h0 value slice pins s σ H x y v u Q I rx ry ?_ hs
  obtain ⟨w, h, q⟩ := h
  rw [hk] at h
  rcases h with ⟨a, xs, j, rfl, rfl, h | h, e⟩ | ⟨z, j, c, rfl, rfl, hz, hc, rfl⟩ | ⟨a, rfl, h⟩
  · exact .inl (.inl ⟨a, xs, j, w, rfl, rfl, h, e, q⟩)
  · exact .inl (.inr (.inl ⟨a, xs, j, w, rfl, rfl, h, e, q⟩))
  · exact .inl (.inr (.inr ⟨z, j, c, rfl, rfl, hz, hc, q⟩))
  · exact .inr ⟨a, w, rfl, h, q⟩
theorem pe_PV (hk : k.K = X.K) (hu : X.A.units + 80 < cLine) : ∀ (p : P0) (e : Expr), chkP X.N X.env.scope p e = true → PE X e (tPV k p)
  | .v i, e, h => by
    unfold chkP at h
    split at h
    · simp only [Bool.and_eq_true] at h
      obtain ⟨h1, h2, h3⟩ := vis_of h.2
      exact pe_mono (pe_var (atN_of h.1) h1 h2 h3) fun σ H Q ⟨v, a, q⟩ => ⟨v, a, q⟩
    · cases h
  | .k n, e, h => by
    unfold chkP at h
    split at h
    · cases (beq_iff_eq.mp h)
      exact pe_mono pe_int fun σ H Q ⟨v, a, q⟩ => by cases a; exact q
    · cases h
  | .ks n, e, h => by
    unfold chkP at h
    split at h
    · cases (beq_iff_eq.mp h)
      exact pe_mono pe_str fun σ H Q ⟨v, a, q⟩ => by cases a; exact q
    · cases h
  | .s p q, e, h => by
    unfold chkP at h
    split at h
    · rename_i a b pos
      simp only [Bool.and_eq_true] at h
      refine pe_mono (pe_ix (ix_V hk hu) (pe_PV hk hu p a h.1.1) (pe_PV hk hu q b h.1.2) (plainIx_of h.2)) fun σ H Q ⟨w, ⟨x, y, h1, h2, h3⟩, qq⟩ => ?_
      exact ⟨x, h1, y, h2, w, h3, qq⟩
    · cases h
  | .f p nm, e, h => by
    unfold chkP at h
    split at h
    · rename_i a nm' pos
      simp only [Bool.and_eq_true, beq_iff_eq] at h
      obtain ⟨⟨h1, rfl⟩, h3⟩ := h
      refine pe_mono (pe_fld (pe_PV hk hu p a h1) (attrBase_of h3)) fun σ H Q ⟨w, ⟨a, C, dx, kvs, g1, g2, g3, g4, g5⟩, qq⟩ => ?_
      rw [← hk]
      exact ⟨_, g1, a, C, dx, kvs, w, rfl, g2, g3, g4, g5, qq⟩
    · cases h

/-! ### a thing within a thing -/
def setN (xs : List D) (i : D) (x : D) : Option (List D) := match asInt i with
  | some j => match ixN xs.length j with
    | some n => some (xs.set n x)
    | none => none
  | none => none
def dsetv {κ : Type} [DecidableEq κ] : List κ → List D → κ → D → List D
  | k' :: ks, x :: xs, kk, y => (if k' = kk then y else x) :: dsetv ks xs kk y
  | _, xs, _, _ => xs
def dset1 {κ : Type} [DecidableEq κ] : List κ → List D → κ → D → List D
  | k' :: ks, x :: xs, kk, y => if k' = kk then y :: xs else x :: dset1 ks xs kk y
  | _, xs, _, _ => xs
/-- d with x at its place i -/
def subU (d i x : D) : Option D := match d with
  | .tup xs => (setN xs i x).map .tup
  | .lst true xs => (setN xs i x).map (.lst true)
  | .dk true ks xs => match keyK i with
    | some kk => some (.dk true ks (dset1 ks xs kk x))
    | none => none
  | .dt true ks xs => match keyT i with
    | some kk => some (.dt true ks (dset1 ks xs kk x))
    | none => none
  | _ => none
def fldU (d : D) (nm : Str) (x : D) : Option D := match d with
  | .ins true c fs xs => some (.ins true c fs (dset1 fs xs nm x))
  | _ => none
def updP (T : Tb) : P0 → D → Env → Option Env
  | .v i, x, e => match e[i]? with
    | some (some _) => some (e.set i (some x))
    | _ => none
  | .s p q, x, e => match getP T p e, getP T q e with
    | some d, some i => match subU d i x with
      | some d' => updP T p d' e
      | none => none
    | _, _ => none
  | .f p nm, x, e => match getP T p e with
    | some d => match fldU d nm x with
      | some d' => updP T p d' e
      | none => none
    | none => none
  | _, _, _ => none

/-- a later heap, in which the rest stands -/
def Later (k : Kx) (Z : Zs) (H : Hp) (o2 : List Addr) (Z' : Zs) (H' : Hp) : Prop := ∃ M, Fr k M Z H Z' H' ∧ (∀ a ∈ M, ¬ Z a) ∧ (∀ a ∈ M, Mut (H a)) ∧ ∀ a ∈ o2, a ∉ M
theorem Later.sub {Z Z' : Zs} {H H' : Hp} {o2 o3 : List Addr} (h : Later k Z H o2 Z' H') (s : ∀ a ∈ o3, a ∈ o2) : Later k Z H o3 Z' H' := by
  obtain ⟨M, a, b, c, d⟩ := h
  exact ⟨M, a, b, c, fun x hx => d x (s x hx)⟩
theorem Later.rep {Z Z' : Zs} {H H' : Hp} {o2 : List Addr} {d : D} {v : V} (h : Later k Z H o2 Z' H') (r : Rep k Z H d v o2) : Rep k Z' H' d v o2 := by
  obtain ⟨M, a, b, c, e⟩ := h
  exact r.step a b c e
theorem Later.reps {Z Z' : Zs} {H H' : Hp} {o2 : List Addr} {d : List D} {v : List V} (h : Later k Z H o2 Z' H') (r : Reps k Z H d v o2) : Reps k Z' H' d v o2 := by
  obtain ⟨M, a, b, c, e⟩ := h
  exact r.step a b c e
theorem Later.at {Z Z' : Zs} {H H' : Hp} {o2 : List Addr} {a : Addr} {u : HO} (h : Later k Z H o2 Z' H') (e : H a = some u) (ha : a ∈ o2) (t : ∀ ps, u ≠ .tbl ps := by intro ps z; cases z) : H' a = some u := by
  obtain ⟨M, f, b, c, n⟩ := h
  exact f.fr a u e (n a ha) t
theorem Later.tup {Z Z' : Zs} {H H' : Hp} {o2 : List Addr} {a : Addr} {xs : List V} (h : Later k Z H o2 Z' H') (e : H a = some (.tup xs)) : H' a = some (.tup xs) := by
  obtain ⟨M, f, b, c, n⟩ := h
  exact f.fr a _ e fun q => by have := c a q; rw [e] at this; exact this
/-- the rest round an item -/
theorem Reps.focus {Z : Zs} {H : Hp} : ∀ {xs : List D} {vs : List V} {os : List Addr} {n : Nat} {x : D}, Reps k Z H xs vs os → xs[n]? = some x → ∃ w o1 o2, vs[n]? = some w ∧ Rep k Z H x w o1 ∧ os.Perm (o1 ++ o2) ∧
    ∀ Z' H' x' o1', Later k Z H o2 Z' H' → Rep k Z' H' x' w o1' → ∃ os', Reps k Z' H' (xs.set n x') vs os' ∧ os'.Perm (o1' ++ o2)
  | _, _, _, _, _, .nil, h => by simp at h
  | _, _, _, 0, _, .cons r t, h => by
    simp only [List.getElem?_cons_zero, Option.some.injEq] at h
    subst h
    rename_i o1 o2
    refine ⟨_, o1, o2, rfl, r, List.Perm.refl _, fun Z' H' x' o1' L r' => ⟨o1' ++ o2, .cons r' (L.reps t), List.Perm.refl _⟩⟩
  | _, _, _, n + 1, _, .cons (o1 := oa) (o2 := ob) r t, h => by
    obtain ⟨w, o1, o2, a, b, p, f⟩ := Reps.focus (n := n) t (by simpa using h)
    refine ⟨w, o1, oa ++ o2, by simpa using a, b, (p.append_left oa).trans perm_mid, fun Z' H' x' o1' L r' => ?_⟩
    obtain ⟨os', r2, p2⟩ := f Z' H' x' o1' (L.sub fun a q => List.mem_append_right _ q) r'
    exact ⟨oa ++ os', .cons ((L.sub fun a q => List.mem_append_left _ q).rep r) r2, (p2.append_left oa).trans perm_mid⟩
theorem dget_focus {κ : Type} [DecidableEq κ] {Z : Zs} {H : Hp} : ∀ {ks : List κ} {xs : List D} {kvs : List (κ × V)} {os : List Addr} {kk : κ} {x : D}, kvs.map (·.1) = ks → Reps k Z H xs (kvs.map (·.2)) os → dget ks xs kk = some x → ∃ w o1 o2, valV kvs kk = some w ∧ Rep k Z H x w o1 ∧ os.Perm (o1 ++ o2) ∧
    ∀ Z' H' x' o1', Later k Z H o2 Z' H' → Rep k Z' H' x' w o1' → ∃ os', Reps k Z' H' (dset1 ks xs kk x') (kvs.map (·.2)) os' ∧ os'.Perm (o1' ++ o2)
  | [], _, _, _, _, _, _, _, h => by simp [dget] at h
  | _ :: _, [], _, _, _, _, _, _, h => by simp [dget] at h
  | k' :: ks, x :: xs, [], _, _, _, e, _, _ => by simp at e
  | k' :: ks, x :: xs, kv :: kvs, os, kk, d, e, r, h => by
    simp only [List.map_cons, List.cons.injEq] at e
    obtain ⟨e1, e2⟩ := e
    obtain ⟨oa, ob, rfl, rx, rt⟩ := (show Reps k Z H (x :: xs) (kv.2 :: kvs.map (·.2)) os from r).head
    unfold dget at h
    by_cases q : k' = kk
    · rw [if_pos q] at h
      cases h
      refine ⟨kv.2, oa, ob, valV_pos (e1.trans q), rx, List.Perm.refl _, fun Z' H' x' o1' L r' => ⟨o1' ++ ob, ?_, List.Perm.refl _⟩⟩
      unfold dset1
      rw [if_pos q]
      exact .cons r' (L.reps rt)
    · rw [if_neg q] at h
      obtain ⟨w, o1, o2, a, b, p, f⟩ := dget_focus e2 rt h
      refine ⟨w, o1, oa ++ o2, by rw [valV_neg (fun z => q (e1.symm.trans z)), a], b, (p.append_left oa).trans perm_mid, fun Z' H' x' o1' L r' => ?_⟩
      obtain ⟨os', r2, p2⟩ := f Z' H' x' o1' (L.sub fun a q => List.mem_append_right _ q) r'
      unfold dset1
      rw [if_neg q]
      exact ⟨oa ++ os', .cons ((L.sub fun a q => List.mem_append_left _ q).rep rx) r2, (p2.append_left oa).trans perm_mid⟩
theorem setN_some {xs : List D} {i x : D} {ys : List D} (h : setN xs i x = some ys) : ∃ j n, i = .int j ∧ ixN xs.length j = some n ∧ ys = xs.set n x := by
  unfold setN at h
  split at h
  · rename_i j q
    split at h
    · rename_i n q2
      cases h
      refine ⟨j, n, ?_, q2, rfl⟩
      cases i <;> simp [asInt] at q
      rw [q]
    · cases h
  · cases h
theorem atI_ixN {α : Type} {xs : List α} {j : Int} {n : Nat} (h : ixN xs.length j = some n) : atI xs j = xs[n]? := by unfold atI; rw [h]; rfl
theorem keyK_eq {i : D} {kk : Key} (h : keyK i = some kk) : i = kD kk := by
  cases i <;> simp [keyK] at h
  · subst h; rfl
  · subst h; rfl
/-- the rest round a thing's place -/
theorem sub_focus {Z : Zs} {H : Hp} {d i x x' d' : D} {v y : V} {os oi : List Addr} (r : Rep k Z H d v os) (ri : Rep k Z H i y oi) (h : subD d i = some x) (h2 : subU d i x' = some d') :
    ∃ w o1 o2, IxV k.K H v y w ∧ Rep k Z H x w o1 ∧ os.Perm (o1 ++ o2) ∧ ∀ Z' H' o1', Later k Z H o2 Z' H' → Rep k Z' H' x' w o1' → ∃ os', Rep k Z' H' d' v os' ∧ os'.Perm (o1' ++ o2) := by
  cases r with
  | tup e rr =>
    simp only [subU, Option.map_eq_some_iff] at h2
    obtain ⟨ys, h3, rfl⟩ := h2
    obtain ⟨j, n, rfl, hn, rfl⟩ := setN_some h3
    cases ri
    have hx : atI _ j = some x := h
    rw [atI_ixN hn] at hx
    obtain ⟨w, o1, o2, a, b, p, f⟩ := rr.focus hx
    refine ⟨w, o1, o2, .inl ⟨_, _, j, rfl, rfl, .inr (SqT.of e), by rw [atI_ixN (by rw [← rr.len]; exact hn)]; exact a⟩, b, p, fun Z' H' o1' L r' => ?_⟩
    obtain ⟨os', r2, p2⟩ := f Z' H' x' o1' L r'
    exact ⟨os', .tup (L.tup e) r2, p2⟩
  | @lstO ad _ us os0 e rr =>
    simp only [subU, Option.map_eq_some_iff] at h2
    obtain ⟨ys, h3, rfl⟩ := h2
    obtain ⟨j, n, rfl, hn, rfl⟩ := setN_some h3
    cases ri
    have hx : atI _ j = some x := h
    rw [atI_ixN hn] at hx
    obtain ⟨w, o1, o2, a, b, p, f⟩ := rr.focus hx
    refine ⟨w, o1, ad :: o2, .inl ⟨_, _, j, rfl, rfl, .inl (SqL.of e), by rw [atI_ixN (by rw [← rr.len]; exact hn)]; exact a⟩, b, (p.cons ad).trans List.perm_middle.symm, fun Z' H' o1' L r' => ?_⟩
    obtain ⟨os', r2, p2⟩ := f Z' H' x' o1' (L.sub fun a q => List.mem_cons_of_mem _ q) r'
    exact ⟨ad :: os', .lstO (L.at e List.mem_cons_self) r2, (p2.cons ad).trans List.perm_middle.symm⟩
  | @dkO ad _ _ kvs os0 e ek rr =>
    simp only [subU] at h2
    split at h2
    · rename_i kk q
      cases h2
      have hx : dkAt _ _ i = some x := h
      unfold dkAt at hx
      rw [q] at hx
      obtain ⟨w, o1, o2, a, b, p, f⟩ := dget_focus ek rr hx
      refine ⟨w, o1, ad :: o2, .inr (.inr ⟨_, rfl, .inl ⟨kvs, kk, .inl e, keyK_rep ri q, a.symm⟩⟩), b, (p.cons ad).trans List.perm_middle.symm, fun Z' H' o1' L r' => ?_⟩
      obtain ⟨os', r2, p2⟩ := f Z' H' x' o1' (L.sub fun a q => List.mem_cons_of_mem _ q) r'
      exact ⟨ad :: os', .dkO (L.at e List.mem_cons_self) ek r2, (p2.cons ad).trans List.perm_middle.symm⟩
    · cases h2
  | @dtO ad _ _ kvs os0 e ek rr =>
    simp only [subU] at h2
    split at h2
    · rename_i kk q
      cases h2
      have hx : dtAt _ _ i = some x := h
      unfold dtAt at hx
      rw [q] at hx
      obtain ⟨w, o1, o2, a, b, p, f⟩ := dget_focus ek rr hx
      obtain ⟨t, ey, et⟩ := keyT_rep ri q
      refine ⟨w, o1, ad :: o2, .inr (.inr ⟨_, rfl, .inr ⟨kvs, kk, t, .inl e, ey, et, a.symm⟩⟩), b, (p.cons ad).trans List.perm_middle.symm, fun Z' H' o1' L r' => ?_⟩
      obtain ⟨os', r2, p2⟩ := f Z' H' x' o1' (L.sub fun a q => List.mem_cons_of_mem _ q) r'
      exact ⟨ad :: os', .dtO (L.at e List.mem_cons_self) ek r2, (p2.cons ad).trans List.perm_middle.symm⟩
    · cases h2
  | non => cases h2
  | bl _ => cases h2
  | int _ => cases h2
  | str _ => cases h2
  | lstF _ _ _ => cases h2
  | scr _ _ => cases h2
  | dkF _ _ _ _ => cases h2
  | dtF _ _ _ _ => cases h2
  | insF _ _ _ _ => cases h2
  | insO _ _ _ => cases h2
/-- .. and round a field -/
theorem fld_focus (tb : TbOk k T) {Z : Zs} {H : Hp} {d x x' d' : D} {nm : Str} {v : V} {os : List Addr} (r : Rep k Z H d v os) (h : fldD T d nm = some x) (h2 : fldU d nm x' = some d') :
    ∃ a C dx kvs w o1 o2, v = .ref a ∧ H a = some (.ins C dx kvs) ∧ Cls k.K C ∧ NoAttr k.K C nm ∧ kvs.lookup nm = some w ∧ Rep k Z H x w o1 ∧ os.Perm (o1 ++ o2) ∧ ∀ Z' H' o1', Later k Z H o2 Z' H' → Rep k Z' H' x' w o1' → ∃ os', Rep k Z' H' d' v os' ∧ os'.Perm (o1' ++ o2) := by
  cases r with
  | @insO ad dx _ _ _ kvs os0 e ek rr =>
    cases h2
    obtain ⟨o, c, fs, xs, e0, hf, hg⟩ := fldD_some h
    cases e0
    obtain ⟨w, o1, o2, a, b, p, f⟩ := dget_focus ek rr hg
    obtain ⟨c1, c2⟩ := tb.cl _ nm hf
    refine ⟨ad, _, dx, kvs, w, o1, ad :: o2, rfl, e, c1, c2, by rw [← valV_lookup]; exact a, b, (p.cons ad).trans List.perm_middle.symm, fun Z' H' o1' L r' => ?_⟩
    obtain ⟨os', r2, p2⟩ := f Z' H' x' o1' (L.sub fun a q => List.mem_cons_of_mem _ q) r'
    exact ⟨ad :: os', .insO (L.at e List.mem_cons_self) ek r2, (p2.cons ad).trans List.perm_middle.symm⟩
  | _ => cases h2
/-- a place's value, and its thing -/
theorem ixV_of {Z : Zs} {H : Hp} {d i x : D} {v y : V} {os oi : List Addr} (r : Rep k Z H d v os) (ri : Rep k Z H i y oi) (h : subD d i = some x) : ∃ w o, IxV k.K H v y w ∧ Rep k Z H x w o ∧ ∀ a ∈ o, a ∈ os := by
  cases r with
  | tup e r =>
    obtain ⟨j, w, o, rfl, a, b, c⟩ := atD_rep r ri h
    exact ⟨w, o, .inl ⟨_, _, j, rfl, rfl, .inr (SqT.of e), a⟩, b, c⟩
  | lstF z e r =>
    obtain ⟨j, w, o, rfl, a, b, c⟩ := atD_rep r ri h
    exact ⟨w, o, .inl ⟨_, _, j, rfl, rfl, .inl (SqL.of e), a⟩, b, c⟩
  | lstO e r =>
    obtain ⟨j, w, o, rfl, a, b, c⟩ := atD_rep r ri h
    exact ⟨w, o, .inl ⟨_, _, j, rfl, rfl, .inl (SqL.of e), a⟩, b, fun z hz => List.mem_cons_of_mem _ (c z hz)⟩
  | scr e r =>
    obtain ⟨j, w, o, rfl, a, b, c⟩ := atD_rep r ri h
    exact ⟨w, o, .inl ⟨_, _, j, rfl, rfl, .inl e.sq, a⟩, b, c⟩
  | str z =>
    have hd' : strAt z i = some x := h
    unfold strAt at hd'
    cases q1 : asInt i with
    | none => rw [q1] at hd'; cases hd'
    | some j =>
      rw [q1] at hd'
      dsimp only at hd'
      by_cases hz : z.length ≤ sizeLine
      · rw [if_pos hz] at hd'
        obtain ⟨c, hc, rfl⟩ := Option.map_eq_some_iff.mp hd'
        exact ⟨_, [], .inr (.inl ⟨z, j, c, rfl, asInt_rep ri q1, hz, hc, rfl⟩), .str _, fun _ h => nomatch h⟩
      · rw [if_neg hz] at hd'; cases hd'
  | dkF z e ek r =>
    obtain ⟨kk, w, o, ey, a, b, c⟩ := dkAt_rep ek r ri h
    exact ⟨w, o, .inr (.inr ⟨_, rfl, .inl ⟨_, kk, e, ey, a.symm⟩⟩), b, c⟩
  | dkO e ek r =>
    obtain ⟨kk, w, o, ey, a, b, c⟩ := dkAt_rep ek r ri h
    exact ⟨w, o, .inr (.inr ⟨_, rfl, .inl ⟨_, kk, .inl e, ey, a.symm⟩⟩), b, fun z hz => List.mem_cons_of_mem _ (c z hz)⟩
  | dtF z e ek r =>
    obtain ⟨kk, t, w, o, ey, et, a, b, c⟩ := dtAt_rep ek r ri h
    exact ⟨w, o, .inr (.inr ⟨_, rfl, .inr ⟨_, kk, t, e, ey, et, a.symm⟩⟩), b, c⟩
  | dtO e ek r =>
    obtain ⟨kk, t, w, o, ey, et, a, b, c⟩ := dtAt_rep ek r ri h
    exact ⟨w, o, .inr (.inr ⟨_, rfl, .inr ⟨_, kk, t, .inl e, ey, et, a.symm⟩⟩), b, fun z hz => List.mem_cons_of_mem _ (c z hz)⟩
  | non => cases h
  | bl _ => cases h
  | int _ => cases h
  | insF _ _ _ _ => cases h
  | insO _ _ _ => cases h
theorem vof (tb : TbOk k T) {Z : Zs} {H : Hp} {σ : L2.St} {e : Env} {oe : List Addr} (er : EnvR k Z H σ e oe) : ∀ (p : P0) {d : D}, getP T p e = some d → ∃ v os, VofP k H σ p v ∧ Rep k Z H d v os ∧ ∀ a ∈ os, a ∈ oe
  | .v i, d, h => by
    obtain ⟨v, os, a, b, c⟩ := er.get (getV h)
    exact ⟨v, os, a, b, c⟩
  | .k n, d, h => by cases h; exact ⟨_, [], rfl, .int _, fun _ q => nomatch q⟩
  | .ks n, d, h => by cases h; exact ⟨_, [], rfl, .str _, fun _ q => nomatch q⟩
  | .s p q, d, h => by
    unfold getP at h
    split at h
    · rename_i d1 i1 q1 q2
      obtain ⟨x, o1, a1, b1, c1⟩ := vof tb er p q1
      obtain ⟨y, o2, a2, b2, c2⟩ := vof tb er q q2
      obtain ⟨w, o3, a3, b3, c3⟩ := ixV_of b1 b2 h
      exact ⟨w, o3, ⟨x, y, a1, a2, a3⟩, b3, fun a ha => c1 a (c3 a ha)⟩
    · cases h
  | .f p nm, d, h => by
    unfold getP at h
    split at h
    · rename_i d1 q1
      obtain ⟨x, o1, a1, b1, c1⟩ := vof tb er p q1
      obtain ⟨o, c, fs, xs, rfl, hf, hg⟩ := fldD_some h
      obtain ⟨a, dx, kvs, o2, rfl, h1, h2, h3, h4⟩ := rep_ins b1
      obtain ⟨w, o3, g1, g2, g3⟩ := dget_rep h2 h3 hg
      obtain ⟨t1, t2⟩ := tb.cl c nm hf
      exact ⟨w, o3, ⟨a, _, dx, kvs, a1, h1, t1, t2, by rw [← valV_lookup]; exact g1⟩, g2, fun a ha => c1 a (h4 a (g3 a ha))⟩
    · cases h
/-- the rest of the slots round a place -/
theorem path_focus (tb : TbOk k T) {Z : Zs} {H : Hp} {σ : L2.St} {e : Env} {oe : List Addr} (er : EnvR k Z H σ e oe) : ∀ (p : P0) {d x' : D} {e' : Env}, getP T p e = some d → updP T p x' e = some e' →
    ∃ v o1 o2, VofP k H σ p v ∧ Rep k Z H d v o1 ∧ oe.Perm (o1 ++ o2) ∧ ∀ Z' H' o1', Later k Z H o2 Z' H' → Rep k Z' H' x' v o1' → ∃ oe', EnvR k Z' H' σ e' oe' ∧ oe'.Perm (o1' ++ o2)
  | .v i, d, x', e', h, h2 => by
    obtain ⟨v, o1, o2, a, b, c, p⟩ := er.take (getV h)
    unfold updP at h2
    split at h2
    · cases h2
      refine ⟨v, o1, o2, a, b, p, fun Z' H' o1' L r' => ?_⟩
      obtain ⟨M, f1, f2, f3, f4⟩ := L
      obtain ⟨o, r2, p2⟩ := EnvR.back r' (c.step f1 f2 f3 f4) (set_none_get (getV h)) a
      rw [List.set_set] at r2
      exact ⟨o, r2, p2⟩
    · cases h2
  | .k n, d, x', e', h, h2 => by cases h2
  | .ks n, d, x', e', h, h2 => by cases h2
  | .s p q, d, x', e', h, h2 => by
    unfold getP at h
    unfold updP at h2
    split at h
    · rename_i d1 i1 q1 q2
      rw [q1, q2] at h2
      dsimp only at h2
      split at h2
      · rename_i d1' q3
        obtain ⟨x, o1, o2, a1, b1, p1, f1⟩ := path_focus tb er p q1 h2
        obtain ⟨y, oy, a2, b2, c2⟩ := vof tb er q q2
        obtain ⟨w, o3, o4, a3, b3, p3, f3⟩ := sub_focus b1 b2 h q3
        refine ⟨w, o3, o4 ++ o2, ⟨x, y, a1, a2, a3⟩, b3, ?_, fun Z' H' o1' L r' => ?_⟩
        · refine p1.trans ?_
          rw [← List.append_assoc]
          exact p3.append_right o2
        · obtain ⟨os', r2, p4⟩ := f3 Z' H' o1' (L.sub fun a q => List.mem_append_left _ q) r'
          obtain ⟨oe', r5, p5⟩ := f1 Z' H' os' (L.sub fun a q => List.mem_append_right _ q) r2
          refine ⟨oe', r5, p5.trans ?_⟩
          rw [← List.append_assoc]
          exact p4.append_right o2
      · cases h2
    · cases h
  | .f p nm, d, x', e', h, h2 => by
    unfold getP at h
    unfold updP at h2
    split at h
    · rename_i d1 q1
      rw [q1] at h2
      dsimp only at h2
      split at h2
      · rename_i d1' q3
        obtain ⟨x, o1, o2, a1, b1, p1, f1⟩ := path_focus tb er p q1 h2
        obtain ⟨a, C, dx, kvs, w, o3, o4, rfl, g1, g2, g3, g4, b3, p3, f3⟩ := fld_focus tb b1 h q3
        refine ⟨w, o3, o4 ++ o2, ⟨a, C, dx, kvs, a1, g1, g2, g3, g4⟩, b3, ?_, fun Z' H' o1' L r' => ?_⟩
        · refine p1.trans ?_
          rw [← List.append_assoc]
          exact p3.append_right o2
        · obtain ⟨os', r2, p4⟩ := f3 Z' H' o1' (L.sub fun a q => List.mem_append_left _ q) r'
          obtain ⟨oe', r5, p5⟩ := f1 Z' H' os' (L.sub fun a q => List.mem_append_right _ q) r2
          refine ⟨oe', r5, p5.trans ?_⟩
          rw [← List.append_assoc]
          exact p4.append_right o2
      · cases h2
    · cases h
end
end Bp

/-! methods that change their thing; stores at places -/
namespace Bp
open PySem PySem.Spec PyProof.Rows L2

def mK (k : Kx) (Z : Zs) (H : Hp) (x : V) (d' r : D) (os od : List Addr) (Q : VK) : Prop := ∀ H' u os' ou, Fr k os Z H Z H' → Rep k Z H' d' x os' → Rep k Z H' r u ou → (os' ++ ou).Nodup → (∀ a ∈ os' ++ ou, a ∈ os ++ od ∨ H a = none) → Q u H'
def rMo (k : Kx) (sem : D → List D → Option (D × D)) : V → List V → Hp → VK → Prop := fun x vs H Q => ∃ Z d ds d' r os od, Rep k Z H d x os ∧ Reps k Z H ds vs od ∧ (os ++ od).Nodup ∧ (∀ a ∈ os, ¬ Z a) ∧ sem d ds = some (d', r) ∧ mK k Z H x d' r os od Q
def rMr (k : Kx) (sem : D → List D → Option (D × D)) : V → List V → Hp → VK → Prop := fun x vs H Q => ∃ Z d ds d' r os, Rep k Z H d x os ∧ os.Nodup ∧ (∀ a ∈ os, ¬ Z a) ∧ RWs k Z H ds vs ∧ sem d ds = some (d', r) ∧ mK k Z H x d' r os [] Q

inductive Mth where
  | append | extend | pop | popAt | update
def mAppend (d : D) (ds : List D) : Option (D × D) := match d, ds with
  | .lst true xs, [y] => if decide (xs.length < 16777216) = true then some (.lst true (xs ++ [y]), .non) else none
  | _, _ => none
def mAppendF (d : D) (ds : List D) : Option (D × D) := if fzs ds = true then mAppend d ds else none
def mExtend (d : D) (ds : List D) : Option (D × D) := match d, ds with
  | .lst true xs, [.lst _ ys] => if (fzs ys && decide (xs.length + ys.length ≤ 16777216)) = true then some (.lst true (xs ++ ys), .non) else none
  | _, _ => none
def mPop (d : D) (ds : List D) : Option (D × D) := match d, ds with
  | .lst true xs, [] => match xs[xs.length - 1]? with
    | some y => some (.lst true xs.dropLast, y)
    | none => none
  | _, _ => none
def mPopAt (d : D) (ds : List D) : Option (D × D) := match d, ds with
  | .lst true xs, [.int i] => if rngOk i = true then match ixN xs.length i with
      | some n => match xs[n]? with
        | some y => some (.lst true (xs.eraseIdx n), y)
        | none => none
      | none => none
    else none
  | _, _ => none
/-- one key more, or its value anew -/
def putD {κ : Type} [DecidableEq κ] (kx : List κ × List D) (kk : κ) (y : D) : List κ × List D := if kk ∈ kx.1 then (kx.1, dsetv kx.1 kx.2 kk y) else (kx.1 ++ [kk], kx.2 ++ [y])
def mrgD {κ : Type} [DecidableEq κ] : List κ × List D → List κ → List D → List κ × List D
  | kx, kk :: ks, y :: ys => mrgD (putD kx kk y) ks ys
  | kx, _, _ => kx
def isBl : D → Bool
  | .bl _ => true
  | .int _ => true
  | _ => false
def mUpd (d : D) (ds : List D) : Option (D × D) := match d, ds with
  | .dk true ks xs, [.dk _ ks' ys] => if (xs.all isBl && ys.all isBl && decide (ks.length + ks'.length ≤ 16777216)) = true then some (.dk true (mrgD (ks, xs) ks' ys).1 (mrgD (ks, xs) ks' ys).2, .non) else none
  | _, _ => none
def Mth.mO : Mth → D → List D → Option (D × D)
  | .append => mAppend
  | .extend => mExtend
  | .pop => mPop
  | .popAt => mPopAt
  | .update => mUpd
def Mth.mR : Mth → D → List D → Option (D × D)
  | .append => mAppendF
  | .extend => mExtend
  | .pop => mPop
  | .popAt => mPopAt
  | .update => mUpd
def Mth.nm : Mth → Str
  | .append => "append"
  | .extend => "extend"
  | .pop => "pop"
  | .popAt => "pop"
  | .update => "update"
def Mth.id : Mth → String
  | .append => "list.append"
  | .extend => "list.extend"
  | .pop => "list.pop"
  | .popAt => "list.pop"
  | .update => "dict.update"
def Mth.ty : Mth → String
  | .update => "dict"
  | _ => "list"
def Mth.is : Mth → D → Bool
  | .update, .dk _ _ _ => true
  | .update, _ => false
  | _, .lst _ _ => true
  | _, _ => false

section
variable {X : Cx} {k : Kx} {T : Tb} {W : WX} {A : List Nat}
theorem MtR.imp {id : String} {r r' : V → List V → Hp → VK → Prop} (h : MtR X id r) (i : ∀ x vs H Q, r' x vs H Q → r x vs H Q) : MtR X id r' := fun pins s σ H x xs v us Q I rx rv q => h pins s σ H x xs v us Q I rx rv (i _ _ _ _ q)
theorem mK.wide {Z : Zs} {H : Hp} {x : V} {d' r : D} {os od : List Addr} {Q : VK} (h : mK k Z H x d' r os od Q) : mK k Z H x d' r os [] Q := fun H' u os' ou f a b c e => h H' u os' ou f a b c fun z hz => (e z hz).elim (fun q => .inl (List.mem_append_left _ (by simpa using q))) .inr
theorem rMo_rMr {sem : D → List D → Option (D × D)} {x : V} {vs : List V} {H : Hp} {Q : VK} (h : rMo k sem x vs H Q) : rMr k sem x vs H Q := by
  obtain ⟨Z, d, ds, d', r, os, od, a, b, c, e, f, g⟩ := h
  exact ⟨Z, d, ds, d', r, os, a, (List.nodup_append.mp c).1, e, b.rws, f, g.wide⟩
theorem rws_fz {Z : Zs} {H : Hp} : ∀ {ds : List D} {vs : List V}, RWs k Z H ds vs → fzs ds = true → Reps k Z H ds vs []
  | [], [], _, _ => .nil
  | [], _ :: _, h, _ => (show False from h).elim
  | _ :: _, [], h, _ => (show False from h).elim
  | d :: ds, v :: vs, h, f => by
    simp only [fzs, Bool.and_eq_true] at f
    obtain ⟨⟨o, r⟩, t⟩ := h
    have e := r.fz0 f.1
    subst e
    exact Reps.cons (o1 := []) (o2 := []) r (rws_fz t f.2)
theorem fr_own {Z : Zs} {H : Hp} {p : Addr} {o o' : HO} (h : H p = some o) {os : List Addr} (n1 : ∀ ps, o ≠ .tbl ps := by intro ps z; cases z) (n2 : ∀ φ, o ≠ .ext φ := by intro ps z; cases z) : Fr k (p :: os) Z H Z (upd H p o') := ⟨fun b u e n _ => by rw [upd_ne (by intro q; subst q; exact n (by simp))]; exact e, fun _ z => z, fun b h => by
  by_cases q : b = p
  · subst q; rw [upd_same]; exact fun z => nomatch z
  · rw [upd_ne q]; exact h, fun t => tabs_upd h n1 n2 t⟩
theorem later_own {Z : Zs} {H : Hp} {p : Addr} {o o' : HO} (h : H p = some o) (m : Mut (some o)) (z : ¬ Z p) {l : List Addr} (n : p ∉ l) (n1 : ∀ ps, o ≠ .tbl ps := by intro ps z; cases z) (n2 : ∀ φ, o ≠ .ext φ := by intro ps z; cases z) : Later k Z H l Z (upd H p o') :=
  ⟨[p], fr_own h n1 n2, fun a ha => by rw [List.mem_singleton.mp ha]; exact z, fun a ha => by rw [List.mem_singleton.mp ha, h]; exact m, fun a ha q => n (by rw [List.mem_singleton.mp q] at ha; exact ha)⟩
theorem mo_append : MtR X "list.append" (rMo k mAppend) := MtR.imp mt_append fun x vs H Q ⟨Z, d, ds, d', r, os, od, rx, rv, nd, nz, hs, q⟩ => by
  unfold mAppend at hs
  split at hs
  · rename_i xs yd
    split at hs
    · rename_i hz
      cases hs
      obtain ⟨y, rfl, ry⟩ := rv.one'
      cases rx with
      | @lstO p _ us os0 e rr =>
        have n1 := List.nodup_append.mp nd
        have n2 := List.nodup_cons.mp n1.1
        have np : p ∉ od := fun z => n1.2.2 p (by simp) p z rfl
        have L1 : Later k Z H os0 Z (upd H p (.lst (us ++ [y]))) := later_own e trivial (nz p (by simp)) n2.1
        have L2 : Later k Z H od Z (upd H p (.lst (us ++ [y]))) := later_own e trivial (nz p (by simp)) np
        refine ⟨p, us, y, rfl, rfl, e, by rw [← rr.len]; exact line_lt hz, ?_⟩
        refine q _ .non (p :: (os0 ++ od)) [] (fr_own e) (.lstO upd_same ((L1.reps rr).app (Reps.one (L2.rep ry)))) .non ?_ fun a ha => .inl ?_
        · rw [List.append_nil]
          exact nd
        · simpa using ha
    · cases hs
  · cases hs
theorem mr_append : MtR X "list.append" (rMr k mAppendF) := MtR.imp mo_append fun x vs H Q ⟨Z, d, ds, d', r, os, rx, nd, nz, rv, hs, q⟩ => by
  unfold mAppendF at hs
  split at hs
  · rename_i hf
    exact ⟨Z, d, ds, d', r, os, [], rx, rws_fz rv hf, by rw [List.append_nil]; exact nd, nz, hs, q⟩
  · cases hs
theorem mr_extend : MtR X "list.extend" (rMr k mExtend) := MtR.imp mt_extend fun x vs H Q ⟨Z, d, ds, d', r, os, rx, nd, nz, rv, hs, q⟩ => by
  unfold mExtend at hs
  split at hs
  · rename_i xs o ys
    split at hs
    · rename_i hz
      simp only [Bool.and_eq_true, decide_eq_true_eq] at hz
      cases hs
      match vs, rv with
      | [v], rv =>
        obtain ⟨b, zs, ob, rfl, eb, rb⟩ := rv.1.lst
        cases rx with
        | @lstO p _ us os0 e rr =>
          have n2 := List.nodup_cons.mp nd
          have L1 : Later k Z H os0 Z (upd H p (.lst (us ++ zs))) := later_own e trivial (nz p (by simp)) n2.1
          have L2 : Later k Z H [] Z (upd H p (.lst (us ++ zs))) := later_own e trivial (nz p (by simp)) (fun z => nomatch z)
          refine ⟨p, b, us, zs, rfl, rfl, e, eb, by rw [← rr.len, ← rb.len, sizeLine_eq]; exact hz.2, ?_⟩
          refine q _ .non (p :: (os0 ++ [])) [] (fr_own e) (.lstO upd_same ((L1.reps rr).app (L2.reps (reps_fz hz.1 rb)))) .non ?_ fun a ha => .inl ?_
          · simpa using nd
          · simpa using ha
      | [], rv => exact (show False from rv).elim
      | _ :: _ :: _, rv => exact (show False from rv.2).elim
    · cases hs
  · cases hs
theorem Reps.erase {Z : Zs} {H : Hp} : ∀ {xs : List D} {vs : List V} {os : List Addr} {n : Nat} {x : D}, Reps k Z H xs vs os → xs[n]? = some x → ∃ w o1 o2, vs[n]? = some w ∧ Rep k Z H x w o1 ∧ Reps k Z H (xs.eraseIdx n) (vs.eraseIdx n) o2 ∧ os.Perm (o1 ++ o2)
  | _, _, _, _, _, .nil, h => by simp at h
  | _, _, _, 0, _, .cons r t, h => by
    simp only [List.getElem?_cons_zero, Option.some.injEq] at h
    subst h
    exact ⟨_, _, _, rfl, r, t, List.Perm.refl _⟩
  | _, _, _, n + 1, _, .cons (o1 := oa) r t, h => by
    obtain ⟨w, o1, o2, a, b, c, p⟩ := Reps.erase (n := n) t (by simpa using h)
    exact ⟨w, o1, oa ++ o2, by simpa using a, b, .cons r c, (p.append_left oa).trans perm_mid⟩
theorem mr_popAt : MtR X "list.pop" (rMr k mPopAt) := MtR.imp mt_popAt fun x vs H Q ⟨Z, d, ds, d', r, os, rx, nd, nz, rv, hs, q⟩ => by
  unfold mPopAt at hs
  split at hs
  · rename_i xs i
    by_cases hi : rngOk i = true
    · rw [if_pos hi] at hs
      obtain ⟨i1, i2⟩ := rngOk_of hi
      split at hs
      rotate_left
      · cases hs
      rename_i n hn
      split at hs
      · rename_i y hy
        cases hs
        match vs, rv with
        | [v], rv =>
          cases rv.1.int
          cases rx with
          | @lstO p _ us os0 e rr =>
            have n2 := List.nodup_cons.mp nd
            obtain ⟨w, o1, o2, a, b, c, pm⟩ := rr.erase hy
            obtain ⟨h1, h2, h3, h4⟩ := ixN_seq hn
            have np : p ∉ o1 ++ o2 := fun z => n2.1 (pm.mem_iff.mpr z)
            have L1 : Later k Z H o1 Z (upd H p (.lst (us.eraseIdx n))) := later_own e trivial (nz p (by simp)) fun z => np (List.mem_append_left _ z)
            have L2 : Later k Z H o2 Z (upd H p (.lst (us.eraseIdx n))) := later_own e trivial (nz p (by simp)) fun z => np (List.mem_append_right _ z)
            refine ⟨p, us, i, n, w, rfl, rfl, e, by omega, by omega, by rw [← rr.len]; exact h1, a, ?_⟩
            refine q _ w (p :: o2) o1 (fr_own e) (.lstO upd_same (L2.reps c)) (L1.rep b) ?_ fun z hz => .inl ?_
            · refine (List.Perm.cons p (List.perm_append_comm.trans pm.symm)).nodup_iff.mpr nd
            · rw [List.append_nil]
              exact (List.Perm.cons p (List.perm_append_comm.trans pm.symm)).mem_iff.mp hz
        | [], rv => exact (show False from rv).elim
        | _ :: _ :: _, rv => exact (show False from rv.2).elim
      · cases hs
    · rw [if_neg hi] at hs; cases hs
  · cases hs
theorem erase_last {α : Type} : ∀ (xs : List α), xs.eraseIdx (xs.length - 1) = xs.dropLast
  | [] => rfl
  | [a] => rfl
  | a :: b :: r => by
    have := erase_last (b :: r)
    simpa using this
theorem mr_pop : MtR X "list.pop" (rMr k mPop) := MtR.imp mt_pop fun x vs H Q ⟨Z, d, ds, d', r, os, rx, nd, nz, rv, hs, q⟩ => by
  unfold mPop at hs
  split at hs
  · rename_i xs
    split at hs
    · rename_i y hy
      cases hs
      match vs, rv with
      | [], rv =>
        cases rx with
        | @lstO p _ us os0 e rr =>
          have n2 := List.nodup_cons.mp nd
          obtain ⟨w, o1, o2, a, b, c, pm⟩ := rr.erase hy
          have np : p ∉ o1 ++ o2 := fun z => n2.1 (pm.mem_iff.mpr z)
          have L1 : Later k Z H o1 Z (upd H p (.lst us.dropLast)) := later_own e trivial (nz p (by simp)) fun z => np (List.mem_append_left _ z)
          have L2 : Later k Z H o2 Z (upd H p (.lst us.dropLast)) := later_own e trivial (nz p (by simp)) fun z => np (List.mem_append_right _ z)
          have e1 : xs.eraseIdx (xs.length - 1) = xs.dropLast := erase_last xs
          have e2 : us.eraseIdx (xs.length - 1) = us.dropLast := by rw [rr.len]; exact erase_last us
          rw [e1, e2] at c
          refine ⟨p, us, w, rfl, rfl, e, by rw [← rr.len]; exact a, ?_⟩
          refine q _ w (p :: o2) o1 (fr_own e) (.lstO upd_same (L2.reps c)) (L1.rep b) ?_ fun z hz => .inl ?_
          · refine (List.Perm.cons p (List.perm_append_comm.trans pm.symm)).nodup_iff.mpr nd
          · rw [List.append_nil]
            exact (List.Perm.cons p (List.perm_append_comm.trans pm.symm)).mem_iff.mp hz
      | _ :: _, rv => exact (show False from rv).elim
    · cases hs
  · cases hs
end
end Bp

/-! dict.update; stores -/
namespace Bp
open PySem PySem.Spec PyProof.Rows L2

theorem updSelf {prog : Program} {w : World} {K : Type} [DecidableEq K] (knd : KeyKind prog w K) (d : Addr) :
    MeetsIn prog w (Builtin.«dict.update» ⟨[.ref d, .ref d], []⟩) (fun _ R s => ∃ kvs, s.heap.DictOf knd d kvs ∧ R (.ok (.ret .none)) s) :=
  .of_wp fun A R s ⟨kvs, hd, h⟩ => by
    unfold Builtin.«dict.update»
    refine wpAny_bind ?_
    unfold Builtin.Dict.selfAndRest
    refine wpAny_bind (wpAny_notOrdered_dict hd.typeIs ?_)
    show wpAny _ _ (pure (d, [Value.ref d])) _ _ s
    refine wpAny_pure ?_
    show wpAny _ _ (Builtin.Dict.updateFrom "dict.update" d (.ref d) [] .none) _ _ s
    unfold Builtin.Dict.updateFrom
    refine wpAny_bind (wpAny_typeOf hd.typeIs ?_)
    rw [if_neg (by decide)]
    refine wpAny_bind ?_
    unfold Builtin.Dict.merge
    refine wpAny_bind ?_
    unfold Builtin.Dict.readDirectly
    refine wpAny_bind (wpAny_isInstance hd.typeIs isSubtype_dict_dict ?_)
    simp only [Bool.not_true, Bool.false_eq_true, if_false]
    refine wpAny_bind (wpAny_specialOf hd.typeIs F.slot_dict_iter.lookup (wpAny_pure ?_))
    simp only [beq_self_eq_true, if_true]
    refine wpAny_bind (wpAny_pure ?_)
    unfold Builtin.Dict.mergeDict
    simp only [beq_self_eq_true, if_true]
    refine wpAny_bind (wpAny_rule (wpAny_pure ?_))
    show wpAny _ _ (Builtin.Dict.addKeywords d [] >>= _) _ _ _
    exact wpAny_bind (wpAny_pure (wpAny_pure ⟨.none, rfl, h⟩))
section
variable {X : Cx} {k : Kx} {T : Tb} {W : WX} {A : List Nat}
theorem mt_updK : MtR X "dict.update" (fun x vs H Q => ∃ a b kvs more, x = .ref a ∧ vs = [.ref b] ∧ H a = some (.dK kvs) ∧ Rd H b (.dK more) ∧ (a = b → (kvs.map (·.1)).Nodup → Q .non H) ∧ (a ≠ b → kvs.length + more.length ≤ sizeLine ∧ Q .non (upd H a (.dK (mergeK kvs more))))) := by
  intro pins s σ H x xs v us Q I rx rxs h
  obtain ⟨a, b, kvs, more, rfl, rfl, e, rd, q1, q2⟩ := h
  cases rx
  obtain ⟨u, rfl, ru⟩ := rxs.one
  cases ru
  obtain ⟨z, hd, vs, rel, dd⟩ := dk_of I.hok e
  by_cases hab : a = b
  · subst hab
    refine call_meetsIn PySem.F.slot_dict_update dd.typeIs PySem.F.entry_dict_update (PySem.F.args_dict_update_2 _ _) (updSelf (mixKind X.prog X.w) a) ⟨vs, dd, ?_⟩
    obtain ⟨_, _, _, _, _, _, _, _, nd⟩ := id dd
    exact ⟨.non, H, I, rfl, q1 rfl (by rw [rel.keys]; exact nd)⟩
  · obtain ⟨z2, hd2, vs2, rel2, dd2⟩ := dk_rd I.hok rd
    obtain ⟨hz, q⟩ := q2 hab
    refine call_meetsIn PySem.F.slot_dict_update dd.typeIs PySem.F.entry_dict_update (PySem.F.args_dict_update_2 _ _) (meets_dict_update (mixKind X.prog X.w) a b hab hd2) ⟨vs, vs2, dd, dd2, by rw [← rel.length, ← rel2.length]; exact hz, fun h' hm _ hs => ?_⟩
    have he : ∃ q, h'.get? a = some q := let ⟨q, _, _, hq, _⟩ := hm; ⟨q, hq⟩
    exact ⟨.non, _, d_write (t' := s.toks) I (by rw [e]; exact trivial) hs he (dk_new (Nat.le_trans (length_mergeK more kvs) hz) hd (KV.merge rel2 rel) hm), rfl, q⟩
/-! ### keys put -/
theorem mem_any {κ : Type} [DecidableEq κ] {kvs : List (κ × V)} {ks : List κ} {kk : κ} (e : kvs.map (·.1) = ks) : (kvs.any fun kv => decide (kv.1 = kk)) = decide (kk ∈ ks) := by
  subst e
  induction kvs with
  | nil => simp
  | cons p r ih =>
    rw [List.any_cons, ih, List.map_cons]
    by_cases q : p.1 = kk
    · simp [q]
    · have : kk ≠ p.1 := fun z => q z.symm
      simp [q, this]
theorem put_repl {κ : Type} [DecidableEq κ] {Z : Zs} {H : Hp} {kk : κ} {y : D} {v : V} (ry : Rep k Z H y v []) : ∀ {kvs : List (κ × V)} {xs : List D} {os : List Addr}, Reps k Z H xs (kvs.map (·.2)) os →
    ∃ o2, Reps k Z H (dsetv (kvs.map (·.1)) xs kk y) ((kvs.map fun kv => if kv.1 = kk then (kv.1, v) else kv).map (·.2)) o2 ∧ o2.Sublist os
  | [], [], _, .nil => ⟨[], .nil, List.Sublist.refl _⟩
  | p :: r, [], _, h => by cases h
  | p :: r, x :: xs, os, h => by
    obtain ⟨oa, ob, rfl, rx, rt⟩ := (show Reps k Z H (x :: xs) (p.2 :: r.map (·.2)) os from h).head
    obtain ⟨o2, a, b⟩ := put_repl ry rt
    simp only [List.map_cons, dsetv]
    by_cases q : p.1 = kk
    · rw [if_pos q, if_pos q]
      exact ⟨[] ++ o2, .cons ry a, b.trans (List.sublist_append_right _ _)⟩
    · rw [if_neg q, if_neg q]
      exact ⟨oa ++ o2, .cons rx a, List.Sublist.append (List.Sublist.refl _) b⟩
theorem put_keys {κ : Type} [DecidableEq κ] (kvs : List (κ × V)) (kk : κ) (v : V) : (kvs.map fun kv => if kv.1 = kk then (kv.1, v) else kv).map (·.1) = kvs.map (·.1) := by
  rw [List.map_map]
  apply List.map_congr_left
  intro p _
  show (if p.1 = kk then (p.1, v) else p).1 = p.1
  split <;> rfl
theorem put_rep {κ : Type} [DecidableEq κ] {Z : Zs} {H : Hp} {kvs : List (κ × V)} {ks : List κ} {xs : List D} {kk : κ} {y : D} {v : V} {os oy : List Addr} (e : kvs.map (·.1) = ks) (r : Reps k Z H xs (kvs.map (·.2)) os) (ry : Rep k Z H y v oy) (hy : kk ∈ ks → oy = []) :
    (putK kvs kk v).map (·.1) = (putD (ks, xs) kk y).1 ∧ ∃ o2, Reps k Z H (putD (ks, xs) kk y).2 ((putK kvs kk v).map (·.2)) (o2 ++ oy) ∧ o2.Sublist os := by
  unfold putK putD
  rw [mem_any e]
  by_cases q : kk ∈ ks
  · have := hy q
    subst this
    subst e
    simp only [q, decide_true, if_true]
    obtain ⟨o2, a, b⟩ := put_repl (kk := kk) ry r
    exact ⟨put_keys _ _ _, o2, by rw [List.append_nil]; exact a, b⟩
  · subst e
    simp only [q, decide_false, if_false, Bool.false_eq_true]
    refine ⟨by simp, os, ?_, List.Sublist.refl _⟩
    rw [List.map_append]
    exact r.app (Reps.one ry)
theorem all_isBl_fz : ∀ {xs : List D}, xs.all isBl = true → fzs xs = true
  | [], _ => rfl
  | x :: xs, h => by
    simp only [List.all_cons, Bool.and_eq_true] at h
    simp only [fzs, Bool.and_eq_true]
    refine ⟨?_, all_isBl_fz h.2⟩
    cases x <;> first | rfl | simp [isBl] at h
theorem isBl_inj {Z : Zs} {H : Hp} : ∀ {xs ys : List D} {vs : List V} {o1 o2 : List Addr}, xs.all isBl = true → ys.all isBl = true → Reps k Z H xs vs o1 → Reps k Z H ys vs o2 → xs = ys
  | [], [], _, _, _, _, _, _, _ => rfl
  | [], _ :: _, _, _, _, _, _, .nil, h => by cases h
  | _ :: _, [], _, _, _, _, _, h, .nil => by cases h
  | x :: xs, y :: ys, _, _, _, h1, h2, .cons r t, h => by
    obtain ⟨oa, ob, rfl, r2, t2⟩ := h.head
    simp only [List.all_cons, Bool.and_eq_true] at h1 h2
    rw [isBl_inj h1.2 h2.2 t t2]
    congr 1
    cases x with
    | bl b =>
      cases r
      cases y with
      | bl c => cases r2; rfl
      | int j => cases r2
      | _ => simp [isBl] at h2
    | int i =>
      cases r
      cases y with
      | bl c => cases r2
      | int j => cases r2; rfl
      | _ => simp [isBl] at h2
    | _ => simp [isBl] at h1
theorem merge_rep {Z : Zs} {H : Hp} : ∀ {more : List (Key × V)} {ys : List D} {kvs : List (Key × V)} {kx : List Key × List D}, kvs.map (·.1) = kx.1 → Reps k Z H kx.2 (kvs.map (·.2)) [] → Reps k Z H ys (more.map (·.2)) [] →
    (mergeK kvs more).map (·.1) = (mrgD kx (more.map (·.1)) ys).1 ∧ Reps k Z H (mrgD kx (more.map (·.1)) ys).2 ((mergeK kvs more).map (·.2)) []
  | [], ys, kvs, kx, e, r, _ => by
    show kvs.map (·.1) = (mrgD kx [] ys).1 ∧ Reps k Z H (mrgD kx [] ys).2 (kvs.map (·.2)) []
    unfold mrgD
    exact ⟨e, r⟩
  | p :: more, [], kvs, kx, e, r, h => by cases h
  | p :: more, y :: ys, kvs, kx, e, r, h => by
    obtain ⟨oa, ob, eo, ry, rt⟩ := (show Reps k Z H (y :: ys) (p.2 :: more.map (·.2)) [] from h).head
    have e1 : oa = [] := by cases oa with
      | nil => rfl
      | cons _ _ => cases eo
    subst e1
    have e2 : ob = [] := eo.symm
    subst e2
    obtain ⟨h1, o2, h2, h3⟩ := put_rep (kk := p.1) e r ry (fun _ => rfl)
    have e3 : o2 = [] := List.sublist_nil.mp h3
    subst e3
    exact merge_rep (kvs := putK kvs p.1 p.2) (kx := putD (kx.1, kx.2) p.1 y) h1 h2 rt
theorem dsetv_same {κ : Type} [DecidableEq κ] : ∀ {ks : List κ} {xs : List D} {i : Nat} {kk : κ} {y : D}, ks.Nodup → ks[i]? = some kk → xs[i]? = some y → dsetv ks xs kk y = xs
  | [], _, _, _, _, _, h, _ => by simp at h
  | _ :: _, [], _, _, _, _, _, h => by simp at h
  | k' :: ks, x :: xs, 0, kk, y, nd, h, g => by
    simp only [List.getElem?_cons_zero, Option.some.injEq] at h g
    subst h g
    unfold dsetv
    rw [if_pos rfl]
    congr 1
    have n := (List.nodup_cons.mp nd).1
    clear nd
    induction ks generalizing xs with
    | nil => unfold dsetv; rfl
    | cons b r ih =>
      cases xs with
      | nil => unfold dsetv; rfl
      | cons c t =>
        unfold dsetv
        rw [if_neg (fun z => n (by rw [z]; exact List.mem_cons_self)), ih t fun z => n (List.mem_cons_of_mem _ z)]
  | k' :: ks, x :: xs, i + 1, kk, y, nd, h, g => by
    have nn := List.nodup_cons.mp nd
    unfold dsetv
    rw [if_neg (fun z => nn.1 (by subst z; exact List.mem_of_getElem? (by simpa using h))), dsetv_same nn.2 (by simpa using h) (by simpa using g)]
theorem mrgD_same {κ : Type} [DecidableEq κ] {ks : List κ} {xs : List D} : ∀ {ks2 : List κ} {ys : List D}, (∀ (i : Nat) (kk : κ) (y : D), ks2[i]? = some kk → ys[i]? = some y → kk ∈ ks ∧ dsetv ks xs kk y = xs) → mrgD (ks, xs) ks2 ys = (ks, xs)
  | [], ys, _ => by unfold mrgD; rfl
  | kk :: ks2, [], _ => by unfold mrgD; rfl
  | kk :: ks2, y :: ys, h => by
    unfold mrgD
    obtain ⟨a, b⟩ := h 0 kk y rfl rfl
    have : putD (ks, xs) kk y = (ks, xs) := by unfold putD; simp only [a, if_true, b]
    rw [this]
    exact mrgD_same fun i kk' y' h1 h2 => h (i + 1) kk' y' (by simpa using h1) (by simpa using h2)
theorem rd_inj {H : Hp} {b : Addr} {u u' : HO} (h : H b = some u) (m : ∀ o v, u ≠ .frz o v) (r : Rd H b u') : u' = u := by
  rcases r with r | ⟨o, r⟩
  · rw [h] at r; cases r; rfl
  · rw [h] at r; cases r; exact absurd rfl (m o u')
theorem mr_update : MtR X "dict.update" (rMr k mUpd) := MtR.imp mt_updK fun x vs H Q ⟨Z, d, ds, d', r, os, rx, nd, nz, rv, hs, q⟩ => by
  unfold mUpd at hs
  split at hs
  · rename_i ks xs o ks' ys
    split at hs
    · rename_i hz
      simp only [Bool.and_eq_true, decide_eq_true_eq] at hz
      cases hs
      match vs, rv with
      | [v], rv =>
        obtain ⟨b, more, ob, rfl, rb, eb, rrb⟩ := rv.1.dk
        cases rx with
        | @dkO p _ _ kvs os0 e ek rr =>
          have n2 := List.nodup_cons.mp nd
          have f1 := all_isBl_fz hz.1.1
          have f2 := all_isBl_fz hz.1.2
          have e0 := rr.fz0 f1
          subst e0
          have rb0 := reps_fz f2 rrb
          refine ⟨p, b, kvs, more, rfl, rfl, e, rb, fun hab hn => ?_, fun hab => ⟨?_, ?_⟩⟩
          · subst hab
            have em : more = kvs := by
              have := rd_inj e (fun _ _ z => nomatch z) rb
              cases this
              rfl
            subst em
            have exy := isBl_inj hz.1.1 hz.1.2 rr rb0
            subst exy
            have ekk : ks' = ks := eb.symm.trans ek
            subst ekk
            have same : mrgD (ks', xs) ks' xs = (ks', xs) := mrgD_same fun i kk y h1 h2 => ⟨List.mem_of_getElem? h1, dsetv_same (by rw [← ek]; exact hn) h1 h2⟩
            rw [same] at q
            exact q H .non [p] [] ⟨fun _ _ h _ _ => h, fun _ z => z, fun _ h => h, fun t => t⟩ (.dkO e ek rr) .non (by simp) fun a ha => .inl (by simpa using ha)
          · rw [← List.length_map (f := (·.1)) (as := kvs), ← List.length_map (f := (·.1)) (as := more), ek, eb, sizeLine_eq]
            exact hz.2
          · obtain ⟨g1, g2⟩ := merge_rep (kx := (ks, xs)) ek rr rb0
            rw [eb] at g1 g2
            have L : Later k Z H [] Z (upd H p (.dK (mergeK kvs more))) := later_own e trivial (nz p (by simp)) fun z => nomatch z
            exact q _ .non [p] [] (fr_own e) (.dkO upd_same g1 (L.reps g2)) .non (by simp) fun a ha => .inl (by simpa using ha)
      | [], rv => exact (show False from rv).elim
      | _ :: _ :: _, rv => exact (show False from rv.2).elim
    · cases hs
  · cases hs
end
end Bp

/-! methods as expressions; stores as statements -/
namespace Bp
open PySem PySem.Spec PyProof.Rows L2
section
variable {X : Cx} {k : Kx} {T : Tb} {W : WX} {A : List Nat}
theorem Mth.mtO (m : Mth) : MtR X m.id (rMo k m.mO) := by
  cases m with
  | append => exact mo_append
  | extend => exact MtR.imp mr_extend fun _ _ _ _ h => rMo_rMr h
  | pop => exact MtR.imp mr_pop fun _ _ _ _ h => rMo_rMr h
  | popAt => exact MtR.imp mr_popAt fun _ _ _ _ h => rMo_rMr h
  | update => exact MtR.imp mr_update fun _ _ _ _ h => rMo_rMr h
theorem Mth.mtR (m : Mth) : MtR X m.id (rMr k m.mR) := by
  cases m with
  | append => exact mr_append
  | extend => exact mr_extend
  | pop => exact mr_pop
  | popAt => exact mr_popAt
  | update => exact mr_update
theorem Mth.pa (m : Mth) : PlainAttrs m.ty := by
  cases m with
  | update => exact PySem.F.plainAttrs_dict
  | _ => exact PySem.F.plainAttrs_list
theorem Mth.slot (m : Mth) : Slot m.ty m.nm m.id := by
  cases m with
  | append => exact PySem.F.slot_list_append
  | extend => exact PySem.F.slot_list_extend
  | pop => exact PySem.F.slot_list_pop
  | popAt => exact PySem.F.slot_list_pop
  | update => exact PySem.F.slot_dict_update
theorem Mth.hty (m : Mth) : typeOf (.builtin m.id) = pure (.type "method_descriptor") := by
  cases m with
  | append => exact PySem.F.type_list_append
  | extend => exact PySem.F.type_list_extend
  | pop => exact PySem.F.type_list_pop
  | popAt => exact PySem.F.type_list_pop
  | update => exact PySem.F.type_dict_update
def Mth.ok (m : Mth) : D → Bool
  | .lst true _ => (match m with | .update => false | _ => true)
  | .dk true _ _ => (match m with | .update => true | _ => false)
  | _ => false
theorem Mth.okV {m : Mth} {K : PySem.W.Frag} {Z : Zs} {H : Hp} {d : D} {v : V} {os : List Addr} (r : Rep k Z H d v os) (h : m.ok d = true) : L2.tyV K m.ty v H := by
  cases r with
  | lstO e _ => cases m <;> first | exact .inl ⟨rfl, _, SqL.of e⟩ | cases h
  | dkO e _ _ => cases m <;> first | exact .inr (.inr (.inl ⟨rfl, .inl ⟨_, e⟩⟩)) | cases h
  | _ => cases h
/-- x.m(e, ..), x a name -/
def fMth (m : Mth) (i : Nat) (fs : List (M D)) : M D := fun e => match e[i]? with
  | some (some d0) => if m.ok d0 = true then bnd (evL fs) (fun ds e1 => match e1[i]? with
    | some (some d) => (match m.mO d ds with
      | some (d', r) => .ok r (e1.set i (some d'))
      | none => .bad)
    | _ => .bad) e else .bad
  | _ => .bad
theorem tMth_of {m : Mth} {i : Nat} {fs : List (M D)} {K : PySem.W.Frag} {σ : L2.St} {H : Hp} {Q : VK} (q : tE k W (fMth m i fs) σ H Q) : ∃ v, VofP k H σ (.v i) v ∧ L2.tyV K m.ty v H ∧ tA k W (evL fs) σ H fun vs H2 => rMo k m.mO v vs H2 Q := by
  obtain ⟨Z, e, oe, ss, q⟩ := q
  unfold fMth at q
  split at q
  · rename_i d0 q0
    obtain ⟨v, os, a, b, c⟩ := ss.er.get q0
    split at q
    · rename_i hm
      refine ⟨v, a, Mth.okV b hm, Z, e, oe, ss, (rE.bnd q).imp fun ds e1 q1 => ?_⟩
      intro Z1 H1 vs oe1 od1 s1 st1
      split at q1
      · rename_i d q2
        split at q1
        · rename_i d' r q3
          obtain ⟨v', o1, o2, a', b', c', p⟩ := s1.er.take q2
          have ev : v' = v := by rw [a] at a'; exact (Option.some.inj (Option.some.inj a')).symm
          subst ev
          have nn := List.nodup_append.mp s1.nd
          have n1 := List.nodup_append.mp (p.nodup_iff.mp nn.1)
          have sub1 : ∀ x ∈ o1, x ∈ oe1 := fun x hx => p.mem_iff.mpr (List.mem_append_left _ hx)
          have sub2 : ∀ x ∈ o2, x ∈ oe1 := fun x hx => p.mem_iff.mpr (List.mem_append_right _ hx)
          refine ⟨Z1, d, ds, d', r, o1, od1, b', s1.rp, List.nodup_append.mpr ⟨n1.1, nn.2.1, fun x hx y hy e => nn.2.2 x (sub1 x hx) y hy e⟩, fun x hx => s1.dz x (List.mem_append_left _ (sub1 x hx)), q3, ?_⟩
          intro H' u os' ou f rd rr nd ow
          have er2 : EnvR k Z1 H' σ (e1.set i none) o2 := c'.step f (fun x hx => s1.dz x (List.mem_append_left _ (sub1 x hx))) b'.mut fun x hx hy => n1.2.2 x hy x hx rfl
          obtain ⟨o, r2, p2⟩ := EnvR.back rd er2 (set_none_get q2) a
          rw [List.set_set] at r2
          have n3 := List.nodup_append.mp nd
          have far : ∀ x ∈ os' ++ ou, x ∉ o2 := fun x hx hy => by
            rcases ow x hx with z | z
            · rcases List.mem_append.mp z with z | z
              · exact n1.2.2 x z x hy rfl
              · exact nn.2.2 x (sub2 x hy) x z rfl
            · exact s1.er.trk x (sub2 x hy) z
          have pm : (o ++ ou).Perm (o2 ++ (os' ++ ou)) := by
            refine (List.Perm.append_right ou p2).trans ?_
            rw [List.append_assoc]
            exact perm_mid
          have nz : ∀ x ∈ os' ++ ou, ¬ Z1 x := fun x hx z => by
            rcases ow x hx with w | w
            · rcases List.mem_append.mp w with w | w
              · exact s1.dz x (List.mem_append_left _ (sub1 x w)) z
              · exact s1.dz x (List.mem_append_right _ w) z
            · exact s1.zt x z w
          have s2 : SS k Z1 H' σ (e1.set i (some d')) [r] [u] o ou := ⟨r2, .one rr, pm.nodup_iff.mpr (List.nodup_append.mpr ⟨n1.2.1, nd, fun x hx y hy e => far y hy (by rw [← e]; exact hx)⟩), fun x hx => by
            rcases List.mem_append.mp (pm.mem_iff.mp hx) with z | z
            · exact s1.dz x (List.mem_append_left _ (sub2 x z))
            · exact nz x z, fun x z => f.tr x (s1.zt x z)⟩
          have st2 : Stp k Z1 H1 (oe1 ++ od1) Z1 H' (o ++ ou) := ⟨⟨fun x w h n t => f.fr x w h (fun z => n (List.mem_append_left _ (sub1 x z))) t, fun _ z => z, f.tr, f.tb⟩, fun _ z => .inl z, fun x hx => by
            rcases List.mem_append.mp (pm.mem_iff.mp hx) with z | z
            · exact .inl (List.mem_append_left _ (sub2 x z))
            · rcases ow x z with w | w
              · rcases List.mem_append.mp w with w | w
                · exact .inl (List.mem_append_left _ (sub1 x w))
                · exact .inl (List.mem_append_right _ w)
              · exact .inr w⟩
          obtain ⟨v2, e', hq⟩ := (show okEnd k Z H oe σ [r] (e1.set i (some d')) _ from q1) Z1 H' [u] o ou s2 (st1.trans st2 fun x hx => hx)
          cases e'
          exact hq
        · exact (show False from q1).elim
      · exact (show False from q1).elim
    · exact (show False from q).elim
  · exact (show False from q).elim
theorem star_few {pos : Pos} {env : PySem.Env} : ∀ {es : List Expr}, es.all (fun e => !stB e) = true → (backTo pos (starEach es env)).all (fun x => !x.1) = true
  | [], _ => rfl
  | e :: es, h => by
    simp only [List.all_cons, Bool.and_eq_true, Bool.not_eq_true'] at h
    rw [starEach_cons h.1]
    show (true && (backTo pos (starEach es env)).all (fun x => !x.1)) = true
    rw [star_few h.2]; rfl
theorem ee_mth {m : Mth} {i : Nat} {x : Str} {px apos cpos : Pos} {es : List Expr} {fs : List (M D)} (hN : X.N[i]? = some x) (hv : visB X.env.scope x = true) (ha : Paired (fun e f => PE X e (tE k W f) ∧ stB e = false) es fs) (hs : es.all (fun e => !stB e) = true) (hl : decide (es.length < 30) = true) (hline : (apos.endLine == cpos.line) = true) :
    PE X (.Call (.Attribute (.Name x px) m.nm apos) es [] cpos) (tE k W (fMth m i fs)) := by
  obtain ⟨h1, h2, h3⟩ := vis_of hv
  have po : PE X (.Name x px) (tPV k (.v i)) := pe_mono (pe_var hN h1 h2 h3) fun σ H Q ⟨v, a, q⟩ => ⟨v, a, q⟩
  cases ha with
  | nil =>
    exact pe_mono (pe_bm0 m.pa m.slot m.hty (m.mtO (k := k)) po rfl hline) fun σ H Q q => by
      obtain ⟨v, a, b, c⟩ := tMth_of (K := X.K) q
      exact ⟨v, a, b, tA_nil c⟩
  | cons h t =>
    have hs' := hs
    simp only [List.all_cons, Bool.and_eq_true, Bool.not_eq_true'] at hs
    refine pe_mono (pe_bm m.pa m.slot m.hty (m.mtO (k := k)) po (ee_args (.cons h t)) rfl ?_ hline (starEach_cons hs.1) (star_any hs.2)) fun σ H Q q => ?_
    · rw [star_few hs', show (backToKw cpos (keywordEach [] X.env)) = [] from rfl]
      simpa using hl
    · obtain ⟨v, a, b, c⟩ := tMth_of (K := X.K) q
      exact ⟨v, a, b, c⟩
/-- p.m(q, ..), all of them places -/
def getPs (T : Tb) : List P0 → Env → Option (List D)
  | [], _ => some []
  | q :: qs, e => match getP T q e, getPs T qs e with
    | some d, some ds => some (d :: ds)
    | _, _ => none
def fMthC (T : Tb) (m : Mth) (p : P0) (qs : List P0) : M D := fun e => match getP T p e, getPs T qs e with
  | some d, some ds => if m.ok d = true then (match m.mR d ds with
    | some (d', r) => (match updP T p d' e with
      | some e' => .ok r e'
      | none => .bad)
    | none => .bad) else .bad
  | _, _ => .bad
def tPVs (k : Kx) : List P0 → TA
  | [] => tNil
  | q :: qs => tCons (tPV k q) (tPVs k qs)
theorem pa_pvs (hk : k.K = X.K) (hu : X.A.units + 80 < cLine) : ∀ {es : List Expr} {qs : List P0}, Paired (fun e q => chkP X.N X.env.scope q e = true ∧ stB e = false) es qs → PA X es (tPVs k qs)
  | _, _, .nil => pa_nil
  | _, _, .cons h t => pa_cons (pe_PV hk hu _ _ h.1) (pa_pvs hk hu t) (starEach_cons h.2)
theorem tPVs_of (tb : TbOk k T) {Z : Zs} {H : Hp} {σ : L2.St} {e : Env} {oe : List Addr} (er : EnvR k Z H σ e oe) : ∀ {qs : List P0} {ds : List D} {Q : List V → Hp → Prop}, getPs T qs e = some ds → (∀ vs, RWs k Z H ds vs → Q vs H) → tPVs k qs σ H Q
  | [], ds, Q, h, q => by cases h; exact q [] trivial
  | p :: qs, ds, Q, h, q => by
    unfold getPs at h
    split at h
    · rename_i d ds1 q1 q2
      cases h
      obtain ⟨v, os, a, b, c⟩ := vof tb er p q1
      exact ⟨v, a, tPVs_of tb er q2 fun vs r => q (v :: vs) ⟨⟨os, b⟩, r⟩⟩
    · cases h
/-- behind a change at a place -/
theorem SS.chg {Z : Zs} {H H' : Hp} {σ : L2.St} {e e' : Env} {oe o1 o2 os' ou oy : List Addr} {r : D} {u : V} (ss : SS k Z H σ e [] [] oe []) (p : oe.Perm (o1 ++ o2)) (f : Fr k o1 Z H Z H') (nd : (os' ++ ou).Nodup) (ow : ∀ a ∈ os' ++ ou, a ∈ o1 ++ oy ∨ H a = none)
    (hy : ∀ a ∈ oy, a ∉ oe ∧ ¬ Z a) {oe' : List Addr} (er : EnvR k Z H' σ e' oe') (pe : oe'.Perm (os' ++ o2)) (rr : Rep k Z H' r u ou) : SS k Z H' σ e' [r] [u] oe' ou ∧ Stp k Z H (oe ++ oy) Z H' (oe' ++ ou) := by
  have nn : oe.Nodup := by simpa using ss.nd
  have n1 := List.nodup_append.mp (p.nodup_iff.mp nn)
  have sub1 : ∀ x ∈ o1, x ∈ oe := fun x hx => p.mem_iff.mpr (List.mem_append_left _ hx)
  have sub2 : ∀ x ∈ o2, x ∈ oe := fun x hx => p.mem_iff.mpr (List.mem_append_right _ hx)
  have dz : ∀ x ∈ oe, ¬ Z x := fun x hx => ss.dz x (by simpa using hx)
  have far : ∀ x ∈ os' ++ ou, x ∉ o2 := fun x hx hy' => by
    rcases ow x hx with z | z
    · rcases List.mem_append.mp z with z | z
      · exact n1.2.2 x z x hy' rfl
      · exact (hy x z).1 (sub2 x hy')
    · exact ss.er.trk x (sub2 x hy') z
  have pm : (oe' ++ ou).Perm (o2 ++ (os' ++ ou)) := by
    refine (List.Perm.append_right ou pe).trans ?_
    rw [List.append_assoc]
    exact perm_mid
  have nz : ∀ x ∈ os' ++ ou, ¬ Z x := fun x hx z => by
    rcases ow x hx with w | w
    · rcases List.mem_append.mp w with w | w
      · exact dz x (sub1 x w) z
      · exact (hy x w).2 z
    · exact ss.zt x z w
  refine ⟨⟨er, .one rr, pm.nodup_iff.mpr (List.nodup_append.mpr ⟨n1.2.1, nd, fun x hx y hy e => far y hy (by rw [← e]; exact hx)⟩), fun x hx => ?_, fun x z => f.tr x (ss.zt x z)⟩, ⟨⟨fun x w h n t => f.fr x w h (fun z => n (List.mem_append_left _ (sub1 x z))) t, fun _ z => z, f.tr, f.tb⟩, fun _ z => .inl z, fun x hx => ?_⟩⟩
  · rcases List.mem_append.mp (pm.mem_iff.mp hx) with z | z
    · exact dz x (sub2 x z)
    · exact nz x z
  · rcases List.mem_append.mp (pm.mem_iff.mp hx) with z | z
    · exact .inl (List.mem_append_left _ (sub2 x z))
    · rcases ow x z with w | w
      · rcases List.mem_append.mp w with w | w
        · exact .inl (List.mem_append_left _ (sub1 x w))
        · exact .inl (List.mem_append_right _ w)
      · exact .inr w
theorem tMthC_of (tb : TbOk k T) {m : Mth} {p : P0} {qs : List P0} {K : PySem.W.Frag} {σ : L2.St} {H : Hp} {Q : VK} (q : tE k W (fMthC T m p qs) σ H Q) : ∃ v, VofP k H σ p v ∧ L2.tyV K m.ty v H ∧ tPVs k qs σ H fun vs H2 => rMr k m.mR v vs H2 Q := by
  obtain ⟨Z, e, oe, ss, q⟩ := q
  unfold fMthC at q
  split at q
  · rename_i d ds q1 q2
    split at q
    · rename_i hm
      split at q
      · rename_i d' r q3
        split at q
        · rename_i e' q4
          obtain ⟨v, o1, o2, a, b, pm, f⟩ := path_focus tb ss.er p q1 q4
          have nn : oe.Nodup := by simpa using ss.nd
          have n1 := List.nodup_append.mp (pm.nodup_iff.mp nn)
          refine ⟨v, a, Mth.okV b hm, tPVs_of tb ss.er q2 fun vs rw => ⟨Z, d, ds, d', r, o1, b, n1.1, fun x hx => ss.dz x (by simpa using pm.mem_iff.mpr (List.mem_append_left _ hx)), rw, q3, ?_⟩⟩
          intro H' u os' ou fr rd rr nd ow
          have L : Later k Z H o2 Z H' := ⟨o1, fr, fun x hx => ss.dz x (by simpa using pm.mem_iff.mpr (List.mem_append_left _ hx)), b.mut, fun x hx hy => n1.2.2 x hy x hx rfl⟩
          obtain ⟨oe', er, pe⟩ := f Z H' os' L rd
          obtain ⟨s2, st2⟩ := ss.chg pm fr nd ow (oy := []) (fun a h => nomatch h) er pe rr
          obtain ⟨v2, ev, hq⟩ := (show okEnd k Z H oe σ [r] e' _ from q) Z H' [u] oe' ou s2 (by rw [List.append_nil] at st2; exact st2)
          cases ev
          exact hq
        · exact (show False from q).elim
      · exact (show False from q).elim
    · exact (show False from q).elim
  · exact (show False from q).elim
def noCall : Expr → Bool
  | .Call _ _ _ _ => false
  | _ => true
theorem attrBaseN {a : Expr} {nm : Str} {env : PySem.Env} (h : noCall a = true) : attributeBase a nm env (eval a env) = eval a env := by
  cases a <;> first | rfl | cases h
theorem ee_mthC (hk : k.K = X.K) (tb : TbOk k T) (hu : X.A.units + 80 < cLine) {m : Mth} {p : P0} {qs : List P0} {o : Expr} {apos cpos : Pos} {es : List Expr} (hp : chkP X.N X.env.scope p o = true) (hb : noCall o = true) (ha : Paired (fun e q => chkP X.N X.env.scope q e = true ∧ stB e = false) es qs) (hs : es.all (fun e => !stB e) = true) (hl : decide (es.length < 30) = true) (hline : (apos.endLine == cpos.line) = true) :
    PE X (.Call (.Attribute o m.nm apos) es [] cpos) (tE k W (fMthC T m p qs)) := by
  have po := pe_PV hk hu p o hp
  cases ha with
  | nil =>
    exact pe_mono (pe_bm0 m.pa m.slot m.hty (m.mtR (k := k)) po (attrBaseN hb) hline) fun σ H Q q => by
      obtain ⟨v, a, b, c⟩ := tMthC_of tb (K := X.K) q
      exact ⟨v, a, b, c⟩
  | cons h t =>
    have hs' := hs
    simp only [List.all_cons, Bool.and_eq_true, Bool.not_eq_true'] at hs
    refine pe_mono (pe_bm m.pa m.slot m.hty (m.mtR (k := k)) po (pa_pvs hk hu (.cons h t)) (attrBaseN hb) ?_ hline (starEach_cons hs.1) (star_any hs.2)) fun σ H Q q => ?_
    · rw [star_few hs', show (backToKw cpos (keywordEach [] X.env)) = [] from rfl]
      simpa using hl
    · obtain ⟨v, a, b, c⟩ := tMthC_of tb (K := X.K) q
      exact ⟨v, a, b, c⟩
/-! ### stores -/
def memB {κ : Type} [DecidableEq κ] (kk : κ) (ks : List κ) : Bool := decide (kk ∈ ks)
theorem memB_f {κ : Type} [DecidableEq κ] {kk : κ} {ks : List κ} (h : memB kk ks = false) : kk ∉ ks := of_decide_eq_false h
def setS (d i y : D) : Option D := match d with
  | .lst true xs => (setN xs i y).map (.lst true)
  | .dk true ks xs => match keyK i with
    | some kk => if ((!memB kk ks || y.fz) && decide (ks.length < 16777216)) = true then some (.dk true (putD (ks, xs) kk y).1 (putD (ks, xs) kk y).2) else none
    | none => none
  | .dt true ks xs => match keyT i with
    | some kk => if ((!memB kk ks || y.fz) && decide (ks.length < 16777216)) = true then some (.dt true (putD (ks, xs) kk y).1 (putD (ks, xs) kk y).2) else none
    | none => none
  | _ => none
def rSet (k : Kx) : TSet := fun o i v H Q => ∃ Z d id yd d' os oy, Rep k Z H d o os ∧ RW k Z H id i ∧ Rep k Z H yd v oy ∧ (os ++ oy).Nodup ∧ (∀ a ∈ os, ¬ Z a) ∧ setS d id yd = some d' ∧
  ∀ H' os', Fr k os Z H Z H' → Rep k Z H' d' o os' → os'.Nodup → (∀ a ∈ os', a ∈ os ++ oy) → Q H'
theorem Reps.put {Z : Zs} {H : Hp} {y : D} {w : V} {oy : List Addr} (ry : Rep k Z H y w oy) : ∀ {xs : List D} {vs : List V} {os : List Addr} {n : Nat}, Reps k Z H xs vs os → n < xs.length → ∃ o2, (∃ os', Reps k Z H (xs.set n y) (vs.set n w) os' ∧ os'.Perm (o2 ++ oy)) ∧ o2.Sublist os
  | _, _, _, _, .nil, h => by simp at h
  | _, _, _, 0, .cons (o2 := ob) r t, h => ⟨ob, ⟨_, .cons ry t, List.perm_append_comm⟩, List.sublist_append_right _ _⟩
  | _, _, _, n + 1, .cons (o1 := oa) r t, h => by
    obtain ⟨o2, ⟨os', a, p⟩, s⟩ := Reps.put ry (n := n) t (by simpa using h)
    refine ⟨oa ++ o2, ⟨oa ++ os', .cons r a, ?_⟩, List.Sublist.append (List.Sublist.refl _) s⟩
    rw [List.append_assoc]
    exact p.append_left oa
theorem set_D (hu : X.A.units + 80 < cLine) : PSet X (rSet k) := by
  intro pins s σ H o i v ov iv u Q I ro ri rv h
  obtain ⟨Z, d, id, yd, d', os, oy, r1, r2, r3, nd, nz, hs, q⟩ := h
  have n1 := List.nodup_append.mp nd
  unfold setS at hs
  split at hs
  · rename_i xs
    simp only [Option.map_eq_some_iff] at hs
    obtain ⟨ys, h3, rfl⟩ := hs
    obtain ⟨j, n, rfl, hn, rfl⟩ := setN_some h3
    cases r2.int
    cases r1 with
    | @lstO p _ us os0 e rr =>
      have n2 := List.nodup_cons.mp n1.1
      have np : p ∉ oy := fun z => n1.2.2 p (by simp) p z rfl
      have L1 : Later k Z H os0 Z (upd H p (.lst (us.set n v))) := later_own e trivial (nz p (by simp)) n2.1
      have L2 : Later k Z H oy Z (upd H p (.lst (us.set n v))) := later_own e trivial (nz p (by simp)) np
      obtain ⟨o2, ⟨os', a, pm⟩, sub⟩ := (L1.reps rr).put (L2.rep r3) (ixN_lt hn)
      refine set_list pins s σ H _ _ _ ov iv u Q I ro ri rv ⟨p, us, j, n, rfl, rfl, e, by rw [← rr.len]; exact hn, q _ (p :: os') (fr_own e) (.lstO upd_same a) ?_ fun x hx => ?_⟩
      · refine List.nodup_cons.mpr ⟨fun z => ?_, pm.nodup_iff.mpr (List.nodup_append.mpr ⟨n2.2.sublist sub, n1.2.1, fun x hx y hy => n1.2.2 x (List.mem_cons_of_mem _ (sub.subset hx)) y hy⟩)⟩
        rcases List.mem_append.mp (pm.mem_iff.mp z) with z | z
        · exact n2.1 (sub.subset z)
        · exact np z
      · rcases List.mem_cons.mp hx with z | z
        · subst z; simp
        · rcases List.mem_append.mp (pm.mem_iff.mp z) with z | z
          · exact List.mem_append_left _ (List.mem_cons_of_mem _ (sub.subset z))
          · exact List.mem_append_right _ z
  · rename_i ks xs
    split at hs
    · rename_i kk hkk
      split at hs
      · rename_i hz
        simp only [Bool.and_eq_true, Bool.or_eq_true, Bool.not_eq_true', decide_eq_true_eq] at hz
        cases hs
        obtain ⟨oi, r2⟩ := r2
        cases r1 with
        | @dkO p _ _ kvs os0 e ek rr =>
          have n2 := List.nodup_cons.mp n1.1
          have np : p ∉ oy := fun z => n1.2.2 p (by simp) p z rfl
          have L1 : Later k Z H os0 Z (upd H p (.dK (putK kvs kk v))) := later_own e trivial (nz p (by simp)) n2.1
          have L2 : Later k Z H oy Z (upd H p (.dK (putK kvs kk v))) := later_own e trivial (nz p (by simp)) np
          obtain ⟨g1, o2, g2, sub⟩ := put_rep ek (L1.reps rr) (L2.rep r3) fun hm => r3.fz0 (hz.1.resolve_left fun z => memB_f z hm)
          cases ro
          refine d_setItem (by omega) I (H' := upd H p (.dK (putK kvs kk v))) (.inl ⟨kvs, kk, e, keyK_rep r2 hkk, by rw [← List.length_map (f := (·.1)) (as := kvs), ek, sizeLine_eq]; exact hz.2, rfl⟩) ri rv fun s' I' => ⟨_, I', q _ (p :: (o2 ++ oy)) (fr_own e) (.dkO upd_same g1 g2) ?_ fun x hx => ?_⟩
          · refine List.nodup_cons.mpr ⟨fun z => ?_, List.nodup_append.mpr ⟨n2.2.sublist sub, n1.2.1, fun x hx y hy => n1.2.2 x (List.mem_cons_of_mem _ (sub.subset hx)) y hy⟩⟩
            rcases List.mem_append.mp z with z | z
            · exact n2.1 (sub.subset z)
            · exact np z
          · rcases List.mem_cons.mp hx with z | z
            · subst z; simp
            · rcases List.mem_append.mp z with z | z
              · exact List.mem_append_left _ (List.mem_cons_of_mem _ (sub.subset z))
              · exact List.mem_append_right _ z
      · cases hs
    · cases hs
  · rename_i ks xs
    split at hs
    · rename_i kk hkk
      split at hs
      · rename_i hz
        simp only [Bool.and_eq_true, Bool.or_eq_true, Bool.not_eq_true', decide_eq_true_eq] at hz
        cases hs
        obtain ⟨oi, r2⟩ := r2
        obtain ⟨t, rfl, et⟩ := keyT_rep r2 hkk
        cases r1 with
        | @dtO p _ _ kvs os0 e ek rr =>
          have n2 := List.nodup_cons.mp n1.1
          have np : p ∉ oy := fun z => n1.2.2 p (by simp) p z rfl
          have L1 : Later k Z H os0 Z (upd H p (.dT (putK kvs kk v))) := later_own e trivial (nz p (by simp)) n2.1
          have L2 : Later k Z H oy Z (upd H p (.dT (putK kvs kk v))) := later_own e trivial (nz p (by simp)) np
          obtain ⟨g1, o2, g2, sub⟩ := put_rep ek (L1.reps rr) (L2.rep r3) fun hm => r3.fz0 (hz.1.resolve_left fun z => memB_f z hm)
          cases ro
          refine d_setItem (by omega) I (H' := upd H p (.dT (putK kvs kk v))) (.inr ⟨kvs, kk, t, e, rfl, et, by rw [← List.length_map (f := (·.1)) (as := kvs), ek, sizeLine_eq]; exact hz.2, rfl⟩) ri rv fun s' I' => ⟨_, I', q _ (p :: (o2 ++ oy)) (fr_own e) (.dtO upd_same g1 g2) ?_ fun x hx => ?_⟩
          · refine List.nodup_cons.mpr ⟨fun z => ?_, List.nodup_append.mpr ⟨n2.2.sublist sub, n1.2.1, fun x hx y hy => n1.2.2 x (List.mem_cons_of_mem _ (sub.subset hx)) y hy⟩⟩
            rcases List.mem_append.mp z with z | z
            · exact n2.1 (sub.subset z)
            · exact np z
          · rcases List.mem_cons.mp hx with z | z
            · subst z; simp
            · rcases List.mem_append.mp z with z | z
              · exact List.mem_append_left _ (List.mem_cons_of_mem _ (sub.subset z))
              · exact List.mem_append_right _ z
      · cases hs
    · cases hs
  · cases hs
end
end Bp

/-! statements, 2: stores at places, tuple targets, fields, while -/
namespace Bp
open PySem PySem.Spec PyProof.Rows L2
section
variable {X : Cx} {k : Kx} {T : Tb} {W : WX} {A : List Nat}
theorem sw_sub {e : Expr} {o i : Expr} {p : Pos} {l : Nat} {env : PySem.Env} : swapsWith e (some (.Subscript o i p)) l env = pure false := by cases e <;> rfl
theorem sw_att {e : Expr} {o : Expr} {n : Str} {p : Pos} {l : Nat} {env : PySem.Env} : swapsWith e (some (.Attribute o n p)) l env = pure false := by cases e <;> rfl
theorem sw_tup {e : Expr} {es : List Expr} {j : Nat} {p : Pos} {l : Nat} {env : PySem.Env} : swapsWith e (some (.Tuple es j p)) l env = pure false := by cases e <;> rfl
theorem swo_sub {e : Expr} {o i : Expr} {p : Pos} {l : Nat} {env : PySem.Env} : swapsWithSole [.Subscript o i p] e l env = pure false := by cases e <;> rfl
theorem swo_tup {e : Expr} {es : List Expr} {j : Nat} {p : Pos} {l : Nat} {env : PySem.Env} : swapsWithSole [.Tuple es j p] e l env = pure false := by cases e <;> rfl
theorem sws_sub {e : Expr} {o i : Expr} {env : PySem.Env} {p : Pos} : swappedStores [.Subscript o i p] e env = pure none := by cases e <;> rfl
theorem asg_sub {o i : Expr} {p : Pos} {env : PySem.Env} (h : plainIxB i = true) : ∀ v, assign (.Subscript o i p) env v = (do
      let ov ← holding [v] (eval o env)
      let iv ← holding [v, ov] (eval i env)
      standAt p
      holding [v, ov, iv] (setItem ov iv v)
      release [v, ov, iv] []) := by
  intro v
  cases i <;> first | rfl | cases h
def fPut2 (T : Tb) (p q : P0) (f : M D) : M Ct := bnd f fun y e => match getP T p e, getP T q e with
  | some d, some i => match setS d i y with
    | some d' => match updP T p d' e with
      | some e' => .ok .nx e'
      | none => .bad
    | none => .bad
  | _, _ => .bad
theorem put_end (tb : TbOk k T) {p : P0} {d d' id yd : D} {e e' : Env} {Z : Zs} {H : Hp} {σ : L2.St} {oe od : List Addr} {y iv : V} {Q : Hp → Prop} (ss : SS k Z H σ e [yd] [y] oe od) (q1 : getP T p e = some d) (q3 : setS d id yd = some d') (q4 : updP T p d' e = some e') (ri : RW k Z H id iv)
    (h : ∀ H' oe', SS k Z H' σ e' [] [] oe' [] → Stp k Z H (oe ++ od) Z H' oe' → Q H') : ∃ v, VofP k H σ p v ∧ rSet k v iv y H Q := by
  obtain ⟨v, o1, o2, a, b, pm, f⟩ := path_focus tb ss.er p q1 q4
  have nn := List.nodup_append.mp ss.nd
  have n1 := List.nodup_append.mp (pm.nodup_iff.mp nn.1)
  have sub1 : ∀ x ∈ o1, x ∈ oe := fun x hx => pm.mem_iff.mpr (List.mem_append_left _ hx)
  obtain ⟨y', ey, ry⟩ := ss.rp.one'
  cases ey
  refine ⟨v, a, Z, d, id, yd, d', o1, od, b, ri, ry, List.nodup_append.mpr ⟨n1.1, nn.2.1, fun x hx y hy => nn.2.2 x (sub1 x hx) y hy⟩, fun x hx => ss.dz x (List.mem_append_left _ (sub1 x hx)), q3, fun H' os' fr rd nd ow => ?_⟩
  have L : Later k Z H o2 Z H' := ⟨o1, fr, fun x hx => ss.dz x (List.mem_append_left _ (sub1 x hx)), b.mut, fun x hx hy => n1.2.2 x hy x hx rfl⟩
  obtain ⟨oe', er, pe⟩ := f Z H' os' L rd
  obtain ⟨s2, st2⟩ := ss.drop.chg pm fr (ou := []) (r := .non) (u := .non) (oy := od) (by simpa using nd) (fun x hx => .inl (ow x (by simpa using hx))) (fun x hx => ⟨fun z => nn.2.2 x z x hx rfl, ss.dz x (List.mem_append_right _ hx)⟩) er pe .non
  exact h H' oe' s2.drop (by rw [List.append_nil] at st2; exact st2)
theorem es_put2 (hk : k.K = X.K) (tb : TbOk k T) (hu : X.A.units + 80 < cLine) {p q : P0} {o i e : Expr} {f : M D} {tpos pos : Pos} (hp : chkP X.N X.env.scope p o = true) (hq : chkP X.N X.env.scope q i = true) (hi : plainIxB i = true) (he : PE X e (tE k W f)) : PS X (.Assign [.Subscript o i tpos] e pos) (tS k A W (fPut2 T p q f)) := by
  refine ps_mono (ps_asg he (pg_sub (pe_PV hk hu p o hp) (pe_PV hk hu q i hq) (set_D (k := k) hu) (asg_sub hi)) swo_sub sws_sub rfl) fun D σ H h => tE_mono (tS_expr h) fun v H1 ⟨Z, Z1, H0, e1, oe, oe1, od, d, s1, st, q1⟩ => ?_
  split at q1
  · rename_i dc di g1 g2
    split at q1
    · rename_i d' g3
      split at q1
      · rename_i e' g4
        obtain ⟨iv, oi, b1, b2, b3⟩ := vof tb s1.er q g2
        obtain ⟨v', a, b⟩ := put_end tb s1 g1 g3 g4 ⟨oi, b2⟩ (Q := fun H' => D.nx σ H') fun H' oe' s2 st2 => (show cEnd k A Z H0 oe σ D .nx e' from q1) Z1 H' σ [] oe' [] s2 KpE.refl (by rw [List.append_nil]; exact st.trans st2 fun x hx => hx)
        exact ⟨v', a, iv, b1, b⟩
      · exact (show False from q1).elim
    · exact (show False from q1).elim
  · exact (show False from q1).elim
/-- x[f] = e, x a name -/
def fPut1 (T : Tb) (i : Nat) (fi : M D) (f : M D) : M Ct := bnd f fun y e => match getP T (.v i) e with
  | none => .bad
  | some _ => bnd fi (fun id e1 => match getP T (.v i) e1 with
    | some d => match setS d id y with
      | some d' => match updP T (.v i) d' e1 with
        | some e' => .ok .nx e'
        | none => .bad
      | none => .bad
    | none => .bad) e
theorem es_put1 (tb : TbOk k T) (hu : X.A.units + 80 < cLine) {j : Nat} {x : Str} {px : Pos} {i e : Expr} {f fi : M D} {tpos pos : Pos} (hN : X.N[j]? = some x) (hv : visB X.env.scope x = true) (hi : plainIxB i = true) (hfi : PE X i (tE k W fi)) (he : PE X e (tE k W f)) : PS X (.Assign [.Subscript (.Name x px) i tpos] e pos) (tS k A W (fPut1 T j fi f)) := by
  obtain ⟨h1, h2, h3⟩ := vis_of hv
  have po : PE X (.Name x px) (tPV k (.v j)) := pe_mono (pe_var hN h1 h2 h3) fun σ H Q ⟨v, a, q⟩ => ⟨v, a, q⟩
  refine ps_mono (ps_asg he (pg_sub po hfi (set_D (k := k) hu) (asg_sub hi)) swo_sub sws_sub rfl) fun D σ H h => tE_mono (tS_expr h) fun v H1 ⟨Z, Z1, H0, e1, oe, oe1, od, d, s1, st, q1⟩ => ?_
  split at q1
  · exact (show False from q1).elim
  · rename_i dc g1
    obtain ⟨vc, oc, c1, c2, c3⟩ := vof tb s1.er (.v j) g1
    refine ⟨vc, c1, Z1, e1, oe1, s1.drop, ((rS.bnd q1).after st KpE.refl (fun x q => List.mem_append_left _ q) fun a e' q => q).toE.imp fun id e2 q2 => ?_⟩
    intro Z2 H2 us oe2 od2 s2 st2
    obtain ⟨iv, rfl, ri⟩ := s2.rp.one'
    refine ⟨iv, rfl, ?_⟩
    split at q2
    · rename_i d2 g2
      split at q2
      · rename_i d' g3
        split at q2
        · rename_i e' g4
          have s3 := s1.join s2 st2
          obtain ⟨p1, p2, p3⟩ := s1.push s2 st2
          have n2 := List.nodup_append.mp s2.nd
          have s4 : SS k Z2 H2 σ e2 [d] [v] oe2 od := ⟨s2.er, p1, List.nodup_append.mpr ⟨n2.1, (List.nodup_append.mp s1.nd).2.1, fun x hx y hy e => p2 y hy (by rw [← e]; exact List.mem_append_left _ hx)⟩, fun x hx => (List.mem_append.mp hx).elim (fun q => s2.dz x (List.mem_append_left _ q)) fun q => p3 x q, s2.zt⟩
          have st4 : Stp k Z H0 oe Z2 H2 (oe2 ++ od) := st.trans (st2.wide od) (fun x hx => hx) |>.sub fun x hx => by
            rcases List.mem_append.mp hx with z | z
            · exact List.mem_append_left _ (List.mem_append_left _ z)
            · exact List.mem_append_right _ z
          obtain ⟨v', a, b⟩ := put_end tb s4 g2 g3 g4 ⟨od2, ri⟩ (Q := fun H' => D.nx σ H') fun H' oe' s5 st5 => (show cEnd k A Z H0 oe σ D .nx e' from q2) Z2 H' σ [] oe' [] s5 KpE.refl (by rw [List.append_nil]; exact st4.trans st5 fun x hx => hx)
          have ev : v' = vc := by
            have a' : σ[j]? = some (some v') := a
            have c' : σ[j]? = some (some vc) := c1
            rw [a'] at c'
            exact Option.some.inj (Option.some.inj c')
          subst ev
          exact b
        · exact (show False from q2).elim
      · exact (show False from q2).elim
    · exact (show False from q2).elim
/-! ### tuple targets -/
def noTup : Expr → Bool
  | .Tuple _ _ _ => false
  | _ => true
theorem sws_tup {e : Expr} {es : List Expr} {j : Nat} {p : Pos} {env : PySem.Env} (h : noTup e = true) : swappedStores [.Tuple es j p] e env = pure none := by
  cases e <;> first | rfl | cases h
def fSetT (t : Tg) (f : M D) : M Ct := bnd f fun d e => match tgE t d e with
  | some e' => .ok .nx e'
  | none => .bad
theorem es_setT {es : List Expr} {n : Nat} {tpos pos : Pos} {e : Expr} {f : M D} {t : Tg} (he : PE X e (tE k W f)) (hg : PG X (.Tuple es n tpos) (gG k A t)) (h : swappedStores [.Tuple es n tpos] e X.env = pure none) : PS X (.Assign [.Tuple es n tpos] e pos) (tS k A W (fSetT t f)) :=
  ps_mono (ps_asg he hg swo_tup h rfl) fun D σ H q => tE_mono (tS_expr q) fun v H1 ⟨Z, Z1, H0, e1, oe, oe1, od, d, s1, st, q1⟩ => by
    split at q1
    · rename_i e' g
      exact ⟨Z1, e1, d, [], [], oe1, od, e', s1, g, fun σ' oe' od' s2 sub kp => (show cEnd k A Z H0 oe σ D .nx e' from q1) Z1 H1 σ' [] oe' [] s2.drop kp (st.sub fun x hx => sub x (List.mem_append_left _ (by simpa using hx)))⟩
    · exact (show False from q1).elim
/-! ### while -/
def whileM (c : M Bool) (b : M Ct) : Nat → M Ct
  | 0 => fun _ => .bad
  | n + 1 => bnd c fun t => if t = true then bnd b (fun r => match r with
      | .nx => whileM c b n
      | .ct => whileM c b n
      | .bk => ret .nx
      | .rt d => ret (.rt d)) else ret .nx
open Classical in
noncomputable def fWhile (c : M Bool) (b : M Ct) : M Ct := fun e => if h : ∃ n, whileM c b n e ≠ .bad then whileM c b h.choose e else .bad
theorem es_while {c : Expr} {body : List Stmt} {pos : Pos} {t : M Bool} {b : M Ct} (hp : PassesOwn (model X.prog X.w) X.A X.env X.xe) (hc : PT X c (tT k W t)) (hb : PSs X body (tS k A W b)) : PS X (.While c body [] pos) (tS k A W (fWhile t b)) :=
  ps_mono (ps_while hp hc hb) fun D σ H ⟨Z, e, oe, ss, q⟩ => by
    have q' : ∃ n, rS k A W (whileM t b n e) Z H oe σ fun c e' => cEnd k A Z H oe σ D c e' := by
      unfold fWhile at q
      split at q
      · exact ⟨_, q⟩
      · exact (show False from q).elim
    obtain ⟨n, q⟩ := q'
    refine ⟨fun m σ H => ∃ Z e oe, SS k Z H σ e [] [] oe [] ∧ rS k A W (whileM t b m e) Z H oe σ fun c e' => cEnd k A Z H oe σ D c e', ⟨n, Z, e, oe, ss, q⟩, ?_⟩
    rintro m σ H ⟨Z, e, oe, ss, q⟩
    cases m with
    | zero => exact (show False from q).elim
    | succ m =>
      refine tT_mono (tS_test ⟨Z, e, oe, ss, show rS k A W (bnd t _ e) Z H oe σ _ from q⟩) fun y H1 q1 => ?_
      cases y with
      | false =>
        obtain ⟨Z, e, oe, ss, q⟩ := (show tS k A W (ret .nx) D σ H1 from q1)
        exact (show cEnd k A Z H1 oe σ D .nx e from q) Z H1 σ [] oe [] ss KpE.refl ((Stp.refl _ _ _).sub (by simp))
      | true =>
        refine ⟨fun σ' H' => ∃ Z e oe, SS k Z H' σ' e [] [] oe [] ∧ rS k A W (whileM t b m e) Z H' oe σ' fun c e' => cEnd k A Z H' oe σ' D c e', fun σ' H' h => ⟨m, Nat.lt_succ_self m, h⟩, ?_⟩
        obtain ⟨Z, e, oe, ss, q⟩ := (show tS k A W (bnd b _) D σ H1 from q1)
        refine ⟨Z, e, oe, ss, (rS.bnd q).imp fun c e2 q2 => ?_⟩
        have more : ∀ {Z' H' σ' vs oe' od'}, SS k Z' H' σ' e2 [] vs oe' od' → KpE A σ σ' → Stp k Z H1 oe Z' H' (oe' ++ od') → rS k A W (whileM t b m e2) Z H1 oe σ (fun c e' => cEnd k A Z H1 oe σ D c e') → ∃ Z e oe, SS k Z H' σ' e [] [] oe [] ∧ rS k A W (whileM t b m e) Z H' oe σ' fun c e' => cEnd k A Z H' oe σ' D c e' := by
          intro Z' H' σ' vs oe' od' s8 kp8 st8 q8
          have er := s8.rp
          cases er
          exact ⟨Z', e2, oe', s8, q8.after st8 kp8 (fun x q => List.mem_append_left _ q) fun c e' q => q.after st8 kp8 fun x q => List.mem_append_left _ q⟩
        cases c with
        | nx => exact fun Z' H' σ' vs oe' od' s8 kp8 st8 => more s8 kp8 st8 q2
        | ct => exact fun Z' H' σ' vs oe' od' s8 kp8 st8 => more s8 kp8 st8 q2
        | bk => exact q2
        | rt d => exact q2
/-- more turns change nothing -/
theorem whileM_more {c : M Bool} {b : M Ct} : ∀ {n m : Nat} {e : Env}, n ≤ m → whileM c b n e ≠ .bad → whileM c b m e = whileM c b n e
  | 0, _, _, _, h => absurd rfl h
  | n + 1, 0, _, hl, _ => by omega
  | n + 1, m + 1, e, hl, h => by
    unfold whileM at h ⊢
    unfold bnd at h ⊢
    cases q : c e with
    | bad => rfl
    | rse _ _ _ _ => rfl
    | ok t e1 =>
      rw [q] at h
      cases t with
      | false => rfl
      | true =>
        simp only [if_true] at h ⊢
        cases q2 : b e1 with
        | bad => rfl
        | rse _ _ _ _ => rfl
        | ok r e2 =>
          rw [q2] at h
          cases r with
          | nx => exact whileM_more (by omega) h
          | ct => exact whileM_more (by omega) h
          | bk => rfl
          | rt d => rfl
theorem fWhile_eq {c : M Bool} {b : M Ct} {n : Nat} {e : Env} (h : whileM c b n e ≠ .bad) : fWhile c b e = whileM c b n e := by
  have hx : ∃ n, whileM c b n e ≠ .bad := ⟨n, h⟩
  unfold fWhile
  rw [dif_pos hx]
  rcases Nat.le_total n hx.choose with q | q
  · exact whileM_more q h
  · exact (whileM_more q hx.choose_spec).symm
end
end Bp

/-! sharing, isinstance, slices, fields, pairs of names -/
namespace Bp
open PySem PySem.Spec PyProof.Rows L2
section
variable {X : Cx} {k : Kx} {T : Tb} {W : WX} {A : List Nat}
/-! ### sharing -/
def fSh (f : M D) : M D := bnd f fun d => ret d.sh
theorem tE_sh {f : M D} {σ : L2.St} {H : Hp} {Q : VK} (h : tE k W (fSh f) σ H Q) : tE k W f σ H Q := by
  obtain ⟨Z, env, oe, ss, q⟩ := h
  refine ⟨Z, env, oe, ss, (rE.bnd q).imp fun d e1 q1 => ?_⟩
  intro Z1 H1 vs oe1 od1 s1 st1
  obtain ⟨v, rfl, rv⟩ := s1.rp.one'
  have zz : ∀ a, Z1 a → (Z1 a ∨ a ∈ od1) := fun a z => .inl z
  have r' := rv.shr (Z' := fun a => Z1 a ∨ a ∈ od1) zz fun a q => .inr q
  have nn := List.nodup_append.mp s1.nd
  refine (show okEnd k Z H oe σ [d.sh] e1 _ from q1) (fun a => Z1 a ∨ a ∈ od1) H1 [v] oe1 [] ⟨s1.er.zmono zz, .one r', by simpa using nn.1, fun a ha z => ?_, fun a z => z.elim (s1.zt a) fun z => rv.trk a z⟩ ⟨⟨st1.f.fr0, fun a z => .inl (st1.f.zz a z), st1.f.tr, st1.f.tb⟩, fun a z => z.elim (st1.zn a) fun z => .inr (st1.ow a (List.mem_append_right _ z)), fun a ha => st1.ow a (List.mem_append_left _ (by simpa using ha))⟩
  have ha' : a ∈ oe1 := by simpa using ha
  rcases z with z | z
  · exact s1.dz a (List.mem_append_left _ ha') z
  · exact nn.2.2 a ha' a z rfl
theorem ee_sh {e : Expr} {f : M D} (h : PE X e (tE k W f)) : PE X e (tE k W (fSh f)) := pe_mono h fun σ H Q q => tE_sh q
/-! ### isinstance -/
inductive Ty where
  | non | bl | int | str | tup | lst | dic | cls (c : Nat)
def Ty.beq : Ty → Ty → Bool
  | .non, .non => true
  | .bl, .bl => true
  | .int, .int => true
  | .str, .str => true
  | .tup, .tup => true
  | .lst, .lst => true
  | .dic, .dic => true
  | .cls a, .cls b => a == b
  | _, _ => false
theorem Ty.beq_of {a b : Ty} (h : a.beq b = true) : a = b := by
  cases a <;> cases b <;> first | rfl | (simp [Ty.beq] at h; try rw [h])
def Ty.val (k : Kx) : Ty → Value
  | .non => .type "NoneType"
  | .bl => .type "bool"
  | .int => .type "int"
  | .str => .type "str"
  | .tup => .type "tuple"
  | .lst => .type "list"
  | .dic => .type "dict"
  | .cls c => .ref (k.cA c)
def Ty.vv (k : Kx) : Ty → V
  | .non => .ty "NoneType"
  | .bl => .ty "bool"
  | .int => .ty "int"
  | .str => .ty "str"
  | .tup => .ty "tuple"
  | .lst => .ty "list"
  | .dic => .ty "dict"
  | .cls c => .ref (k.cA c)
def tyD : D → Option Ty
  | .non => some .non
  | .bl _ => some .bl
  | .int _ => some .int
  | .str _ => some .str
  | .tup _ => some .tup
  | .lst _ _ => some .lst
  | .scr _ => some .lst
  | .dk _ _ _ => some .dic
  | .dt true _ _ => some .dic
  | .dt false _ _ => none
  | .ins _ c _ _ => some (.cls c)
structure IsT where
  a : Ty
  b : Ty
  r : Bool
def isAns : List IsT → Ty → Ty → Option Bool
  | [], _, _ => none
  | t :: ts, a, b => if (t.a.beq a && t.b.beq b) = true then some t.r else isAns ts a b
structure IsOk (k : Kx) (I : List IsT) : Prop where
  ans : ∀ t ∈ I, PySem.W.kitOne k.K (t.a.val k) (t.b.val k) = some t.r
  cls : ∀ t ∈ I, ∀ c, t.a = .cls c → Cls k.K (k.cA c) ∧ PySem.W.findIn k.K (.ref (k.cA c)) "__class__" = some (some (.builtin "object.__class__")) ∧
    PySem.W.specialIn k.K (.builtin "object.__class__") "__get__" = some (some (.builtin "getset_descriptor.__get__")) ∧ PySem.W.takesIn k.K (.builtin "object.__class__") = some true ∧ PySem.W.mroIn k.K (k.cA c) (.type "object") = some true
theorem isAns_some : ∀ {I : List IsT} {a b : Ty} {r : Bool}, isAns I a b = some r → ∃ t ∈ I, t.a = a ∧ t.b = b ∧ t.r = r
  | t :: ts, a, b, r, h => by
    unfold isAns at h
    split at h
    · rename_i q
      simp only [Bool.and_eq_true] at q
      cases h
      exact ⟨t, List.mem_cons_self, Ty.beq_of q.1, Ty.beq_of q.2, rfl⟩
    · obtain ⟨t', h1, h2⟩ := isAns_some h
      exact ⟨t', List.mem_cons_of_mem _ h1, h2⟩
def isiS (I : List IsT) (t : Ty) (ds : List D) : Option D := match ds with
  | [d] => match tyD d with
    | some a => (isAns I a t).map .bl
    | none => none
  | _ => none
theorem tyX_of {I : List IsT} (ok : IsOk k I) {Z : Zs} {H : Hp} {d : D} {v : V} {a b : Ty} {r : Bool} (rw : RW k Z H d v) (h : tyD d = some a) (h2 : isAns I a b = some r) : TyX k.K H v (a.val k) := by
  obtain ⟨os, rw⟩ := rw
  cases rw with
  | non => cases h; exact .base .non
  | bl b => cases h; exact .base (.bl b)
  | int i => cases h; exact .base (.int i)
  | str x => cases h; exact .base (.str x)
  | tup e r => cases h; exact .base (.tup e)
  | lstF z e r => cases h; exact .base (.lst e)
  | lstO e r => cases h; exact .base (.lst e)
  | scr e r =>
    cases h
    rcases e with ⟨o, e⟩ | ⟨o, its, n, h1, h2, _⟩
    · exact .base (.frz e)
    · exact .kList h1 h2
  | dkF z e ek r =>
    cases h
    rcases e with e | ⟨o, e⟩
    · exact .base (.dK e)
    · exact .fDict e
  | dkO e ek r => cases h; exact .base (.dK e)
  | dtF z e ek r => cases h
  | dtO e ek r => cases h; exact .base (.dT e)
  | insF z e ek r =>
    cases h
    obtain ⟨t, h1, h3, _, _⟩ := isAns_some h2
    obtain ⟨c1, c2, c3, c4, c5⟩ := ok.cls t h1 _ h3
    exact .base (.ins e c1 c2 c3 c4 c5)
  | insO e ek r =>
    cases h
    obtain ⟨t, h1, h3, _, _⟩ := isAns_some h2
    obtain ⟨c1, c2, c3, c4, c5⟩ := ok.cls t h1 _ h3
    exact .base (.ins e c1 c2 c3 c4 c5)
theorem clsV (k : Kx) (t : Ty) : ClsV (t.vv k) (t.val k) := by
  cases t <;> first | exact .ty _ | exact .own _
theorem relTy (k : Kx) (t : Ty) : RelV (t.vv k) (t.val k) := by cases t <;> rfl
theorem ee_isi (hk : k.K = X.K) {I : List IsT} (ok : IsOk k I) {t : Ty} {e ec : Expr} {p pos : Pos} {a : Ag} (hg : Gl X "isinstance") (hm : X.mg "isinstance" = none) (ha : PE X e (tAg k T W a)) (hs : stB e = false) (hc : PE X ec (tC (t.vv k))) (hs2 : stB ec = false) :
    PE X (.Call (.Name "isinstance" p) [e, ec] [] pos) (tE k W (fB T (isiS I t) [a])) :=
  pe_mono (pe_callB call_isi hg hm (by decide +kernel) (pa_cons ha (pa_cons hc pa_nil (starEach_cons hs2)) (starEach_cons hs)) (by decide) (by decide) (starEach_cons hs) (star_any (es := [ec]) (by simp [hs2]))) fun σ H Q q => by
    refine tAg_mono (tR_cons (tE_sem q)) fun v H1 q1 => ?_
    obtain ⟨Z, ds, d, rw, hsem, q2⟩ := (show rSem k (isiS I t) [v] H1 Q from q1)
    unfold isiS at hsem
    split at hsem
    · rename_i d1
      split at hsem
      · rename_i ta h1
        simp only [Option.map_eq_some_iff] at hsem
        obtain ⟨r, h2, rfl⟩ := hsem
        have rw1 : RW k Z H1 d1 v := rw.1
        obtain ⟨tt, m1, m2, m3, m4⟩ := isAns_some h2
        have ans := ok.ans tt m1
        rw [m2, m3, m4, hk] at ans
        have tx := tyX_of ok rw1 h1 h2
        rw [hk] at tx
        exact ⟨v, t.vv k, ta.val k, t.val k, r, rfl, clsV k t, tx, ans, q2.bl⟩
      · cases hsem
    · cases hsem
end
end Bp

/-! slices, fields, pairs of names, list(range), displays of dicts -/
namespace Bp
open PySem PySem.Spec PyProof.Rows L2
section
variable {X : Cx} {k : Kx} {T : Tb} {W : WX} {A : List Nat}
def cutD (xs : List D) (lo hi : Option Int) : List D := (xs.drop (HT.sIx xs.length 0 lo)).take (HT.sIx xs.length xs.length hi - HT.sIx xs.length 0 lo)
theorem Reps.drop {Z : Zs} {H : Hp} : ∀ (n : Nat) {xs : List D} {vs : List V}, Reps k Z H xs vs [] → Reps k Z H (xs.drop n) (vs.drop n) []
  | 0, _, _, r => r
  | n + 1, [], vs, r => by
    have e : vs = [] := List.length_eq_zero_iff.mp r.len.symm
    subst e
    exact r
  | n + 1, _ :: _, [], r => by
    have := r.len
    cases this
  | n + 1, d :: ds, v :: vs, r => by
    obtain ⟨o1, o2, e, a, b⟩ := r.head
    cases o1 with
    | nil => cases o2 with
      | nil => exact Reps.drop n b
      | cons _ _ => cases e
    | cons _ _ => cases e
theorem Reps.take {Z : Zs} {H : Hp} : ∀ (n : Nat) {xs : List D} {vs : List V}, Reps k Z H xs vs [] → Reps k Z H (xs.take n) (vs.take n) []
  | 0, _, _, r => .nil
  | n + 1, [], vs, r => by
    have e : vs = [] := List.length_eq_zero_iff.mp r.len.symm
    subst e
    exact r
  | n + 1, _ :: _, [], r => by
    have := r.len
    cases this
  | n + 1, d :: ds, v :: vs, r => by
    obtain ⟨o1, o2, e, a, b⟩ := r.head
    cases o1 with
    | nil => cases o2 with
      | nil => exact Reps.cons (o1 := []) (o2 := []) a (Reps.take n b)
      | cons _ _ => cases e
    | cons _ _ => cases e
theorem cut_rep {Z : Zs} {H : Hp} {xs : List D} {vs : List V} (lo hi : Option Int) (r : Reps k Z H xs vs []) : Reps k Z H (cutD xs lo hi) (cutV vs lo hi) [] := by
  unfold cutD cutV
  rw [r.len]
  exact (r.drop _).take _
theorem fzs_sub : ∀ {xs ys : List D}, (∀ y ∈ ys, y ∈ xs) → fzs xs = true → fzs ys = true
  | xs, [], _, _ => rfl
  | xs, y :: ys, h, f => by
    simp only [fzs, Bool.and_eq_true]
    refine ⟨?_, fzs_sub (fun z hz => h z (List.mem_cons_of_mem _ hz)) f⟩
    have hy := h y List.mem_cons_self
    clear h
    induction xs with
    | nil => cases hy
    | cons x xs ih =>
      simp only [fzs, Bool.and_eq_true] at f
      rcases List.mem_cons.mp hy with q | q
      · rw [q]; exact f.1
      · exact ih f.2 q
theorem cutD_fz {xs : List D} {lo hi : Option Int} (h : fzs xs = true) : fzs (cutD xs lo hi) = true := fzs_sub (fun y hy => List.mem_of_mem_drop (List.mem_of_mem_take hy)) h
def sliD (d : D) (lo hi : Option Int) : Option D := match d with
  | .tup xs => if fzs xs = true then some (.tup (cutD xs lo hi)) else none
  | .lst _ xs => if fzs xs = true then some (.lst true (cutD xs lo hi)) else none
  | .scr xs => if fzs xs = true then some (.lst true (cutD xs lo hi)) else none
  | _ => none
theorem cut_whole {α : Type} {xs : List α} {a b : Nat} (h1 : a = 0) (h2 : b = xs.length) : (xs.drop a).take (b - a) = xs := by
  subst h1 h2
  simp
theorem sli_ok (hk : k.K = X.K) : SlR X (fun x lo hi H Q => ∃ Z d dd, RW k Z H d x ∧ sliD d lo hi = some dd ∧ resOk k Z H dd Q) := by
  have h0 : SlR X (fun x lo hi H Q => rSlL X.K x lo hi H Q ∨ rSlA X.K x lo hi H Q) := SlR.or sl_list sl_tupA
  intro pins s σ H x v vl vu lo hi sl Q I rx hs pl pu h
  refine h0 pins s σ H x v vl vu lo hi sl Q I rx hs pl pu ?_
  obtain ⟨Z, d, dd, rw, hd, q⟩ := h
  unfold sliD at hd
  split at hd
  · rename_i xs
    split at hd
    · rename_i f
      cases hd
      obtain ⟨a, vs, os, rfl, e, r⟩ := rw.tup
      have r0 := reps_fz f r
      refine .inr ⟨a, vs, rfl, SqT.of e, fun hw => ?_, fun _ p hp => q.tup (cut_rep lo hi r0) (cutD_fz f) hp⟩
      have e1 : cutD xs lo hi = xs := by
        unfold cutD
        rw [r.len]
        exact cut_whole hw.1 (hw.2.trans r.len.symm)
      rw [e1] at q
      exact q.old (.tup e r0) (by simpa [D.fz] using f)
    · cases hd
  · rename_i o xs
    split at hd
    · rename_i f
      cases hd
      obtain ⟨a, vs, os, rfl, e, r⟩ := rw.lst
      have r0 := reps_fz f r
      exact .inl ⟨a, vs, rfl, SqL.of e, fun p hp => q.lst (cut_rep lo hi r0) (cutD_fz f) hp⟩
    · cases hd
  · rename_i xs
    split at hd
    · rename_i f
      cases hd
      obtain ⟨a, vs, rfl, e, r⟩ := rw.scr
      exact .inl ⟨a, vs, rfl, by rw [← hk]; exact e, fun p hp => q.lst (cut_rep lo hi r) (cutD_fz f) hp⟩
    · cases hd
  · cases hd
/-- a slice: no parts, one part, both -/
def sli0 (ds : List D) : Option D := match ds with
  | [d] => sliD d none none
  | _ => none
def sliL (ds : List D) : Option D := match ds with
  | [d, .int i] => sliD d (some i) none
  | _ => none
def sliH (ds : List D) : Option D := match ds with
  | [d, .int i] => sliD d none (some i)
  | _ => none
def sli2 (T : Tb) (h : Ag) (ds : List D) : M D := fun e => match ds with
  | [d, .int i] => if d.fz = true then bnd (evA T [h]) (fun es => opt (match es with
    | [.int j] => sliD d (some i) (some j)
    | _ => none)) e else .bad
  | _ => .bad
def fSli0 (T : Tb) (a : Ag) : M D := fB T sli0 [a]
def fSliL (T : Tb) (a l : Ag) : M D := fB T sliL [a, l]
def fSliH (T : Tb) (a h : Ag) : M D := fB T sliH [a, h]
def fSli2 (T : Tb) (a l h : Ag) : M D := bnd (evA T [a, l]) (sli2 T h)
theorem ee_sli0 (hk : k.K = X.K) {a : Ag} {e : Expr} {p2 pos : Pos} (ha : PE X e (tAg k T W a)) : PE X (.Subscript e (.Slice none none none p2) pos) (tE k W (fSli0 T a)) := by
  refine pe_mono (pe_slice (sli_ok hk) ha po_none po_none) fun σ H Q q => tAg_mono (tR_cons (tE_sem q)) fun v H1 q1 => ?_
  obtain ⟨Z, ds, d, rw, hs, q2⟩ := (show rSem k sli0 [v] H1 Q from q1)
  unfold sli0 at hs
  split at hs
  · exact ⟨Z, _, d, rw.1, hs, q2⟩
  · cases hs
theorem ee_sliL (hk : k.K = X.K) {a l : Ag} {e lo : Expr} {p2 pos : Pos} (ha : PE X e (tAg k T W a)) (hb : PE X lo (tAg k T W l)) : PE X (.Subscript e (.Slice (some lo) none none p2) pos) (tE k W (fSliL T a l)) := by
  refine pe_mono (pe_slice (sli_ok hk) ha (po_some hb) po_none) fun σ H Q q => tAg_mono (tR_cons (tE_sem q)) fun v H1 q1 => tAg_mono (tR_cons q1) fun u H2 q1 => ?_
  obtain ⟨Z, ds, d, rw, hs, q2⟩ := (show rSem k sliL [v, u] H2 Q from q1)
  unfold sliL at hs
  split at hs
  · rename_i dd j
    cases rw.2.1.int
    exact ⟨j, rfl, Z, dd, d, rw.1, hs, q2⟩
  · cases hs
theorem ee_sliH (hk : k.K = X.K) {a l : Ag} {e lo : Expr} {p2 pos : Pos} (ha : PE X e (tAg k T W a)) (hb : PE X lo (tAg k T W l)) : PE X (.Subscript e (.Slice none (some lo) none p2) pos) (tE k W (fSliH T a l)) := by
  refine pe_mono (pe_slice (sli_ok hk) ha po_none (po_some hb)) fun σ H Q q => tAg_mono (tR_cons (tE_sem q)) fun v H1 q1 => tAg_mono (tR_cons q1) fun u H2 q1 => ?_
  obtain ⟨Z, ds, d, rw, hs, q2⟩ := (show rSem k sliH [v, u] H2 Q from q1)
  unfold sliH at hs
  split at hs
  · rename_i dd j
    cases rw.2.1.int
    exact ⟨j, rfl, Z, dd, d, rw.1, hs, q2⟩
  · cases hs
theorem ee_sli2 (hk : k.K = X.K) {a l h : Ag} {e lo hi : Expr} {p2 pos : Pos} (ha : PE X e (tAg k T W a)) (hb : PE X lo (tAg k T W l)) (hc : PE X hi (tAg k T W h)) : PE X (.Subscript e (.Slice (some lo) (some hi) none p2) pos) (tE k W (fSli2 T a l h)) := by
  refine pe_mono (pe_slice (sli_ok hk) ha (po_some hb) (po_some hc)) fun σ H Q q => ?_
  obtain ⟨Z, e0, oe, ss, q⟩ := q
  have q0 : tR k W (evA T [a, l]) σ H fun vs H1 => ∃ Z1 ds e1 oe1, SS k Z1 H1 σ e1 [] [] oe1 [] ∧ RWs k Z1 H1 ds vs ∧ rE k W (sli2 T h ds e1) Z1 H1 oe1 σ fun d e' => okEnd k Z1 H1 oe1 σ [d] e' fun vs H' => ∃ v, vs = [v] ∧ Q v H' :=
    ⟨Z, e0, oe, ss, (rE.bnd q).imp fun ds e1 h1 Z' H' vs oe' s' rw st => ⟨Z', ds, e1, oe', s', rw, h1.after st (fun x q => q) fun d e2 h2 => okEnd.after h2 st fun x q => q⟩⟩
  refine tAg_mono (tR_cons q0) fun v H1 q1 => tAg_mono (tR_cons q1) fun u H2 q2 => ?_
  obtain ⟨Z1, ds, e1, oe1, s1, rw, q3⟩ := (show ∃ Z1 ds e1 oe1, SS k Z1 H2 σ e1 [] [] oe1 [] ∧ RWs k Z1 H2 ds [v, u] ∧ rE k W (sli2 T h ds e1) Z1 H2 oe1 σ fun d e' => okEnd k Z1 H2 oe1 σ [d] e' fun vs H' => ∃ v, vs = [v] ∧ Q v H' from q2)
  unfold sli2 at q3
  split at q3
  · rename_i dd i
    split at q3
    · rename_i f
      cases rw.2.1.int
      refine ⟨i, rfl, ?_⟩
      obtain ⟨od, r0⟩ := rw.1
      have e00 := r0.fz0 f
      subst e00
      have q4 : tR k W (evA T [h]) σ H2 fun ws H3 => ∃ Z3 es e3 oe3, SS k Z3 H3 σ e3 [] [] oe3 [] ∧ RWs k Z3 H3 es ws ∧ Rep k Z3 H3 dd v [] ∧ rE k W (opt (match es with | [.int j] => sliD dd (some i) (some j) | _ => none) e3) Z3 H3 oe3 σ fun d e' => okEnd k Z3 H3 oe3 σ [d] e' fun vs H' => ∃ v, vs = [v] ∧ Q v H' :=
        ⟨Z1, e1, oe1, s1, (rE.bnd q3).imp fun es e3 h3 Z' H' vs oe' s' rw' st => ⟨Z', es, e3, oe', s', rw', r0.step st.f (fun x hx => s1.dz x (by simpa using hx)) s1.er.mut (fun _ z => nomatch z), h3.after st (fun x q => q) fun d e2 h2 => okEnd.after h2 st fun x q => q⟩⟩
      refine tAg_mono (tR_cons q4) fun w H3 q5 => ?_
      obtain ⟨Z3, es, e3, oe3, s3, rw3, r3, q6⟩ := (show ∃ Z3 es e3 oe3, SS k Z3 H3 σ e3 [] [] oe3 [] ∧ RWs k Z3 H3 es [w] ∧ Rep k Z3 H3 dd v [] ∧ rE k W (opt (match es with | [.int j] => sliD dd (some i) (some j) | _ => none) e3) Z3 H3 oe3 σ fun d e' => okEnd k Z3 H3 oe3 σ [d] e' fun vs H' => ∃ v, vs = [v] ∧ Q v H' from q5)
      split at q6
      · rename_i j
        cases rw3.1.int
        cases q7 : sliD dd (some i) (some j) with
        | none => rw [q7] at q6; exact (show False from q6).elim
        | some d =>
          rw [q7] at q6
          refine ⟨j, rfl, Z3, dd, d, ⟨[], r3⟩, q7, fun v4 H4 os4 sm4 r4 nd4 fr4 => ?_⟩
          obtain ⟨v', e', hq⟩ := (show okEnd k Z3 H3 oe3 σ [d] e3 _ from q6) Z3 H4 [v4] oe3 os4 (s3.same sm4 r4 nd4 fr4) (same_stp sm4 fr4)
          cases e'
          exact hq
      · exact (show False from q6).elim
    · exact (show False from q3).elim
  · exact (show False from q3).elim
/-! ### fields of one's own -/
def fFld (T : Tb) (i : Nat) (nm : Str) (f : M D) : M Ct := bnd f fun y e => match e[i]? with
  | some (some (.ins true c fs xs)) => if (T.fk c nm && decide (fs.length < 1000) && !memB nm fs) = true then .ok .nx (e.set i (some (.ins true c (fs ++ [nm]) (xs ++ [y])))) else .bad
  | _ => .bad
theorem putF_new : ∀ {kvs : List (Str × V)} {nm : Str} {v : V}, nm ∉ kvs.map (·.1) → putF nm v kvs = kvs ++ [(nm, v)]
  | [], _, _, _ => rfl
  | (g, x) :: r, nm, v, h => by
    unfold putF
    rw [if_neg (fun z => h (by rw [← z]; exact List.mem_cons_self)), putF_new fun z => h (List.mem_cons_of_mem _ z)]
    rfl
theorem es_fld (hk : k.K = X.K) (tb : TbOk k T) {i : Nat} {x nm : Str} {e : Expr} {f : M D} {px ap pos : Pos} (hN : X.N[i]? = some x) (hv : visB X.env.scope x = true) (he : PE X e (tE k W f)) : PS X (.Assign [.Attribute (.Name x px) nm ap] e pos) (tS k A W (fFld T i nm f)) := by
  obtain ⟨h1, h2, h3⟩ := vis_of hv
  have po : PE X (.Name x px) (tPV k (.v i)) := pe_mono (pe_var hN h1 h2 h3) fun σ H Q ⟨v, a, q⟩ => ⟨v, a, q⟩
  refine ps_mono (ps_fld po he sw_att) fun D σ H h => tE_mono (tS_expr h) fun v H1 ⟨Z, Z1, H0, e1, oe, oe1, od, d, s1, st, q1⟩ => ?_
  split at q1
  · rename_i c fs xs g1
    split at q1
    · rename_i g2
      simp only [Bool.and_eq_true, decide_eq_true_eq, Bool.not_eq_true'] at g2
      obtain ⟨⟨g2, g3⟩, g4⟩ := g2
      obtain ⟨c1, c2⟩ := tb.cl c nm g2
      obtain ⟨w, o1, o2, a, b, cc, pm⟩ := s1.er.take g1
      obtain ⟨y', ey, ry⟩ := s1.rp.one'
      cases ey
      cases b with
      | @insO p dx _ _ _ kvs os0 e0 ek rr =>
        have nn := List.nodup_append.mp s1.nd
        have n1 := List.nodup_append.mp (pm.nodup_iff.mp nn.1)
        have n2 := List.nodup_cons.mp n1.1
        have sub1 : ∀ x ∈ p :: os0, x ∈ oe1 := fun x hx => pm.mem_iff.mpr (List.mem_append_left _ hx)
        have sub2 : ∀ x ∈ o2, x ∈ oe1 := fun x hx => pm.mem_iff.mpr (List.mem_append_right _ hx)
        have nz : ¬ Z1 p := s1.dz p (List.mem_append_left _ (sub1 p (by simp)))
        have hk2 : putF nm v kvs = kvs ++ [(nm, v)] := putF_new (by rw [ek]; exact memB_f g4)
        refine ⟨_, a, p, _, dx, kvs, rfl, e0, by rw [← hk]; exact c1, by rw [← hk]; exact c2, by rw [← List.length_map (f := (·.1)) (as := kvs), ek]; exact g3, ?_⟩
        rw [hk2]
        let H2 := upd H1 p (.ins (k.cA c) dx (kvs ++ [(nm, v)]))
        have L1 : Later k Z1 H1 os0 Z1 H2 := later_own e0 trivial nz n2.1
        have L2 : Later k Z1 H1 od Z1 H2 := later_own e0 trivial nz fun z => nn.2.2 p (sub1 p (by simp)) p z rfl
        have L3 : Later k Z1 H1 o2 Z1 H2 := later_own e0 trivial nz fun z => n1.2.2 p (by simp) p z rfl
        have rI : Rep k Z1 H2 (.ins true c (fs ++ [nm]) (xs ++ [d])) (.ref p) (p :: (os0 ++ od)) := .insO (kvs := kvs ++ [(nm, v)]) upd_same (by rw [List.map_append, ek]; rfl) (by rw [List.map_append]; exact (L1.reps rr).app (Reps.one (L2.rep ry)))
        obtain ⟨M, f1, f2, f3, f4⟩ := L3
        obtain ⟨o, r2, p2⟩ := EnvR.back rI (cc.step f1 f2 f3 f4) (set_none_get g1) a
        rw [List.set_set] at r2
        have pm2 : o.Perm (oe1 ++ od) := by
          refine p2.trans ?_
          refine List.Perm.trans ?_ (pm.symm.append_right od)
          show (p :: (os0 ++ od) ++ o2).Perm (p :: os0 ++ o2 ++ od)
          simp only [List.cons_append, List.append_assoc]
          exact List.Perm.cons p (List.Perm.append_left os0 List.perm_append_comm)
        have fr : Fr k (p :: os0) Z1 H1 Z1 H2 := fr_own e0
        refine (show cEnd k A Z H0 oe σ D .nx _ from q1) Z1 H2 σ [] o [] ⟨r2, .nil, by rw [List.append_nil]; exact pm2.nodup_iff.mpr s1.nd, fun x hx => s1.dz x (pm2.mem_iff.mp (by simpa using hx)), fun x z => fr.tr x (s1.zt x z)⟩ KpE.refl ?_
        refine st.trans ⟨⟨fun x u h n t => fr.fr x u h (fun z => n (List.mem_append_left _ (sub1 x z))) t, fun _ z => z, fr.tr, fr.tb⟩, fun _ z => .inl z, fun x hx => .inl (pm2.mem_iff.mp (by simpa using hx))⟩ fun x hx => hx
    · exact (show False from q1).elim
  · exact (show False from q1).elim
end
end Bp

/-! pairs of names, list(range), displays and comprehensions of dicts -/
namespace Bp
open PySem PySem.Spec PyProof.Rows L2
section
variable {X : Cx} {k : Kx} {T : Tb} {W : WX} {A : List Nat}
/-! ### a, b = x, y -/
theorem star_is (e : Expr) : (match e with | .Starred _ _ => true | _ => false) = stB e := by cases e <;> rfl
theorem sw_par2 {env : PySem.Env} {x y : Str} {px py pt pt2 : Pos} {kt k2 : Nat} {a b : Expr} (hk : env.scope.kind = .function) (hx : env.scope.names.lookup x = some .local) (hy : env.scope.names.lookup y = some .local) (hl : (py.line == px.line) = true) (hxy : (x == y) = false) (ha : stB a = false) (hb : stB b = false)
    (hf : [a, b].all (foldedForSure 8) = false) (hc : [a, b].all (constantsAlone 8) = false) : swappedStores [.Tuple [.Name x px, .Name y py] kt pt] (.Tuple [a, b] k2 pt2) env = pure (some [x, y]) := by
  have kx : env.kindOf x = some .local := hx
  have ky : env.kindOf y = some .local := hy
  have hB : env.blockKind = .function := by unfold Env.blockKind; rw [hk]; rfl
  have hyx : (y == x) = false := by
    rw [beq_eq_false_iff_ne] at hxy ⊢
    exact fun z => hxy z.symm
  have hd : [x, y].eraseDups = [x, y] := by
    rw [List.eraseDups_cons]
    have : List.filter (fun b => !b == x) [y] = [y] := by simp [hyx]
    rw [this, List.eraseDups_cons]
    rfl
  unfold swappedStores
  simp only [hB, hf, hc, kx, ky, hl, hd, List.length_cons, List.length_nil, List.head?_cons, Option.map_some, Option.getD_some, List.filterMap_cons, List.filterMap_nil, beq_self_eq_true, Bool.and_self, if_true, Expr.pos, bne_self_eq_false, Bool.false_eq_true, if_false, Bool.or_false, Bool.or_self, Bool.not_true, Bool.true_or]
  refine if_neg fun hh => ?_
  have any : ∀ (g : Expr → Bool), (∀ e, g e = stB e) → [a, b].any g = false := fun g hg => by simp [hg, ha, hb]
  rw [any _ (fun e => by cases e <;> rfl)] at hh
  cases hh
def setL : List Nat → List D → Env → Option Env
  | [], [], e => some e
  | i :: is, d :: ds, e => setL is ds (e.set i (some d))
  | _, _, _ => none
def fPar (is : List Nat) (fs : List (M D)) : M Ct := bnd (evL fs) fun ds e => match setL is ds e with
  | some e' => .ok .nx e'
  | none => .bad
theorem es_par2 {i j : Nat} {x y : Str} {a b : Expr} {f g : M D} {px py pt : Pos} {kt k2 : Nat} {pt2 pos : Pos} (hc : X.calm = true) (hN : X.N.Nodup) (hi : X.N[i]? = some x) (hj : X.N[j]? = some y) (hij : i ≠ j) (iA : i ∈ A) (jA : j ∈ A)
    (hx : X.env.scope.names.lookup x = some .local) (hy : X.env.scope.names.lookup y = some .local) (ha : Paired (fun e f => PE X e (tE k W f) ∧ stB e = false) [a, b] [f, g])
    (hw : swappedStores [.Tuple [.Name x px, .Name y py] kt pt] (.Tuple [a, b] k2 pt2) X.env = pure (some [x, y])) :
    PS X (.Assign [.Tuple [.Name x px, .Name y py] kt pt] (.Tuple [a, b] k2 pt2) pos) (tS k A W (fPar [i, j] [f, g])) := by
  refine ps_mono (ps_par hc hN hi hj hij hx hy (ee_args ha) hw swo_tup) fun D σ H ⟨Z, e, oe, ss, q⟩ => ⟨Z, e, oe, ss, ?_⟩
  refine (rS.bnd q).toE.imp fun ds e1 q1 => ?_
  intro Z1 H1 vs oe1 od1 s1 st1
  match ds, vs, s1 with
  | [d1, d2], [v1, v2], s1 =>
    refine ⟨v1, v2, rfl, ?_⟩
    obtain ⟨oe2, od2, s2, sub2⟩ := s1.put1 (i := i)
    obtain ⟨oe3, od3, s3, sub3⟩ := s2.put1 (i := j)
    exact (show cEnd k A Z H oe σ D .nx _ from q1) Z1 H1 _ [] oe3 [] s3.drop ((KpE.set iA).trans (KpE.set jA)) (st1.sub fun x hx => sub2 x (sub3 x (List.mem_append_left _ (by simpa using hx))))
  | [d1, d2], [], s1 => have := s1.rp.len; simp at this
  | [d1, d2], [_], s1 => have := s1.rp.len; simp at this
  | [d1, d2], _ :: _ :: _ :: _, s1 => have := s1.rp.len; simp at this
  | [], _, _ => exact (show False from q1).elim
  | [_], _, _ => exact (show False from q1).elim
  | _ :: _ :: _ :: _, _, _ => exact (show False from q1).elim
/-! ### list(range(n)) -/
def lrgS (ds : List D) : Option D := match ds with
  | [.int j] => if (rngOk j && decide (j ≤ 16777216)) = true then some (.lst true (rngD 0 j.toNat)) else none
  | _ => none
theorem rngD_fz (lo : Int) : ∀ n, fzs (rngD lo n) = true := fun n => by
  unfold rngD
  induction (List.range n) with
  | nil => rfl
  | cons a r ih => simp only [List.map_cons, fzs, D.fz, Bool.true_and]; exact ih
theorem rng_rep {Z : Zs} {H : Hp} (lo : Int) : ∀ l : List Nat, Reps k Z H (l.map fun (i : Nat) => D.int (lo + (i : Nat))) (l.map fun (i : Nat) => V.int (lo + (i : Nat))) []
  | [] => .nil
  | a :: r => Reps.cons (o1 := []) (o2 := []) (.int _) (rng_rep lo r)
theorem ee_lrg {e : Expr} {p p2 pos pos2 : Pos} {a : Ag} (hc : X.calm = true) (hg : Gl X "list") (hm : X.mg "list" = none) (hg2 : Gl X "range") (hm2 : X.mg "range" = none) (ha : PE X e (tAg k T W a)) (hs : stB e = false) : PE X (.Call (.Name "list" p) [.Call (.Name "range" p2) [e] [] pos2] [] pos) (tE k W (fB T lrgS [a])) :=
  pe_mono (pe_listRg hc hg hm (prg_1 hg2 hm2 ha (starEach_cons hs)) (starEach_cons rfl)) fun σ H Q q => tAg_mono (tR_cons (tE_sem q)) fun v H1 q1 => by
    obtain ⟨Z, ds, d, rw, hs, q2⟩ := (show rSem k lrgS [v] H1 Q from q1)
    unfold lrgS at hs
    split at hs
    · rename_i j
      split at hs
      · rename_i hj
        simp only [Bool.and_eq_true, decide_eq_true_eq] at hj
        cases hs
        cases rw.1.int
        obtain ⟨h1, h2⟩ := rngOk_of hj.1
        refine ⟨j, rfl, ⟨by omega, by omega, h1, h2, by omega⟩, fun q hq => ?_⟩
        have e : rgV 0 j = (List.range j.toNat).map fun (i : Nat) => V.int (0 + (i : Nat)) := by unfold rgV; rw [Int.sub_zero]
        rw [e]
        exact q2.lst (rng_rep 0 _) (rngD_fz 0 _) hq
      · cases hs
    · cases hs
/-! ### {k: v} -/
def fDk1 (T : Tb) (p : P0) (d : D) : M D := fun e => match getP T p e with
  | some kd => (match keyK kd with
    | some kk => .ok (.dk true [kk] [d]) e
    | none => .bad)
  | none => .bad
/-- constants -/
def kcB : D → Expr → Bool
  | .bl b, .Constant (.bool c) _ _ => b == c
  | .int i, .Constant (.int j) _ _ => i == j
  | .int i, .UnaryOp .USub (.Constant (.int j) _ _) _ => i == -j
  | .str x, .Constant (.str y) _ _ => x == y
  | .non, .Constant .none _ _ => true
  | _, _ => false
def D.cv : D → V
  | .bl b => .bl b
  | .int i => .int i
  | .str x => .str x
  | _ => .non
theorem kc_ok {d : D} {e : Expr} (h : kcB d e = true) : PE X e (tC d.cv) ∧ ∀ k Z H, Rep k Z H d d.cv [] := by
  unfold kcB at h
  split at h
  · cases (beq_iff_eq.mp h); exact ⟨pe_bl, fun _ _ _ => .bl _⟩
  · cases (beq_iff_eq.mp h); exact ⟨pe_int, fun _ _ _ => .int _⟩
  · cases (beq_iff_eq.mp h); exact ⟨pe_mono (pe_un un_neg pe_int) fun σ H Q q => ⟨_, rfl, q⟩, fun _ _ _ => .int _⟩
  · cases (beq_iff_eq.mp h); exact ⟨pe_str, fun _ _ _ => .str _⟩
  · exact ⟨pe_non, fun _ _ _ => .non⟩
  · cases h
theorem ee_kc {d : D} {e : Expr} (h : kcB d e = true) : PE X e (tE k W (fC d)) := pe_mono (kc_ok h).1 fun σ H Q ⟨Z, e, oe, ss, q⟩ => okEnd.fz (show okEnd k Z H oe σ [d] e _ from q) ss ((kc_ok (X := X) h).2 _ _ _)
theorem ee_dk1 (hk : k.K = X.K) (tb : TbOk k T) (hu : X.A.units + 80 < cLine) {p : P0} {d : D} {ek ev : Expr} {pos : Pos} (hp : chkP X.N X.env.scope p ek = true) (hv : kcB d ev = true) : PE X (.Dict [some ek] [ev] pos) (tE k W (fDk1 T p d)) := by
  refine pe_mono (pe_disp (pps_cons (pe_P0 hk tb hu p ek hp) (kc_ok hv).1 pps_nil) rfl rfl (by simp) (by simp)) fun σ H Q ⟨Z, e, oe, ss, q⟩ a ha => ?_
  unfold fDk1 at q
  split at q
  · rename_i kd q1
    split at q
    · rename_i kk q2
      refine ⟨Z, e, oe, ss.grow (same_new (o := .dK []) ha), kd, q1, fun v os r _ _ => ⟨upd_same, [(kk, d.cv)], by rw [keyK_rep r q2]; rfl, by simp, ?_⟩⟩
      have e1 : mergeK [] [(kk, d.cv)] = [(kk, d.cv)] := rfl
      have e2 : upd (upd H a (.dK [])) a (.dK [(kk, d.cv)]) = upd H a (.dK [(kk, d.cv)]) := by
        funext b
        by_cases z : b = a
        · subst z; rw [upd_same, upd_same]
        · rw [upd_ne z, upd_ne z, upd_ne z]
      rw [e1, e2]
      exact okEnd.new (show okEnd k Z H oe σ [.dk true [kk] [d]] e _ from q) ss ha (.dkO (kvs := [(kk, d.cv)]) upd_same rfl (Reps.one ((kc_ok (X := X) hv).2 _ _ _)))
    · exact (show False from q).elim
  · exact (show False from q).elim
/-! ### {k: v for ..}, keys ints and texts -/
def dcEl (fk fv : M D) (acc : List Key × List D) : M (List Key × List D) := fun e => if decide (acc.1.length < 16777216) = true then bnd fk (fun kd => bnd fv fun vd => opt (match keyK kd with
  | some kk => if vd.fz = true then some (putD acc kk vd) else none
  | none => none)) e else .bad
def fDc (vs : List Nat) (i : M ItR) (t : Tg) (c : M Bool) (fk fv : M D) : M D := bnd i fun r => noR (bnd (lcGo vs t c (dcEl fk fv) r.its ([], [])) fun kx => ret (.dk true kx.1 kx.2))
def hdK (acc : List Key × List D) : D := .dk true acc.1 acc.2
/-- a key at hand is put -/
theorem SS.putK1 {Z : Zs} {H : Hp} {σ : L2.St} {e : Env} {vd kd : D} {acc : List Key × List D} {hs : List D} {y z w : V} {vh : List V} {oe od : List Addr} {kk : Key} (hkk : keyK kd = some kk) (hf : vd.fz = true) (a : SS k Z H σ e (vd :: kd :: hdK acc :: hs) (z :: y :: w :: vh) oe od) :
    ∃ p kvs od', w = .ref p ∧ y = kV kk ∧ H p = some (.dK kvs) ∧ kvs.length = acc.1.length ∧ SS k Z (upd H p (.dK (putK kvs kk z))) σ e (hdK (putD acc kk vd) :: hs) (.ref p :: vh) oe od' ∧ (∀ x ∈ od', x ∈ od) ∧ Stp k Z H (oe ++ od) Z (upd H p (.dK (putK kvs kk z))) (oe ++ od') := by
  obtain ⟨ks, xs⟩ := acc
  obtain ⟨o1, o2, rfl, rv, rr1⟩ := a.rp.head
  have e1 := rv.fz0 hf
  subst e1
  obtain ⟨o3, o4, rfl, rk, rr2⟩ := rr1.head
  have e3 : o3 = [] := by
    cases kd <;> first | (simp [keyK] at hkk; done) | (cases rk; rfl)
  subst e3
  obtain ⟨o5, o6, rfl, rd, rh⟩ := rr2.head
  have a' : SS k Z H σ e (hdK (ks, xs) :: hs) (w :: vh) oe (o5 ++ o6) := ⟨a.er, .cons rd rh, a.nd, a.dz, a.zt⟩
  cases rd with
  | @dkO p _ _ kvs os0 e0 ek rx =>
    have nn := List.nodup_append.mp a'.nd
    have n1 := List.nodup_append.mp nn.2.1
    have n2 := List.nodup_cons.mp n1.1
    have nz : ¬ Z p := a'.dz p (by simp)
    have pe : p ∉ oe := fun q => nn.2.2 p q p (by simp) rfl
    have ph : p ∉ o6 := fun q => n1.2.2 p (by simp) p q rfl
    have L1 : Later k Z H os0 Z (upd H p (.dK (putK kvs kk z))) := later_own e0 trivial nz n2.1
    have L2 : Later k Z H o6 Z (upd H p (.dK (putK kvs kk z))) := later_own e0 trivial nz ph
    have L3 : Later k Z H [] Z (upd H p (.dK (putK kvs kk z))) := later_own e0 trivial nz fun z => nomatch z
    obtain ⟨M, f1, f2, f3, f4⟩ := (later_own e0 trivial nz pe : Later k Z H oe Z (upd H p (.dK (putK kvs kk z))))
    obtain ⟨g1, o7, g2, sub⟩ := put_rep (kk := kk) ek (L1.reps rx) (L3.rep rv) fun _ => rfl
    rw [List.append_nil] at g2
    have fr : Fr k [p] Z H Z (upd H p (.dK (putK kvs kk z))) := fr_own e0
    have s7 : (p :: o7).Sublist (p :: os0) := sub.cons_cons p
    have s8 : (oe ++ ((p :: o7) ++ o6)).Sublist (oe ++ ((p :: os0) ++ o6)) := List.Sublist.append (List.Sublist.refl _) (List.Sublist.append s7 (List.Sublist.refl _))
    refine ⟨p, kvs, (p :: o7) ++ o6, rfl, keyK_rep rk hkk, e0, by rw [← ek, List.length_map], ⟨a.er.step f1 f2 f3 f4, .cons (.dkO upd_same g1 g2) (L2.reps rh), a'.nd.sublist s8, fun x hx => a'.dz x (s8.subset hx), fun x z => fr.tr x (a.zt x z)⟩, fun x hx => (List.Sublist.append s7 (List.Sublist.refl o6)).subset hx, ⟨fun b o h n t => fr.fr b o h (fun q => n (by rw [List.mem_singleton.mp q]; simp)) t, fun _ z => z, fr.tr, fr.tb⟩, fun _ z => .inl z, fun x hx => .inl (s8.subset hx)⟩
theorem dc_keep {F : Zs → Hp → List Addr → (List Key × List D) → Env → Prop} (FC : FnC k F) {vs : List Nat} {fk fv : M D} {m : (List Key × List D) → M (List Key × List D)} (hm : ∀ acc e, m acc (wipeE e vs) = m acc e) {σ σ2 : L2.St} {acc : List Key × List D} {hs : List D} {vh : List V} {Z : Zs} {H : Hp} {e : Env} {oe od : List Addr} {p : Addr} {NX : Hp → Prop}
    (hw : wipe σ2 vs = wipe σ vs) (ss : SS k Z H σ2 e (hdK acc :: hs) (.ref p :: vh) oe od) (q : rO (bnd (dcEl fk fv acc) m e) (F Z H (oe ++ od)))
    (next : ∀ Z e acc oe od H, SS k Z H σ e (hdK acc :: hs) (.ref p :: vh) oe od → rO (m acc e) (F Z H (oe ++ od)) → NX H) :
    tE k WF fk σ2 H fun y H4 => tE k WF fv σ2 H4 fun z H5 => ∃ kvs kk, y = kV kk ∧ H5 p = some (.dK kvs) ∧ kvs.length < sizeLine ∧ NX (upd H5 p (.dK (putK kvs kk z))) := by
  have q1 := rO.bnd q
  unfold dcEl at q1
  by_cases hz : decide (acc.1.length < 16777216) = true
  · rw [if_pos hz] at q1
    have q2 := rO.bnd q1
    refine ⟨Z, e, oe, ss.drop, q2.rE.imp fun kd e2 q3 => ?_⟩
    intro Z5 H5 us oe5 od5 s5 st5
    obtain ⟨y, rfl, ry⟩ := s5.rp.one'
    refine ⟨y, rfl, ?_⟩
    have s6 := ss.join s5 st5
    have b6 : Stp k Z H (oe ++ od) Z5 H5 (oe5 ++ (od5 ++ od)) := by
      rw [← List.append_assoc]
      exact st5.wide od
    have q4 := rO.bnd q3
    refine ⟨Z5, e2, oe5, s5.drop, q4.rE.imp fun vd e3 q5 => ?_⟩
    intro Z7 H7 us oe7 od7 s7 st7
    obtain ⟨z, rfl, rz⟩ := s7.rp.one'
    refine ⟨z, rfl, ?_⟩
    have s8 := s6.join s7 st7
    have b8 : Stp k Z H (oe ++ od) Z7 H7 (oe7 ++ (od7 ++ (od5 ++ od))) := by
      have := b6.trans (st7.wide (od5 ++ od)) fun x hx => hx
      rw [List.append_assoc] at this
      exact this
    cases q6 : keyK kd with
    | none => rw [q6] at q5; exact (show False from q5).elim
    | some kk =>
      rw [q6] at q5
      by_cases hf : vd.fz = true
      · simp only [hf, if_true] at q5
        obtain ⟨p', kvs, od', e1, ey, h1, h2, s9, sub9, st9⟩ := (show SS k Z7 H7 σ2 e3 (vd :: kd :: hdK acc :: hs) (z :: y :: .ref p :: vh) oe7 (od7 ++ (od5 ++ od)) from s8).putK1 q6 hf
        cases e1
        obtain ⟨oe10, s10, sub10⟩ := s9.turn hw
        refine ⟨kvs, kk, ey, h1, by rw [h2]; exact line_lt hz, next Z7 _ _ oe10 od' _ s10 ?_⟩
        rw [hm]
        have b9 := b8.trans st9 fun a ha => ha
        exact (show rO (m (putD acc kk vd) e3) (F Z H (oe ++ od)) from q5).imp fun acc' e' f => FC _ _ _ _ _ _ _ _ _ f b9 fun a ha => (List.mem_append.mp ha).elim (fun z => List.mem_append_left _ (sub10.subset z)) fun z => List.mem_append_right _ z
      · rw [Bool.not_eq_true] at hf
        rw [hf] at q5
        exact (show False from q5).elim
  · rw [if_neg hz] at q1; exact (show False from q1).elim
theorem SS.dictK {Z : Zs} {H : Hp} {σ : L2.St} {e : Env} {hs : List D} {vh : List V} {oe od : List Addr} {p : Addr} (ss : SS k Z H σ e hs vh oe od) (hp : H p = none) : SS k Z (upd H p (.dK [])) σ e (hdK ([], []) :: hs) (.ref p :: vh) oe (p :: od) ∧ Stp k Z H (oe ++ od) Z (upd H p (.dK [])) (oe ++ (p :: od)) := by
  have s := ss.grow (same_new (o := .dK []) hp)
  have ne : p ∉ oe := fun q => ss.er.trk p q hp
  have nd : p ∉ od := fun q => ss.rp.trk p q hp
  have nn := List.nodup_append.mp ss.nd
  have r : Rep k Z (upd H p (.dK [])) (hdK ([], [])) (.ref p) [p] := .dkO (kvs := []) upd_same rfl .nil
  refine ⟨⟨s.er, Reps.cons r s.rp, List.nodup_append.mpr ⟨nn.1, List.nodup_cons.mpr ⟨nd, nn.2.1⟩, fun a ha b hb e => ?_⟩, fun a ha z => ?_, s.zt⟩, ⟨fun a u h _ _ => same_new hp a u h, fun _ z => z, (same_fr (k := k) (same_new hp) (Z := Z)).tr, fun t => LamX.Tabs.ext t (same_new hp)⟩, fun _ z => .inl z, fun a ha => ?_⟩
  · subst e
    rcases List.mem_cons.mp hb with q | q
    · subst q; exact ne ha
    · exact nn.2.2 a ha a q rfl
  · rcases List.mem_append.mp ha with q | q
    · exact ss.dz a (List.mem_append_left _ q) z
    · rcases List.mem_cons.mp q with q | q
      · subst q; exact ss.zt a z hp
      · exact ss.dz a (List.mem_append_right _ q) z
  · rcases List.mem_append.mp ha with q | q
    · exact .inl (List.mem_append_left _ q)
    · rcases List.mem_cons.mp q with q | q
      · subst q; exact .inr hp
      · exact .inl (List.mem_append_right _ q)
def fnEK (k : Kx) (σ : L2.St) (Q : VK) : Zs → Hp → List Addr → (List Key × List D) → Env → Prop := fun Z H o acc e => okEnd k Z H o σ [hdK acc] e fun vs H' => ∃ v, vs = [v] ∧ Q v H'
theorem fnEK_c {σ : L2.St} {Q : VK} : FnC k (fnEK k σ Q) := fun Z H o acc e Z' H' oa o' h st s => okEnd.after h st s
theorem dc_end {σ : L2.St} {Q : VK} {Z : Zs} {H : Hp} {e : Env} {acc : List Key × List D} {hs : List D} {vh : List V} {oe od : List Addr} {p : Addr} {vs : List Nat} (ss : SS k Z H σ e (hdK acc :: hs) (.ref p :: vh) oe od) (q : fnEK k σ Q Z H (oe ++ od) acc (wipeE e vs)) : Q (.ref p) H := by
  obtain ⟨o1, o2, rfl, r1, r2⟩ := ss.rp.head
  obtain ⟨o, r, s⟩ := ss.er.nones vs
  have nn := List.nodup_append.mp ss.nd
  obtain ⟨v, e', hq⟩ := q Z H [.ref p] o o1 ⟨r, .one r1, List.nodup_append.mpr ⟨nn.1.sublist s, (List.nodup_append.mp nn.2.1).1, fun a ha b hb => nn.2.2 a (s.subset ha) b (List.mem_append_left _ hb)⟩, fun a ha => ss.dz a ((List.mem_append.mp ha).elim (fun z => List.mem_append_left _ (s.subset z)) fun z => List.mem_append_right _ (List.mem_append_left _ z)), ss.zt⟩
    ((Stp.refl _ _ _).sub fun a ha => (List.mem_append.mp ha).elim (fun z => List.mem_append_left _ (s.subset z)) fun z => List.mem_append_right _ (List.mem_append_left _ z))
  cases e'
  exact hq
theorem tDc_of {vs : List Nat} {i : M ItR} {t : Tg} {c : M Bool} {fk fv : M D} {σ : L2.St} {H : Hp} {Q : VK} (q : tE k W (fDc vs i t c fk fv) σ H Q) : tDc (tIt k W i) (gG k vs t) (tT k WF c) (tE k WF fk) (tE k WF fv) vs σ H Q := by
  obtain ⟨Z, e, oe, ss, q⟩ := q
  refine ⟨Z, e, oe, ss, (rE.bnd q).imp fun r e1 q1 => ?_⟩
  intro Z1 H1 vh oe1 od1 J G Y s1 st1 w hG hY p hp
  have q2 := rO.bnd (rO_noR q1)
  obtain ⟨s2, st2⟩ := s1.dictK hp
  have b2 := st1.trans st2 fun a ha => ha
  refine lc_it1 w (B := fun Nx x H' => gG k vs t x (wipe σ vs) H' fun σ2 H2 => wipe σ2 vs = wipe σ vs ∧ tT k WF c σ2 H2 fun b H3 => if b = true then tE k WF fk σ2 H3 fun y H4 => tE k WF fv σ2 H4 fun z H5 => ∃ kvs kk, y = kV kk ∧ H5 p = some (.dK kvs) ∧ kvs.length < sizeLine ∧ Nx (upd H5 p (.dK (putK kvs kk z))) else Nx H3)
    (Pv := fun i H => ∃ Z e acc oe od, SS k Z H σ e (hdK acc :: r.hold) (.ref p :: vh) oe od ∧ rO (lcGo vs t c (dcEl fk fv) (r.its.drop i) acc e) (fnEK k σ Q Z H (oe ++ od)))
    ⟨Z1, e1, ([], []), oe1, p :: od1, s2, q2.imp fun acc' e' q3 => okEnd.after q3 b2 fun a ha => ha⟩
    (fun i H _ ⟨Z, e, acc, oe, od, s, _⟩ => hG Z H _ s.rp.head.choose_spec.choose_spec.2.2)
    (fun i x H2 H3 hi ⟨Z2, e2, acc, oe2, od2, s2, q2⟩ y => ?_)
    (fun H2 ⟨Z2, e2, acc, oe2, od2, s2, q2⟩ => ?_)
  · obtain ⟨d, g1, g2, g3⟩ := hY i x H2 H3 Z2 _ s2.rp.head.choose_spec.choose_spec.2.2 y hi
    rw [List.drop_eq_getElem_cons hi] at q2
    rw [List.getElem?_eq_getElem hi] at g1
    cases g1
    let NX : Hp → Prop := fun H => ∃ Z e acc oe od, SS k Z H σ e (hdK acc :: r.hold) (.ref p :: vh) oe od ∧ rO (lcGo vs t c (dcEl fk fv) (r.its.drop (i + 1)) acc e) (fnEK k σ Q Z H (oe ++ od))
    exact lc_turn hdK (NX := NX) (TB := fun σ2 H3 => tE k WF fk σ2 H3 fun y H4 => tE k WF fv σ2 H4 fun z H5 => ∃ kvs kk, y = kV kk ∧ H5 p = some (.dK kvs) ∧ kvs.length < sizeLine ∧ NX (upd H5 p (.dK (putK kvs kk z)))) fnEK_c s2 g2 g3 q2
      (fun Z e oe od σ2 H hw s q => dc_keep (NX := NX) fnEK_c (fun acc e => lcGo_wipe) hw s q fun Z e acc oe od H s q => ⟨Z, e, acc, oe, od, s, q⟩) fun Z e oe od H s q => ⟨Z, e, acc, oe, od, s, q⟩
  · rw [List.drop_length] at q2
    exact dc_end s2 q2
theorem ee_dc {kx vx tg iter : Expr} {ifs : List Expr} {scope : Scope} {own : List (Str × Nat)} {pos : Pos} {i : M ItR} {t : Tg} {c : M Bool} {fk fv : M D} (hc : X.calm = true) (hN : X.N.Nodup) (hi : PI X tg iter (tIt k W i)) (ok : BlkOk X.N X.env.scope scope own)
    (hg : ∀ (s : Shared) (H : Hp) (C : Addr) (cl : List (Str × Addr)) (fp : List Addr), PG (X.blk s H scope (compEnvC scope cl C X.env) fp) tg (gG k (own.map (·.2)) t)) (ht : ∀ (s : Shared) (H : Hp) (C : Addr) (cl : List (Str × Addr)) (fp : List Addr), PTs (X.blk s H scope (compEnvC scope cl C X.env) fp) ifs (tT k WF c))
    (hk : ∀ (s : Shared) (H : Hp) (C : Addr) (cl : List (Str × Addr)) (fp : List Addr), PE (X.blk s H scope (compEnvC scope cl C X.env) fp) kx (tE k WF fk))
    (he : ∀ (s : Shared) (H : Hp) (C : Addr) (cl : List (Str × Addr)) (fp : List Addr), PE (X.blk s H scope (compEnvC scope cl C X.env) fp) vx (tE k WF fv)) (hs : noSet iter = true) :
    PE X (.DictComp kx vx [⟨tg, iter, ifs, 0⟩] scope pos) (tE k W (fDc (own.map (·.2)) i t c fk fv)) := pe_mono (pe_dc hc hN hi ok hg ht hk he (folded_of hs)) fun σ H Q q => tDc_of q
end
end Bp

/-! comprehensions of dicts with tuples for keys -/
namespace Bp
open PySem PySem.Spec PyProof.Rows L2
abbrev St := L2.St
section
variable {X : Cx}
/-- D[t] = v by a comprehension, t a tuple -/
theorem dSetT {pn : List (Addr × Obj)} {σ : L2.St} {H : Hp} {s : Shared} {E : Value → Shared → Prop} {D b : Addr} {kvs : List (List Key × V)} {kk : List Key} {z : V} {u r : Value} {Q : Unit → Shared → Prop} (hu : X.A.units + 1 < cLine) (I : Inv X pn σ H s) (atD : H D = some (.dT kvs)) (eb : H b = some (.tup (kk.map kV)))
    (room : kvs.length < sizeLine) (ry : RelV (.ref b) u) (rv : RelV z r) (h : ∀ s', Inv X pn σ (upd H D (.dT (putK kvs kk z))) s' → Q () s') : wpAny (model X.prog X.w) X.A (dictSet D u r) Q E s := by
  cases (show u = Value.ref b from ry)
  obtain ⟨zz, hd, xs, rel, dd⟩ := dt_of I.hok atD
  have hx : xs.length ≤ sizeLine := by rw [← Paired.length rel]; exact zz
  have hl : (putK kvs kk z).length ≤ sizeLine := by
    have q := length_putK kvs kk z
    omega
  refine wpAny_dictSet_heap (hsz := hx) (show X.A.units < cLine by omega) (key_of I.hok eb) dd fun h' dd' hs => h _ ?_
  obtain ⟨q, es, ep, hq, h2, h3, h4, _, h5⟩ := dd'
  have out : ∀ c ys, H c = some (.tup ys) → (upd H D (.dT (putK kvs kk z))) c = some (.tup ys) := fun c ys ec => by
    rw [upd_ne (ne_of ec atD fun z => nomatch z)]
    exact ec
  exact d_write (t' := _) I (by rw [atD]; exact trivial) hs ⟨q, hq⟩ ⟨hl, hd, _, (rel.put kk eb rv).keeps out, q, es, ep, hq, h2, h3, h4, h5⟩
def tDcT (wi : TI) (g : TG) (tt : TT) (tk tv : TE) (os : List Nat) : TE := fun σ H Q => wi σ H fun J H1 => ∀ D, H1 D = none → ∃ Wt : Nat → Nat → Hp → Prop, (∃ m, Wt 0 m (upd H1 D (.dT []))) ∧ ∀ i m H, Wt i m H →
  (J.stop i H ∧ Q (.ref D) H) ∨ (J.go i H ∧ ∃ Nxx : Hp → Prop, (∀ H', Nxx H' → ∃ m', m' < m ∧ Wt (i + 1) m' H') ∧ ∀ x H', J.yld i H x H' → g x (wipe σ os) H' fun σ2 H2 => wipe σ2 os = wipe σ os ∧ tt σ2 H2 fun b H3 =>
    if b = true then tk σ2 H3 fun y H4 => tv σ2 H4 fun z H5 => ∃ kvs kk kb, y = .ref kb ∧ H5 kb = some (.tup (kk.map kV)) ∧ H5 D = some (.dT kvs) ∧ kvs.length < sizeLine ∧ Nxx (upd H5 D (.dT (putK kvs kk z))) else Nxx H3)
theorem dcT_core {pn : List (Addr × Obj)} {s : Shared} {σ : St} {H : Hp} {Q : VK} {kx vx tg iter : Expr} {ifs : List Expr} {scope : Scope} {own : List (Str × Nat)} {pos pos' : Pos} {wi : TI} {g : TG} {tt : TT} {tk tv : TE} {use : Option (Value → Sem Unit)} {Qf : Value → Shared → Prop}
    (hu : X.A.units + 1 < cLine) (hc : X.calm = true) (nodN : X.N.Nodup) (I : Inv X pn σ H s) (hi : PI X tg iter wi) (ok : BlkOk X.N X.env.scope scope own)
    (hg : ∀ (s : Shared) (H : Hp) (C : Addr) (cl : List (Str × Addr)) (fq : List Addr), PG (X.blk s H scope (compEnvC scope cl C X.env) fq) tg g) (ht : ∀ (s : Shared) (H : Hp) (C : Addr) (cl : List (Str × Addr)) (fq : List Addr), PTs (X.blk s H scope (compEnvC scope cl C X.env) fq) ifs tt)
    (hk : ∀ (s : Shared) (H : Hp) (C : Addr) (cl : List (Str × Addr)) (fq : List Addr), PE (X.blk s H scope (compEnvC scope cl C X.env) fq) kx tk)
    (he : ∀ (s : Shared) (H : Hp) (C : Addr) (cl : List (Str × Addr)) (fq : List Addr), PE (X.blk s H scope (compEnvC scope cl C X.env) fq) vx tv) (hs : ∀ x, foldedSetIterable iter X.env x = pure x)
    (h : tDcT wi g tt tk tv (own.map (·.2)) σ H Q)
    (post : ∀ D C s' m H', Inv X pn σ H' s' → Q (.ref D) H' → s'.heap.Ns C m → FpOk X pn H' C → compPost (model X.prog X.w) X.A X.xe use Qf (.ref D) C (.ok .next) s') :
    wpAny (model X.prog X.w) X.A (comprehension (.DictComp kx vx [⟨tg, iter, ifs, 0⟩] scope pos) scope X.env pos' newDict false (eval iter X.env) use) Qf X.xe s := by
  have fre : ∀ y ∈ scope.names, y.2 = .free → ∃ c, X.env.cells.lookup y.1 = some c := fun y hy e => by
    rcases ok.free y hy e with k | k
    · exact I.ok.has _ (.inl k)
    · exact I.ok.has _ (.inr k)
  refine wpAny_comprehension_free (use := use) rfl hs (closure_ok fre) ok.kind (fun y hy e => by rw [ok.uniq y hy, e])
    (thn (hi.run pn s σ H _ I h) fun xv t1 hx => thn hx fun itv t2 h2 => ?_)
  obtain ⟨it, fq, tn, J, Hb, e, J2, T, sc2, fz2, q⟩ := h2
  subst e
  refine wpAny_newObj_type (newEnv_comp ?_)
  generalize hD : t2.heap.objs.size = D
  have freshD : Hb D = none := J2.hok.fresh (Nat.le_of_eq hD)
  obtain ⟨Wt, ⟨mz, wz⟩, lap⟩ := q D freshD
  -- the new list
  generalize hs3 : ({ t2 with heap := t2.heap.push { cls := .type "dict", data := .dict #[] } } : Shared) = t3
  have J3 : Inv X pn σ (upd Hb D (.dT [])) t3 := by
    rw [← hs3]
    refine J2.laid (t' := t2.toks) (fun b o e => Heap.get?_push_of_some _ e) (Nat.le_of_eq hD) ?_
    rw [← hD]
    exact dt_empty t2.heap J2.big
  have h3 : t3.heap = t2.heap.push { cls := .type "dict", data := .dict #[] } := by rw [← hs3]
  have below : ∀ b ∈ fq, b < t2.heap.objs.size := fun b hb => by
    obtain ⟨o, e, _⟩ := T.obj _ _ sc2 b hb
    exact Heap.lt_size e
  have fz3 : ∀ b ∈ fq, FpOk X pn (upd Hb D (.dT [])) b ∧ b < t3.heap.objs.size := fun b hb => by
    have hlt := below b hb
    refine ⟨⟨?_, (fz2 b hb).2⟩, by rw [h3, Heap.size_push]; exact Nat.lt_succ_of_lt hlt⟩
    rw [upd_ne (by rw [← hD]; exact Nat.ne_of_lt hlt)]
    exact (fz2 b hb).1
  have sc3 : tn 0 t3.heap := T.keep _ _ _ sc2 fun b _ o e => by rw [h3]; exact Heap.get?_push_of_some _ e
  have J4 := block_start J3 ok nodN fz3
  have qg := hg t3 (upd Hb D (.dT [])) t3.heap.objs.size (cellsFrom (t3.heap.objs.size + 1) scope.names (cloFrom X.env.cells scope.names [])) fq
  have qt := ht t3 (upd Hb D (.dT [])) t3.heap.objs.size (cellsFrom (t3.heap.objs.size + 1) scope.names (cloFrom X.env.cells scope.names [])) fq
  have qk := hk t3 (upd Hb D (.dT [])) t3.heap.objs.size (cellsFrom (t3.heap.objs.size + 1) scope.names (cloFrom X.env.cells scope.names [])) fq
  have qe := he t3 (upd Hb D (.dT [])) t3.heap.objs.size (cellsFrom (t3.heap.objs.size + 1) scope.names (cloFrom X.env.cells scope.names [])) fq
  show codeAny _ _ (.compStart (.DictComp kx vx [⟨tg, iter, ifs, 0⟩] scope pos) 0 (.ref it) (.ref D) (compEnvC scope (cellsFrom (t3.heap.objs.size + 1) scope.names (cloFrom X.env.cells scope.names [])) t3.heap.objs.size X.env)) (compPost (model X.prog X.w) X.A X.xe use Qf (.ref D) t3.heap.objs.size) { t3 with heap := pushCells (t3.heap.push { cls := .type "dict", data := .dict #[] }) scope.names }
  have nfq : ∀ b ∈ fq, (upd Hb D (.dT [])) b = none := fun b hb => (fz3 b hb).1.1
  generalize hcenv : compEnvC scope (cellsFrom (t3.heap.objs.size + 1) scope.names (cloFrom X.env.cells scope.names [])) t3.heap.objs.size X.env = cenv at J4 qg qt qk qe ⊢
  have locC : cenv.locals = t3.heap.objs.size := by subst hcenv; rfl
  generalize hH3 : upd Hb D (.dT []) = Hc at J3 J4 qg qt qk qe wz nfq fz3
  generalize hs4 : ({ t3 with heap := pushCells (t3.heap.push { cls := .type "dict", data := .dict #[] }) scope.names } : Shared) = t4 at J4 ⊢
  have sc4 : tn 0 t4.heap := T.keep _ _ _ sc3 fun b _ o e => by rw [← hs4]; exact pushCells_keeps _ _ _ _ (Heap.get?_push_of_some _ e)
  have stay : ∀ {σ' : St} {H' : Hp} {s' : Shared}, Inv (X.blk t3 Hc scope cenv fq) [] σ' H' s' → (∀ b ∈ fq, H' b = none) → ∀ b ∈ fq, FpOk (X.blk t3 Hc scope cenv fq) [] H' b := fun {σ' H' s'} I' hNs b hb =>
    ⟨hNs b hb, (I'.ok.exf b hb).1, I'.ok.exfs b hb, .inl hb, fun x c e => (I'.ok.exf b hb).2 x c e, fun p hp => absurd (show p ∈ ([] : List (Addr × Obj)) ++ [] from hp) (by simp)⟩
  have laps : codeAny (model X.prog X.w) X.A (.compLoop (.DictComp kx vx [⟨tg, iter, ifs, 0⟩] scope pos) 0 (.ref it) (.ref D) cenv) (compPost (model X.prog X.w) X.A X.xe use Qf (.ref D) t3.heap.objs.size) t4 := by
    refine compLoop_anyD (fun n s' => ∃ i H', Inv (X.blk t3 Hc scope cenv fq) [] (wipe σ (own.map (·.2))) H' s' ∧ tn i s'.heap ∧ (∀ b ∈ fq, H' b = none) ∧ Wt i n H') ?_ mz ⟨0, Hc, J4, sc4, nfq, wz⟩
    rintro n t5 ⟨i, He, J5, sc5, nn5, wv⟩
    rcases lap i n He wv with ⟨stop, qq⟩ | ⟨go, Nxx, nxt, go1⟩
    · have td := T.done (X.blk t3 Hc scope cenv fq) rfl rfl rfl hc i [] t5 _ He (fun _ _ => False) J5 (stay J5 nn5) sc5 stop
      refine thnF td fun r t6 ⟨hr, J6⟩ => ?_
      subst hr
      -- back in the def's context
      have J7 : Inv X pn σ He t6 := J3.call' (ch := fq) J6.os J6.base J6.hok J6.bare fun b hb => ⟨(fz3 b hb).1.2.2.2.1, (fz3 b hb).1.2.1, (fz3 b hb).1.2.2.2.2.1, (fz3 b hb).1.2.2.2.2.2⟩
      have noC : He t3.heap.objs.size = none := by
        have z : He cenv.locals = none := J6.free
        rw [locC] at z
        exact z
      obtain ⟨m, hNs, _⟩ := J6.loc
      have hNs : t6.heap.Ns cenv.locals m := hNs
      rw [locC] at hNs
      exact post D t3.heap.objs.size t6 m He J7 qq hNs (J3.fpOk (Nat.le_refl _) noC)
    · have ti := T.item (X.blk t3 Hc scope cenv fq) rfl rfl rfl hc i [] t5 _ He (fun _ _ => False) J5 (stay J5 nn5) sc5 go
      refine thnF ti fun r t6 ⟨u, hr, h6⟩ => ?_
      subst hr
      refine thnF h6 fun _ t7 ⟨x, Hg, J7, r7, y7, sc7, nn7⟩ => ?_
      have J7p := J7.pinned (stay J7 nn7) (T.obj _ _ sc7)
      refine thnF (qg.run _ t7 _ Hg x u _ J7p r7 (go1 x Hg y7)) fun _ t8 ⟨τ8, Hh, J8, wip8, q8⟩ => ?_
      refine thnF (qt.run _ t8 τ8 Hh _ J8 q8) fun b t9 ⟨Hi, J9, q9⟩ => ?_
      -- the turn's end
      have endT : ∀ {s' : Shared} {H' : Hp}, Inv (X.blk t3 Hc scope cenv fq) ([] ++ pinsAt fq t7.heap) τ8 H' s' → Nxx H' → ∃ m, m < n ∧ ∃ i H', Inv (X.blk t3 Hc scope cenv fq) [] (wipe σ (own.map (·.2))) H' s' ∧ tn i s'.heap ∧ (∀ b ∈ fq, H' b = none) ∧ Wt i m H' := fun {s' H'} I' nx => by
        obtain ⟨m', hm, w'⟩ := nxt H' nx
        have pin' : ∀ b ∈ fq, ∀ o, t7.heap.get? b = some o → s'.heap.get? b = some o ∧ H' b = none := fun b hb o e =>
          let z := I'.pin (b, o) (List.mem_append_right _ (List.mem_append_right _ (mem_pinsAt hb e)))
          ⟨z.1, z.2.1⟩
        have hl : (wipe σ (own.map (·.2))).length = τ8.length := by rw [← wip8, wipe_length]
        refine ⟨m', hm, i + 1, H', (I'.unpinned (pins := [])).weak hl (fun j v e => ?_), T.keep _ _ _ sc7 fun b hb o e => (pin' b hb o e).1, fun b hb => ?_, w'⟩
        · rw [← wip8] at e
          exact (wipe_some e).1
        · obtain ⟨o, e, _⟩ := T.obj _ _ sc7 b hb
          exact (pin' b hb o e).2
      cases b with
      | false =>
        simp only [Bool.false_eq_true, if_false] at q9 ⊢
        exact endT J9 q9
      | true =>
        simp only [if_true] at q9 ⊢
        refine thnF (qk.run _ t9 τ8 Hi _ J9 q9) fun z t10 ⟨yk, Hj, J10, r10, q10⟩ => ?_
        refine thnF (qe.run _ t10 τ8 Hj _ J10 q10) fun z2 t11 ⟨yv, Hk, J11, r11, kvs, kk, kb, ek, eb, atD, room, nx⟩ => ?_
        subst ek
        exact dSetT (X := X.blk t3 Hc scope cenv fq) hu J11 atD eb room r10 r11 fun t12 J12 => endT J12 nx
  exact codeAny_compStart_dict laps (T.self X.A 0 _ _ _ sc4 laps)
theorem pe_dcT {kx vx tg iter : Expr} {ifs : List Expr} {scope : Scope} {own : List (Str × Nat)} {pos : Pos} {wi : TI} {g : TG} {tt : TT} {tk tv : TE} (hu : X.A.units + 1 < cLine) (hc : X.calm = true) (nodN : X.N.Nodup) (hi : PI X tg iter wi) (ok : BlkOk X.N X.env.scope scope own)
    (hg : ∀ (t : Shared) (H : Hp) (C : Addr) (cl : List (Str × Addr)) (fq : List Addr), PG (X.blk t H scope (compEnvC scope cl C X.env) fq) tg g) (ht : ∀ (t : Shared) (H : Hp) (C : Addr) (cl : List (Str × Addr)) (fq : List Addr), PTs (X.blk t H scope (compEnvC scope cl C X.env) fq) ifs tt)
    (hk : ∀ (t : Shared) (H : Hp) (C : Addr) (cl : List (Str × Addr)) (fq : List Addr), PE (X.blk t H scope (compEnvC scope cl C X.env) fq) kx tk)
    (he : ∀ (t : Shared) (H : Hp) (C : Addr) (cl : List (Str × Addr)) (fq : List Addr), PE (X.blk t H scope (compEnvC scope cl C X.env) fq) vx tv) (hs : ∀ x, foldedSetIterable iter X.env x = pure x) :
    PE X (.DictComp kx vx [⟨tg, iter, ifs, 0⟩] scope pos) (tDcT wi g tt tk tv (own.map (·.2))) := by
  refine ⟨fun pn s σ H Q I h => ?_⟩
  rw [arm_eval_DictComp]
  refine dcT_core hu hc nodN I hi ok hg ht hk he hs h fun D C s' m H' I' q hn f => ⟨m, hn, fun h'' sb => ?_⟩
  obtain ⟨f0, f1, f2, f3, f4, f5⟩ := f
  exact ⟨.ref D, H', I'.turned (t' := s'.toks) (fun b o hb e => (sb.2 b hb).trans e) f0 f1 f3 f4 f5, rfl, q⟩
end
end Bp

/-! dicts with tuples for keys: comprehensions and displays as semantic functions -/
namespace Bp
open PySem PySem.Spec PyProof.Rows L2
section
variable {X : Cx} {k : Kx} {T : Tb} {W : WX} {A : List Nat}
theorem keysK_fz : ∀ {xs : List D} {kk : List Key}, keysK xs = some kk → fzs xs = true
  | [], _, _ => rfl
  | x :: xs, kk, h => by
    unfold keysK at h
    split at h
    · rename_i a as q1 q2
      simp only [fzs, Bool.and_eq_true]
      refine ⟨?_, keysK_fz q2⟩
      cases x <;> first | rfl | simp [keyK] at q1
    · cases h
theorem keyT_fz {d : D} {kk : List Key} (h : keyT d = some kk) : d.fz = true := by
  cases d with
  | tup xs => exact keysK_fz h
  | _ => cases h
def dctEl (fk fv : M D) (acc : List (List Key) × List D) : M (List (List Key) × List D) := fun e => if decide (acc.1.length < 16777216) = true then bnd fk (fun kd => bnd fv fun vd => opt (match keyT kd with
  | some kk => if vd.fz = true then some (putD acc kk vd) else none
  | none => none)) e else .bad
def fDct (vs : List Nat) (i : M ItR) (t : Tg) (c : M Bool) (fk fv : M D) : M D := bnd i fun r => noR (bnd (lcGo vs t c (dctEl fk fv) r.its ([], [])) fun kx => ret (.dt true kx.1 kx.2))
def hdT (acc : List (List Key) × List D) : D := .dt true acc.1 acc.2
/-- a key at hand is put -/
theorem SS.putT1 {Z : Zs} {H : Hp} {σ : L2.St} {e : Env} {vd kd : D} {acc : List (List Key) × List D} {hs : List D} {y z w : V} {vh : List V} {oe od : List Addr} {kk : List Key} (hkk : keyT kd = some kk) (hf : vd.fz = true) (a : SS k Z H σ e (vd :: kd :: hdT acc :: hs) (z :: y :: w :: vh) oe od) :
    ∃ p kvs od', w = .ref p ∧ (∃ kb, y = .ref kb ∧ H kb = some (.tup (kk.map kV))) ∧ H p = some (.dT kvs) ∧ kvs.length = acc.1.length ∧ SS k Z (upd H p (.dT (putK kvs kk z))) σ e (hdT (putD acc kk vd) :: hs) (.ref p :: vh) oe od' ∧ (∀ x ∈ od', x ∈ od) ∧ Stp k Z H (oe ++ od) Z (upd H p (.dT (putK kvs kk z))) (oe ++ od') := by
  obtain ⟨ks, xs⟩ := acc
  obtain ⟨o1, o2, rfl, rv, rr1⟩ := a.rp.head
  have e1 := rv.fz0 hf
  subst e1
  obtain ⟨o3, o4, rfl, rk, rr2⟩ := rr1.head
  have e3 := rk.fz0 (keyT_fz hkk)
  subst e3
  obtain ⟨o5, o6, rfl, rd, rh⟩ := rr2.head
  have a' : SS k Z H σ e (hdT (ks, xs) :: hs) (w :: vh) oe (o5 ++ o6) := ⟨a.er, .cons rd rh, a.nd, a.dz, a.zt⟩
  cases rd with
  | @dtO p _ _ kvs os0 e0 ek rx =>
    have nn := List.nodup_append.mp a'.nd
    have n1 := List.nodup_append.mp nn.2.1
    have n2 := List.nodup_cons.mp n1.1
    have nz : ¬ Z p := a'.dz p (by simp)
    have pe : p ∉ oe := fun q => nn.2.2 p q p (by simp) rfl
    have ph : p ∉ o6 := fun q => n1.2.2 p (by simp) p q rfl
    have L1 : Later k Z H os0 Z (upd H p (.dT (putK kvs kk z))) := later_own e0 trivial nz n2.1
    have L2 : Later k Z H o6 Z (upd H p (.dT (putK kvs kk z))) := later_own e0 trivial nz ph
    have L3 : Later k Z H [] Z (upd H p (.dT (putK kvs kk z))) := later_own e0 trivial nz fun z => nomatch z
    obtain ⟨M, f1, f2, f3, f4⟩ := (later_own e0 trivial nz pe : Later k Z H oe Z (upd H p (.dT (putK kvs kk z))))
    obtain ⟨g1, o7, g2, sub⟩ := put_rep (kk := kk) ek (L1.reps rx) (L3.rep rv) fun _ => rfl
    rw [List.append_nil] at g2
    have fr : Fr k [p] Z H Z (upd H p (.dT (putK kvs kk z))) := fr_own e0
    have s7 : (p :: o7).Sublist (p :: os0) := sub.cons_cons p
    have s8 : (oe ++ ((p :: o7) ++ o6)).Sublist (oe ++ ((p :: os0) ++ o6)) := List.Sublist.append (List.Sublist.refl _) (List.Sublist.append s7 (List.Sublist.refl _))
    refine ⟨p, kvs, (p :: o7) ++ o6, rfl, keyT_rep rk hkk, e0, by rw [← ek, List.length_map], ⟨a.er.step f1 f2 f3 f4, .cons (.dtO upd_same g1 g2) (L2.reps rh), a'.nd.sublist s8, fun x hx => a'.dz x (s8.subset hx), fun x z => fr.tr x (a.zt x z)⟩, fun x hx => (List.Sublist.append s7 (List.Sublist.refl o6)).subset hx, ⟨fun b o h n t => fr.fr b o h (fun q => n (by rw [List.mem_singleton.mp q]; simp)) t, fun _ z => z, fr.tr, fr.tb⟩, fun _ z => .inl z, fun x hx => .inl (s8.subset hx)⟩
theorem dct_keep {F : Zs → Hp → List Addr → (List (List Key) × List D) → Env → Prop} (FC : FnC k F) {vs : List Nat} {fk fv : M D} {m : (List (List Key) × List D) → M (List (List Key) × List D)} (hm : ∀ acc e, m acc (wipeE e vs) = m acc e) {σ σ2 : L2.St} {acc : List (List Key) × List D} {hs : List D} {vh : List V} {Z : Zs} {H : Hp} {e : Env} {oe od : List Addr} {p : Addr} {NX : Hp → Prop}
    (hw : wipe σ2 vs = wipe σ vs) (ss : SS k Z H σ2 e (hdT acc :: hs) (.ref p :: vh) oe od) (q : rO (bnd (dctEl fk fv acc) m e) (F Z H (oe ++ od)))
    (next : ∀ Z e acc oe od H, SS k Z H σ e (hdT acc :: hs) (.ref p :: vh) oe od → rO (m acc e) (F Z H (oe ++ od)) → NX H) :
    tE k WF fk σ2 H fun y H4 => tE k WF fv σ2 H4 fun z H5 => ∃ kvs kk kb, y = .ref kb ∧ H5 kb = some (.tup (kk.map kV)) ∧ H5 p = some (.dT kvs) ∧ kvs.length < sizeLine ∧ NX (upd H5 p (.dT (putK kvs kk z))) := by
  have q1 := rO.bnd q
  unfold dctEl at q1
  by_cases hz : decide (acc.1.length < 16777216) = true
  · rw [if_pos hz] at q1
    have q2 := rO.bnd q1
    refine ⟨Z, e, oe, ss.drop, q2.rE.imp fun kd e2 q3 => ?_⟩
    intro Z5 H5 us oe5 od5 s5 st5
    obtain ⟨y, rfl, ry⟩ := s5.rp.one'
    refine ⟨y, rfl, ?_⟩
    have s6 := ss.join s5 st5
    have b6 : Stp k Z H (oe ++ od) Z5 H5 (oe5 ++ (od5 ++ od)) := by
      rw [← List.append_assoc]
      exact st5.wide od
    have q4 := rO.bnd q3
    refine ⟨Z5, e2, oe5, s5.drop, q4.rE.imp fun vd e3 q5 => ?_⟩
    intro Z7 H7 us oe7 od7 s7 st7
    obtain ⟨z, rfl, rz⟩ := s7.rp.one'
    refine ⟨z, rfl, ?_⟩
    have s8 := s6.join s7 st7
    have b8 : Stp k Z H (oe ++ od) Z7 H7 (oe7 ++ (od7 ++ (od5 ++ od))) := by
      have := b6.trans (st7.wide (od5 ++ od)) fun x hx => hx
      rw [List.append_assoc] at this
      exact this
    cases q6 : keyT kd with
    | none => rw [q6] at q5; exact (show False from q5).elim
    | some kk =>
      rw [q6] at q5
      by_cases hf : vd.fz = true
      · simp only [hf, if_true] at q5
        obtain ⟨p', kvs, od', e1, ⟨kb, ey, eb⟩, h1, h2, s9, sub9, st9⟩ := (show SS k Z7 H7 σ2 e3 (vd :: kd :: hdT acc :: hs) (z :: y :: .ref p :: vh) oe7 (od7 ++ (od5 ++ od)) from s8).putT1 q6 hf
        cases e1
        obtain ⟨oe10, s10, sub10⟩ := s9.turn hw
        refine ⟨kvs, kk, kb, ey, eb, h1, by rw [h2]; exact line_lt hz, next Z7 _ _ oe10 od' _ s10 ?_⟩
        rw [hm]
        have b9 := b8.trans st9 fun a ha => ha
        exact (show rO (m (putD acc kk vd) e3) (F Z H (oe ++ od)) from q5).imp fun acc' e' f => FC _ _ _ _ _ _ _ _ _ f b9 fun a ha => (List.mem_append.mp ha).elim (fun z => List.mem_append_left _ (sub10.subset z)) fun z => List.mem_append_right _ z
      · rw [Bool.not_eq_true] at hf
        rw [hf] at q5
        exact (show False from q5).elim
  · rw [if_neg hz] at q1; exact (show False from q1).elim
theorem SS.dictT {Z : Zs} {H : Hp} {σ : L2.St} {e : Env} {hs : List D} {vh : List V} {oe od : List Addr} {p : Addr} (ss : SS k Z H σ e hs vh oe od) (hp : H p = none) : SS k Z (upd H p (.dT [])) σ e (hdT ([], []) :: hs) (.ref p :: vh) oe (p :: od) ∧ Stp k Z H (oe ++ od) Z (upd H p (.dT [])) (oe ++ (p :: od)) := by
  have s := ss.grow (same_new (o := .dT []) hp)
  have ne : p ∉ oe := fun q => ss.er.trk p q hp
  have nd : p ∉ od := fun q => ss.rp.trk p q hp
  have nn := List.nodup_append.mp ss.nd
  have r : Rep k Z (upd H p (.dT [])) (hdT ([], [])) (.ref p) [p] := .dtO (kvs := []) upd_same rfl .nil
  refine ⟨⟨s.er, Reps.cons r s.rp, List.nodup_append.mpr ⟨nn.1, List.nodup_cons.mpr ⟨nd, nn.2.1⟩, fun a ha b hb e => ?_⟩, fun a ha z => ?_, s.zt⟩, ⟨fun a u h _ _ => same_new hp a u h, fun _ z => z, (same_fr (k := k) (same_new hp) (Z := Z)).tr, fun t => LamX.Tabs.ext t (same_new hp)⟩, fun _ z => .inl z, fun a ha => ?_⟩
  · subst e
    rcases List.mem_cons.mp hb with q | q
    · subst q; exact ne ha
    · exact nn.2.2 a ha a q rfl
  · rcases List.mem_append.mp ha with q | q
    · exact ss.dz a (List.mem_append_left _ q) z
    · rcases List.mem_cons.mp q with q | q
      · subst q; exact ss.zt a z hp
      · exact ss.dz a (List.mem_append_right _ q) z
  · rcases List.mem_append.mp ha with q | q
    · exact .inl (List.mem_append_left _ q)
    · rcases List.mem_cons.mp q with q | q
      · subst q; exact .inr hp
      · exact .inl (List.mem_append_right _ q)
def fnET (k : Kx) (σ : L2.St) (Q : VK) : Zs → Hp → List Addr → (List (List Key) × List D) → Env → Prop := fun Z H o acc e => okEnd k Z H o σ [hdT acc] e fun vs H' => ∃ v, vs = [v] ∧ Q v H'
theorem fnET_c {σ : L2.St} {Q : VK} : FnC k (fnET k σ Q) := fun Z H o acc e Z' H' oa o' h st s => okEnd.after h st s
theorem dct_end {σ : L2.St} {Q : VK} {Z : Zs} {H : Hp} {e : Env} {acc : List (List Key) × List D} {hs : List D} {vh : List V} {oe od : List Addr} {p : Addr} {vs : List Nat} (ss : SS k Z H σ e (hdT acc :: hs) (.ref p :: vh) oe od) (q : fnET k σ Q Z H (oe ++ od) acc (wipeE e vs)) : Q (.ref p) H := by
  obtain ⟨o1, o2, rfl, r1, r2⟩ := ss.rp.head
  obtain ⟨o, r, s⟩ := ss.er.nones vs
  have nn := List.nodup_append.mp ss.nd
  obtain ⟨v, e', hq⟩ := q Z H [.ref p] o o1 ⟨r, .one r1, List.nodup_append.mpr ⟨nn.1.sublist s, (List.nodup_append.mp nn.2.1).1, fun a ha b hb => nn.2.2 a (s.subset ha) b (List.mem_append_left _ hb)⟩, fun a ha => ss.dz a ((List.mem_append.mp ha).elim (fun z => List.mem_append_left _ (s.subset z)) fun z => List.mem_append_right _ (List.mem_append_left _ z)), ss.zt⟩
    ((Stp.refl _ _ _).sub fun a ha => (List.mem_append.mp ha).elim (fun z => List.mem_append_left _ (s.subset z)) fun z => List.mem_append_right _ (List.mem_append_left _ z))
  cases e'
  exact hq
theorem tDct_of {vs : List Nat} {i : M ItR} {t : Tg} {c : M Bool} {fk fv : M D} {σ : L2.St} {H : Hp} {Q : VK} (q : tE k W (fDct vs i t c fk fv) σ H Q) : tDcT (tIt k W i) (gG k vs t) (tT k WF c) (tE k WF fk) (tE k WF fv) vs σ H Q := by
  obtain ⟨Z, e, oe, ss, q⟩ := q
  refine ⟨Z, e, oe, ss, (rE.bnd q).imp fun r e1 q1 => ?_⟩
  intro Z1 H1 vh oe1 od1 J G Y s1 st1 w hG hY p hp
  have q2 := rO.bnd (rO_noR q1)
  obtain ⟨s2, st2⟩ := s1.dictT hp
  have b2 := st1.trans st2 fun a ha => ha
  refine lc_it1 w (B := fun Nx x H' => gG k vs t x (wipe σ vs) H' fun σ2 H2 => wipe σ2 vs = wipe σ vs ∧ tT k WF c σ2 H2 fun b H3 => if b = true then tE k WF fk σ2 H3 fun y H4 => tE k WF fv σ2 H4 fun z H5 => ∃ kvs kk kb, y = .ref kb ∧ H5 kb = some (.tup (kk.map kV)) ∧ H5 p = some (.dT kvs) ∧ kvs.length < sizeLine ∧ Nx (upd H5 p (.dT (putK kvs kk z))) else Nx H3)
    (Pv := fun i H => ∃ Z e acc oe od, SS k Z H σ e (hdT acc :: r.hold) (.ref p :: vh) oe od ∧ rO (lcGo vs t c (dctEl fk fv) (r.its.drop i) acc e) (fnET k σ Q Z H (oe ++ od)))
    ⟨Z1, e1, ([], []), oe1, p :: od1, s2, q2.imp fun acc' e' q3 => okEnd.after q3 b2 fun a ha => ha⟩
    (fun i H _ ⟨Z, e, acc, oe, od, s, _⟩ => hG Z H _ s.rp.head.choose_spec.choose_spec.2.2)
    (fun i x H2 H3 hi ⟨Z2, e2, acc, oe2, od2, s2, q2⟩ y => ?_)
    (fun H2 ⟨Z2, e2, acc, oe2, od2, s2, q2⟩ => ?_)
  · obtain ⟨d, g1, g2, g3⟩ := hY i x H2 H3 Z2 _ s2.rp.head.choose_spec.choose_spec.2.2 y hi
    rw [List.drop_eq_getElem_cons hi] at q2
    rw [List.getElem?_eq_getElem hi] at g1
    cases g1
    let NX : Hp → Prop := fun H => ∃ Z e acc oe od, SS k Z H σ e (hdT acc :: r.hold) (.ref p :: vh) oe od ∧ rO (lcGo vs t c (dctEl fk fv) (r.its.drop (i + 1)) acc e) (fnET k σ Q Z H (oe ++ od))
    exact lc_turn hdT (NX := NX) (TB := fun σ2 H3 => tE k WF fk σ2 H3 fun y H4 => tE k WF fv σ2 H4 fun z H5 => ∃ kvs kk kb, y = .ref kb ∧ H5 kb = some (.tup (kk.map kV)) ∧ H5 p = some (.dT kvs) ∧ kvs.length < sizeLine ∧ NX (upd H5 p (.dT (putK kvs kk z)))) fnET_c s2 g2 g3 q2
      (fun Z e oe od σ2 H hw s q => dct_keep (NX := NX) fnET_c (fun acc e => lcGo_wipe) hw s q fun Z e acc oe od H s q => ⟨Z, e, acc, oe, od, s, q⟩) fun Z e oe od H s q => ⟨Z, e, acc, oe, od, s, q⟩
  · rw [List.drop_length] at q2
    exact dct_end s2 q2
theorem ee_dct (hu : X.A.units + 1 < cLine) {kx vx tg iter : Expr} {ifs : List Expr} {scope : Scope} {own : List (Str × Nat)} {pos : Pos} {i : M ItR} {t : Tg} {c : M Bool} {fk fv : M D} (hc : X.calm = true) (hN : X.N.Nodup) (hi : PI X tg iter (tIt k W i)) (ok : BlkOk X.N X.env.scope scope own)
    (hg : ∀ (s : Shared) (H : Hp) (C : Addr) (cl : List (Str × Addr)) (fp : List Addr), PG (X.blk s H scope (compEnvC scope cl C X.env) fp) tg (gG k (own.map (·.2)) t)) (ht : ∀ (s : Shared) (H : Hp) (C : Addr) (cl : List (Str × Addr)) (fp : List Addr), PTs (X.blk s H scope (compEnvC scope cl C X.env) fp) ifs (tT k WF c))
    (hk : ∀ (s : Shared) (H : Hp) (C : Addr) (cl : List (Str × Addr)) (fp : List Addr), PE (X.blk s H scope (compEnvC scope cl C X.env) fp) kx (tE k WF fk))
    (he : ∀ (s : Shared) (H : Hp) (C : Addr) (cl : List (Str × Addr)) (fp : List Addr), PE (X.blk s H scope (compEnvC scope cl C X.env) fp) vx (tE k WF fv)) (hs : noSet iter = true) :
    PE X (.DictComp kx vx [⟨tg, iter, ifs, 0⟩] scope pos) (tE k W (fDct (own.map (·.2)) i t c fk fv)) := pe_mono (pe_dcT hu hc hN hi ok hg ht hk he (folded_of hs)) fun σ H Q q => tDct_of q
/-! ### {t: v}, t a tuple -/
def tDispT (tk tv : TE) : TE := fun σ H Q => ∀ p, H p = none → tPairs [(tk, tv)] σ (upd H p (.dT [])) fun ps H2 => ∃ y z kk b, ps = [(y, z)] ∧ y = .ref b ∧ H2 b = some (.tup (kk.map kV)) ∧ H2 p = some (.dT []) ∧ Q (.ref p) (upd H2 p (.dT [(kk, z)]))
theorem pe_dispT (hu : X.A.units + 1 < cLine) {ek ev : Expr} {tk tv : TE} {pos : Pos} (hk : PE X ek tk) (hv : PE X ev tv) : PE X (.Dict [some ek] [ev] pos) (tDispT tk tv) := by
  refine ⟨fun pn s σ H Q I q => ?_⟩
  have hn := I.hok.fresh (Nat.le_refl s.heap.objs.size)
  have I1 := I.laid (a := s.heap.objs.size) (o := .dT []) (h' := s.heap.push { cls := .type "dict", data := .dict #[] }) (t' := s.toks) (fun _ _ q => Heap.get?_push_of_some _ q) (Nat.le_refl _) (dt_empty s.heap I.big)
  have pp := pps_cons (pos := pos) hk hv pps_nil
  rw [arm_eval_Dict, show (evalEachOpt [some ek] X.env).zip ((evalEach [ev] X.env).map fun v => do let x ← v; standAt pos; pure x) = (pairTrees [some ek] [ev] X.env pos).map (fun p => (some p.1, p.2)) from rfl, dictDisplay_pairs _ (by simp [pairTrees]) (by simp [pairTrees])]
  refine wpAny_bind (wpAny_standAt (wpAny_bind (wpAny_subDictH (knd := tupleKind (mixKind X.prog X.w)) (Q := fun d s' => wpAny (model X.prog X.w) X.A (pure (Value.ref d)) (EP X pn σ Q) X.xe s') (show X.A.units < cLine by omega) (by simp [pairTrees]) ?_)))
  refine thn (pp.run pn _ σ _ _ I1 (q _ hn)) fun ws s2 ⟨ps, H2, I2, rel, y, z, kk, b, ep, ey, eb, e0, q2⟩ => ?_
  · subst ep ey
    cases rel with
    | @cons a c as cs h t =>
      cases t
      obtain ⟨u, r⟩ := c
      obtain ⟨h1, h2⟩ := h
      cases (show u = Value.ref b from h1)
      obtain ⟨zz, hd, xs, rl, dd⟩ := dt_of I2.hok e0
      cases rl
      refine ⟨[(kk, b, r)], ⟨rfl, rfl, key_of I2.hok eb, trivial⟩, dd, fun h' tk' dd' hs => wpAny_pure ⟨.ref s.heap.objs.size, _, ?_, rfl, q2⟩⟩
      obtain ⟨o, es, ep, hq, g2, g3, g4, _, g5⟩ := dd'
      exact d_write (t' := tk') I2 (by rw [e0]; exact trivial) hs ⟨o, hq⟩ ⟨(by show 1 ≤ sizeLine; rw [sizeLine_eq]; decide), hd, [(kk, b, r)], .cons ⟨rfl, by rw [upd_ne (ne_of eb e0 fun z => nomatch z)]; exact eb, h2⟩ .nil, o, es, ep, hq, g2, g3, g4, g5⟩
/-- {t: d}, t made as a tuple of ints and texts -/
def fDt1 (f : M D) (d : D) : M D := bnd f fun kd e => match keyT kd with
  | some kk => .ok (.dt true [kk] [d]) e
  | none => .bad
theorem ee_dt1 (hu : X.A.units + 1 < cLine) {f : M D} {d : D} {ek ev : Expr} {pos : Pos} (hp : PE X ek (tE k W f)) (hv : kcB d ev = true) : PE X (.Dict [some ek] [ev] pos) (tE k W (fDt1 f d)) := by
  refine pe_mono (pe_dispT hu hp (kc_ok hv).1) fun σ H Q ⟨Z, e, oe, ss, q⟩ a ha => ?_
  obtain ⟨s0, st0⟩ := ss.dictT ha
  refine ⟨Z, e, oe, s0.drop, ((rE.bnd q).after (oa := oe ++ [a]) (by simpa using st0) (fun x hx => List.mem_append_left _ hx) fun kd e1 h => h).imp fun kd e1 q1 => ?_⟩
  intro Z1 H1 vs oe1 od1 s1 st1
  obtain ⟨v, rfl, rv⟩ := s1.rp.one'
  refine ⟨v, rfl, ?_⟩
  cases q2 : keyT kd with
  | none => rw [q2] at q1; exact (show False from q1).elim
  | some kk =>
    rw [q2] at q1
    obtain ⟨b, ev, eb⟩ := keyT_rep rv q2
    have s2 := s0.join s1 st1
    have e0 : H1 a = some (.dT []) := by
      have r := (s0.push s1 st1).1
      obtain ⟨v', e', r1⟩ := r.one'
      cases e'
      cases r1 with
      | dtO h e r => 
        have : (_ : List (List Key × V)) = [] := List.map_eq_nil_iff.mp e
        rw [this] at h
        exact h
    have fz := rv.fz0 (keyT_fz q2)
    subst fz
    have s3 : SS k Z1 H1 σ e1 [hdT ([], [])] [.ref a] oe1 [a] := by
      obtain ⟨p1, p2, p3⟩ := s0.push s1 st1
      have n1 := (List.nodup_append.mp s1.nd).1
      exact ⟨s1.er, p1, List.nodup_append.mpr ⟨n1, by simp, fun x hx y hy e => p2 y hy (by rw [← e]; exact List.mem_append_left _ hx)⟩, fun x hx => (List.mem_append.mp hx).elim (fun z => s1.dz x (List.mem_append_left _ z)) fun z => p3 x z, s1.zt⟩
    obtain ⟨p', kvs, od', e1', ⟨kb, ey, eb'⟩, h1, h2, s9, sub9, st9⟩ := SS.putT1 (vd := d) (kd := kd) (y := v) (z := d.cv) q2 (by
      have := ((kc_ok (X := X) hv).2 k Z1 H1)
      unfold kcB at hv
      split at hv <;> first | rfl | cases hv) (⟨s3.er, Reps.cons (o1 := []) ((kc_ok (X := X) hv).2 k Z1 H1) (Reps.cons (o1 := []) rv s3.rp), s3.nd, s3.dz, s3.zt⟩ : SS k Z1 H1 σ e1 [d, kd, hdT ([], [])] [d.cv, v, .ref a] oe1 ([] ++ ([] ++ [a])))
    cases e1'
    rw [e0] at h1
    cases h1
    refine ⟨v, d.cv, kk, b, rfl, ev, eb, e0, ?_⟩
    have e5 : putK ([] : List (List Key × V)) kk d.cv = [(kk, d.cv)] := rfl
    rw [e5] at s9 st9
    have st5 : Stp k Z H oe Z1 (upd H1 a (.dT [(kk, d.cv)])) (oe1 ++ od') := by
      have b1 : Stp k Z H oe Z1 H1 (oe1 ++ [a]) := by
        have z1 : Stp k Z H oe Z (upd H a (.dT [])) (oe ++ [a]) := by simpa using st0
        have z2 := st1.wide [a]
        exact (z1.trans z2 fun x hx => hx).sub fun x hx => by
          rcases List.mem_append.mp hx with z | z
          · exact List.mem_append_left _ (List.mem_append_left _ z)
          · exact List.mem_append_right _ z
      exact b1.trans st9 fun x hx => by simpa using hx
    have s10 : SS k Z1 (upd H1 a (.dT [(kk, d.cv)])) σ e1 [.dt true [kk] [d]] [.ref a] oe1 od' := s9
    obtain ⟨v', e', hq⟩ := (show okEnd k Z H oe σ [.dt true [kk] [d]] e1 _ from q1) Z1 _ [.ref a] oe1 od' s10 st5
    cases e'
    exact hq
end
end Bp

/-! len(set(t)), t a tuple of tuples of ints -/
namespace L2
open PySem PySem.Spec PyProof.Rows
section
variable {P : Program} {w : World} {A : Around} {E : Value → Shared → Prop} {s : Shared}
set_option maxHeartbeats 3200000 in
theorem call_set_tupsT {l : Addr} {items : Array Value} (ks : List (Addr × List Int)) {Q : Value → Shared → Prop} (hh : A.handled = none) (hl : s.heap.IsTuple l items) (hit : items.toList = ks.map fun p => Value.ref p.1)
    (hk : ∀ p ∈ ks, IsT P w s.heap p.2 p.1) (hfew : ks.length < 64) (hu : A.units + 3 < cLine)
    (h : ∀ (h' : Heap) (tk : Nat) L es ep t, SetTR P w h' s.heap.objs.size L es ep t → Got ks ks.length L → (∀ b o, s.heap.get? b = some o → h'.get? b = some o) → Q (.ref s.heap.objs.size) { s with heap := h', toks := tk }) :
    wpAny (model P w) A (call (.type "set") [.ref l]) Q E s := by
  have hisz : items.size = ks.length := by
    have q := congrArg List.length hit
    rw [Array.length_toList, List.length_map] at q
    exact q
  obtain ⟨c, tl, hmro⟩ := F.called_set.mro
  have hmade := F.called_set.made
  have hsub := F.called_set.sub
  refine wpAny_call (codeAny_of_tree ?_)
  show wpAny _ _ (callAny (.type "set") _) _ _ _
  refine wpAny_pure ⟨Code.quiet_builtin _ (by decide +kernel), codeAny_builtin F.entry_type_call ?_⟩
  rw [Around.under_plain (weight_type_call_type "set" [.ref l] []) rfl]
  have h1 := F.called_set.notType
  have h2 := F.called_set.canCreate
  have hct := F.typeCall_set_1 (.ref l)
  repeat (any_goals (first | assumption | wp_step))

  refine codeAny_mono (code_set_led1 (.ref l) (E := E) (Q₁ := fun obj s₁ => obj = .ref s.heap.objs.size ∧ s₁ = { s with heap := s.heap.push { cls := .type "set", dict := none, data := .set #[] 0 (.fresh 0 0 (!w.params.followText "set-order")) } }) ⟨rfl, rfl⟩) fun r s₁ hr => ?_
  cases r with
  | error e => exact hr
  | ok fl =>
    cases fl with
    | ret obj =>
      obtain ⟨rfl, rfl⟩ := hr
      have hS : (s.heap.push { cls := .type "set", dict := none, data := .set #[] 0 (.fresh 0 0 (!w.params.followText "set-order")) }).get? s.heap.objs.size = some { cls := .type "set", dict := none, data := .set #[] 0 (.fresh 0 0 (!w.params.followText "set-order")) } := Heap.get?_push_size _ rfl
      have hT : Shared.TypeIs { s with heap := s.heap.push { cls := .type "set", dict := none, data := .set #[] 0 (.fresh 0 0 (!w.params.followText "set-order")) } } (.ref s.heap.objs.size) "set" := ⟨_, hS, rfl⟩
      have hli := F.called_set.init.lookup
      have hbi := F.called_set.init.bind (.ref s.heap.objs.size)
      repeat (any_goals (first | assumption | wp_step))

      refine codeAny_mono (codeAny_call_builtin (R := wants (fun r s₂ => r = .none ∧ ∃ h' tk L es ep t, s₂ = { s with heap := h', toks := tk } ∧ SetTR P w h' s.heap.objs.size L es ep t ∧ Got ks ks.length L ∧
          (∀ b o, s.heap.get? b = some o → h'.get? b = some o)) E) F.called_set.init.plain F.entry_set_init (check_set_init_1 hT ?_)) fun r₂ s₂ hr₂ => ?_
      · obtain ⟨ol, hol, hcl, nl, hdl⟩ := hl
        obtain ⟨ocls, odict, odata, oslots⟩ := ol
        simp only at hcl hdl
        subst hcl; subst hdl
        have hol' : (s.heap.push { cls := .type "set", dict := none, data := .set #[] 0 (.fresh 0 0 (!w.params.followText "set-order")) }).get? l = some { cls := .type "tuple", dict := odict, data := .seq items nl, slots := oslots } := Heap.get?_push_of_some _ hol
        have hsls := F.sub_tuple_set
        have hslf := F.sub_tuple_frozenset
        have hne : (Value.type "tuple" == Value.type "dict") = false := by decide
        have hl1 : (s.heap.push { cls := .type "set", dict := none, data := .set #[] 0 (.fresh 0 0 (!w.params.followText "set-order")) }).IsTuple l items := ⟨_, hol', rfl, nl, rfl⟩
        unfold Builtin.«set.__init__» noKeywords Builtin.Frozenset.updateFrom
        generalize hPI : pyIter = PI
        wp_walk
        subst hPI

        refine wpAny_pyIter_tuple hl1 ?_
        refine wpAny_bind (wpAny_runValue ?_)
        have hlS : l < s.heap.objs.size := Heap.lt_size hol
        have hh3 : A.in1.in1.in1.handled = none := by simp [hh]
        have hz1 : (s.heap.push { cls := .type "set", dict := none, data := .set #[] 0 (.fresh 0 0 (!w.params.followText "set-order")) }).objs.size = s.heap.objs.size + 1 := Heap.size_push ..
        have hneI : l ≠ (s.heap.push { cls := .type "set", dict := none, data := .set #[] 0 (.fresh 0 0 (!w.params.followText "set-order")) }).objs.size := by
          rw [Heap.size_push]; exact Nat.ne_of_lt (Nat.lt_succ_of_lt hlS)
        have hSf : s.heap.objs.size ∉ [(s.heap.push { cls := .type "set", dict := none, data := .set #[] 0 (.fresh 0 0 (!w.params.followText "set-order")) }).objs.size, l] := by
          rw [Heap.size_push]; simp only [List.mem_cons, List.mem_singleton, List.not_mem_nil, or_false, not_or]
          exact ⟨Nat.ne_of_lt (Nat.lt_succ_self _), Nat.ne_of_gt hlS⟩
        have hval : ∀ (i : Nat) (v : Value), items[i]? = some v → ∃ p, ks[i]? = some p ∧ v = .ref p.1 := fun i v hv => by
          have q : items.toList[i]? = some v := by rw [Array.getElem?_toList]; exact hv
          rw [hit, List.getElem?_map] at q
          cases hq : ks[i]? with
          | none => rw [hq] at q; cases q
          | some p =>
            rw [hq] at q
            exact ⟨p, rfl, (Option.some.inj q).symm⟩
        have none_of : ∀ b, s.heap.objs.size ≤ b → s.heap.get? b = none := fun b hb => by
          cases q : s.heap.get? b with
          | none => rfl
          | some o => exact absurd (Nat.lt_of_lt_of_le (Heap.lt_size q) hb) (Nat.lt_irrefl _)
        refine set_update_tups ((Walks.tuple hh3 _ l hneI items).toS) s.heap.objs.size
          hSf ks hisz hfew hval s.heap hk (none_of _ (Nat.le_refl _)) (fun b hb => none_of b (by
            rw [List.mem_singleton.mp hb, Heap.size_push]
            exact Nat.le_succ _)) hu (items.size - 0) 0 _ (by omega) (Nat.zero_le _)
          ⟨⟨_, Heap.get?_push_size _ rfl, rfl, rfl⟩, (hl1.push _)⟩ (fun b o e => Heap.get?_push_of_some _ (Heap.get?_push_of_some _ e)) ?hS0 ?hR
        case hS0 =>
          have hget : ((s.heap.push { cls := .type "set", dict := none, data := .set #[] 0 (.fresh 0 0 (!w.params.followText "set-order")) }).push { cls := .type "tuple_iterator", data := .fields #[.ref l, .int 0 0] }).get? s.heap.objs.size
              = some { cls := .type "set", dict := none, data := .set #[] 0 (.fresh 0 0 (!w.params.followText "set-order")) } := Heap.get?_push_of_some _ hS
          exact ⟨[], #[], 0, _, setTR_fresh hget, Got.zero ks⟩
        case hR =>
          intro s' L es ep t hm hS' g' hkp
          obtain ⟨h', g2, d', tk', os'⟩ := s'
          have eg : g2 = s.gens := hm.gens
          have ed : d' = s.drawn := hm.drawn
          have eo : os' = s.os := hm.os
          subst eg; subst ed; subst eo
          show wpAny _ _ _ _ _ _
          refine wpAny_pure ?_
          show wpAny _ _ (ret Value.none) _ _ _
          rw [hisz] at g'
          exact wpAny_pure ⟨rfl, h', tk', L, es, ep, t, rfl, hS', g', hkp⟩

      · cases r₂ with
        | error e => exact hr₂
        | ok fl₂ =>
          cases fl₂ with
          | ret r =>
            obtain ⟨rfl, h', tk, L, es, ep, t, rfl, hS', g', hk'⟩ := hr₂
            repeat (any_goals (first | assumption | wp_step))
            exact h _ _ _ _ _ _ hS' g' hk'
          | _ => exact hr₂.elim
    | _ => exact hr.elim

end
end L2
namespace Bp
open PySem PySem.Spec PyProof.Rows L2
/-- the rows of ints -/
def tupsI : List D → Option (List (List Int))
  | [] => some []
  | d :: ds => match d with
    | .tup es => match intsOf es with
      | some is => match tupsI ds with
        | some r => some (is :: r)
        | none => none
      | none => none
    | _ => none
/-- how many different ones -/
def dcnt : List (List Int) → Nat
  | [] => 0
  | x :: xs => if xs.contains x = true then dcnt xs else dcnt xs + 1
def lsetS (ds : List D) : Option D := match ds with
  | [.tup xs] => match tupsI xs with
    | some ks => if ks.length < 64 then some (.int (dcnt ks)) else none
    | none => none
  | [.lst _ xs] => match tupsI xs with
    | some ks => if ks.length < 64 then some (.int (dcnt ks)) else none
    | none => none
  | _ => none
theorem tupsI_rep {k : Kx} {Z : Zs} {H : Hp} : ∀ {ds : List D} {vs : List V} {os : List Addr} {ks : List (List Int)}, Reps k Z H ds vs os → tupsI ds = some ks →
    ∃ ps : List (Addr × List Int), vs = ps.map (fun p => V.ref p.1) ∧ ps.map (·.2) = ks ∧ ∀ p ∈ ps, H p.1 = some (.tup (p.2.map V.int))
  | _, _, _, _, .nil, h => by cases h; exact ⟨[], rfl, rfl, fun p hp => nomatch hp⟩
  | _, _, _, _, .cons (d := d) (ds := ds) r t, h => by
    unfold tupsI at h
    split at h
    · rename_i es
      split at h
      · rename_i is q
        split at h
        · rename_i js q2
          cases h
          obtain ⟨ps, e1, e2, e3⟩ := tupsI_rep t q2
          cases r with
          | tup hh rr =>
            cases intsOf_rep rr q
            refine ⟨(_, is) :: ps, by rw [e1]; rfl, by rw [← e2]; rfl, fun p hp => ?_⟩
            rcases List.mem_cons.mp hp with z | z
            · rw [z]; exact hh
            · exact e3 p z
        · cases h
      · cases h
    · cases h
theorem nodup_len {α : Type} [BEq α] [LawfulBEq α] : ∀ {a b : List α}, a.Nodup → (∀ x ∈ a, x ∈ b) → a.length ≤ b.length
  | [], _, _, _ => Nat.zero_le _
  | x :: l, b, hn, hs => by
    obtain ⟨h1, h2⟩ := List.nodup_cons.mp hn
    have hx : x ∈ b := hs x List.mem_cons_self
    have ih := nodup_len (b := b.erase x) h2 fun y hy => by
      have hne : y ≠ x := fun e => h1 (e ▸ hy)
      exact (List.mem_erase_of_ne hne).2 (hs y (List.mem_cons_of_mem _ hy))
    have e := List.length_erase_of_mem hx
    have hp : 0 < b.length := List.length_pos_of_mem hx
    rw [List.length_cons]
    omega
theorem dcnt_is : ∀ (ks L : List (List Int)), L.Nodup → (∀ x, x ∈ L ↔ x ∈ ks) → L.length = dcnt ks
  | [], L, _, hm => by
    cases L with
    | nil => rfl
    | cons a r => exact nomatch (hm a).mp List.mem_cons_self
  | x :: xs, L, hn, hm => by
    unfold dcnt
    split
    · rename_i hc
      refine dcnt_is xs L hn fun y => (hm y).trans ⟨fun h => ?_, List.mem_cons_of_mem _⟩
      rcases List.mem_cons.mp h with e | e
      · rw [e]; exact List.contains_iff_mem.mp hc
      · exact e
    · rename_i hc
      have hx : x ∈ L := (hm x).mpr List.mem_cons_self
      have hx' : x ∉ xs := fun h => hc (List.contains_iff_mem.mpr h)
      have ih := dcnt_is xs (L.erase x) (hn.erase _) fun y => by
        rw [hn.mem_erase_iff, hm y, List.mem_cons]
        exact ⟨fun ⟨h1, h2⟩ => h2.elim (fun e => absurd e h1) id, fun h => ⟨fun e => hx' (e ▸ h), .inr h⟩⟩
      have e := List.length_erase_of_mem hx
      have hp : 0 < L.length := List.length_pos_of_mem hx
      omega
section
variable {X : Cx} {k : Kx} {T : Tb} {W : WX}
theorem pe_lset {a : Expr} {ta : TE} {p p2 q pos : Pos} (hu : X.A.units + 64 < cLine) (hc : X.calm = true) (hg : Gl X "len") (hm : X.mg "len" = none) (hg2 : Gl X "set") (hm2 : X.mg "set" = none) (ha : PE X a ta)
    (na : starEach [a] X.env = (false, eval a X.env) :: starEach [] X.env) : PE X (.Call (.Name "len" p) [.Call (.Name "set" p2) [a] [] q] [] pos) (fun σ H Q => ta σ H fun x H1 => ∃ (l : Addr) (ks : List (Addr × List Int)), x = V.ref l ∧ (H1 l = some (.tup (ks.map fun p => V.ref p.1)) ∨ H1 l = some (.lst (ks.map fun p => V.ref p.1))) ∧ (∀ p ∈ ks, H1 p.1 = some (.tup (p.2.map V.int))) ∧ ks.length < 64 ∧ Q (.int (dcnt (ks.map (·.2)))) H1) := by
  refine ⟨fun pins s σ H Q I h => ?_⟩
  refine Call_ (ld_blt I hg hm PySem.boot_len ?_)
  refine PyProof.Rows.callWith_builtin1 (PyProof.Rows.args_cons ?_ rfl) rfl rfl
  refine Call_ (ld_blt I hg2 hm2 PyProof.Rows.boot_set ?_)
  refine PyProof.Rows.callWith_type1 (PyProof.Rows.args_cons (thn (ha.run pins s σ H _ I h) fun v s1 ⟨x, H1, I1, r1, q1⟩ => PyProof.Rows.args_nil ?_) na) na rfl
  obtain ⟨l, ks, rfl, hq, hk, h1, q1⟩ := q1
  cases r1
  rcases hq with hq | hq
  · obtain ⟨its, r, pl, hz⟩ := I1.tuple (SqT.of hq)
    refine L2.call_set_tupsT ks (I1.ok.hd hc) pl (by simpa using refs_of_vals r) (fun p hp => I1.isT (SqT.of (hk p hp))) h1 (by omega) fun h' tk L es ep t hS g hk => ?_
    refine PyProof.Rows.args_nil ?_
    obtain ⟨o, ho, hex, hd⟩ := hS.ob
    have I2 : Inv X pins σ H1 { s1 with heap := h', toks := tk } := I1.kept fun b o e => hk b o e
    have hn : es.size = dcnt (ks.map (·.2)) := by
      rw [SetTR.size (s := { s1 with heap := h', toks := tk }) hS, ← List.length_map (f := (·.2))]
      refine dcnt_is _ _ hS.nd fun x => ⟨fun hx => ?_, fun hx => ?_⟩
      · obtain ⟨p, hp, rfl⟩ := List.mem_map.mp hx
        exact List.mem_map.mpr ⟨p, List.mem_of_mem_take (g.sub p hp), rfl⟩
      · obtain ⟨p, hp, rfl⟩ := List.mem_map.mp hx
        exact g.all p (by rw [List.take_length]; exact hp)
    refine call_len_set ho hex hd (SetTR.fits (s := { s1 with heap := h', toks := tk }) hS) (by have := SetTR.size (s := { s1 with heap := h', toks := tk }) hS; have := hS.few; omega) ⟨.int es.size, H1, I2.tok _, ⟨_, rfl⟩, by rw [hn]; exact q1⟩
  · obtain ⟨its, r, pl, hz⟩ := I1.list (SqL.of hq)
    refine call_set_tups ks (I1.ok.hd hc) pl.isList (by simpa using refs_of_vals r) (fun p hp => I1.isT (SqT.of (hk p hp))) h1 (by omega) fun h' tk L es ep t hS g hk => ?_
    refine PyProof.Rows.args_nil ?_
    obtain ⟨o, ho, hex, hd⟩ := hS.ob
    have I2 : Inv X pins σ H1 { s1 with heap := h', toks := tk } := I1.kept fun b o e => hk b o e
    have hn : es.size = dcnt (ks.map (·.2)) := by
      rw [SetTR.size (s := { s1 with heap := h', toks := tk }) hS, ← List.length_map (f := (·.2))]
      refine dcnt_is _ _ hS.nd fun x => ⟨fun hx => ?_, fun hx => ?_⟩
      · obtain ⟨p, hp, rfl⟩ := List.mem_map.mp hx
        exact List.mem_map.mpr ⟨p, List.mem_of_mem_take (g.sub p hp), rfl⟩
      · obtain ⟨p, hp, rfl⟩ := List.mem_map.mp hx
        exact g.all p (by rw [List.take_length]; exact hp)
    refine call_len_set ho hex hd (SetTR.fits (s := { s1 with heap := h', toks := tk }) hS) (by have := SetTR.size (s := { s1 with heap := h', toks := tk }) hS; have := hS.few; omega) ⟨.int es.size, H1, I2.tok _, ⟨_, rfl⟩, by rw [hn]; exact q1⟩
theorem ee_lset {e : Expr} {p p2 pos pos2 : Pos} {a : Ag} (hu : X.A.units + 64 < cLine) (hc : X.calm = true) (hg : Gl X "len") (hm : X.mg "len" = none) (hg2 : Gl X "set") (hm2 : X.mg "set" = none) (ha : PE X e (tAg k T W a)) (hs : stB e = false) : PE X (.Call (.Name "len" p) [.Call (.Name "set" p2) [e] [] pos2] [] pos) (tE k W (fB T lsetS [a])) :=
  pe_mono (pe_lset hu hc hg hm hg2 hm2 ha (starEach_cons hs)) fun σ H Q q => tAg_mono (tR_cons (tE_sem q)) fun v H1 q1 => by
    obtain ⟨Z, ds, d, rw', hs, q2⟩ := (show rSem k lsetS [v] H1 Q from q1)
    unfold lsetS at hs
    split at hs
    · rename_i xs
      split at hs
      · rename_i ks hk
        split at hs
        · rename_i hl
          cases hs
          obtain ⟨a, vs, os, rfl, g1, g2⟩ := rw'.1.tup
          obtain ⟨ps, e1, e2, e3⟩ := tupsI_rep g2 hk
          subst e1 e2
          rw [List.length_map] at hl
          exact ⟨a, ps, rfl, .inl g1, e3, hl, q2.int⟩
        · cases hs
      · cases hs
    · rename_i o xs
      split at hs
      · rename_i ks hk
        split at hs
        · rename_i hl
          cases hs
          obtain ⟨a, vs, os, rfl, g1, g2⟩ : ∃ a vs os, v = .ref a ∧ H1 a = some (.lst vs) ∧ Reps k Z H1 xs vs os := by
            obtain ⟨os, r⟩ := rw'.1
            cases r with
            | lstF z h r => exact ⟨_, _, _, rfl, h, r⟩
            | lstO h r => exact ⟨_, _, _, rfl, h, r⟩
          obtain ⟨ps, e1, e2, e3⟩ := tupsI_rep g2 hk
          subst e1 e2
          rw [List.length_map] at hl
          exact ⟨a, ps, rfl, .inr g1, e3, hl, q2.int⟩
        · cases hs
      · cases hs
    · cases hs
end
end Bp

/-! a, b, c = x, y, z; zip -/
namespace Bp
open PySem PySem.Spec PyProof.Rows L2 RZ
theorem filterMap_lt {α β : Type} {f : α → Option β} : ∀ {l : List α}, (∃ a ∈ l, f a = none) → (l.filterMap f).length < l.length
  | [], h => by obtain ⟨_, h, _⟩ := h; cases h
  | x :: l, h => by
    obtain ⟨a, ha, hf⟩ := h
    rcases List.mem_cons.mp ha with rfl | ha
    · rw [List.filterMap_cons_none hf, List.length_cons]
      have := List.length_filterMap_le f l
      omega
    · have := filterMap_lt (f := f) ⟨a, ha, hf⟩
      cases h : f x with
      | none => rw [List.filterMap_cons_none h, List.length_cons]; omega
      | some y => rw [List.filterMap_cons_some h, List.length_cons, List.length_cons]; omega
theorem sws_any {env : PySem.Env} {ts : List Expr} {pt : Pos} {kt : Nat} {e : Expr} (h : ∃ t ∈ ts, ∀ x p, t = .Name x p → env.kindOf x ≠ some .local) : swappedStores [.Tuple ts kt pt] e env = pure none := by
  cases e with
  | Tuple vs k2 p2 =>
    unfold swappedStores
    dsimp only
    split
    · rfl
    · split
      · rfl
      · rw [if_pos]
        rw [Bool.or_eq_true]
        refine .inl ?_
        rw [bne_iff_ne]
        refine Nat.ne_of_lt (filterMap_lt ?_)
        obtain ⟨t, ht, hx⟩ := h
        refine ⟨t, ht, ?_⟩
        split
        · rename_i x p
          have h' : (env.kindOf x == some .local) = false := beq_eq_false_iff_ne.mpr (hx x p rfl)
          rw [h', Bool.false_and]
          rfl
        · rfl
  | _ => rfl
section
variable {X : Cx} {k : Kx} {T : Tb} {W : WX} {A : List Nat}
theorem sw_par3 {env : PySem.Env} {x y z : Str} {px py pz pt pt2 : Pos} {kt k2 : Nat} {a b c : Expr} (hk : env.scope.kind = .function) (hx : env.scope.names.lookup x = some .local) (hy : env.scope.names.lookup y = some .local) (hz : env.scope.names.lookup z = some .local) (hl : (py.line == px.line) = true) (hl2 : (pz.line == px.line) = true)
    (hxy : (x == y) = false) (hxz : (x == z) = false) (hyz : (y == z) = false) (ha : stB a = false) (hb : stB b = false) (hcc : stB c = false)
    (hf : [a, b, c].all (foldedForSure 8) = false) (hc : [a, b, c].all (constantsAlone 8) = false) : swappedStores [.Tuple [.Name x px, .Name y py, .Name z pz] kt pt] (.Tuple [a, b, c] k2 pt2) env = pure (some [x, y, z]) := by
  have kx : env.kindOf x = some .local := hx
  have ky : env.kindOf y = some .local := hy
  have kz : env.kindOf z = some .local := hz
  have hB : env.blockKind = .function := by unfold Env.blockKind; rw [hk]; rfl
  have sy : ∀ {u v : Str}, (u == v) = false → (v == u) = false := fun h => by
    rw [beq_eq_false_iff_ne] at h ⊢
    exact fun z => h z.symm
  have hd : [x, y, z].eraseDups = [x, y, z] := by
    rw [List.eraseDups_cons]
    have : List.filter (fun b => !b == x) [y, z] = [y, z] := by simp [sy hxy, sy hxz]
    rw [this, List.eraseDups_cons]
    have : List.filter (fun b => !b == y) [z] = [z] := by simp [sy hyz]
    rw [this, List.eraseDups_cons]
    rfl
  unfold swappedStores
  simp only [hB, hf, hc, kx, ky, kz, hl, hl2, hd, List.length_cons, List.length_nil, List.head?_cons, Option.map_some, Option.getD_some, List.filterMap_cons, List.filterMap_nil, beq_self_eq_true, Bool.and_self, if_true, Expr.pos, bne_self_eq_false, Bool.false_eq_true, if_false, Bool.or_false, Bool.or_self, Bool.not_true, Bool.true_or]
  refine (if_neg (by decide)).trans (if_neg fun hh => ?_)
  have any : ∀ (g : Expr → Bool), (∀ e, g e = stB e) → [a, b, c].any g = false := fun g hg => by simp [hg, ha, hb, hcc]
  rw [any _ (fun e => by cases e <;> rfl)] at hh
  cases hh
theorem es_par3 {i j l : Nat} {x y z : Str} {a b c : Expr} {f g h : M D} {px py pz pt : Pos} {kt k2 : Nat} {pt2 pos : Pos} (hc : X.calm = true) (hN : X.N.Nodup) (hi : X.N[i]? = some x) (hj : X.N[j]? = some y) (hl : X.N[l]? = some z) (hij : i ≠ j) (hil : i ≠ l) (hjl : j ≠ l) (iA : i ∈ A) (jA : j ∈ A) (lA : l ∈ A)
    (hx : X.env.scope.names.lookup x = some .local) (hy : X.env.scope.names.lookup y = some .local) (hz : X.env.scope.names.lookup z = some .local) (ha : Paired (fun e f => PE X e (tE k W f) ∧ stB e = false) [a, b, c] [f, g, h])
    (hw : swappedStores [.Tuple [.Name x px, .Name y py, .Name z pz] kt pt] (.Tuple [a, b, c] k2 pt2) X.env = pure (some [x, y, z])) :
    PS X (.Assign [.Tuple [.Name x px, .Name y py, .Name z pz] kt pt] (.Tuple [a, b, c] k2 pt2) pos) (tS k A W (fPar [i, j, l] [f, g, h])) := by
  refine ps_mono (ps_par3 hc hN hi hj hl hij hil hjl hx hy hz (ee_args ha) hw swo_tup) fun D σ H ⟨Z, e, oe, ss, q⟩ => ⟨Z, e, oe, ss, ?_⟩
  refine (rS.bnd q).toE.imp fun ds e1 q1 => ?_
  intro Z1 H1 vs oe1 od1 s1 st1
  match ds, vs, s1 with
  | [d1, d2, d3], [v1, v2, v3], s1 =>
    refine ⟨v1, v2, v3, rfl, ?_⟩
    obtain ⟨oe2, od2, s2, sub2⟩ := s1.put1 (i := i)
    obtain ⟨oe3, od3, s3, sub3⟩ := s2.put1 (i := j)
    obtain ⟨oe4, od4, s4, sub4⟩ := s3.put1 (i := l)
    exact (show cEnd k A Z H oe σ D .nx _ from q1) Z1 H1 _ [] oe4 [] s4.drop (((KpE.set iA).trans (KpE.set jA)).trans (KpE.set lA)) (st1.sub fun x hx => sub2 x (sub3 x (sub4 x (List.mem_append_left _ (by simpa using hx)))))
  | [d1, d2, d3], [], s1 => have := s1.rp.len; simp at this
  | [d1, d2, d3], [_], s1 => have := s1.rp.len; simp at this
  | [d1, d2, d3], [_, _], s1 => have := s1.rp.len; simp at this
  | [d1, d2, d3], _ :: _ :: _ :: _ :: _, s1 => have := s1.rp.len; simp at this
  | [], _, _ => exact (show False from q1).elim
  | [_], _, _ => exact (show False from q1).elim
  | [_, _], _, _ => exact (show False from q1).elim
  | _ :: _ :: _ :: _ :: _, _, _ => exact (show False from q1).elim
/-! ### zip -/
def zipD (xs ys : List D) : List D := (xs.zip ys).map fun p => .tup [p.1, p.2]
def itZip (ds : List D) : M ItR := fun e => match ds with
  | [d1, d2] => (match seqO d1, seqO d2 with
    | some xs, some ys => if isTup d1 = isTup d2 then .ok ⟨[d1, d2], zipD xs ys⟩ e else .bad
    | _, _ => .bad)
  | _ => .bad
theorem zipD_len (xs ys : List D) : (zipD xs ys).length = min xs.length ys.length := by simp [zipD]
abbrev YZ (S : Hp → Addr → List V → Prop) (a b : Addr) : Nat → Hp → V → Hp → Prop := fun i H v H' => ∃ T x y, v = .ref T ∧ H T = none ∧ H' = upd H T (.tup [x, y]) ∧ (∀ xs, S H a xs → xs[i]? = some x) ∧ ∀ ys, S H b ys → ys[i]? = some y
abbrev GZ (S : Hp → Addr → List V → Prop) (a b : Addr) (n : Nat) : Hp → Prop := fun H => ∃ us ws, S H a us ∧ S H b ws ∧ min us.length ws.length = n
theorem walk_zT {K : PySem.W.Frag} {a b : Addr} {n : Nat} : Walk (ItzT K a b) n (GZ (SqT K) a b n) (YZ (SqT K) a b) :=
  ⟨fun i _ hi ⟨us, ws, p, q, e⟩ => ⟨us, ws, us[i]'(by omega), ws[i]'(by omega), p, q, by simp [show i < us.length by omega], by simp [show i < ws.length by omega]⟩, fun _ ⟨us, ws, p, q, e⟩ => ⟨us, ws, p, q, by omega⟩, fun _ _ _ _ _ _ y => y⟩
theorem walk_zL {K : PySem.W.Frag} {a b : Addr} {n : Nat} : Walk (Itz K a b) n (GZ (SqL K) a b n) (YZ (SqL K) a b) :=
  ⟨fun i _ hi ⟨us, ws, p, q, e⟩ => ⟨us, ws, us[i]'(by omega), ws[i]'(by omega), p, q, by simp [show i < us.length by omega], by simp [show i < ws.length by omega]⟩, fun _ ⟨us, ws, p, q, e⟩ => ⟨us, ws, p, q, by omega⟩, fun _ _ _ _ _ _ y => y⟩
theorem yok_zip {Z : Zs} {H : Hp} {xs ys : List D} {us ws : List V} {i : Nat} {x y : V} {T : Addr} (r : Reps k Z H xs us []) (r2 : Reps k Z H ys ws []) (hx : us[i]? = some x) (hy : ws[i]? = some y) (hi : i < (zipD xs ys).length) (hT : H T = none) :
    ∃ d, (zipD xs ys)[i]? = some d ∧ Same H (upd H T (.tup [x, y])) ∧ Rep k Z (upd H T (.tup [x, y])) d (.ref T) [] := by
  rw [zipD_len] at hi
  obtain ⟨d, c1, c2⟩ := yok_at r hx (by omega)
  obtain ⟨d', c3, c4⟩ := yok_at r2 hy (by omega)
  refine ⟨.tup [d, d'], ?_, same_new hT, .tup upd_same ?_⟩
  · unfold zipD
    have : (xs.zip ys)[i]? = some (d, d') := List.getElem?_zip_eq_some.mpr ⟨c1, c3⟩
    rw [List.getElem?_map, this]
    rfl
  · exact Reps.cons (o1 := []) (o2 := []) (c2.same (same_new hT)) (Reps.one (c4.same (same_new hT)))
theorem reps_two {Z : Zs} {H : Hp} {d1 d2 : D} {vs : List V} {os : List Addr} (r : Reps k Z H [d1, d2] vs os) : ∃ v1 v2 o1 o2, vs = [v1, v2] ∧ Rep k Z H d1 v1 o1 ∧ Rep k Z H d2 v2 o2 := by
  cases r with
  | cons h t =>
    obtain ⟨v, rfl, r2⟩ := t.one'
    exact ⟨_, v, _, _, rfl, h, r2⟩
theorem ei_zip (hk : k.K = X.K) {e e2 : Expr} {f g : M D} {p pos tpos : Pos} {elts : List Expr} {kk : Nat} (hg : Gl X "zip") (hm : X.mg "zip" = none) (h : PE X e (tE k W f)) (h2 : PE X e2 (tE k W g)) (hs : stB e = false) (hs2 : stB e2 = false) :
    PI X (.Tuple elts kk tpos) (.Call (.Name "zip" p) [e, e2] [] pos) (tIt k W (bnd (evL [f, g]) itZip)) := by
  have pa : PA X [e, e2] (tA k W (evL [f, g])) := ee_args (.cons ⟨h, hs⟩ (.cons ⟨h2, hs2⟩ .nil))
  refine pi_mono (pi_zipA hg hm pa (starEach_cons hs) (by rw [starEach_cons hs2]; rfl)) fun σ H R ⟨Z, env, oe, ss, q⟩ => ⟨Z, env, oe, ss, ?_⟩
  refine (rE.bnd q).imp fun ds e1 q1 => ?_
  intro Z' H' vs oe' od s' st
  have q2 : rE k W (itZip ds e1) Z H oe σ _ := q1
  unfold itZip at q2
  split at q2
  · rename_i d1 d2
    split at q2
    · rename_i xs ys hx hy
      split at q2
      · rename_i hT
        have q4 : ∀ Z' H' vh oe' od J G Y, SS k Z' H' σ e1 [d1, d2] vh oe' od → Stp k Z H oe Z' H' (oe' ++ od) → Walk J (zipD xs ys).length G Y → GOK k [d1, d2] vh G → YOK k [d1, d2] vh (zipD xs ys) Y → R J H' := q2
        obtain ⟨f1, h1⟩ := seqO_some hx
        obtain ⟨f2, h2⟩ := seqO_some hy
        obtain ⟨v1, v2, o1, o2, rfl, r1, r2⟩ := reps_two s'.rp
        by_cases t : isTup d1 = true
        · have t2 : isTup d2 = true := by rw [← hT]; exact t
          have e1 : d1 = .tup xs := by rcases h1 with h | ⟨o, h⟩ | h <;> rw [h] at t ⊢ <;> cases t
          have e2 : d2 = .tup ys := by rcases h2 with h | ⟨o, h⟩ | h <;> rw [h] at t2 ⊢ <;> cases t2
          subst e1 e2
          obtain ⟨a, ea⟩ : ∃ a, v1 = .ref a := by cases r1; exact ⟨_, rfl⟩
          obtain ⟨b, eb⟩ : ∃ b, v2 = .ref b := by cases r2; exact ⟨_, rfl⟩
          subst ea eb
          obtain ⟨us, _, a1, b1⟩ := hold_tup (K := X.K) (Reps.one r1)
          obtain ⟨ws, _, a2, b2⟩ := hold_tup (K := X.K) (Reps.one r2)
          refine ⟨a, b, us, ws, rfl, .inr ⟨a1, a2, q4 Z' H' _ oe' od _ _ _ s' st walk_zT (fun Z2 H2 os r => ?_) fun i x H2 H3 Z2 os r y hi => ?_⟩⟩
          · obtain ⟨w1, w2, p1, p2, ew, r3, r4⟩ := reps_two r
            cases ew
            obtain ⟨us, _, a1, b1⟩ := hold_tup (K := X.K) (Reps.one r3)
            obtain ⟨ws, _, a2, b2⟩ := hold_tup (K := X.K) (Reps.one r4)
            exact ⟨us, ws, a1, a2, by rw [zipD_len, b1.len, b2.len]⟩
          · obtain ⟨w1, w2, p1, p2, ew, r3, r4⟩ := reps_two r
            cases ew
            obtain ⟨us, _, a1, b1⟩ := hold_tup (K := X.K) (Reps.one r3)
            obtain ⟨ws, _, a2, b2⟩ := hold_tup (K := X.K) (Reps.one r4)
            obtain ⟨T, w, z, rfl, hT, rfl, y1, y2⟩ := y
            exact yok_zip (reps_fz f1 b1) (reps_fz f2 b2) (y1 us a1) (y2 ws a2) hi hT
        · have t2 : ¬ isTup d2 = true := by rw [← hT]; exact t
          have n1 : (∃ o, d1 = .lst o xs) ∨ d1 = .scr xs := by rcases h1 with h | h; exact absurd (by rw [h]; rfl) t; exact h
          have n2 : (∃ o, d2 = .lst o ys) ∨ d2 = .scr ys := by rcases h2 with h | h; exact absurd (by rw [h]; rfl) t2; exact h
          obtain ⟨a, ea⟩ := isref_seq n1 r1
          obtain ⟨b, eb⟩ := isref_seq n2 r2
          subst ea eb
          obtain ⟨us, _, a1, b1⟩ := hold_seq n1 (Reps.one r1)
          obtain ⟨ws, _, a2, b2⟩ := hold_seq n2 (Reps.one r2)
          rw [hk] at a1 a2
          refine ⟨a, b, us, ws, rfl, .inl ⟨a1, a2, q4 Z' H' _ oe' od _ _ _ s' st walk_zL (fun Z2 H2 os r => ?_) fun i x H2 H3 Z2 os r y hi => ?_⟩⟩
          · obtain ⟨w1, w2, p1, p2, ew, r3, r4⟩ := reps_two r
            cases ew
            obtain ⟨us, _, a1, b1⟩ := hold_seq n1 (Reps.one r3)
            obtain ⟨ws, _, a2, b2⟩ := hold_seq n2 (Reps.one r4)
            rw [hk] at a1 a2
            exact ⟨us, ws, a1, a2, by rw [zipD_len, b1.len, b2.len]⟩
          · obtain ⟨w1, w2, p1, p2, ew, r3, r4⟩ := reps_two r
            cases ew
            obtain ⟨us, _, a1, b1⟩ := hold_seq n1 (Reps.one r3)
            obtain ⟨ws, _, a2, b2⟩ := hold_seq n2 (Reps.one r4)
            rw [hk] at a1 a2
            obtain ⟨T, w, z, rfl, hT, rfl, y1, y2⟩ := y
            exact yok_zip (reps_fz f1 b1) (reps_fz f2 b2) (y1 us a1) (y2 ws a2) hi hT
      · exact (show False from q2).elim
    · exact (show False from q2).elim
  · exact (show False from q2).elim
end
end Bp

/-! the compact syntax, its evaluator, and the check against the text -/
namespace Bp
open PySem PySem.Spec PyProof.Rows L2

mutual
inductive C where
  | nv
  | rd (p : P0)
  | mov (i : Nat)
  | shr (i : Nat)
  | kc (d : D)
  | gl (i : Nat)
  | op (o : O2) (a b : Ar)
  | chn (o o' : O2) (a b : Ar) (c : P0)
  | not (a : C)
  | and (a b : C)
  | or (a b : C)
  | ife (t a b : C)
  | tup (es : List C)
  | lst (es : List C)
  | dk
  | dt
  | dk1 (p : P0) (d : D)
  | dt1 (c : C) (d : D)
  | sub (a i : Ar)
  | sli0 (a : Ar)
  | sliL (a l : Ar)
  | sliH (a l : Ar)
  | sli2 (a l h : Ar)
  | bf (b : Bf) (as : List Ar)
  | isi (t : Ty) (a : Ar)
  | lrg (a : Ar)
  | lset (a : Ar)
  | call (f : Nat) (as : List CA)
  | make (c : Nat) (as : List C)
  | mth (m : Mth) (i : Nat) (as : List C)
  | mthC (m : Mth) (p : P0) (qs : List P0)
  | lc (vs : List Nat) (i : Ir) (t : Tg) (c : List C) (e : C)
  | lc2 (vs vs1 : List Nat) (i : Ir) (t : Tg) (c : List C) (i1 : Ir) (t1 : Tg) (c1 : List C) (e : C)
  | dc (vs : List Nat) (i : Ir) (t : Tg) (c : List C) (k v : C)
  | dct (vs : List Nat) (i : Ir) (t : Tg) (c : List C) (k v : C)
  | sh (c : C)
inductive Ar where
  | pk (p : P0)
  | ev (c : C)
inductive CA where
  | ev (c : C)
  | ln (i : Nat)
inductive Ir where
  | c (c : C)
  | r1 (a : Ar)
  | r2 (a b : Ar)
  | en (c : C)
  | zp (a b : C)
end
inductive S where
  | nv
  | pass
  | brk
  | cnt
  | retN
  | ret (c : C)
  | expr (c : C)
  | set (i : Nat) (c : C)
  | setT (t : Tg) (c : C)
  | par2 (i j : Nat) (a b : C)
  | par3 (i j l : Nat) (a b c : C)
  | put2 (p q : P0) (c : C)
  | put1 (i : Nat) (ci c : C)
  | fld (i : Nat) (nm : Str) (c : C)
  | ife (t : C) (a b : List S)
  | for_ (i : Ir) (t : Tg) (b : List S)
  | whl (t : C) (b : List S)

/-- what the evaluator knows of the program round it -/
structure Gv where
  T : Tb
  I : List IsT
  cf : Nat → List D → R D
  con : Nat → Int
  ini : Nat → Nat

def cond (fs : List (M D)) : M Bool := match fs with
  | [] => cT
  | [f] => fT f
  | _ => fun _ => .bad
mutual
def evE (G : Gv) : C → M D
  | .nv => fun _ => .bad
  | .rd p => fRd G.T p
  | .mov i => fMov i
  | .shr i => fShr i
  | .kc d => fC d
  | .gl i => fC (.int (G.con i))
  | .op o a b => fOp G.T o (evG G a) (evG G b)
  | .chn o o' a b c => fChn G.T o o' (evG G a) (evG G b) c
  | .not a => fNot (fT (evE G a))
  | .and a b => fAnd (fT (evE G a)) (evE G b)
  | .or a b => fOr (fT (evE G a)) (evE G b)
  | .ife t a b => fIfE (fT (evE G t)) (evE G a) (evE G b)
  | .tup es => fTup (evMs G es)
  | .lst es => fLst (evMs G es)
  | .dk => fDk
  | .dt => fDt
  | .dk1 p d => fDk1 G.T p d
  | .dt1 c d => fDt1 (evE G c) d
  | .sub a i => fSub G.T (evG G a) (evG G i)
  | .sli0 a => fSli0 G.T (evG G a)
  | .sliL a l => fSliL G.T (evG G a) (evG G l)
  | .sliH a l => fSliH G.T (evG G a) (evG G l)
  | .sli2 a l h => fSli2 G.T (evG G a) (evG G l) (evG G h)
  | .bf b as => fB G.T (semB b) (evGs G as)
  | .isi t a => fB G.T (isiS G.I t) [evG G a]
  | .lrg a => fB G.T lrgS [evG G a]
  | .lset a => fB G.T lsetS [evG G a]
  | .call f as => fCall (G.cf f) (evKs G as)
  | .make c as => fMake c (G.cf (G.ini c)) (evMs G as)
  | .mth m i as => fMth m i (evMs G as)
  | .mthC m p qs => fMthC G.T m p qs
  | .lc vs i t c e => fLc vs (evI G i) t (cond (evMs G c)) (evE G e)
  | .lc2 vs vs1 i t c i1 t1 c1 e => fLc2 vs vs1 (evI G i) t (cond (evMs G c)) (evI G i1) t1 (cond (evMs G c1)) (evE G e)
  | .dc vs i t c k v => fDc vs (evI G i) t (cond (evMs G c)) (evE G k) (evE G v)
  | .dct vs i t c k v => fDct vs (evI G i) t (cond (evMs G c)) (evE G k) (evE G v)
  | .sh c => fSh (evE G c)
def evG (G : Gv) : Ar → Ag
  | .pk p => .pk p
  | .ev c => .ev (evE G c)
def evK (G : Gv) : CA → CAg
  | .ev c => .ev (evE G c)
  | .ln i => .ln i
def evI (G : Gv) : Ir → M ItR
  | .c c => fItC (evE G c)
  | .r1 a => bnd (evA G.T [evG G a]) rng1
  | .r2 a b => bnd (evA G.T [evG G a, evG G b]) rng2
  | .en c => bnd (evE G c) itEnum
  | .zp a b => bnd (evL [evE G a, evE G b]) itZip
def evMs (G : Gv) : List C → List (M D)
  | [] => []
  | c :: cs => evE G c :: evMs G cs
def evGs (G : Gv) : List Ar → List Ag
  | [] => []
  | c :: cs => evG G c :: evGs G cs
def evKs (G : Gv) : List CA → List CAg
  | [] => []
  | c :: cs => evK G c :: evKs G cs
end
mutual
noncomputable def evS (G : Gv) : S → M Ct
  | .nv => fun _ => .bad
  | .pass => fNx
  | .brk => ret .bk
  | .cnt => ret .ct
  | .retN => ret (.rt .non)
  | .ret c => fRet (evE G c)
  | .expr c => fDrop (evE G c)
  | .set i c => fSet i (evE G c)
  | .setT t c => fSetT t (evE G c)
  | .par2 i j a b => fPar [i, j] [evE G a, evE G b]
  | .par3 i j l a b c => fPar [i, j, l] [evE G a, evE G b, evE G c]
  | .put2 p q c => fPut2 G.T p q (evE G c)
  | .put1 i ci c => fPut1 G.T i (evE G ci) (evE G c)
  | .fld i nm c => fFld G.T i nm (evE G c)
  | .ife t a b => fIf (fT (evE G t)) (evSs G a) (evSs G b)
  | .for_ i t b => fFor (evI G i) t (evSs G b)
  | .whl t b => fWhile (fT (evE G t)) (evSs G b)
noncomputable def evSs (G : Gv) : List S → M Ct
  | [] => fNx
  | s :: ss => fSeq (evS G s) (evSs G ss)
end

/-! ### the check -/
structure Ck where
  N : List Str
  sc : Scope
  fn : Str → Bool
  /-- functions by name and number of parameters -/
  F : List (Str × Nat)
  /-- classes by name and number of parameters (self too) -/
  Cl : List (Str × Nat)
  /-- constants by name -/
  Cn : List Str
  /-- names of the built-ins that nobody binds -/
  Bl : List Str
def Ck.blk (k : Ck) (scope : Scope) : Ck := { k with sc := relS scope k.sc, fn := fun x => scope.names.lookup x == some .cell }
def bltNames : List Str := ["len", "abs", "int", "list", "tuple", "sorted", "all", "any", "sum", "max", "min", "isinstance", "range", "enumerate", "bool", "str", "dict", "set", "zip"]
def Ck.gl (k : Ck) (x : Str) : Bool := k.sc.names.lookup x == some .globalImplicit && !(x == ("__debug__" : Str))
def Ck.bl (k : Ck) (x : Str) : Bool := k.gl x && k.Bl.contains x && bltNames.contains x
def O2.isBin (o : O2) (p : Operator) : Bool := o.bin == some p
def O2.isCmp (o : O2) (p : CmpOp) : Bool := o.cmp == some p
def Ty.nm : Ty → Option Str
  | .bl => some "bool"
  | .int => some "int"
  | .str => some "str"
  | .tup => some "tuple"
  | .lst => some "list"
  | .dic => some "dict"
  | _ => none
def chkTy (k : Ck) (t : Ty) (e : Expr) : Bool := match e with
  | .Name x _ => match t with
    | .cls c => match k.Cl[c]? with
      | some (y, _) => x == y && k.gl x
      | none => false
    | t => match t.nm with
      | some y => x == y && k.bl x
      | none => false
  | _ => false
def ownOf (N : List Str) (vs : List Nat) : List (Str × Nat) := vs.map fun i => (N.getD i "", i)
mutual
def chkTg (k : Ck) (A : List Nat) : Tg → Expr → Bool
  | .nm i, e => match e with
    | .Name x _ => atN k.N i x && A.contains i && ((k.sc.names.lookup x == some .local) || (k.sc.names.lookup x == some .cell && k.fn x))
    | _ => false
  | .tp ts, e => match e with
    | .Tuple es _ _ => chkTgs k A ts es
    | _ => false
def chkTgs (k : Ck) (A : List Nat) : List Tg → List Expr → Bool
  | [], es => match es with
    | [] => true
    | _ => false
  | t :: ts, es => match es with
    | [] => false
    | e :: es => chkTg k A t e && !stB e && chkTgs k A ts es
end
def chkPs (k : Ck) : List P0 → List Expr → Bool
  | [], es => match es with
    | [] => true
    | _ => false
  | p :: ps, es => match es with
    | [] => false
    | e :: es => chkP k.N k.sc p e && !stB e && chkPs k ps es
def isTupE : Expr → Bool
  | .Tuple _ _ _ => true
  | _ => false
/-- an expression, or the rest of a row of and / or -/
inductive In where
  | e (x : Expr)
  | b (op : BoolOp) (es : List Expr)
def nrm : In → In
  | .b op es => match es with
    | [x] => .e x
    | es => .b op es
  | i => i
def eOf (t : Bool) (i : In) (f : Expr → Bool) : Bool := match nrm i with
  | .e e => (!t || plainT e) && f e
  | .b _ _ => false
def eOfT (i : In) (f : Expr → Bool) : Bool := match nrm i with
  | .e e => f e
  | .b _ _ => false
mutual
def chk (k : Ck) : C → Bool → In → Bool
  | .nv, _, _ => true
  | .rd p, tt, ii => eOf tt ii fun e => chkP k.N k.sc p e
  | .mov i, tt, ii => eOf tt ii fun e => match e with
    | .Name x _ => atN k.N i x && visB k.sc x
    | _ => false
  | .shr i, tt, ii => eOf tt ii fun e => match e with
    | .Name x _ => atN k.N i x && visB k.sc x
    | _ => false
  | .kc d, tt, ii => eOf tt ii fun e => kcB d e
  | .gl i, tt, ii => eOf tt ii fun e => match e with
    | .Name x _ => k.Cn[i]? == some x && k.gl x
    | _ => false
  | .op o a b, tt, ii => eOfT ii fun e => match e with
    | .BinOp x p y _ => !tt && O2.isBin o p && chkA k a x && chkA k b y
    | .Compare x [p] [y] _ => O2.isCmp o p && !behindInMarks p y && chkA k a x && chkA k b y
    | _ => false
  | .chn o o' a b c, tt, ii => eOfT ii fun e => match e with
    | .Compare x [p, p'] [y, z] _ => O2.isCmp o p && O2.isCmp o' p' && !lastMarks [p, p'] [y, z] && chkA k a x && chkA k b y && chkP k.N k.sc c z
    | _ => false
  | .not a, tt, ii => eOfT ii fun e => match e with
    | .UnaryOp .Not x _ => chk k a tt (.e x)
    | _ => false
  | .and a b, tt, ii => match nrm ii with
    | .e e => (match e with
      | .BoolOp .And (x :: y :: r) _ => chk k a tt (.e x) && chk k b tt (.b .And (y :: r))
      | _ => false)
    | .b op es => (match op, es with
      | .And, x :: y :: r => chk k a tt (.e x) && chk k b tt (.b .And (y :: r))
      | _, _ => false)
  | .or a b, tt, ii => match nrm ii with
    | .e e => (match e with
      | .BoolOp .Or (x :: y :: r) _ => chk k a tt (.e x) && chk k b tt (.b .Or (y :: r))
      | _ => false)
    | .b op es => (match op, es with
      | .Or, x :: y :: r => chk k a tt (.e x) && chk k b tt (.b .Or (y :: r))
      | _, _ => false)
  | .ife t a b, tt, ii => eOf tt ii fun e => match e with
    | .IfExp x y z _ => chk k t true (.e x) && chk k a false (.e y) && chk k b false (.e z)
    | _ => false
  | .tup es, tt, ii => eOf tt ii fun e => match e with
    | .Tuple xs _ _ => decide (es.length ≤ 1000) && chkL k es xs
    | _ => false
  | .lst es, tt, ii => eOf tt ii fun e => match e with
    | .List xs _ => decide (es.length ≤ 1000) && chkL k es xs
    | _ => false
  | .dk, tt, ii => eOf tt ii fun e => match e with
    | .Dict [] [] _ => true
    | _ => false
  | .dt, tt, ii => eOf tt ii fun e => match e with
    | .Dict [] [] _ => true
    | _ => false
  | .dk1 p d, tt, ii => eOf tt ii fun e => match e with
    | .Dict [some x] [y] _ => chkP k.N k.sc p x && kcB d y
    | _ => false
  | .dt1 c d, tt, ii => eOf tt ii fun e => match e with
    | .Dict [some x] [y] _ => chk k c false (.e x) && kcB d y
    | _ => false
  | .sub a i, tt, ii => eOf tt ii fun e => match e with
    | .Subscript x y _ => plainIxB y && chkA k a x && chkA k i y
    | _ => false
  | .sli0 a, tt, ii => eOf tt ii fun e => match e with
    | .Subscript x (.Slice none none none _) _ => chkA k a x
    | _ => false
  | .sliL a l, tt, ii => eOf tt ii fun e => match e with
    | .Subscript x (.Slice (some y) none none _) _ => chkA k a x && chkA k l y
    | _ => false
  | .sliH a l, tt, ii => eOf tt ii fun e => match e with
    | .Subscript x (.Slice none (some y) none _) _ => chkA k a x && chkA k l y
    | _ => false
  | .sli2 a l h, tt, ii => eOf tt ii fun e => match e with
    | .Subscript x (.Slice (some y) (some z) none _) _ => chkA k a x && chkA k l y && chkA k h z
    | _ => false
  | .bf b as, tt, ii => eOf tt ii fun e => match e with
    | .Call (.Name x _) (y :: ys) [] _ => x == b.nm && k.bl x && chkAs k as (y :: ys)
    | _ => false
  | .isi t a, tt, ii => eOf tt ii fun e => match e with
    | .Call (.Name x _) [y, z] [] _ => x == ("isinstance" : Str) && k.bl x && chkA k a y && !stB y && chkTy k t z
    | _ => false
  | .lrg a, tt, ii => eOf tt ii fun e => match e with
    | .Call (.Name x _) [.Call (.Name y _) [z] [] _] [] _ => x == ("list" : Str) && k.bl x && y == ("range" : Str) && k.bl y && chkA k a z && !stB z
    | _ => false
  | .lset a, tt, ii => eOf tt ii fun e => match e with
    | .Call (.Name x _) [.Call (.Name y _) [z] [] _] [] _ => x == ("len" : Str) && k.bl x && y == ("set" : Str) && k.bl y && chkA k a z && !stB z
    | _ => false
  | .call f as, tt, ii => eOf tt ii fun e => match e with
    | .Call (.Name x _) (y :: ys) [] _ => (match k.F[f]? with
      | some (z, n) => x == z && decide (as.length = n)
      | none => false) && k.gl x && chkKs k as (y :: ys)
    | _ => false
  | .make c as, tt, ii => eOf tt ii fun e => match e with
    | .Call (.Name x _) (y :: ys) [] _ => (match k.Cl[c]? with
      | some (z, n) => x == z && decide (as.length + 1 = n)
      | none => false) && k.gl x && chkL k as (y :: ys)
    | _ => false
  | .mth m i as, tt, ii => eOf tt ii fun e => match e with
    | .Call (.Attribute (.Name x _) nm ap) ys [] cp => atN k.N i x && visB k.sc x && nm == m.nm && decide (ys.length < 30) && (ap.endLine == cp.line) && chkL k as ys
    | _ => false
  | .mthC m p qs, tt, ii => eOf tt ii fun e => match e with
    | .Call (.Attribute x nm ap) ys [] cp => chkP k.N k.sc p x && noCall x && nm == m.nm && decide (ys.length < 30) && (ap.endLine == cp.line) && chkPs k qs ys
    | _ => false
  | .lc vs i t c f, tt, ii => eOf tt ii fun e => match e with
    | .ListComp el [⟨tg, it, ifs, 0⟩] scope _ => blkC k.N k.sc scope (ownOf k.N vs) && noSet it && chkI k i tg it && chkTg (k.blk scope) vs t tg && chkIf (k.blk scope) c ifs && chk (k.blk scope) f false (.e el)
    | _ => false
  | .lc2 vs vs1 i t c i1 t1 c1 f, tt, ii => eOf tt ii fun e => match e with
    | .ListComp el [⟨tg, it, ifs, 0⟩, ⟨tg1, it1, ifs1, 0⟩] scope _ => blkC k.N k.sc scope (ownOf k.N vs) && vs1.all vs.contains && noSet it && noSet it1 && chkI k i tg it && chkTg (k.blk scope) vs t tg && chkIf (k.blk scope) c ifs && chkI (k.blk scope) i1 tg1 it1 && chkTg (k.blk scope) vs1 t1 tg1 && chkIf (k.blk scope) c1 ifs1 && chk (k.blk scope) f false (.e el)
    | _ => false
  | .dc vs i t c a b, tt, ii => eOf tt ii fun e => match e with
    | .DictComp kx vx [⟨tg, it, ifs, 0⟩] scope _ => blkC k.N k.sc scope (ownOf k.N vs) && noSet it && chkI k i tg it && chkTg (k.blk scope) vs t tg && chkIf (k.blk scope) c ifs && chk (k.blk scope) a false (.e kx) && chk (k.blk scope) b false (.e vx)
    | _ => false
  | .dct vs i t c a b, tt, ii => eOf tt ii fun e => match e with
    | .DictComp kx vx [⟨tg, it, ifs, 0⟩] scope _ => blkC k.N k.sc scope (ownOf k.N vs) && noSet it && chkI k i tg it && chkTg (k.blk scope) vs t tg && chkIf (k.blk scope) c ifs && chk (k.blk scope) a false (.e kx) && chk (k.blk scope) b false (.e vx)
    | _ => false
  | .sh c, tt, ii => eOf tt ii fun e => chk k c false (.e e)
def chkA (k : Ck) : Ar → Expr → Bool
  | .pk p, e => chkP k.N k.sc p e
  | .ev c, e => chk k c false (.e e)
def chkL (k : Ck) : List C → List Expr → Bool
  | [], es => match es with
    | [] => true
    | _ => false
  | c :: cs, es => match es with
    | [] => false
    | e :: es => chk k c false (.e e) && !stB e && chkL k cs es
def chkAs (k : Ck) : List Ar → List Expr → Bool
  | [], es => match es with
    | [] => true
    | _ => false
  | c :: cs, es => match es with
    | [] => false
    | e :: es => chkA k c e && !stB e && chkAs k cs es
def chkK (k : Ck) : CA → Expr → Bool
  | .ev c, e => chk k c false (.e e) && !stB e
  | .ln i, e => match e with
    | .Name x _ => atN k.N i x && visB k.sc x
    | _ => false
def chkKs (k : Ck) : List CA → List Expr → Bool
  | [], es => match es with
    | [] => true
    | _ => false
  | c :: cs, es => match es with
    | [] => false
    | e :: es => chkK k c e && chkKs k cs es
def chkIf (k : Ck) : List C → List Expr → Bool
  | [], es => match es with
    | [] => true
    | _ => false
  | c :: cs, es => match es with
    | [e] => chk k c true (.e e) && cs.isEmpty
    | _ => false
def chkI (k : Ck) : Ir → Expr → Expr → Bool
  | .c c, _, e => chk k c false (.e e)
  | .r1 a, _, e => match e with
    | .Call (.Name x _) [y] [] _ => x == ("range" : Str) && k.bl x && chkA k a y && !stB y
    | _ => false
  | .r2 a b, _, e => match e with
    | .Call (.Name x _) [y, z] [] _ => x == ("range" : Str) && k.bl x && chkA k a y && !stB y && chkA k b z && !stB z
    | _ => false
  | .en c, tg, e => match e with
    | .Call (.Name x _) [y] [] _ => isTupE tg && x == ("enumerate" : Str) && k.bl x && chk k c false (.e y) && !stB y
    | _ => false
  | .zp a b, tg, e => match e with
    | .Call (.Name x _) [y, z] [] _ => isTupE tg && x == ("zip" : Str) && k.bl x && chk k a false (.e y) && !stB y && chk k b false (.e z) && !stB z
    | _ => false
end
end Bp

/-! the check is enough: expressions -/
namespace Bp
open PySem PySem.Spec PyProof.Rows L2

structure Gd (X : Cx) (k : Kx) (G : Gv) (W : WX) (j : Nat) (c : Ck) : Prop where
  hk : k.K = X.K
  tb : TbOk k G.T
  is : IsOk k G.I
  rm : Room (j + 1) X.A
  cm : X.calm = true
  nd : X.N.Nodup
  tk : Takes X W
  N : X.N = c.N
  sc : X.env.scope = c.sc
  kd : c.sc.kind = .function
  fn : X.fn = c.fn
  nb : ∀ x, c.Bl.contains x = true → X.mg x = none
  co : ∀ (i : Nat) (x : Str), c.Cn[i]? = some x → ∃ u, X.mg x = some u ∧ RelV (.int (G.con i)) u
  fo : ∀ (f : Nat) (x : Str) (n : Nat), c.F[f]? = some (x, n) → ∃ a fd ps, X.mg x = some (.ref a) ∧ PySem.W.keepIn X.K (.ref a) = true ∧ Binds X.K fd ps [] ∧ FnOk X.prog X.w X.K X.mg X.base (L2.CX X.prog X.w) j a fd ps (spE k n (G.cf f))
  ko : ∀ (i : Nat) (x : Str) (n : Nat), c.Cl[i]? = some (x, n) → X.mg x = some (.ref (k.cA i)) ∧ ∃ a fd ps, Mk X.K (k.cA i) a ∧ Binds X.K fd ps [] ∧ FnOk X.prog X.w X.K X.mg X.base (L2.CX X.prog X.w) j a fd ps (spE k n (G.cf (G.ini i)))
theorem Gd.un {X : Cx} {k : Kx} {G : Gv} {W : WX} {j : Nat} {c : Ck} (g : Gd X k G W j c) : X.A.units + 80 < cLine := by
  have := g.rm.un
  omega
theorem takes_F {X : Cx} (s : Shared) (H : Hp) (scope : Scope) (env : PySem.Env) (fp : List Addr) : Takes (X.blk s H scope env fp) WF := fun u s' ⟨_, _, _, _, _, _, _, _, _, _, _, _, _, _, _, _, w⟩ => w
theorem relabel_is {scope : Scope} {env : PySem.Env} : relabel scope env = relS scope env.scope := rfl
theorem Gd.blk {X : Cx} {k : Kx} {G : Gv} {W : WX} {j : Nat} {c : Ck} (g : Gd X k G W j c) (scope : Scope) (hs : scope.kind = .function) (s : Shared) (H : Hp) (C : Addr) (cl : List (Str × Addr)) (fp : List Addr) : Gd (X.blk s H scope (compEnvC scope cl C X.env) fp) k G WF j (c.blk scope) :=
  ⟨g.hk, g.tb, g.is, g.rm, g.cm, g.nd, takes_F s H scope _ fp, g.N, by show relabel scope X.env = relS scope c.sc; rw [relabel_is, g.sc], hs, rfl, g.nb, g.co, g.fo, g.ko⟩
section
variable {X : Cx} {k : Kx} {G : Gv} {W : WX} {j : Nat} {ck : Ck}
theorem Gd.P (g : Gd X k G W j ck) {p : P0} {e : Expr} (h : chkP ck.N ck.sc p e = true) : PE X e (tP k G.T p) := pe_P0 g.hk g.tb g.un p e (by rw [g.N, g.sc]; exact h)
theorem Gd.gl (g : Gd X k G W j ck) {x : Str} (h : ck.gl x = true) : Gl X x ∧ (x == ("__debug__" : Str)) = false := by
  unfold Ck.gl at h
  simp only [Bool.and_eq_true, beq_iff_eq, Bool.not_eq_true'] at h
  refine ⟨?_, h.2⟩
  show X.env.scope.names.lookup x = some .globalImplicit
  rw [g.sc]
  exact h.1
theorem Gd.bl (g : Gd X k G W j ck) {x : Str} (h : ck.bl x = true) : Gl X x ∧ (x == ("__debug__" : Str)) = false ∧ X.mg x = none := by
  unfold Ck.bl at h
  simp only [Bool.and_eq_true] at h
  exact ⟨(g.gl h.1.1).1, (g.gl h.1.1).2, g.nb x h.1.2⟩
theorem Gd.nm (g : Gd X k G W j ck) {i : Nat} {x : Str} (h : atN ck.N i x = true) : X.N[i]? = some x := by rw [g.N]; exact atN_of h
theorem Gd.vs (g : Gd X k G W j ck) {x : Str} (h : visB ck.sc x = true) : visB X.env.scope x = true := by rw [g.sc]; exact h
theorem notDunder {x : Str} (h : bltNames.contains x = true) : x ≠ "__name__" := by
  intro e
  subst e
  revert h
  decide +kernel
theorem Bf.in_blt (b : Bf) : bltNames.contains b.nm = true := by cases b <;> decide +kernel
theorem Bf.boot (b : Bf) : bootBuiltins b.nm = some b.val := by cases b <;> decide +kernel
mutual
theorem eg_ok (g : Gd X k G W j ck) {A : List Nat} : ∀ (t : Tg) (e : Expr), chkTg ck A t e = true → PG X e (gG k A t)
  | .nm i, e, h => by
    unfold chkTg at h
    split at h
    · rename_i x pos
      simp only [Bool.and_eq_true, Bool.or_eq_true, beq_iff_eq] at h
      obtain ⟨⟨h1, h2⟩, h3⟩ := h
      refine eg_nm g.nd (g.nm h1) ?_ (by simpa using h2) ?_
      · show X.env.scope.names.lookup x = _ ∨ X.env.scope.names.lookup x = _
        rw [g.sc]
        exact h3.elim .inl fun q => .inr q.1
      · rw [g.sc, g.fn]
        exact h3.elim .inr fun q => .inl q.2
    · cases h
  | .tp ts, e, h => by
    unfold chkTg at h
    split at h
    · rename_i es n pos
      obtain ⟨a, b, c⟩ := egs_ok g ts es h
      exact eg_tp g.cm b c a
    · cases h
theorem egs_ok (g : Gd X k G W j ck) {A : List Nat} : ∀ (ts : List Tg) (es : List Expr), chkTgs ck A ts es = true → PGs X es (gGs k A ts) ∧ ts.length = es.length ∧ es.all (fun e => !stB e) = true
  | [], es, h => by
    unfold chkTgs at h
    split at h
    · exact ⟨egs_nil, rfl, rfl⟩
    · cases h
  | t :: ts, es, h => by
    unfold chkTgs at h
    split at h
    · cases h
    · rename_i e es'
      simp only [Bool.and_eq_true, Bool.not_eq_true'] at h
      obtain ⟨⟨h1, h2⟩, h3⟩ := h
      obtain ⟨a, b, c⟩ := egs_ok g ts es' h3
      exact ⟨egs_cons (eg_ok g t e h1) a h2, by rw [List.length_cons, List.length_cons, b], by simp [h2, c]⟩
end
theorem chkPs_ok (g : Gd X k G W j ck) : ∀ (ps : List P0) (es : List Expr), chkPs ck ps es = true → Paired (fun e q => chkP X.N X.env.scope q e = true ∧ stB e = false) es ps ∧ es.all (fun e => !stB e) = true
  | [], es, h => by
    unfold chkPs at h
    split at h
    · exact ⟨.nil, rfl⟩
    · cases h
  | p :: ps, es, h => by
    unfold chkPs at h
    split at h
    · cases h
    · rename_i e es'
      simp only [Bool.and_eq_true, Bool.not_eq_true'] at h
      obtain ⟨⟨h1, h2⟩, h3⟩ := h
      obtain ⟨a, c⟩ := chkPs_ok g ps es' h3
      exact ⟨.cons ⟨by rw [g.N, g.sc]; exact h1, h2⟩ a, by simp [h2, c]⟩
theorem ty_ok (g : Gd X k G W j ck) {t : Ty} {e : Expr} (h : chkTy ck t e = true) : PE X e (tC (t.vv k)) ∧ stB e = false := by
  unfold chkTy at h
  split at h
  · rename_i x pos
    refine ⟨?_, rfl⟩
    split at h
    · rename_i c
      split at h
      · rename_i y n q
        simp only [Bool.and_eq_true, beq_iff_eq] at h
        obtain ⟨rfl, h2⟩ := h
        obtain ⟨g1, g2⟩ := g.gl h2
        exact pe_glob g1 (g.ko c _ _ q).1 rfl g2
      · cases h
    · rename_i hn
      split at h
      · rename_i y q
        simp only [Bool.and_eq_true, beq_iff_eq] at h
        obtain ⟨rfl, h2⟩ := h
        obtain ⟨g1, g2, g3⟩ := g.bl h2
        have hb : bootBuiltins x = some (t.val k) := by
          cases t with
          | bl => cases q; exact (show bootBuiltins "bool" = some (.type "bool") by decide +kernel)
          | int => cases q; exact (show bootBuiltins "int" = some (.type "int") by decide +kernel)
          | str => cases q; exact (show bootBuiltins "str" = some (.type "str") by decide +kernel)
          | tup => cases q; exact (show bootBuiltins "tuple" = some (.type "tuple") by decide +kernel)
          | lst => cases q; exact (show bootBuiltins "list" = some (.type "list") by decide +kernel)
          | dic => cases q; exact (show bootBuiltins "dict" = some (.type "dict") by decide +kernel)
          | _ => cases q
        refine pe_bltn g1 g3 hb (relTy k t) (notDunder ?_) g2
        unfold Ck.bl at h2
        simp only [Bool.and_eq_true] at h2
        exact h2.2
      · cases h
  · cases h
theorem paired_all {α : Type} {P : Expr → α → Prop} : ∀ {es : List Expr} {as : List α}, Paired (fun e a => P e a ∧ stB e = false) es as → es.all (fun e => !stB e) = true
  | _, _, .nil => rfl
  | _, _, .cons h t => by simp [h.2, paired_all t]
theorem bin_of {o : O2} {p : Operator} (h : O2.isBin o p = true) : o.bin = some p := by simpa [O2.isBin] using h
theorem cmp_of {o : O2} {p : CmpOp} (h : O2.isCmp o p = true) : o.cmp = some p := by simpa [O2.isCmp] using h
end
theorem evMs_len {G : Gv} : ∀ cs : List C, (evMs G cs).length = cs.length
  | [] => rfl
  | c :: cs => by unfold evMs; rw [List.length_cons, List.length_cons, evMs_len cs]
theorem evKs_len {G : Gv} : ∀ cs : List CA, (evKs G cs).length = cs.length
  | [] => rfl
  | c :: cs => by unfold evKs; rw [List.length_cons, List.length_cons, evKs_len cs]
theorem ownOf_snd (N : List Str) (vs : List Nat) : (ownOf N vs).map (·.2) = vs := by
  unfold ownOf
  rw [List.map_map]
  exact List.map_id' vs
theorem blk_kind {N : List Str} {sc scope : Scope} {own : List (Str × Nat)} (h : blkC N sc scope own = true) : scope.kind = .function := (blkOk_by h).kind
def OkI (X : Cx) (k : Kx) (W : WX) (f : M D) (t : Bool) (i : In) : Prop := match t, i with
  | false, .e e => PE X e (tE k W f)
  | false, .b op es => ∀ pos, PE X (.BoolOp op es pos) (tE k W f)
  | true, .e e => PT X e (tT k W (fT f))
  | true, .b op es => ∀ pos, PW X (.BoolOp op es pos) (tT k W (fT f))
theorem okI_nrm {X : Cx} {k : Kx} {W : WX} {f : M D} {t : Bool} {i : In} {e : Expr} (h : nrm i = .e e) (o : OkI X k W f t (.e e)) : OkI X k W f t i := by
  cases i with
  | e x => cases h; exact o
  | b op es =>
    match es, h with
    | [x], h =>
      cases h
      cases t with
      | false => exact fun pos => pe_one o
      | true =>
        cases op with
        | And => exact fun pos => pw_and1 o
        | Or => exact fun pos => pw_or1 o
    | [], h => cases h
    | _ :: _ :: _, h => cases h
theorem okI_nrmB {X : Cx} {k : Kx} {W : WX} {f : M D} {t : Bool} {i : In} {op : BoolOp} {es : List Expr} (h : nrm i = .b op es) (o : OkI X k W f t (.b op es)) : OkI X k W f t i := by
  cases i with
  | e x => cases h
  | b op' es' =>
    match es', h with
    | [x], h => cases h
    | [], h => cases h; exact o
    | _ :: _ :: _, h => cases h; exact o
theorem eOf_ok {X : Cx} {k : Kx} {W : WX} {f : M D} {t : Bool} {i : In} {F : Expr → Bool} (h : eOf t i F = true) (p : ∀ e, F e = true → PE X e (tE k W f)) : OkI X k W f t i := by
  unfold eOf at h
  split at h
  · rename_i e q
    simp only [Bool.and_eq_true, Bool.or_eq_true, Bool.not_eq_true'] at h
    refine okI_nrm q ?_
    cases t with
    | false => exact p e h.2
    | true => exact et_val (h.1.resolve_left fun z => nomatch z) (p e h.2)
  · cases h
theorem eOfT_ok {X : Cx} {k : Kx} {W : WX} {f : M D} {t : Bool} {i : In} {F : Expr → Bool} (h : eOfT i F = true) (p : ∀ e, F e = true → OkI X k W f t (.e e)) : OkI X k W f t i := by
  unfold eOfT at h
  split at h
  · rename_i e q
    exact okI_nrm q (p e h)
  · cases h
section
variable {k : Kx} {G : Gv} {j : Nat}
mutual
theorem ee_ok : ∀ (c : C) {X : Cx} {W : WX} {ck : Ck} (g : Gd X k G W j ck) (tt : Bool) (ii : In), chk ck c tt ii = true → OkI X k W (evE G c) tt ii
  | .nv, X, W, ck, g, tt, ii, h => by
    have bad : ∀ e, PE X e (tE k W (evE G .nv)) := fun e => ⟨fun pins s σ H Q I ⟨Z, env, oe, ss, q⟩ => (show False from q).elim⟩
    have badT : ∀ e, PT X e (tT k W (fT (evE G .nv))) := fun e => ⟨fun pins s σ H Q I ⟨Z, env, oe, ss, q⟩ => (show False from q).elim⟩
    have badW : ∀ e, PW X e (tT k W (fT (evE G .nv))) := fun e => ⟨fun wh pins s σ H Q I ⟨Z, env, oe, ss, q⟩ => (show False from q).elim⟩
    cases tt with
    | false => cases ii with
      | e e => exact bad e
      | b op es => exact fun pos => bad _
    | true => cases ii with
      | e e => exact badT e
      | b op es => exact fun pos => badW _
  | .rd p, X, W, ck, g, tt, ii, h0 => eOf_ok (by unfold chk at h0; exact h0) fun e h => ee_rd (g.P h)
  | .mov i, X, W, ck, g, tt, ii, h0 => eOf_ok (by unfold chk at h0; exact h0) fun e h => by
    split at h
    · simp only [Bool.and_eq_true] at h
      exact ee_mov (g.nm h.1) (g.vs h.2)
    · cases h
  | .shr i, X, W, ck, g, tt, ii, h0 => eOf_ok (by unfold chk at h0; exact h0) fun e h => by
    split at h
    · simp only [Bool.and_eq_true] at h
      exact ee_shr (g.nm h.1) (g.vs h.2)
    · cases h
  | .kc d, X, W, ck, g, tt, ii, h0 => eOf_ok (by unfold chk at h0; exact h0) fun e h => ee_kc h
  | .gl i, X, W, ck, g, tt, ii, h0 => eOf_ok (by unfold chk at h0; exact h0) fun e h => by
    split at h
    · simp only [Bool.and_eq_true, beq_iff_eq] at h
      obtain ⟨u, h1, h2⟩ := g.co i _ h.1
      exact ee_glb (g.gl h.2).1 h1 h2 (g.gl h.2).2
    · cases h
  | .op o a b, X, W, ck, g, tt, ii, h0 => eOfT_ok (by unfold chk at h0; exact h0) fun e h => by
    split at h
    · simp only [Bool.and_eq_true, Bool.not_eq_true'] at h
      obtain ⟨⟨⟨rfl, h1⟩, h2⟩, h3⟩ := h
      exact ee_op (bin_of h1) (ea_ok a g _ h2) (ea_ok b g _ h3)
    · simp only [Bool.and_eq_true, Bool.not_eq_true'] at h
      cases tt with
      | false => exact ee_cmp g.hk g.un (cmp_of h.1.1.1) h.1.1.2 (ea_ok a g _ h.1.2) (ea_ok b g _ h.2)
      | true => exact et_cmp g.hk g.un (cmp_of h.1.1.1) h.1.1.2 (ea_ok a g _ h.1.2) (ea_ok b g _ h.2)
    · cases h
  | .chn o o' a b c, X, W, ck, g, tt, ii, h0 => eOfT_ok (by unfold chk at h0; exact h0) fun e h => by
    split at h
    · simp only [Bool.and_eq_true, Bool.not_eq_true'] at h
      cases tt with
      | false => exact ee_chn g.hk g.un (cmp_of h.1.1.1.1.1) (cmp_of h.1.1.1.1.2) h.1.1.1.2 (ea_ok a g _ h.1.1.2) (ea_ok b g _ h.1.2) (g.P h.2)
      | true => exact et_chn g.hk g.un (cmp_of h.1.1.1.1.1) (cmp_of h.1.1.1.1.2) h.1.1.1.2 (ea_ok a g _ h.1.1.2) (ea_ok b g _ h.1.2) (g.P h.2)
    · cases h
  | .not a, X, W, ck, g, tt, ii, h0 => eOfT_ok (by unfold chk at h0; exact h0) fun e h => by
    split at h
    · have r := ee_ok a g tt _ h
      cases tt with
      | false => exact ee_not (show PE X _ (tE k W (evE G a)) from r)
      | true =>
        show PT X _ (tT k W (fT (fNot (fT (evE G a)))))
        rw [fT_not]
        exact et_not (show PT X _ (tT k W (fT (evE G a))) from r)
    · cases h
  | .and a b, X, W, ck, g, tt, ii, h => by
    unfold chk at h
    split at h
    · rename_i e q
      refine okI_nrm q ?_
      split at h
      · simp only [Bool.and_eq_true] at h
        have r1 := ee_ok a g tt _ h.1
        have r2 := ee_ok b g tt _ h.2
        cases tt with
        | false => exact ee_and (show PE X _ (tE k W (evE G a)) from r1) ((show ∀ pos, PE X (.BoolOp .And _ pos) (tE k W (evE G b)) from r2) _)
        | true =>
          show PT X _ (tT k W (fT (fAnd (fT (evE G a)) (evE G b))))
          rw [fT_and]
          exact (ew_and (show PT X _ (tT k W (fT (evE G a))) from r1) ((show ∀ pos, PW X (.BoolOp .And _ pos) (tT k W (fT (evE G b))) from r2) _)).pt
      · cases h
    · rename_i op es q
      refine okI_nrmB q ?_
      split at h
      · simp only [Bool.and_eq_true] at h
        have r1 := ee_ok a g tt _ h.1
        have r2 := ee_ok b g tt _ h.2
        cases tt with
        | false => exact fun pos => ee_and (show PE X _ (tE k W (evE G a)) from r1) ((show ∀ pos, PE X (.BoolOp .And _ pos) (tE k W (evE G b)) from r2) _)
        | true =>
          intro pos
          show PW X _ (tT k W (fT (fAnd (fT (evE G a)) (evE G b))))
          rw [fT_and]
          exact ew_and (show PT X _ (tT k W (fT (evE G a))) from r1) ((show ∀ pos, PW X (.BoolOp .And _ pos) (tT k W (fT (evE G b))) from r2) _)
      · cases h
  | .or a b, X, W, ck, g, tt, ii, h => by
    unfold chk at h
    split at h
    · rename_i e q
      refine okI_nrm q ?_
      split at h
      · simp only [Bool.and_eq_true] at h
        have r1 := ee_ok a g tt _ h.1
        have r2 := ee_ok b g tt _ h.2
        cases tt with
        | false => exact ee_or (show PE X _ (tE k W (evE G a)) from r1) ((show ∀ pos, PE X (.BoolOp .Or _ pos) (tE k W (evE G b)) from r2) _)
        | true =>
          show PT X _ (tT k W (fT (fOr (fT (evE G a)) (evE G b))))
          rw [fT_or]
          exact (ew_or (show PT X _ (tT k W (fT (evE G a))) from r1) ((show ∀ pos, PW X (.BoolOp .Or _ pos) (tT k W (fT (evE G b))) from r2) _)).pt
      · cases h
    · rename_i op es q
      refine okI_nrmB q ?_
      split at h
      · simp only [Bool.and_eq_true] at h
        have r1 := ee_ok a g tt _ h.1
        have r2 := ee_ok b g tt _ h.2
        cases tt with
        | false => exact fun pos => ee_or (show PE X _ (tE k W (evE G a)) from r1) ((show ∀ pos, PE X (.BoolOp .Or _ pos) (tE k W (evE G b)) from r2) _)
        | true =>
          intro pos
          show PW X _ (tT k W (fT (fOr (fT (evE G a)) (evE G b))))
          rw [fT_or]
          exact ew_or (show PT X _ (tT k W (fT (evE G a))) from r1) ((show ∀ pos, PW X (.BoolOp .Or _ pos) (tT k W (fT (evE G b))) from r2) _)
      · cases h
  | .ife t a b, X, W, ck, g, tt, ii, h0 => eOf_ok (by unfold chk at h0; exact h0) fun e h => by
    split at h
    · simp only [Bool.and_eq_true] at h
      exact ee_if (ee_ok t g true _ h.1.1) (ee_ok a g false _ h.1.2) (ee_ok b g false _ h.2)
    · cases h
  | .tup es, X, W, ck, g, tt, ii, h0 => eOf_ok (by unfold chk at h0; exact h0) fun e h => by
    split at h
    · simp only [Bool.and_eq_true, decide_eq_true_eq] at h
      exact ee_tup (by rw [evMs_len]; exact h.1) (el_ok es g _ h.2)
    · cases h
  | .lst es, X, W, ck, g, tt, ii, h0 => eOf_ok (by unfold chk at h0; exact h0) fun e h => by
    split at h
    · simp only [Bool.and_eq_true, decide_eq_true_eq] at h
      exact ee_lst (by rw [evMs_len]; exact h.1) (el_ok es g _ h.2)
    · cases h
  | .dk, X, W, ck, g, tt, ii, h0 => eOf_ok (by unfold chk at h0; exact h0) fun e h => by
    split at h
    · exact ee_dk
    · cases h
  | .dt, X, W, ck, g, tt, ii, h0 => eOf_ok (by unfold chk at h0; exact h0) fun e h => by
    split at h
    · exact ee_dt
    · cases h
  | .dk1 p d, X, W, ck, g, tt, ii, h0 => eOf_ok (by unfold chk at h0; exact h0) fun e h => by
    split at h
    · simp only [Bool.and_eq_true] at h
      exact ee_dk1 g.hk g.tb g.un (by rw [g.N, g.sc]; exact h.1) h.2
    · cases h
  | .dt1 c d, X, W, ck, g, tt, ii, h0 => eOf_ok (by unfold chk at h0; exact h0) fun e h => by
    split at h
    · simp only [Bool.and_eq_true] at h
      exact ee_dt1 (by have := g.un; omega) (ee_ok c g false _ h.1) h.2
    · cases h
  | .sub a i, X, W, ck, g, tt, ii, h0 => eOf_ok (by unfold chk at h0; exact h0) fun e h => by
    split at h
    · simp only [Bool.and_eq_true] at h
      exact ee_sub g.hk g.un h.1.1 (ea_ok a g _ h.1.2) (ea_ok i g _ h.2)
    · cases h
  | .sli0 a, X, W, ck, g, tt, ii, h0 => eOf_ok (by unfold chk at h0; exact h0) fun e h => by
    split at h
    · exact ee_sli0 g.hk (ea_ok a g _ h)
    · cases h
  | .sliL a l, X, W, ck, g, tt, ii, h0 => eOf_ok (by unfold chk at h0; exact h0) fun e h => by
    split at h
    · simp only [Bool.and_eq_true] at h
      exact ee_sliL g.hk (ea_ok a g _ h.1) (ea_ok l g _ h.2)
    · cases h
  | .sliH a l, X, W, ck, g, tt, ii, h0 => eOf_ok (by unfold chk at h0; exact h0) fun e h => by
    split at h
    · simp only [Bool.and_eq_true] at h
      exact ee_sliH g.hk (ea_ok a g _ h.1) (ea_ok l g _ h.2)
    · cases h
  | .sli2 a l h', X, W, ck, g, tt, ii, h0 => eOf_ok (by unfold chk at h0; exact h0) fun e h => by
    split at h
    · simp only [Bool.and_eq_true] at h
      exact ee_sli2 g.hk (ea_ok a g _ h.1.1) (ea_ok l g _ h.1.2) (ea_ok h' g _ h.2)
    · cases h
  | .bf b as, X, W, ck, g, tt, ii, h0 => eOf_ok (by unfold chk at h0; exact h0) fun e h => by
    split at h
    · simp only [Bool.and_eq_true, beq_iff_eq] at h
      obtain ⟨⟨rfl, h2⟩, h3⟩ := h
      obtain ⟨g1, g2, g3⟩ := g.bl h2
      have pa := eas_ok as g _ h3
      match as, pa with
      | a :: as, pa =>
        have call := bf_ok (X := X) g.hk g.un g.cm b
        have bb := Bf.boot b
        cases b with
        | int => exact ee_callTy call g1 g3 bb (notDunder (Bf.in_blt _)) g2 pa (paired_all pa)
        | lst => exact ee_callTy call g1 g3 bb (notDunder (Bf.in_blt _)) g2 pa (paired_all pa)
        | tup => exact ee_callTy call g1 g3 bb (notDunder (Bf.in_blt _)) g2 pa (paired_all pa)
        | _ => exact ee_callB call g1 g3 bb (notDunder (Bf.in_blt _)) g2 pa (paired_all pa)
    · cases h
  | .isi t a, X, W, ck, g, tt, ii, h0 => eOf_ok (by unfold chk at h0; exact h0) fun e h => by
    split at h
    · simp only [Bool.and_eq_true, beq_iff_eq, Bool.not_eq_true'] at h
      obtain ⟨⟨⟨⟨rfl, h2⟩, h3⟩, h4⟩, h5⟩ := h
      obtain ⟨g1, g2, g3⟩ := g.bl h2
      obtain ⟨t1, t2⟩ := ty_ok g h5
      exact ee_isi g.hk g.is g1 g3 (ea_ok a g _ h3) h4 t1 t2
    · cases h
  | .lrg a, X, W, ck, g, tt, ii, h0 => eOf_ok (by unfold chk at h0; exact h0) fun e h => by
    split at h
    · simp only [Bool.and_eq_true, beq_iff_eq, Bool.not_eq_true'] at h
      obtain ⟨⟨⟨⟨⟨rfl, h2⟩, rfl⟩, h3⟩, h4⟩, h5⟩ := h
      obtain ⟨g1, g2, g3⟩ := g.bl h2
      obtain ⟨g4, g5, g6⟩ := g.bl h3
      exact ee_lrg g.cm g1 g3 g4 g6 (ea_ok a g _ h4) h5
    · cases h
  | .lset a, X, W, ck, g, tt, ii, h0 => eOf_ok (by unfold chk at h0; exact h0) fun e h => by
    split at h
    · simp only [Bool.and_eq_true, beq_iff_eq, Bool.not_eq_true'] at h
      obtain ⟨⟨⟨⟨⟨rfl, h2⟩, rfl⟩, h3⟩, h4⟩, h5⟩ := h
      obtain ⟨g1, g2, g3⟩ := g.bl h2
      obtain ⟨g4, g5, g6⟩ := g.bl h3
      exact ee_lset (Nat.lt_of_le_of_lt (Nat.add_le_add_left (by decide) _) g.un) g.cm g1 g3 g4 g6 (ea_ok a g _ h4) h5
    · cases h
  | .call f as, X, W, ck, g, tt, ii, h0 => eOf_ok (by unfold chk at h0; exact h0) fun e h => by
    split at h
    · simp only [Bool.and_eq_true] at h
      obtain ⟨⟨h1, h2⟩, h3⟩ := h
      split at h1
      · rename_i z n q
        simp only [Bool.and_eq_true, beq_iff_eq, decide_eq_true_eq] at h1
        obtain ⟨rfl, hn⟩ := h1
        obtain ⟨a, fd, ps, f1, f2, f3, f4⟩ := g.fo f _ n q
        obtain ⟨g1, g2⟩ := g.gl h2
        exact ee_call f4 (g.rm.mono (Nat.le_succ _)) g1 f1 f2 f3 g.tk (eks_ok as g _ h3) (by rw [evKs_len]; exact hn) g2
      · cases h1
    · cases h
  | .make c as, X, W, ck, g, tt, ii, h0 => eOf_ok (by unfold chk at h0; exact h0) fun e h => by
    split at h
    · simp only [Bool.and_eq_true] at h
      obtain ⟨⟨h1, h2⟩, h3⟩ := h
      split at h1
      · rename_i z n q
        simp only [Bool.and_eq_true, beq_iff_eq, decide_eq_true_eq] at h1
        obtain ⟨rfl, hn⟩ := h1
        obtain ⟨f1, a, fd, ps, f2, f3, f4⟩ := g.ko c _ n q
        obtain ⟨g1, g2⟩ := g.gl h2
        have pl := el_ok as g _ h3
        show PE X _ (tE k W (fMake c (G.cf (G.ini c)) (evMs G as)))
        have hC : k.cA c = k.cA c := rfl
        have hl : (evMs G as).length + 1 = n := by rw [evMs_len]; exact hn
        exact ee_make (k := k) (c := c) (n := n) (cf := G.cf (G.ini c)) hC f2 f4 g.rm g1 f1 f3 g.tk pl (paired_all pl) hl g2
      · cases h1
    · cases h
  | .mth m i as, X, W, ck, g, tt, ii, h0 => eOf_ok (by unfold chk at h0; exact h0) fun e h => by
    split at h
    · simp only [Bool.and_eq_true, beq_iff_eq] at h
      obtain ⟨⟨⟨⟨⟨h1, h2⟩, rfl⟩, h3⟩, h4⟩, h5⟩ := h
      have pl := el_ok as g _ h5
      exact ee_mth (g.nm h1) (g.vs h2) pl (paired_all pl) h3 (by simpa using h4)
    · cases h
  | .mthC m p qs, X, W, ck, g, tt, ii, h0 => eOf_ok (by unfold chk at h0; exact h0) fun e h => by
    split at h
    · simp only [Bool.and_eq_true, beq_iff_eq] at h
      obtain ⟨⟨⟨⟨⟨h1, h2⟩, rfl⟩, h3⟩, h4⟩, h5⟩ := h
      obtain ⟨pl, pa⟩ := chkPs_ok g qs _ h5
      exact ee_mthC g.hk g.tb g.un (by rw [g.N, g.sc]; exact h1) h2 pl pa h3 (by simpa using h4)
    · cases h
  | .lc vs i t c f, X, W, ck, g, tt, ii, h0 => eOf_ok (by unfold chk at h0; exact h0) fun e h => by
    split at h
    · rename_i el tg it ifs scope pos
      simp only [Bool.and_eq_true] at h
      obtain ⟨⟨⟨⟨⟨h1, h2⟩, h3⟩, h4⟩, h5⟩, h6⟩ := h
      have bk : BlkOk X.N X.env.scope scope (ownOf ck.N vs) := by rw [g.N, g.sc]; exact blkOk_by h1
      have gb := fun s H C cl fp => g.blk scope (blk_kind h1) s H C cl fp
      have r := ee_lc (k := k) (W := W) (i := evI G i) (t := t) (c := cond (evMs G c)) (f := evE G f) (elt := el) (pos := pos) g.cm g.nd (ei_ok i g tg it h3) bk (fun s H C cl fp => by rw [ownOf_snd]; exact eg_ok (gb s H C cl fp) t tg h4) (fun s H C cl fp => ef_ok c (gb s H C cl fp) ifs h5) (fun s H C cl fp => ee_ok f (gb s H C cl fp) false _ h6) h2
      rw [ownOf_snd] at r
      exact r
    · cases h
  | .lc2 vs vs1 i t c i1 t1 c1 f, X, W, ck, g, tt, ii, h0 => eOf_ok (by unfold chk at h0; exact h0) fun e h => by
    split at h
    · rename_i el tg it ifs tg1 it1 ifs1 scope pos
      simp only [Bool.and_eq_true] at h
      obtain ⟨⟨⟨⟨⟨⟨⟨⟨⟨⟨h1, h0⟩, h2⟩, h2b⟩, h3⟩, h4⟩, h5⟩, h6⟩, h7⟩, h8⟩, h9⟩ := h
      have bk : BlkOk X.N X.env.scope scope (ownOf ck.N vs) := by rw [g.N, g.sc]; exact blkOk_by h1
      have gb := fun s H C cl fp => g.blk scope (blk_kind h1) s H C cl fp
      have r := ee_lc2 (k := k) (W := W) (vs1 := vs1) (i := evI G i) (t := t) (c := cond (evMs G c)) (i1 := evI G i1) (t1 := t1) (c1 := cond (evMs G c1)) (f := evE G f) (elt := el) (pos := pos) g.cm g.nd (ei_ok i g tg it h3) bk (fun x hx => by rw [ownOf_snd]; simpa using List.all_eq_true.mp h0 x hx) (fun s H C cl fp => by rw [ownOf_snd]; exact eg_ok (gb s H C cl fp) t tg h4) (fun s H C cl fp => ef_ok c (gb s H C cl fp) ifs h5) (fun s H C cl fp => ei_ok i1 (gb s H C cl fp) tg1 it1 h6) (fun s H C cl fp => eg_ok (gb s H C cl fp) t1 tg1 h7) (fun s H C cl fp => ef_ok c1 (gb s H C cl fp) ifs1 h8) (fun s H C cl fp => ee_ok f (gb s H C cl fp) false _ h9) h2 h2b
      rw [ownOf_snd] at r
      exact r
    · cases h
  | .dc vs i t c a b, X, W, ck, g, tt, ii, h0 => eOf_ok (by unfold chk at h0; exact h0) fun e h => by
    split at h
    · rename_i kx vx tg it ifs scope pos
      simp only [Bool.and_eq_true] at h
      obtain ⟨⟨⟨⟨⟨⟨h1, h2⟩, h3⟩, h4⟩, h5⟩, h6⟩, h7⟩ := h
      have bk : BlkOk X.N X.env.scope scope (ownOf ck.N vs) := by rw [g.N, g.sc]; exact blkOk_by h1
      have gb := fun s H C cl fp => g.blk scope (blk_kind h1) s H C cl fp
      have r := ee_dc (k := k) (W := W) (i := evI G i) (t := t) (c := cond (evMs G c)) (fk := evE G a) (fv := evE G b) (kx := kx) (vx := vx) (pos := pos) g.cm g.nd (ei_ok i g tg it h3) bk (fun s H C cl fp => by rw [ownOf_snd]; exact eg_ok (gb s H C cl fp) t tg h4) (fun s H C cl fp => ef_ok c (gb s H C cl fp) ifs h5) (fun s H C cl fp => ee_ok a (gb s H C cl fp) false _ h6) (fun s H C cl fp => ee_ok b (gb s H C cl fp) false _ h7) h2
      rw [ownOf_snd] at r
      exact r
    · cases h
  | .dct vs i t c a b, X, W, ck, g, tt, ii, h0 => eOf_ok (by unfold chk at h0; exact h0) fun e h => by
    split at h
    · rename_i kx vx tg it ifs scope pos
      simp only [Bool.and_eq_true] at h
      obtain ⟨⟨⟨⟨⟨⟨h1, h2⟩, h3⟩, h4⟩, h5⟩, h6⟩, h7⟩ := h
      have bk : BlkOk X.N X.env.scope scope (ownOf ck.N vs) := by rw [g.N, g.sc]; exact blkOk_by h1
      have gb := fun s H C cl fp => g.blk scope (blk_kind h1) s H C cl fp
      have r := ee_dct (by have := g.un; omega) (k := k) (W := W) (i := evI G i) (t := t) (c := cond (evMs G c)) (fk := evE G a) (fv := evE G b) (kx := kx) (vx := vx) (pos := pos) g.cm g.nd (ei_ok i g tg it h3) bk (fun s H C cl fp => by rw [ownOf_snd]; exact eg_ok (gb s H C cl fp) t tg h4) (fun s H C cl fp => ef_ok c (gb s H C cl fp) ifs h5) (fun s H C cl fp => ee_ok a (gb s H C cl fp) false _ h6) (fun s H C cl fp => ee_ok b (gb s H C cl fp) false _ h7) h2
      rw [ownOf_snd] at r
      exact r
    · cases h
  | .sh c, X, W, ck, g, tt, ii, h0 => eOf_ok (by unfold chk at h0; exact h0) fun e h => ee_sh (ee_ok c g false (.e e) h)
theorem ea_ok : ∀ (c : Ar) {X : Cx} {W : WX} {ck : Ck} (g : Gd X k G W j ck) (e : Expr), chkA ck c e = true → PE X e (tAg k G.T W (evG G c))
  | .pk p, X, W, ck, g, e, h => g.P (by unfold chkA at h; exact h)
  | .ev c, X, W, ck, g, e, h => ee_ok c g false (.e e) (by unfold chkA at h; exact h)
theorem el_ok : ∀ (cs : List C) {X : Cx} {W : WX} {ck : Ck} (g : Gd X k G W j ck) (es : List Expr), chkL ck cs es = true → Paired (fun e f => PE X e (tE k W f) ∧ stB e = false) es (evMs G cs)
  | [], X, W, ck, g, es, h => by
    unfold chkL at h
    split at h
    · exact .nil
    · cases h
  | c :: cs, X, W, ck, g, es, h => by
    unfold chkL at h
    split at h
    · cases h
    · simp only [Bool.and_eq_true, Bool.not_eq_true'] at h
      exact .cons ⟨ee_ok c g false _ h.1.1, h.1.2⟩ (el_ok cs g _ h.2)
theorem eas_ok : ∀ (cs : List Ar) {X : Cx} {W : WX} {ck : Ck} (g : Gd X k G W j ck) (es : List Expr), chkAs ck cs es = true → Paired (fun e a => PE X e (tAg k G.T W a) ∧ stB e = false) es (evGs G cs)
  | [], X, W, ck, g, es, h => by
    unfold chkAs at h
    split at h
    · exact .nil
    · cases h
  | c :: cs, X, W, ck, g, es, h => by
    unfold chkAs at h
    split at h
    · cases h
    · simp only [Bool.and_eq_true, Bool.not_eq_true'] at h
      exact .cons ⟨ea_ok c g _ h.1.1, h.1.2⟩ (eas_ok cs g _ h.2)
theorem eks_ok : ∀ (cs : List CA) {X : Cx} {W : WX} {ck : Ck} (g : Gd X k G W j ck) (es : List Expr), chkKs ck cs es = true → CAok X k W es (evKs G cs)
  | [], X, W, ck, g, es, h => by
    unfold chkKs at h
    split at h
    · exact .nil
    · cases h
  | .ev c :: cs, X, W, ck, g, es, h => by
    unfold chkKs at h
    split at h
    · cases h
    · unfold chkK at h
      simp only [Bool.and_eq_true, Bool.not_eq_true'] at h
      exact .ev (ee_ok c g false _ h.1.1) h.1.2 (eks_ok cs g _ h.2)
  | .ln i :: cs, X, W, ck, g, es, h => by
    unfold chkKs at h
    split at h
    · cases h
    · unfold chkK at h
      simp only [Bool.and_eq_true] at h
      obtain ⟨h1, h2⟩ := h
      split at h1
      · simp only [Bool.and_eq_true] at h1
        exact .ln (g.nm h1.1) (g.vs h1.2) (eks_ok cs g _ h2)
      · cases h1
theorem ef_ok : ∀ (cs : List C) {X : Cx} {ck : Ck} (g : Gd X k G WF j ck) (es : List Expr), chkIf ck cs es = true → PTs X es (tT k WF (cond (evMs G cs)))
  | [], X, ck, g, es, h => by
    unfold chkIf at h
    split at h
    · exact ets_nil
    · cases h
  | c :: cs, X, ck, g, es, h => by
    unfold chkIf at h
    split at h
    · simp only [Bool.and_eq_true] at h
      cases cs with
      | nil => exact ets_one (ee_ok c g true _ h.1)
      | cons _ _ => simp at h
    · cases h
theorem ei_ok : ∀ (c : Ir) {X : Cx} {W : WX} {ck : Ck} (g : Gd X k G W j ck) (tg e : Expr), chkI ck c tg e = true → PI X tg e (tIt k W (evI G c))
  | .c c, X, W, ck, g, tg, e, h => ei_seq g.hk (ee_ok c g false (.e e) (by unfold chkI at h; exact h))
  | .r1 a, X, W, ck, g, tg, e, h => by
    unfold chkI at h
    split at h
    · simp only [Bool.and_eq_true, beq_iff_eq, Bool.not_eq_true'] at h
      obtain ⟨⟨⟨rfl, h2⟩, h3⟩, h4⟩ := h
      obtain ⟨g1, g2, g3⟩ := g.bl h2
      exact ei_rng1 g1 g3 (ea_ok a g _ h3) h4
    · cases h
  | .r2 a b, X, W, ck, g, tg, e, h => by
    unfold chkI at h
    split at h
    · simp only [Bool.and_eq_true, beq_iff_eq, Bool.not_eq_true'] at h
      obtain ⟨⟨⟨⟨⟨rfl, h2⟩, h3⟩, h4⟩, h5⟩, h6⟩ := h
      obtain ⟨g1, g2, g3⟩ := g.bl h2
      exact ei_rng2 g1 g3 (ea_ok a g _ h3) (ea_ok b g _ h5) h4 h6
    · cases h
  | .en c, X, W, ck, g, tg, e, h => by
    unfold chkI at h
    split at h
    · simp only [Bool.and_eq_true, beq_iff_eq, Bool.not_eq_true'] at h
      obtain ⟨⟨⟨⟨h0, rfl⟩, h2⟩, h3⟩, h4⟩ := h
      obtain ⟨g1, g2, g3⟩ := g.bl h2
      cases tg with
      | Tuple elts kk tpos => exact ei_enum g.hk g1 g3 (ee_ok c g false _ h3) h4
      | _ => cases h0
    · cases h
  | .zp a b, X, W, ck, g, tg, e, h => by
    unfold chkI at h
    split at h
    · simp only [Bool.and_eq_true, beq_iff_eq, Bool.not_eq_true'] at h
      obtain ⟨⟨⟨⟨⟨⟨h0, rfl⟩, h2⟩, h3⟩, h4⟩, h5⟩, h6⟩ := h
      obtain ⟨g1, g2, g3⟩ := g.bl h2
      cases tg with
      | Tuple elts kk tpos => exact ei_zip g.hk g1 g3 (ee_ok a g false _ h3) (ee_ok b g false _ h5) h4 h6
      | _ => cases h0
    · cases h
end
end
end Bp

/-! the check is enough: statements; defs -/
namespace Bp
open PySem PySem.Spec PyProof.Rows L2

section
variable {X : Cx} {k : Kx} {T : Tb} {W W' : WX} {A : List Nat}
theorem es_setLcS {j : Nat} {y : Str} {py : Pos} {elt tg iter : Expr} {ifs : List Expr} {scope : Scope} {own : List (Str × Nat)} {pos spos : Pos} {i : M ItR} {t : Tg} {c : M Bool} {f : M D} (hc : X.calm = true) (hN : X.N.Nodup) (hy : X.N[j]? = some y) (hyl : X.env.scope.names.lookup y = some .local) (jA : j ∈ A)
    (hsw : swapsWith (.ListComp elt [⟨tg, iter, ifs, 0⟩] scope pos) (some (.Name y py)) spos.line X.env = pure true) (hi : PI X tg iter (tIt k W i)) (ok : BlkOk X.N X.env.scope scope own)
    (hg : ∀ (s : Shared) (H : Hp) (C : Addr) (cl : List (Str × Addr)) (fp : List Addr), PG (X.blk s H scope (compEnvC scope cl C X.env) fp) tg (gG k (own.map (·.2)) t)) (ht : ∀ (s : Shared) (H : Hp) (C : Addr) (cl : List (Str × Addr)) (fp : List Addr), PTs (X.blk s H scope (compEnvC scope cl C X.env) fp) ifs (tT k WF c))
    (he : ∀ (s : Shared) (H : Hp) (C : Addr) (cl : List (Str × Addr)) (fp : List Addr), PE (X.blk s H scope (compEnvC scope cl C X.env) fp) elt (tE k WF f)) (hs : noSet iter = true) :
    PS X (.Assign [.Name y py] (.ListComp elt [⟨tg, iter, ifs, 0⟩] scope pos) spos) (tS k A W (fSet j (fSh (fLc (own.map (·.2)) i t c f)))) := ps_mono (ps_setLc hc hN hy hyl hsw hi ok hg ht he (folded_of hs)) fun D σ H q => tLc_of (tE_sh (tE_mono (tS_expr q) fun v H1 ⟨Z, Z1, H0, e1, oe, oe1, od, d, s1, st, q1⟩ => by
    obtain ⟨oe', s2, sub⟩ := s1.put (i := j)
    exact (show cEnd k A Z H0 oe σ D .nx (e1.set j (some d)) from q1) Z1 H1 _ [] oe' [] s2 (KpE.set jA) (st.sub fun x q => sub x (by simpa using q))))
theorem es_setLc2S {j : Nat} {y : Str} {py : Pos} {elt tg iter tg1 iter1 : Expr} {ifs ifs1 : List Expr} {scope : Scope} {own : List (Str × Nat)} {vs1 : List Nat} {pos spos : Pos} {i i1 : M ItR} {t t1 : Tg} {c c1 : M Bool} {f : M D} (hc : X.calm = true) (hN : X.N.Nodup) (hy : X.N[j]? = some y) (hyl : X.env.scope.names.lookup y = some .local) (jA : j ∈ A)
    (hsw : swapsWith (.ListComp elt [⟨tg, iter, ifs, 0⟩, ⟨tg1, iter1, ifs1, 0⟩] scope pos) (some (.Name y py)) spos.line X.env = pure true) (hi : PI X tg iter (tIt k W i)) (ok : BlkOk X.N X.env.scope scope own) (hv : ∀ i ∈ vs1, i ∈ own.map (·.2))
    (hg : ∀ (s : Shared) (H : Hp) (C : Addr) (cl : List (Str × Addr)) (fp : List Addr), PG (X.blk s H scope (compEnvC scope cl C X.env) fp) tg (gG k (own.map (·.2)) t)) (ht : ∀ (s : Shared) (H : Hp) (C : Addr) (cl : List (Str × Addr)) (fp : List Addr), PTs (X.blk s H scope (compEnvC scope cl C X.env) fp) ifs (tT k WF c))
    (hi1 : ∀ (s : Shared) (H : Hp) (C : Addr) (cl : List (Str × Addr)) (fp : List Addr), PI (X.blk s H scope (compEnvC scope cl C X.env) fp) tg1 iter1 (tIt k WF i1))
    (hg1 : ∀ (s : Shared) (H : Hp) (C : Addr) (cl : List (Str × Addr)) (fp : List Addr), PG (X.blk s H scope (compEnvC scope cl C X.env) fp) tg1 (gG k vs1 t1)) (ht1 : ∀ (s : Shared) (H : Hp) (C : Addr) (cl : List (Str × Addr)) (fp : List Addr), PTs (X.blk s H scope (compEnvC scope cl C X.env) fp) ifs1 (tT k WF c1))
    (he : ∀ (s : Shared) (H : Hp) (C : Addr) (cl : List (Str × Addr)) (fp : List Addr), PE (X.blk s H scope (compEnvC scope cl C X.env) fp) elt (tE k WF f)) (hs : noSet iter = true) (hs1 : noSet iter1 = true) :
    PS X (.Assign [.Name y py] (.ListComp elt [⟨tg, iter, ifs, 0⟩, ⟨tg1, iter1, ifs1, 0⟩] scope pos) spos) (tS k A W (fSet j (fSh (fLc2 (own.map (·.2)) vs1 i t c i1 t1 c1 f)))) := ps_mono (ps_setLc2 hc hN hy hyl hsw hi ok hv hg ht hi1 hg1 ht1 he (folded_of hs) (fun env => folded_of hs1)) fun D σ H q => tLc2_of (tE_sh (tE_mono (tS_expr q) fun v H1 ⟨Z, Z1, H0, e1, oe, oe1, od, d, s1, st, q1⟩ => by
    obtain ⟨oe', s2, sub⟩ := s1.put (i := j)
    exact (show cEnd k A Z H0 oe σ D .nx (e1.set j (some d)) from q1) Z1 H1 _ [] oe' [] s2 (KpE.set jA) (st.sub fun x q => sub x (by simpa using q))))
end
def noComp : Expr → Bool
  | .ListComp _ _ _ _ => false
  | .SetComp _ _ _ _ => false
  | .DictComp _ _ _ _ _ => false
  | _ => true
theorem sw_none {e : Expr} {t : Option Expr} {l : Nat} {env : PySem.Env} (h : noComp e = true) : swapsWith e t l env = pure false := by
  cases e <;> first | rfl | cases h
/-- a list made into a name -/
def swB (sc : Scope) (y : Str) (py : Pos) (scope : Scope) (pos : Pos) : Bool := sc.names.lookup y == some .local && (py.line == pos.line) && !(scope.names.any fun p => p.1 == y && (p.2 == .local || p.2 == .cell))
def tgN (k : Ck) (A : List Nat) (i : Nat) (x : Str) : Bool := atN k.N i x && A.contains i && ((k.sc.names.lookup x == some .local) || (k.sc.names.lookup x == some .cell && k.fn x))
def parB (k : Ck) (A : List Nat) (i j : Nat) (x y : Str) (px py : Pos) (a b : Expr) : Bool :=
  atN k.N i x && atN k.N j y && A.contains i && A.contains j && !(i == j) && (k.sc.names.lookup x == some .local) && (k.sc.names.lookup y == some .local) && (py.line == px.line) && !(x == y) && !stB a && !stB b && !([a, b].all (foldedForSure 8)) && !([a, b].all (constantsAlone 8))
def parB3 (k : Ck) (A : List Nat) (i j l : Nat) (x y z : Str) (px py pz : Pos) (a b c : Expr) : Bool :=
  (atN k.N i x && (atN k.N j y && atN k.N l z)) && ((A.contains i && (A.contains j && A.contains l)) && ((!(i == j) && (!(i == l) && !(j == l))) && ((k.sc.names.lookup x == some .local) && ((k.sc.names.lookup y == some .local) && ((k.sc.names.lookup z == some .local) && ((py.line == px.line) && ((pz.line == px.line) && ((!(x == y) && (!(x == z) && !(y == z))) && ((!stB a && (!stB b && !stB c)) && (!([a, b, c].all (foldedForSure 8)) && !([a, b, c].all (constantsAlone 8))))))))))))
/-- a pair of names, not both of them plain locals: stored from the left -/
def parN (k : Ck) (es : List Expr) : Bool := es.any fun e => match e with
  | .Name x _ => !(k.sc.names.lookup x == some .local)
  | _ => false
theorem sws_cell {env : PySem.Env} {x y : Str} {px py pt : Pos} {kt : Nat} {e : Expr} (h : env.scope.names.lookup x ≠ some .local ∨ env.scope.names.lookup y ≠ some .local) : swappedStores [.Tuple [.Name x px, .Name y py] kt pt] e env = pure none := by
  cases e with
  | Tuple vs k2 p2 =>
    unfold swappedStores
    dsimp only
    split
    · rfl
    · split
      · rfl
      · rw [if_pos]
        rcases h with h | h
        · have h' : (env.kindOf x == some .local) = false := beq_eq_false_iff_ne.mpr h
          simp only [List.filterMap_cons, List.filterMap_nil, h', Bool.false_and, Bool.false_eq_true, if_false]
          cases hq : (env.kindOf y == some NameKind.local && (Expr.Name y py).pos.line == (Option.map (fun x => x.pos.line) [Expr.Name x px, Expr.Name y py].head?).getD 0) <;> simp_all [Expr.pos] <;> (left; split <;> simp)
        · have h' : (env.kindOf y == some .local) = false := beq_eq_false_iff_ne.mpr h
          simp only [List.filterMap_cons, List.filterMap_nil, h', Bool.false_and, Bool.false_eq_true, if_false]
          cases hq : (env.kindOf x == some NameKind.local && (Expr.Name x px).pos.line == (Option.map (fun x => x.pos.line) [Expr.Name x px, Expr.Name y py].head?).getD 0) <;> simp_all [Expr.pos] <;> (left; split <;> simp)
  | _ => rfl
mutual
def chkS (k : Ck) (A : List Nat) : S → Stmt → Bool
  | .nv, _ => true
  | .pass, s => match s with
    | .Pass _ => true
    | _ => false
  | .brk, s => match s with
    | .Break _ => true
    | _ => false
  | .cnt, s => match s with
    | .Continue _ => true
    | _ => false
  | .retN, s => match s with
    | .Return none _ => true
    | _ => false
  | .ret c, s => match s with
    | .Return (some e) _ => chk k c false (.e e)
    | _ => false
  | .expr c, s => match s with
    | .Expr e _ => chk k c false (.e e) && noComp e
    | _ => false
  | .set i c, s => match s with
    | .Assign [.Name x p] e _ => tgN k A i x && (match c, e with
      | .lc vs ir t cs f, .ListComp el [⟨tg, it, ifs, 0⟩] scope pos => swB k.sc x p scope pos && chk k (.lc vs ir t cs f) false (.e (.ListComp el [⟨tg, it, ifs, 0⟩] scope pos))
      | .lc2 vs vs1 ir t cs ir1 t1 cs1 f, .ListComp el [⟨tg, it, ifs, 0⟩, ⟨tg1, it1, ifs1, 0⟩] scope pos => swB k.sc x p scope pos && chk k (.lc2 vs vs1 ir t cs ir1 t1 cs1 f) false (.e (.ListComp el [⟨tg, it, ifs, 0⟩, ⟨tg1, it1, ifs1, 0⟩] scope pos))
      | .sh (.lc vs ir t cs f), .ListComp el [⟨tg, it, ifs, 0⟩] scope pos => swB k.sc x p scope pos && chk k (.lc vs ir t cs f) false (.e (.ListComp el [⟨tg, it, ifs, 0⟩] scope pos))
      | .sh (.lc2 vs vs1 ir t cs ir1 t1 cs1 f), .ListComp el [⟨tg, it, ifs, 0⟩, ⟨tg1, it1, ifs1, 0⟩] scope pos => swB k.sc x p scope pos && chk k (.lc2 vs vs1 ir t cs ir1 t1 cs1 f) false (.e (.ListComp el [⟨tg, it, ifs, 0⟩, ⟨tg1, it1, ifs1, 0⟩] scope pos))
      | c, e => noComp e && chk k c false (.e e))
    | _ => false
  | .setT t c, s => match s with
    | .Assign [.Tuple es n tp] e _ => chkTg k A t (.Tuple es n tp) && (noTup e || parN k es) && chk k c false (.e e)
    | _ => false
  | .par2 i j a b, s => match s with
    | .Assign [.Tuple [.Name x px, .Name y py] _ _] (.Tuple [ea, eb] _ _) _ => parB k A i j x y px py ea eb && chk k a false (.e ea) && chk k b false (.e eb)
    | _ => false
  | .par3 i j l a b c, s => match s with
    | .Assign [.Tuple [.Name x px, .Name y py, .Name z pz] _ _] (.Tuple [ea, eb, ec] _ _) _ => parB3 k A i j l x y z px py pz ea eb ec && (chk k a false (.e ea) && (chk k b false (.e eb) && chk k c false (.e ec)))
    | _ => false
  | .put2 p q c, s => match s with
    | .Assign [.Subscript o i _] e _ => chkP k.N k.sc p o && chkP k.N k.sc q i && plainIxB i && chk k c false (.e e)
    | _ => false
  | .put1 j ci c, s => match s with
    | .Assign [.Subscript (.Name x _) i _] e _ => atN k.N j x && visB k.sc x && plainIxB i && chk k ci false (.e i) && chk k c false (.e e)
    | _ => false
  | .fld i nm c, s => match s with
    | .Assign [.Attribute (.Name x _) nm' _] e _ => atN k.N i x && visB k.sc x && nm == nm' && chk k c false (.e e)
    | _ => false
  | .ife t a b, s => match s with
    | .If e p q _ => chk k t true (.e e) && chkSs k A a p && chkSs k A b q
    | _ => false
  | .for_ i t b, s => match s with
    | .For tg it p [] _ => noSet it && chkI k i tg it && chkTg k A t tg && chkSs k A b p
    | _ => false
  | .whl t b, s => match s with
    | .While e p [] _ => chk k t true (.e e) && chkSs k A b p
    | _ => false
def chkSs (k : Ck) (A : List Nat) : List S → List Stmt → Bool
  | [], ss => match ss with
    | [] => true
    | _ => false
  | c :: cs, ss => match ss with
    | [] => false
    | s :: ss => chkS k A c s && chkSs k A cs ss
end
section
variable {k : Kx} {G : Gv} {j : Nat} {X : Cx} {W : WX} {ck : Ck} {A : List Nat}
theorem ex_ok (g : Gd X k G W j ck) {c : C} {e : Expr} (h : chk ck c false (.e e) = true) : PE X e (tE k W (evE G c)) := ee_ok c g false (.e e) h
theorem et_ok (g : Gd X k G W j ck) {c : C} {e : Expr} (h : chk ck c true (.e e) = true) : PT X e (tT k W (fT (evE G c))) := ee_ok c g true (.e e) h
theorem tgN_of (g : Gd X k G W j ck) {i : Nat} {x : Str} (h : tgN ck A i x = true) : X.N[i]? = some x ∧ i ∈ A ∧ Loc X.env.scope x ∧ (X.fn x = true ∨ X.env.scope.names.lookup x = some .local) := by
  unfold tgN at h
  simp only [Bool.and_eq_true, Bool.or_eq_true, beq_iff_eq] at h
  obtain ⟨⟨h1, h2⟩, h3⟩ := h
  refine ⟨g.nm h1, by simpa using h2, ?_, ?_⟩
  · show X.env.scope.names.lookup x = _ ∨ X.env.scope.names.lookup x = _
    rw [g.sc]
    exact h3.elim .inl fun q => .inr q.1
  · rw [g.sc, g.fn]
    exact h3.elim .inr fun q => .inl q.2
theorem swB_of (g : Gd X k G W j ck) {y : Str} {py : Pos} {scope : Scope} {pos : Pos} {el : Expr} {gs : List Comprehension} {l : Nat} (h : swB ck.sc y py scope pos = true) : X.env.scope.names.lookup y = some .local ∧ swapsWith (.ListComp el gs scope pos) (some (.Name y py)) l X.env = pure true := by
  unfold swB at h
  simp only [Bool.and_eq_true, beq_iff_eq, Bool.not_eq_true'] at h
  obtain ⟨⟨h1, h2⟩, h3⟩ := h
  have h1' : X.env.scope.names.lookup y = some .local := by rw [g.sc]; exact h1
  exact ⟨h1', sw_true (by rw [g.sc]; exact g.kd) h1' (by simpa using h2) h3⟩
mutual
theorem es_ok (g : Gd X k G W j ck) (hp : PassesOwn (model X.prog X.w) X.A X.env X.xe) : ∀ (c : S) (s : Stmt), chkS ck A c s = true → PS X s (tS k A W (evS G c))
  | .nv, s, h => ⟨fun pins s σ H D I ⟨Z, env, oe, ss, q⟩ => (show False from q).elim⟩
  | .pass, s, h => by
    unfold chkS at h
    split at h
    · exact es_pass
    · cases h
  | .brk, s, h => by
    unfold chkS at h
    split at h
    · exact es_break
    · cases h
  | .cnt, s, h => by
    unfold chkS at h
    split at h
    · exact es_continue
    · cases h
  | .retN, s, h => by
    unfold chkS at h
    split at h
    · exact es_retN
    · cases h
  | .ret c, s, h => by
    unfold chkS at h
    split at h
    · exact es_ret (ex_ok g h)
    · cases h
  | .expr c, s, h => by
    unfold chkS at h
    split at h
    · simp only [Bool.and_eq_true] at h
      exact es_expr (ex_ok g h.1) (sw_none h.2)
    · cases h
  | .set i c, s, h => by
    unfold chkS at h
    split at h
    · rename_i x p e pos
      simp only [Bool.and_eq_true] at h
      obtain ⟨h1, h2⟩ := h
      obtain ⟨t1, t2, t3, t4⟩ := tgN_of g h1
      split at h2
      · rename_i vs ir t cs f el tg it ifs scope pos'
        simp only [Bool.and_eq_true] at h2
        obtain ⟨h3, h4⟩ := h2
        obtain ⟨b1, b2⟩ := swB_of g (el := el) (gs := [⟨tg, it, ifs, 0⟩]) (l := pos.line) h3
        unfold chk eOf nrm at h4
        simp only [Bool.not_false, Bool.true_or, Bool.true_and, Bool.and_eq_true] at h4
        obtain ⟨⟨⟨⟨⟨c1, c2⟩, c3⟩, c4⟩, c5⟩, c6⟩ := h4
        have bk : BlkOk X.N X.env.scope scope (ownOf ck.N vs) := by rw [g.N, g.sc]; exact blkOk_by c1
        have gb := fun s H C cl fp => g.blk scope (blk_kind c1) s H C cl fp
        have r := es_setLc (A := A) (k := k) (W := W) (i := evI G ir) (t := t) (c := cond (evMs G cs)) (f := evE G f) g.cm g.nd t1 b1 t2 b2 (ei_ok ir g tg it c3) bk (fun s H C cl fp => by rw [ownOf_snd]; exact eg_ok (gb s H C cl fp) t tg c4) (fun s H C cl fp => ef_ok cs (gb s H C cl fp) ifs c5) (fun s H C cl fp => ex_ok (gb s H C cl fp) c6) c2
        rw [ownOf_snd] at r
        exact r
      · rename_i vs vs1 ir t cs ir1 t1' cs1 f el tg it ifs tg1 it1 ifs1 scope pos'
        simp only [Bool.and_eq_true] at h2
        obtain ⟨h3, h4⟩ := h2
        obtain ⟨b1, b2⟩ := swB_of g (el := el) (gs := [⟨tg, it, ifs, 0⟩, ⟨tg1, it1, ifs1, 0⟩]) (l := pos.line) h3
        unfold chk eOf nrm at h4
        simp only [Bool.not_false, Bool.true_or, Bool.true_and, Bool.and_eq_true] at h4
        obtain ⟨⟨⟨⟨⟨⟨⟨⟨⟨⟨c1, c0⟩, c2⟩, c2b⟩, c3⟩, c4⟩, c5⟩, c6⟩, c7⟩, c8⟩, c9⟩ := h4
        have bk : BlkOk X.N X.env.scope scope (ownOf ck.N vs) := by rw [g.N, g.sc]; exact blkOk_by c1
        have gb := fun s H C cl fp => g.blk scope (blk_kind c1) s H C cl fp
        have r := es_setLc2 (A := A) (k := k) (W := W) (vs1 := vs1) (i := evI G ir) (t := t) (c := cond (evMs G cs)) (i1 := evI G ir1) (t1 := t1') (c1 := cond (evMs G cs1)) (f := evE G f) g.cm g.nd t1 b1 t2 b2 (ei_ok ir g tg it c3) bk (fun x hx => by rw [ownOf_snd]; simpa using List.all_eq_true.mp c0 x hx) (fun s H C cl fp => by rw [ownOf_snd]; exact eg_ok (gb s H C cl fp) t tg c4) (fun s H C cl fp => ef_ok cs (gb s H C cl fp) ifs c5) (fun s H C cl fp => ei_ok ir1 (gb s H C cl fp) tg1 it1 c6) (fun s H C cl fp => eg_ok (gb s H C cl fp) t1' tg1 c7) (fun s H C cl fp => ef_ok cs1 (gb s H C cl fp) ifs1 c8) (fun s H C cl fp => ex_ok (gb s H C cl fp) c9) c2 c2b
        rw [ownOf_snd] at r
        exact r
      · rename_i vs ir t cs f el tg it ifs scope pos'
        simp only [Bool.and_eq_true] at h2
        obtain ⟨h3, h4⟩ := h2
        obtain ⟨b1, b2⟩ := swB_of g (el := el) (gs := [⟨tg, it, ifs, 0⟩]) (l := pos.line) h3
        unfold chk eOf nrm at h4
        simp only [Bool.not_false, Bool.true_or, Bool.true_and, Bool.and_eq_true] at h4
        obtain ⟨⟨⟨⟨⟨c1, c2⟩, c3⟩, c4⟩, c5⟩, c6⟩ := h4
        have bk : BlkOk X.N X.env.scope scope (ownOf ck.N vs) := by rw [g.N, g.sc]; exact blkOk_by c1
        have gb := fun s H C cl fp => g.blk scope (blk_kind c1) s H C cl fp
        have r := es_setLcS (A := A) (k := k) (W := W) (i := evI G ir) (t := t) (c := cond (evMs G cs)) (f := evE G f) g.cm g.nd t1 b1 t2 b2 (ei_ok ir g tg it c3) bk (fun s H C cl fp => by rw [ownOf_snd]; exact eg_ok (gb s H C cl fp) t tg c4) (fun s H C cl fp => ef_ok cs (gb s H C cl fp) ifs c5) (fun s H C cl fp => ex_ok (gb s H C cl fp) c6) c2
        rw [ownOf_snd] at r
        exact r
      · rename_i vs vs1 ir t cs ir1 t1' cs1 f el tg it ifs tg1 it1 ifs1 scope pos'
        simp only [Bool.and_eq_true] at h2
        obtain ⟨h3, h4⟩ := h2
        obtain ⟨b1, b2⟩ := swB_of g (el := el) (gs := [⟨tg, it, ifs, 0⟩, ⟨tg1, it1, ifs1, 0⟩]) (l := pos.line) h3
        unfold chk eOf nrm at h4
        simp only [Bool.not_false, Bool.true_or, Bool.true_and, Bool.and_eq_true] at h4
        obtain ⟨⟨⟨⟨⟨⟨⟨⟨⟨⟨c1, c0⟩, c2⟩, c2b⟩, c3⟩, c4⟩, c5⟩, c6⟩, c7⟩, c8⟩, c9⟩ := h4
        have bk : BlkOk X.N X.env.scope scope (ownOf ck.N vs) := by rw [g.N, g.sc]; exact blkOk_by c1
        have gb := fun s H C cl fp => g.blk scope (blk_kind c1) s H C cl fp
        have r := es_setLc2S (A := A) (k := k) (W := W) (vs1 := vs1) (i := evI G ir) (t := t) (c := cond (evMs G cs)) (i1 := evI G ir1) (t1 := t1') (c1 := cond (evMs G cs1)) (f := evE G f) g.cm g.nd t1 b1 t2 b2 (ei_ok ir g tg it c3) bk (fun x hx => by rw [ownOf_snd]; simpa using List.all_eq_true.mp c0 x hx) (fun s H C cl fp => by rw [ownOf_snd]; exact eg_ok (gb s H C cl fp) t tg c4) (fun s H C cl fp => ef_ok cs (gb s H C cl fp) ifs c5) (fun s H C cl fp => ei_ok ir1 (gb s H C cl fp) tg1 it1 c6) (fun s H C cl fp => eg_ok (gb s H C cl fp) t1' tg1 c7) (fun s H C cl fp => ef_ok cs1 (gb s H C cl fp) ifs1 c8) (fun s H C cl fp => ex_ok (gb s H C cl fp) c9) c2 c2b
        rw [ownOf_snd] at r
        exact r
      · simp only [Bool.and_eq_true] at h2
        exact es_set g.nd t1 t3 t2 (ex_ok g h2.2) (sw_none h2.1) t4
    · cases h
  | .setT t c, s, h => by
    unfold chkS at h
    split at h
    · rename_i es n tp e pos
      simp only [Bool.and_eq_true, Bool.or_eq_true] at h
      refine es_setT (ex_ok g h.2) (eg_ok g t _ h.1.1) ?_
      rcases h.1.2 with h | h
      · exact sws_tup h
      · unfold parN at h
        obtain ⟨e, he, hx⟩ := List.any_eq_true.mp h
        refine sws_any ⟨e, he, fun x p q => ?_⟩
        subst q
        simp only [Bool.not_eq_true', beq_eq_false_iff_ne] at hx
        show X.env.scope.names.lookup x ≠ _
        rw [g.sc]
        exact hx
    · cases h
  | .par2 i j' a b, s, h => by
    unfold chkS at h
    split at h
    · rename_i x px y py _ _ ea eb _ _ _
      simp only [Bool.and_eq_true, parB, Bool.not_eq_true', beq_iff_eq, beq_eq_false_iff_ne] at h
      obtain ⟨⟨⟨⟨⟨⟨⟨⟨⟨⟨⟨⟨⟨⟨h1, h2⟩, h3⟩, h4⟩, h5⟩, h6⟩, h7⟩, h8⟩, h9⟩, h10⟩, h11⟩, h12⟩, h13⟩, h14⟩, h15⟩ := h
      have lx : X.env.scope.names.lookup x = some .local := by rw [g.sc]; exact h6
      have ly : X.env.scope.names.lookup y = some .local := by rw [g.sc]; exact h7
      exact es_par2 g.cm g.nd (g.nm h1) (g.nm h2) h5 (by simpa using h3) (by simpa using h4) lx ly (.cons ⟨ex_ok g h14, h10⟩ (.cons ⟨ex_ok g h15, h11⟩ .nil)) (sw_par2 (by rw [g.sc]; exact g.kd) lx ly (by simpa using h8) (by simpa using h9) h10 h11 h12 h13)
    · cases h
  | .par3 i j' l a b c, s, h => by
    unfold chkS at h
    split at h
    · rename_i x px y py z pz _ _ ea eb ec _ _ _
      simp only [Bool.and_eq_true, parB3, Bool.not_eq_true', beq_iff_eq, beq_eq_false_iff_ne] at h
      obtain ⟨⟨⟨a1, a2, a3⟩, ⟨b1, b2, b3⟩, ⟨c1, c2, c3⟩, d1, d2, d3, e1, e2, ⟨f1, f2, f3⟩, ⟨g1, g2, g3⟩, k1, k2⟩, m1, m2, m3⟩ := h
      have lx : X.env.scope.names.lookup x = some .local := by rw [g.sc]; exact d1
      have ly : X.env.scope.names.lookup y = some .local := by rw [g.sc]; exact d2
      have lz : X.env.scope.names.lookup z = some .local := by rw [g.sc]; exact d3
      exact es_par3 g.cm g.nd (g.nm a1) (g.nm a2) (g.nm a3) c1 c2 c3 (by simpa using b1) (by simpa using b2) (by simpa using b3) lx ly lz (.cons ⟨ex_ok g m1, g1⟩ (.cons ⟨ex_ok g m2, g2⟩ (.cons ⟨ex_ok g m3, g3⟩ .nil))) (sw_par3 (by rw [g.sc]; exact g.kd) lx ly lz (by simpa using e1) (by simpa using e2) (by simpa using f1) (by simpa using f2) (by simpa using f3) g1 g2 g3 k1 k2)
    · cases h
  | .put2 p q c, s, h => by
    unfold chkS at h
    split at h
    · simp only [Bool.and_eq_true] at h
      exact es_put2 g.hk g.tb g.un (by rw [g.N, g.sc]; exact h.1.1.1) (by rw [g.N, g.sc]; exact h.1.1.2) h.1.2 (ex_ok g h.2)
    · cases h
  | .put1 i ci c, s, h => by
    unfold chkS at h
    split at h
    · simp only [Bool.and_eq_true] at h
      exact es_put1 g.tb g.un (g.nm h.1.1.1.1) (g.vs h.1.1.1.2) h.1.1.2 (ex_ok g h.1.2) (ex_ok g h.2)
    · cases h
  | .fld i nm c, s, h => by
    unfold chkS at h
    split at h
    · simp only [Bool.and_eq_true, beq_iff_eq] at h
      obtain ⟨⟨⟨h1, h2⟩, rfl⟩, h4⟩ := h
      exact es_fld g.hk g.tb (g.nm h1) (g.vs h2) (ex_ok g h4)
    · cases h
  | .ife t a b, s, h => by
    unfold chkS at h
    split at h
    · simp only [Bool.and_eq_true] at h
      exact es_if (et_ok g h.1.1) (ess_ok g hp a _ h.1.2) (ess_ok g hp b _ h.2)
    · cases h
  | .for_ i t b, s, h => by
    unfold chkS at h
    split at h
    · simp only [Bool.and_eq_true] at h
      exact es_for hp g.cm (ei_ok i g _ _ h.1.1.2) (eg_ok g t _ h.1.2) (ess_ok g hp b _ h.2) h.1.1.1
    · cases h
  | .whl t b, s, h => by
    unfold chkS at h
    split at h
    · simp only [Bool.and_eq_true] at h
      exact es_while hp (et_ok g h.1) (ess_ok g hp b _ h.2)
    · cases h
theorem ess_ok (g : Gd X k G W j ck) (hp : PassesOwn (model X.prog X.w) X.A X.env X.xe) : ∀ (cs : List S) (ss : List Stmt), chkSs ck A cs ss = true → PSs X ss (tS k A W (evSs G cs))
  | [], ss, h => by
    unfold chkSs at h
    split at h
    · exact es_nil
    · cases h
  | c :: cs, ss, h => by
    unfold chkSs at h
    split at h
    · cases h
    · simp only [Bool.and_eq_true] at h
      exact es_cons (es_ok g hp c _ h.1) (ess_ok g hp cs _ h.2)
end
end
end Bp

/-! the program's defs, level by level -/
namespace Bp
open PySem PySem.Spec PyProof.Rows L2

/-- a def of the evaluator -/
structure Fd where
  n : Nat
  m : Nat
  A : List Nat
  body : List S
structure Pg where
  T : Tb
  I : List IsT
  con : Nat → Int
  ini : Nat → Nat
  fs : List Fd
noncomputable def evP (P : Pg) : Nat → Nat → List D → R D
  | 0, _, _ => .bad
  | l + 1, f, ds => match P.fs[f]? with
    | some d => evBody d.A d.n d.m (evSs ⟨P.T, P.I, evP P l, P.con, P.ini⟩ d.body) ds
    | none => .bad
noncomputable def Pg.gv (P : Pg) (l : Nat) : Gv := ⟨P.T, P.I, evP P l, P.con, P.ini⟩
/-- a def of the text -/
structure Fx where
  x : Str
  q : Str
  st : Stmt
  N : List Str
  ps : List Str
  a : Addr
  fd : FuncData
def fnScB (N P : List Str) (sc : Scope) : Bool := (match sc.kind with | .function => true | _ => false) && !sc.isCoroutine && !sc.isGenerator && decide N.Nodup && (N.take P.length == P) && P.all (fun x => sc.names.lookup x == some .local || sc.names.lookup x == some .cell) && sc.names.all (fun y => !(y.2 == .free))
theorem fnSc_of {N P : List Str} {sc : Scope} (h : fnScB N P sc = true) : FnScope N P sc := by
  unfold fnScB at h
  simp only [Bool.and_eq_true, Bool.not_eq_true', decide_eq_true_eq, beq_iff_eq, List.all_eq_true, Bool.or_eq_true, beq_eq_false_iff_ne] at h
  obtain ⟨⟨⟨⟨⟨⟨h1, h2⟩, h3⟩, h4⟩, h5⟩, h6⟩, h7⟩ := h
  refine ⟨?_, h2, h3, h4, h5, h6, h7⟩
  split at h1
  · assumption
  · cases h1
/-- the static check of one def -/
def fxB (F Cl : List (Str × Nat)) (Cn Bl : List Str) (x : Fx) (d : Fd) : Bool := fnScB x.N x.ps (defScope x.st) && decide (d.n = x.ps.length) && decide (d.m = x.N.length - x.ps.length) && chkSs ⟨x.N, defScope x.st, fun _ => true, F, Cl, Cn, Bl⟩ d.A d.body (defBody x.st)
structure PgOk (w : World) (P : Program) (K : PySem.W.Frag) (mg : Str → Option Value) (k : Kx) (G : Pg) (F Cl : List (Str × Nat)) (Cn Bl : List Str) (xs : List Fx) : Prop where
  hk : k.K = K
  tb : TbOk k G.T
  is : IsOk k G.I
  nb : ∀ x, Bl.contains x = true → mg x = none
  co : ∀ (i : Nat) (x : Str), Cn[i]? = some x → ∃ u, mg x = some u ∧ RelV (.int (G.con i)) u
  ln : xs.length = G.fs.length
  ck : ∀ (i : Nat) x d, xs[i]? = some x → G.fs[i]? = some d → fxB F Cl Cn Bl x d = true
  fn : ∀ x ∈ xs, Fun K x.x x.q x.st x.a x.fd ∧ Binds K x.fd x.ps []
  fo : ∀ (f : Nat) (x : Str) (n : Nat), F[f]? = some (x, n) → ∃ z, xs[f]? = some z ∧ mg x = some (.ref z.a) ∧ z.ps.length = n
  ko : ∀ (i : Nat) (x : Str) (n : Nat), Cl[i]? = some (x, n) → mg x = some (.ref (k.cA i)) ∧ ∃ z, xs[G.ini i]? = some z ∧ Mk K (k.cA i) z.a ∧ z.ps.length = n
theorem pg_ok {w : World} {P : Program} {K : PySem.W.Frag} {mg : Str → Option Value} {base : Heap} {k : Kx} {G : Pg} {F Cl : List (Str × Nat)} {Cn Bl : List Str} {xs : List Fx} (ok : PgOk w P K mg k G F Cl Cn Bl xs) :
    ∀ (l i : Nat) (x : Fx), xs[i]? = some x → FnOk P w K mg base (L2.CX P w) (2 * l) x.a x.fd x.ps (spE k x.ps.length (evP G l i))
  | 0, i, x, hx => ⟨fun vs H Q E h => h.1, fun A outer s H args us vs Q E hr he hb hv h => by
      obtain ⟨_, _, _, _, _, h⟩ := h
      exact (show False from h).elim⟩
  | l + 1, i, x, hx => by
    have hi : i < G.fs.length := by
      obtain ⟨h1, _⟩ := List.getElem?_eq_some_iff.mp hx
      rw [← ok.ln]
      exact h1
    have hd : G.fs[i]? = some G.fs[i] := List.getElem?_eq_getElem hi
    have hc := ok.ck i x _ hx hd
    unfold fxB at hc
    simp only [Bool.and_eq_true, decide_eq_true_eq] at hc
    obtain ⟨⟨⟨h1, h2⟩, h3⟩, h4⟩ := hc
    obtain ⟨Fn, Bn⟩ := ok.fn x (List.mem_of_getElem? hx)
    have S := fnSc_of h1
    have e : evP G (l + 1) i = evBody G.fs[i].A x.ps.length (x.N.length - x.ps.length) (evSs (G.gv l) G.fs[i].body) := by
      funext ds
      show (match G.fs[i]? with | some d => _ | none => _) = _
      rw [hd, ← h3, ← h2]
      rfl
    rw [e]
    refine fn_ev Fn S fun cdv A' outer s H E hr => ?_
    have hpx : PassesOwn (model P w) (cxOf (L2.CX P w) P w K mg base x.N x.q (defScope x.st) x.a cdv A' outer s H E).A (cxOf (L2.CX P w) P w K mg base x.N x.q (defScope x.st) x.a cdv A' outer s H E).env (cxOf (L2.CX P w) P w K mg base x.N x.q (defScope x.st) x.a cdv A' outer s H E).xe := passes_of rfl
    have g : Gd (cxOf (L2.CX P w) P w K mg base x.N x.q (defScope x.st) x.a cdv A' outer s H E) k (G.gv l) (fun cls d _ H => E cls d H) (2 * l) ⟨x.N, defScope x.st, fun _ => true, F, Cl, Cn, Bl⟩ :=
      ⟨ok.hk, ok.tb, ok.is, hr, rfl, S.nd, takes_of rfl rfl rfl rfl, rfl, rfl, S.kind, rfl, ok.nb, ok.co, fun f y n hf => by
        obtain ⟨z, z1, z2, z3⟩ := ok.fo f y n hf
        obtain ⟨f1, f2⟩ := ok.fn z (List.mem_of_getElem? z1)
        subst z3
        exact ⟨z.a, z.fd, z.ps, z2, f1.kp, f2, pg_ok ok l f z z1⟩, fun c y n hc => by
        obtain ⟨z1, z, z2, z3, z4⟩ := ok.ko c y n hc
        obtain ⟨f1, f2⟩ := ok.fn z (List.mem_of_getElem? z2)
        subst z4
        exact ⟨z1, z.a, z.fd, z.ps, z3, f2, pg_ok ok l (G.ini c) z z2⟩⟩
    exact ess_ok g hpx _ _ h4
/-- the law's own call -/
theorem law_sp {k : Kx} {H : Hp} {a : Addr} {ns : List Int} {f : List D → R D} (tb : LamX.Tabs k.T H) (hs : SqL k.K H a (ns.map V.int)) (hf : ∀ d : D, (d = .scr (ns.map D.int) ∨ d = .lst false (ns.map D.int)) → ∃ e, f [d] = .ok (.bl true) e) : spE k 1 f [.ref a] H (fun v _ => v = .bl true) fun _ _ _ => False := by
  have rp : ∀ (Z : Zs) (l : List Int), Reps k Z H (l.map D.int) (l.map V.int) [] := fun Z l => by
    induction l with
    | nil => exact .nil
    | cons x r ih => exact Reps.cons (o1 := []) (o2 := []) (.int x) ih
  have go : ∀ (Z : Zs) (d : D), (d = .scr (ns.map D.int) ∨ d = .lst false (ns.map D.int)) → Rep k Z H d (.ref a) [] → (∀ b, Z b → H b ≠ none) → spE k 1 f [.ref a] H (fun v _ => v = .bl true) fun _ _ _ => False := fun Z d hd r zt => by
    obtain ⟨e, he⟩ := hf d hd
    refine ⟨rfl, Z, [d], [], ⟨.nil tb, .one r, List.nodup_nil, (fun a ha => nomatch ha), zt⟩, ?_⟩
    rw [he]
    intro Z' H' v oe od s st
    obtain ⟨v', e', r⟩ := s.rp.one'
    cases e'
    cases r
    rfl
  rcases hs with (h | ⟨o, h⟩) | h
  · exact go (fun b => b = a) _ (.inr rfl) (.lstF rfl h (rp _ ns)) fun b hb => by rw [hb, h]; exact fun z => nomatch z
  · exact go (fun _ => False) _ (.inl rfl) (.scr (.inl ⟨o, h⟩) (rp _ ns)) fun b hb => hb.elim
  · exact go (fun _ => False) _ (.inl rfl) (.scr (.inr h) (rp _ ns)) fun b hb => hb.elim
end Bp

/-! what the row's text must give; the end -/
namespace Bp
open PySem PySem.Spec PyProof.Rows L2

def ty7 : List Ty := [.non, .bl, .int, .str, .tup, .lst, .dic]
def Ty.tn : Ty → String
  | .non => "NoneType"
  | .bl => "bool"
  | .int => "int"
  | .str => "str"
  | .tup => "tuple"
  | .lst => "list"
  | .dic => "dict"
  | .cls _ => ""
/-- isinstance between the built-in ones -/
def I0 : List IsT := ty7.flatMap fun a => [Ty.bl, .int, .str, .tup, .lst, .dic].map fun b => ⟨a, b, (kitB a.tn b.tn).getD false⟩
theorem i0_kit : (I0.all fun t => kitB t.a.tn t.b.tn == some t.r && (match t.a with | .cls _ => false | _ => true) && (match t.b with | .cls _ => false | _ => true)) = true := by kernel_rfl
theorem val_tn {k : Kx} {t : Ty} (h : (match t with | .cls _ => false | _ => true) = true) : t.val k = .type t.tn := by cases t <;> first | rfl | cases h
theorem isOk0 (k : Kx) : IsOk k I0 := by
  refine ⟨fun t ht => ?_, fun t ht c hc => ?_⟩
  · have q := List.all_eq_true.mp i0_kit t ht
    simp only [Bool.and_eq_true, beq_iff_eq] at q
    rw [val_tn q.1.2, val_tn q.2]
    exact kit_ty q.1.1
  · have q := List.all_eq_true.mp i0_kit t ht
    simp only [Bool.and_eq_true, beq_iff_eq] at q
    have := q.1.2
    rw [hc] at this
    cases this
/-- a def of the top -/
def TopE (K : PySem.W.Frag) (x : Str) (st : Stmt) (ps : List Str) : Prop := ∃ a fd, PySem.W.nsIn K mainGlobals x = some (some (.ref a)) ∧ Fun K x x st a fd ∧ Binds K fd ps [] ∧ ∀ (s : Shared) (us : List Value), us.length = ps.length → BindsTo s fd ⟨us, []⟩ (ps.zip us)
abbrev BindP (x q : Str) (st : Stmt) (ps : List Str) : Prop := ∀ (kV doc pm : Value) (an : Option Addr) (cdv ct : Value) (us : List Value), us.length = ps.length → bindArgs (PySem.W.fnOf x q (defArgs st) (defBody st) (defScope st) .none kV doc pm an cdv ct) ⟨us, []⟩ = pure (ps.zip us)
theorem topE_mk {K : PySem.W.Frag} {x : Str} {st : Stmt} {ps : List Str} {a : Addr} {oc : Value} {od an : Option Addr} {osl : Array (Option Value)} {kV doc pm cdv ct : Value} (b : BindP x x st ps) (n : PySem.W.nsIn K mainGlobals x = some (some (.ref a)))
    (l : K.lookup a = some ⟨oc, od, .func (PySem.W.fnOf x x (defArgs st) (defBody st) (defScope st) .none kV doc pm an cdv ct), osl⟩) (c : PySem.W.codeIn K cdv x = true) (k : PySem.W.keepIn K (.ref a) = true) : TopE K x st ps :=
  let F := fun_mk (x := x) (qual := x) (st := st) l c k
  ⟨a, _, n, F, F.binds b, fun s us hl => .of_eq (b kV doc pm an cdv ct us hl)⟩
/-- a class of the top with its __init__ -/
def ClsE (K : PySem.W.Frag) (x q : Str) (st : Stmt) (ps fs : List Str) : Prop := ∃ C f fd, PySem.W.nsIn K mainGlobals x = some (some (.ref C)) ∧ Mk K C f ∧ Fun K "__init__" q st f fd ∧ Binds K fd ps [] ∧ Cls K C ∧ ∀ nm ∈ fs, NoAttr K C nm
theorem clsE_mk {K : PySem.W.Frag} {x q : Str} {st : Stmt} {ps fs : List Str} {C a : Addr} {oc : Value} {od an : Option Addr} {osl : Array (Option Value)} {kV doc pm cdv ct : Value} (b : BindP "__init__" q st ps) (n : PySem.W.nsIn K mainGlobals x = some (some (.ref C)))
    (mi : PySem.W.findIn K (.ref C) "__init__" = some (some (.ref a))) (isf : PySem.W.isFn K (.ref a) = true)
    (l : K.lookup a = some ⟨oc, od, .func (PySem.W.fnOf "__init__" q (defArgs st) (defBody st) (defScope st) .none kV doc pm an cdv ct), osl⟩) (c : PySem.W.codeIn K cdv q = true) (k : PySem.W.keepIn K (.ref a) = true)
    (mk : PySem.W.makesIn K C = true) (kc : PySem.W.keepIn K (.ref C) = true) (pg : PySem.W.plainGet K C Str.empty = true) (hd : PySem.W.hasDictIn K C = true) (po : PySem.W.plainOver K C = true) (sa : PySem.W.findIn K (.ref C) "__setattr__" = some (some (.builtin "object.__setattr__")))
    (na : ∀ nm ∈ fs, PySem.W.findIn K (.ref C) nm = some none) : ClsE K x q st ps fs :=
  let F := fun_mk (x := "__init__") (qual := q) (st := st) l c k
  ⟨C, a, _, n, ⟨mk, mi, isf, kc⟩, F, F.binds b, ⟨pg, hd, po, sa⟩, na⟩
theorem paired_at {α β : Type} {G : α → β → Prop} : ∀ {l₁ : List α} {l₂ : List β}, Paired G l₁ l₂ → ∀ (i : Nat) {a : α} {b : β}, l₁[i]? = some a → l₂[i]? = some b → G a b
  | _, _, .nil, i, a, b, h, _ => by simp at h
  | _, _, .cons g t, 0, a, b, h1, h2 => by
    simp only [List.getElem?_cons_zero, Option.some.injEq] at h1 h2
    subst h1 h2
    exact g
  | _, _, .cons g t, i + 1, a, b, h1, h2 => paired_at t i (by simpa using h1) (by simpa using h2)
theorem paired_len {α β : Type} {G : α → β → Prop} : ∀ {l₁ : List α} {l₂ : List β}, Paired G l₁ l₂ → l₁.length = l₂.length
  | _, _, .nil => rfl
  | _, _, .cons _ t => by rw [List.length_cons, List.length_cons, paired_len t]
theorem paired_fst {α β : Type} {G : α → β → Prop} {l₁ : List α} {l₂ : List β} (p : Paired G l₁ l₂) (i : Nat) {a : α} (h : l₁[i]? = some a) : ∃ b, l₂[i]? = some b ∧ G a b := by
  obtain ⟨hi, _⟩ := List.getElem?_eq_some_iff.mp h
  have h2 : l₂[i]? = some (l₂[i]'(by rw [← paired_len p]; exact hi)) := List.getElem?_eq_getElem _
  exact ⟨_, h2, paired_at p i h h2⟩
def AllL {α : Type} (P : α → Prop) : List α → Prop
  | [] => True
  | x :: xs => P x ∧ AllL P xs
theorem AllL.mem {α : Type} {P : α → Prop} : ∀ {l : List α}, AllL P l → ∀ x ∈ l, P x
  | [], _, x, h => nomatch h
  | y :: ys, h, x, hx => (List.mem_cons.mp hx).elim (fun q => by rw [q]; exact h.1) fun q => AllL.mem h.2 x q
/-- the law's def, whatever addresses the classes have -/
def spL (K : PySem.W.Frag) (f : List D → R D) : Sp := fun vs H Q E => ∀ cA : Nat → Addr, spE ⟨K, cA, []⟩ 1 f vs H Q E
/-- the program from its parts -/
theorem pg_mk {w : World} {P : Program} {K : PySem.W.Frag} {mg : Str → Option Value} {k : Kx} {G : Pg} {F Cl : List (Str × Nat)} {Cn Bl : List Str} {xs ys : List Fx} (hk : k.K = K) (tb : TbOk k G.T) (is : IsOk k G.I) (nb : ∀ x, Bl.contains x = true → mg x = none)
    (co : ∀ (i : Nat) (x : Str), Cn[i]? = some x → ∃ u, mg x = some u ∧ RelV (.int (G.con i)) u)
    (ck : Paired (fun x d => fxB F Cl Cn Bl x d = true) (xs ++ ys) G.fs) (fn : AllL (fun x : Fx => Fun K x.x x.q x.st x.a x.fd ∧ Binds K x.fd x.ps []) (xs ++ ys))
    (fo : Paired (fun (p : Str × Nat) (z : Fx) => mg p.1 = some (.ref z.a) ∧ z.ps.length = p.2) F xs)
    (ko : ∀ (i : Nat) (x : Str) (n : Nat), Cl[i]? = some (x, n) → mg x = some (.ref (k.cA i)) ∧ ∃ z, (xs ++ ys)[G.ini i]? = some z ∧ Mk K (k.cA i) z.a ∧ z.ps.length = n) : PgOk w P K mg k G F Cl Cn Bl (xs ++ ys) :=
  ⟨hk, tb, is, nb, co, paired_len ck, fun i x d h1 h2 => paired_at ck i h1 h2, fn.mem, fun f x n h => by
    obtain ⟨z, h1, h2⟩ := paired_fst fo f h
    obtain ⟨hi, _⟩ := List.getElem?_eq_some_iff.mp h1
    exact ⟨z, by rw [List.getElem?_append_left hi]; exact h1, h2⟩, ko⟩
/-- a constant of the top -/
def ConE (K : PySem.W.Frag) (x : Str) (n : Int) : Prop := ∃ t, PySem.W.nsIn K mainGlobals x = some (some (.int n t))
/-- all names of bltNames free -/
def BltE (K : PySem.W.Frag) : List Str → Prop
  | [] => True
  | x :: xs => PySem.W.nsIn K mainGlobals x = some none ∧ BltE K xs
theorem bltE_mem {K : PySem.W.Frag} : ∀ {l : List Str}, BltE K l → ∀ x, l.contains x = true → PySem.W.nsIn K mainGlobals x = some none
  | [], _, x, h => by cases h
  | y :: ys, h, x, hx => by
    simp only [List.contains_cons, Bool.or_eq_true, beq_iff_eq] at hx
    rcases hx with q | q
    · rw [q]; exact h.1
    · exact bltE_mem h.2 x q
end Bp

/-! the evaluator, read: what must be so for a run to end as said -/
namespace Bp
open PySem PySem.Spec PyProof.Rows L2

@[irreducible] def wp {α : Type} (r : R α) (K : α → Env → Prop) : Prop := match r with
  | .ok a e => K a e
  | _ => False
@[irreducible] def onO {α : Type} (o : Option α) (K : α → Prop) : Prop := match o with
  | some a => K a
  | none => False
@[simp] theorem onO_some {α : Type} {a : α} {K : α → Prop} : onO (some a) K = K a := propext (by with_unfolding_all exact Iff.rfl)
@[simp] theorem onO_none {α : Type} {K : α → Prop} : onO none K = False := propext (by with_unfolding_all exact Iff.rfl)
section
variable {α β : Type} {K : α → Env → Prop} {e : Env}
theorem wp_mono {r : R α} {K' : α → Env → Prop} (h : wp r K) (m : ∀ a e, K a e → K' a e) : wp r K' := by
  cases r with
  | ok a e => with_unfolding_all exact m a e h
  | _ => with_unfolding_all exact h
theorem wp_eq {r : R α} {a : α} {e : Env} : wp r (fun x y => x = a ∧ y = e) ↔ r = .ok a e := by
  cases r with
  | ok x y => exact ⟨fun h => by obtain ⟨h1, h2⟩ : x = a ∧ y = e := (by with_unfolding_all exact h); rw [h1, h2], fun h => by cases h; with_unfolding_all exact ⟨rfl, rfl⟩⟩
  | _ => exact ⟨fun h => False.elim (by with_unfolding_all exact h), fun h => by cases h⟩
theorem wp_ex {r : R α} (h : wp r K) : ∃ a e, r = .ok a e ∧ K a e := by
  cases r with
  | ok a e => exact ⟨a, e, rfl, by with_unfolding_all exact h⟩
  | _ => exact False.elim (by with_unfolding_all exact h)
@[simp] theorem wp_ok {a : α} : wp (.ok a e) K = K a e := by with_unfolding_all rfl
@[simp] theorem wp_bad : wp (.bad : R α) K = False := by with_unfolding_all rfl
@[simp] theorem wp_bnd {m : M β} {f : β → M α} : wp (bnd m f e) K = wp (m e) fun b e' => wp (f b e') K := by
  unfold bnd
  cases m e <;> with_unfolding_all rfl
theorem wp_bnd' {m : M β} {f : β → M α} : wp ((bnd m f) e) K = wp (m e) fun b e' => wp (f b e') K := wp_bnd
@[simp] theorem wp_ret {a : α} : wp (ret a e) K = K a e := by with_unfolding_all rfl
theorem wp_optS {a : α} : wp (opt (some a) e) K = K a e := by with_unfolding_all rfl
theorem wp_opt {o : Option α} : wp (opt o e) K ↔ ∃ a, o = some a ∧ K a e := by
  cases o with
  | none => exact ⟨fun h => False.elim (by with_unfolding_all exact h), fun ⟨_, h, _⟩ => by cases h⟩
  | some a => exact ⟨fun h => ⟨a, rfl, by with_unfolding_all exact h⟩, fun ⟨_, h, q⟩ => by cases h; with_unfolding_all exact q⟩
theorem wp_ite {c : Prop} [Decidable c] {f g : M α} : wp ((if c then f else g) e) K = if c then wp (f e) K else wp (g e) K := by split <;> with_unfolding_all rfl
@[simp] theorem wp_noR {m : M α} : wp (noR m e) K = wp (m e) K := by
  unfold noR
  cases m e <;> with_unfolding_all rfl
@[simp] theorem wp_tgM {t : Tg} {d : D} {K : Unit → Env → Prop} : wp (tgM t d e) K = onO (tgE t d e) fun e' => K () e' := by
  unfold tgM
  cases tgE t d e <;> with_unfolding_all rfl
@[simp] theorem wp_mB {d : D} {K : Bool → Env → Prop} : wp (mB d e) K = onO (asBl d) fun b => K b e := by
  unfold mB
  cases asBl d <;> with_unfolding_all rfl
@[simp] theorem wp_fT {f : M D} {K : Bool → Env → Prop} : wp (fT f e) K = wp (f e) fun d e' => onO (asBl d) fun b => K b e' := by
  unfold fT
  rw [wp_bnd]
  congr 1
  funext d e'
  exact wp_mB
@[simp] theorem wp_fRd {T : Tb} {p : P0} {K : D → Env → Prop} : wp (fRd T p e) K = onO (getP T p e) fun d => if d.fz = true then K d e else False := by
  unfold fRd
  cases getP T p e with
  | none => with_unfolding_all rfl
  | some d => rw [onO_some]; dsimp only; split <;> with_unfolding_all rfl
@[simp] theorem wp_fMov {i : Nat} {K : D → Env → Prop} : wp (fMov i e) K = onO (getP ⟨fun _ _ => false⟩ (.v i) e) fun d => K d (e.set i none) := by
  unfold fMov
  cases getP _ (.v i) e <;> with_unfolding_all rfl
@[simp] theorem wp_fShr {i : Nat} {K : D → Env → Prop} : wp (fShr i e) K = onO (getP ⟨fun _ _ => false⟩ (.v i) e) fun d => K d.sh (e.set i (some d.sh)) := by
  unfold fShr
  cases getP _ (.v i) e <;> with_unfolding_all rfl
/-! ### statements -/
@[simp] theorem wp_seq {f g : M Ct} {K : Ct → Env → Prop} : wp (fSeq f g e) K = wp (f e) fun c e' => match c with
    | .nx => wp (g e') K
    | c => K c e' := by
  unfold fSeq
  rw [wp_bnd]
  congr 1
  funext c e'
  cases c <;> with_unfolding_all rfl
/-- through a for, no way out -/
theorem wp_for {γ : Type} {t : Tg} {b : M Ct} (g : γ → D) (I : List γ → Env → Prop) {K : Ct → Env → Prop} (l : List γ)
    (h : ∀ p x s e, l = p ++ x :: s → I p e → wp (tgM t (g x) e) fun _ e1 => wp (b e1) fun c e2 => match c with
      | .nx => I (p ++ [x]) e2
      | .ct => I (p ++ [x]) e2
      | .bk => K .nx e2
      | .rt d => K (.rt d) e2)
    (h0 : I [] e) (hn : ∀ e, I l e → K .nx e) : wp (forM t b (l.map g) e) K := by
  suffices ∀ s p e, l = p ++ s → I p e → wp (forM t b (s.map g) e) K from this l [] e rfl h0
  intro s
  induction s with
  | nil => intro p e hp hi; rw [List.append_nil] at hp; subst hp; with_unfolding_all exact hn e hi
  | cons x s ih =>
    intro p e hp hi
    rw [List.map_cons, forM, wp_bnd]
    refine wp_mono (h p x s e hp hi) fun _ e1 h1 => ?_
    rw [wp_bnd]
    refine wp_mono h1 fun c e2 h2 => ?_
    cases c with
    | nx => exact ih (p ++ [x]) e2 (by rw [hp]; simp) h2
    | ct => exact ih (p ++ [x]) e2 (by rw [hp]; simp) h2
    | bk => with_unfolding_all exact h2
    | rt d => with_unfolding_all exact h2
theorem whileM_inv {c : M Bool} {b : M Ct} (I : Nat → Env → Prop) {K : Ct → Env → Prop}
    (h : ∀ n e, I n e → wp (c e) fun y e1 => if y = true then wp (b e1) fun r e2 => match r with
      | .nx => ∃ m, m < n ∧ I m e2
      | .ct => ∃ m, m < n ∧ I m e2
      | .bk => K .nx e2
      | .rt d => K (.rt d) e2 else K .nx e1) : ∀ n e, I n e → wp (whileM c b (n + 1) e) K := by
  intro n
  induction n using Nat.strongRecOn with
  | ind n ih =>
    intro e hi
    unfold whileM
    rw [wp_bnd]
    refine wp_mono (h n e hi) fun y e1 h1 => ?_
    split
    · rename_i hy
      rw [if_pos hy] at h1
      rw [wp_bnd]
      refine wp_mono h1 fun r e2 h2 => ?_
      have go : (∃ m, m < n ∧ I m e2) → wp (whileM c b n e2) K := fun ⟨m, hm, hI⟩ => by
        have q := ih m hm e2 hI
        obtain ⟨a, e3, ha, hK⟩ := wp_ex q
        rw [whileM_more (n := m + 1) (m := n) (by omega) (by rw [ha]; exact fun z => nomatch z), ha]
        with_unfolding_all exact hK
      cases r with
      | nx => exact go h2
      | ct => exact go h2
      | bk => with_unfolding_all exact h2
      | rt d => with_unfolding_all exact h2
    · rename_i hy
      rw [if_neg hy] at h1
      with_unfolding_all exact h1
theorem wp_while {c : M Bool} {b : M Ct} (I : Nat → Env → Prop) {K : Ct → Env → Prop} (n : Nat)
    (h : ∀ n e, I n e → wp (c e) fun y e1 => if y = true then wp (b e1) fun r e2 => match r with
      | .nx => ∃ m, m < n ∧ I m e2
      | .ct => ∃ m, m < n ∧ I m e2
      | .bk => K .nx e2
      | .rt d => K (.rt d) e2 else K .nx e1) (h0 : I n e) : wp (fWhile c b e) K := by
  have q := whileM_inv I h n e h0
  obtain ⟨a, e3, ha, hK⟩ := wp_ex q
  rw [fWhile_eq (n := n + 1) (by rw [ha]; exact fun z => nomatch z), ha]
  with_unfolding_all exact hK
/-! ### comprehensions -/
theorem lcEl_eq {f : M D} {acc : List D} {d : D} {e e' : Env} (hl : acc.length < 16777216) (h : f e = .ok d e') : lcEl f acc e = .ok (acc ++ [d]) e' := by
  unfold lcEl
  rw [if_pos (decide_eq_true hl), bnd_ok h]
  rfl
/-- what one turn must give -/
def LcAt {γ : Type} (vs : List Nat) (t : Tg) (c : M Bool) (f : M D) (e0 : Env) (g : γ → D) (P : γ → Bool) (F : γ → D) (x : γ) : Prop :=
  wp (tgM t (g x) e0) fun _ e1 => wp (c e1) fun b e2 => b = P x ∧ (P x = false → wipeE e2 vs = e0) ∧ (P x = true → wp (f e2) fun d e3 => d = F x ∧ wipeE e3 vs = e0)
theorem lcGo_eq {γ : Type} {vs : List Nat} {t : Tg} {c : M Bool} {f : M D} {e0 : Env} (g : γ → D) (P : γ → Bool) (F : γ → D) : ∀ (l : List γ) (acc : List D) (e : Env), (∀ x ∈ l, LcAt vs t c f e0 g P F x) → wipeE e vs = e0 → acc.length + l.length ≤ 16777216 →
    lcGo vs t c (lcEl f) (l.map g) acc e = .ok (acc ++ (l.filter P).map F) e0
  | [], acc, e, _, he, _ => by rw [List.map_nil, lcGo]; dsimp only; rw [he]; simp
  | x :: l, acc, e, h, he, hl => by
    rw [List.length_cons] at hl
    have hx := h x List.mem_cons_self
    unfold LcAt at hx
    obtain ⟨_, e1, q1, hx⟩ := wp_ex hx
    obtain ⟨b, e2, q2, rfl, hx1, hx2⟩ := wp_ex hx
    rw [List.map_cons, lcGo]
    dsimp only
    rw [he, bnd_ok q1, bnd_ok q2]
    cases hP : P x with
    | true =>
      obtain ⟨d, e3, q3, rfl, q4⟩ := wp_ex (hx2 hP)
      rw [if_pos rfl, bnd_ok (lcEl_eq (by omega) q3), lcGo_eq g P F l _ e3 (fun y hy => h y (List.mem_cons_of_mem _ hy)) q4 (by rw [List.length_append]; simp; omega), List.filter_cons_of_pos hP]
      simp
    | false =>
      rw [if_neg (by decide), lcGo_eq g P F l acc e2 (fun y hy => h y (List.mem_cons_of_mem _ hy)) (hx1 hP) (by omega), List.filter_cons_of_neg (by rw [hP]; decide)]
theorem wp_fLc {γ : Type} {vs : List Nat} {i : M ItR} {t : Tg} {c : M Bool} {f : M D} {e : Env} {K : D → Env → Prop} (g : γ → D) (P : γ → Bool) (F : γ → D) (l : List γ)
    (hi : wp (i e) fun r e1 => r.its = l.map g ∧ (∀ x ∈ l, LcAt vs t c f (wipeE e1 vs) g P F x) ∧ K (.lst true ((l.filter P).map F)) (wipeE e1 vs)) (hl : l.length ≤ 16777216) : wp (fLc vs i t c f e) K := by
  unfold fLc
  rw [wp_bnd]
  refine wp_mono hi fun r e1 ⟨h1, h2, h3⟩ => ?_
  rw [wp_noR, wp_bnd, h1, lcGo_eq g P F l [] e1 h2 rfl (by simpa using hl)]
  with_unfolding_all exact h3
end
theorem evP_eq {P : Pg} {l f : Nat} {ds : List D} {d : Fd} (h : P.fs[f]? = some d) : evP P (l + 1) f ds = evBody d.A d.n d.m (evSs (P.gv l) d.body) ds := by
  show (match P.fs[f]? with | some d => _ | none => _) = _
  rw [h]
  rfl
theorem evBody_eq {As : List Nat} {n m : Nat} {f : M Ct} {ds : List D} {d : D} {e : Env} (h : wp (f (ds.map some ++ List.replicate m none)) fun c e' => match c with
    | .nx => d = .non ∧ wipeE (e'.take n) As = e
    | .rt x => d = x ∧ wipeE (e'.take n) As = e
    | _ => False) : evBody As n m f ds = .ok d e := by
  obtain ⟨c, e', h1, h2⟩ := wp_ex h
  unfold evBody
  rw [h1]
  cases c with
  | nx => obtain ⟨h3, h4⟩ := h2; subst h3 h4; rfl
  | rt x => obtain ⟨h3, h4⟩ := h2; subst h3 h4; rfl
  | _ => exact h2.elim
end Bp

/-! whole numbers, rows of them, rows of rows -/
namespace Bp
open PySem PySem.Spec PyProof.Rows L2

def nI (i : Nat) : D := .int (i : Int)
def tI (l : List Nat) : D := .tup (l.map nI)
def tII (L : List (List Nat)) : D := .tup (L.map tI)
theorem fzs_all {xs : List D} (h : ∀ x ∈ xs, x.fz = true) : fzs xs = true := by
  induction xs with
  | nil => rfl
  | cons x xs ih => simp only [fzs, h x List.mem_cons_self, ih (fun y hy => h y (List.mem_cons_of_mem _ hy)), Bool.and_self]
@[simp] theorem fz_int (i : Int) : (D.int i).fz = true := rfl
@[simp] theorem fz_bl (b : Bool) : (D.bl b).fz = true := rfl
@[simp] theorem fz_nI (i : Nat) : (nI i).fz = true := rfl
@[simp] theorem fzs_nI (l : List Nat) : fzs (l.map nI) = true := fzs_all fun x h => by
  obtain ⟨i, _, rfl⟩ := List.mem_map.mp h
  rfl
@[simp] theorem fzs_int (l : List Int) : fzs (l.map D.int) = true := fzs_all fun x h => by
  obtain ⟨i, _, rfl⟩ := List.mem_map.mp h
  rfl
@[simp] theorem fz_tI (l : List Nat) : (tI l).fz = true := by unfold tI D.fz; exact fzs_nI l
@[simp] theorem fzs_tI (L : List (List Nat)) : fzs (L.map tI) = true := fzs_all fun x h => by
  obtain ⟨i, _, rfl⟩ := List.mem_map.mp h
  exact fz_tI i
@[simp] theorem fz_tII (L : List (List Nat)) : (tII L).fz = true := by unfold tII D.fz; exact fzs_tI L
/-! shared already -/
mutual
theorem sh_fz : ∀ (d : D), d.fz = true → d.sh = d
  | .non, _ => rfl
  | .bl _, _ => rfl
  | .int _, _ => rfl
  | .str _, _ => rfl
  | .tup xs, h => by unfold D.sh; rw [shs_fz xs h]
  | .lst o xs, h => by
    unfold D.fz at h
    cases o with
    | true => simp at h
    | false => unfold D.sh; rw [shs_fz xs (by simpa using h)]
  | .scr xs, h => by unfold D.sh; rw [shs_fz xs h]
  | .dk o ks xs, h => by
    unfold D.fz at h
    cases o with
    | true => simp at h
    | false => unfold D.sh; rw [shs_fz xs (by simpa using h)]
  | .dt o ks xs, h => by
    unfold D.fz at h
    cases o with
    | true => simp at h
    | false => unfold D.sh; rw [shs_fz xs (by simpa using h)]
  | .ins o c fs xs, h => by
    unfold D.fz at h
    cases o with
    | true => simp at h
    | false => unfold D.sh; rw [shs_fz xs (by simpa using h)]
theorem shs_fz : ∀ (xs : List D), fzs xs = true → shs xs = xs
  | [], _ => rfl
  | x :: xs, h => by
    unfold fzs at h
    rw [Bool.and_eq_true] at h
    unfold shs
    rw [sh_fz x h.1, shs_fz xs h.2]
end
@[simp] theorem sh_tI (l : List Nat) : (tI l).sh = tI l := sh_fz _ (fz_tI l)
@[simp] theorem sh_nI (i : Nat) : (nI i).sh = nI i := rfl
@[simp] theorem sh_tII (L : List (List Nat)) : (tII L).sh = tII L := sh_fz _ (fz_tII L)
theorem sh_lst {xs : List D} (o : Bool) (h : fzs xs = true) : (D.lst o xs).sh = .lst false xs := by unfold D.sh; rw [shs_fz xs h]
/-! as data -/
@[simp] theorem toP_nI (i : Nat) : toP (nI i) = .int i := rfl
theorem toPs_nI (l : List Nat) : toPs (l.map nI) = l.map fun (i : Nat) => PyData.int i := by rw [toPs_map, List.map_map]; rfl
theorem toP_tI (l : List Nat) : toP (tI l) = .tuple (l.map fun (i : Nat) => PyData.int i) := by unfold tI toP; rw [toPs_nI]
theorem canAll_ints : ∀ l : List Nat, PyData.canLayAll0 (l.map fun (i : Nat) => PyData.int i) = true
  | [] => rfl
  | x :: l => by simp only [List.map_cons, PyData.canLayAll0, PyData.canLay0, canAll_ints l, Bool.and_self]
theorem depthAll_ints : ∀ l : List Nat, PyData.depthAll (l.map fun (i : Nat) => PyData.int i) = 0
  | [] => rfl
  | x :: l => by simp only [List.map_cons, PyData.depthAll, PyData.depth, depthAll_ints l]; rfl
@[simp] theorem okP_int (i : Int) : okP (.int i) = true := rfl
@[simp] theorem okP_nI (i : Nat) : okP (nI i) = true := rfl
@[simp] theorem okP_bl (b : Bool) : okP (.bl b) = true := rfl
@[simp] theorem okP_tI (l : List Nat) : okP (tI l) = true := by
  unfold okP SeqAt.shaped
  rw [toP_tI, PyData.canLay0, canAll_ints, PyData.depth, depthAll_ints]
  rfl
theorem canAll_tI : ∀ L : List (List Nat), PyData.canLayAll0 (toPs (L.map tI)) = true
  | [] => rfl
  | x :: L => by
    simp only [List.map_cons, toPs, PyData.canLayAll0, canAll_tI L, toP_tI, PyData.canLay0, canAll_ints, Bool.and_self]
theorem depthAll_tI : ∀ L : List (List Nat), PyData.depthAll (toPs (L.map tI)) ≤ 1
  | [] => Nat.zero_le _
  | x :: L => by
    simp only [List.map_cons, toPs, PyData.depthAll, toP_tI, PyData.depth, depthAll_ints]
    have := depthAll_tI L
    omega
@[simp] theorem okP_lst_nI (o : Bool) (l : List Nat) : okP (.lst o (l.map nI)) = true := by
  unfold okP SeqAt.shaped toP
  rw [toPs_nI, PyData.canLay0, canAll_ints, PyData.depth, depthAll_ints]
  rfl
@[simp] theorem okP_lst_tI (o : Bool) (L : List (List Nat)) : okP (.lst o (L.map tI)) = true := by
  unfold okP SeqAt.shaped toP
  rw [PyData.canLay0, canAll_tI, PyData.depth, Bool.true_and]
  have := depthAll_tI L
  exact decide_eq_true (by omega)
@[simp] theorem okP_tII (L : List (List Nat)) : okP (tII L) = true := by
  unfold okP SeqAt.shaped tII toP
  rw [PyData.canLay0, canAll_tI, PyData.depth, Bool.true_and]
  have := depthAll_tI L
  exact decide_eq_true (by omega)
theorem eqvAll_ints : ∀ a b : List Nat, PyData.eqvAll (a.map fun (i : Nat) => PyData.int i) (b.map fun (i : Nat) => PyData.int i) = decide (a = b)
  | [], [] => rfl
  | [], _ :: _ => rfl
  | _ :: _, [] => rfl
  | x :: a, y :: b => by
    simp only [List.map_cons, PyData.eqvAll, PyData.eqv, eqvAll_ints a b]
    by_cases h : x = y
    · subst h; by_cases h2 : a = b <;> simp [h2]
    · have : ((x : Int) == (y : Int)) = false := by rw [beq_eq_false_iff_ne]; omega
      rw [this]; simp [h]
@[simp] theorem eqD_int (i j : Int) : eqD (.int i) (.int j) = decide (i = j) := by
  show (i == j) = _
  by_cases h : i = j <;> simp [h]
@[simp] theorem eqD_nI (i j : Nat) : eqD (nI i) (nI j) = decide (i = j) := by
  show ((i : Int) == (j : Int)) = _
  by_cases h : i = j
  · simp [h]
  · have : ((i : Int) == (j : Int)) = false := by rw [beq_eq_false_iff_ne]; omega
    rw [this]; simp [h]
@[simp] theorem eqD_tI (a b : List Nat) : eqD (tI a) (tI b) = decide (a = b) := by
  unfold eqD
  rw [toP_tI, toP_tI, PyData.eqv, eqvAll_ints]
@[simp] theorem eqD_lst_nI (o o' : Bool) (a b : List Nat) : eqD (.lst o (a.map nI)) (.lst o' (b.map nI)) = decide (a = b) := by
  unfold eqD toP
  rw [toPs_nI, toPs_nI, PyData.eqv, eqvAll_ints]
theorem eqvAll_tI : ∀ a b : List (List Nat), PyData.eqvAll (toPs (a.map tI)) (toPs (b.map tI)) = decide (a = b)
  | [], [] => rfl
  | [], _ :: _ => rfl
  | _ :: _, [] => rfl
  | x :: a, y :: b => by
    simp only [List.map_cons, toPs, PyData.eqvAll, eqvAll_tI a b]
    rw [show PyData.eqv (toP (tI x)) (toP (tI y)) = decide (x = y) from eqD_tI x y]
    by_cases h : x = y
    · subst h; by_cases h2 : a = b <;> simp [h2]
    · simp [h]
@[simp] theorem eqD_lst_tI (o o' : Bool) (a b : List (List Nat)) : eqD (.lst o (a.map tI)) (.lst o' (b.map tI)) = decide (a = b) := by
  unfold eqD toP
  rw [PyData.eqv, eqvAll_tI]
@[simp] theorem inD_tI (i : Nat) (l : List Nat) : inD (nI i) (tI l) = some (decide (i ∈ l)) := by
  have h : okP (tI l) = true := okP_tI l
  unfold tI at h ⊢
  unfold inD
  simp only [okP_nI, h, Bool.and_self, if_true]
  congr 1
  induction l with
  | nil => rfl
  | cons x l ih =>
    have ih' := ih (okP_tI l)
    rw [List.map_cons, List.any_cons, ih', eqD_nI]
    by_cases h : x = i
    · simp [h]
    · have h2 : ¬ i = x := fun z => h z.symm
      simp [h, h2]
@[simp] theorem inD_lst_tI (o : Bool) (a : List Nat) (L : List (List Nat)) : inD (tI a) (.lst o (L.map tI)) = some (decide (a ∈ L)) := by
  have h : okP (.lst o (L.map tI)) = true := okP_lst_tI o L
  unfold inD
  simp only [okP_tI, h, Bool.and_self, if_true]
  congr 1
  clear h
  induction L with
  | nil => rfl
  | cons x l ih =>
    rw [List.map_cons, List.any_cons, ih, eqD_tI]
    by_cases h : x = a
    · simp [h]
    · have h2 : ¬ a = x := fun z => h z.symm
      simp [h, h2]
theorem atI_nat {α : Type} {xs : List α} {i : Nat} (h : i < xs.length) : atI xs (i : Int) = some xs[i] := by
  unfold atI ixN
  have h1 : (0 : Int) ≤ (i : Int) := Int.natCast_nonneg i
  have h2 : (i : Int) < (xs.length : Int) := by omega
  rw [if_pos h1, if_pos h2, Option.bind_some, Int.toNat_natCast, List.getElem?_eq_getElem h]
theorem sub_tII {L : List (List Nat)} {i : Nat} (h : i < L.length) : subD (tII L) (nI i) = some (tI (L.getD i [])) := by
  show atI (L.map tI) (i : Int) = _
  rw [atI_nat (by rw [List.length_map]; exact h), List.getElem_map, List.getD_eq_getElem?_getD, List.getElem?_eq_getElem h]
  rfl
theorem rng_nI (n : Nat) : rngD 0 n = (List.range n).map nI := by
  unfold rngD
  refine List.map_congr_left fun i _ => ?_
  show D.int (0 + (i : Int)) = .int (i : Int)
  rw [Int.zero_add]
theorem rngOk_nat {n : Nat} (h : n ≤ 1000000000000000000) : rngOk (n : Int) = true := by
  unfold rngOk
  simp only [Bool.and_eq_true, decide_eq_true_eq]
  omega
/-! the order -/
theorem leD_nI (i j : Nat) : leD (nI i) (nI j) = decide (i ≤ j) := by
  unfold leD
  have h := congrFun (congrFun (PySem.W.dataLe_int (fun d : D => match d with | .int i => i | _ => 0)) (nI i)) (nI j)
  have e : PySem.W.dataLe false toP (nI i) (nI j) = PySem.W.dataLe false (fun b : D => PyData.int (match b with | .int i => i | _ => 0)) (nI i) (nI j) := rfl
  rw [e, h]
  show decide ((i : Int) ≤ (j : Int)) = _
  by_cases q : i ≤ j
  · simp [q]
  · simp [q]
def cI (l : List Nat) : List Int := l.map fun (i : Nat) => (i : Int)
theorem cI_inj {a b : List Nat} (h : cI a = cI b) : a = b := by
  unfold cI at h
  exact List.map_inj_right (f := fun (i : Nat) => (i : Int)) (fun x y q => by exact Int.ofNat_inj.mp q) |>.mp h
end Bp

/-! sorting -/
namespace Bp
open PySem PySem.Spec PyProof.Rows L2

theorem sort_map {γ : Type} {f : γ → D} {le : γ → γ → Bool} (hle : ∀ a b, leD (f a) (f b) = le a b) (ha : ∀ a b, le a b = true → le b a = true → a = b) (ht : ∀ a b c, le a b = true → le b c = true → le a c = true) (hto : ∀ a b, (le a b || le b a) = true)
    {l m : List γ} (hl : l.Nodup) (hm : m.Nodup) (hs : m.Pairwise fun a b => le a b = true) (hmem : ∀ x, x ∈ l ↔ x ∈ m) : (l.map f).mergeSort leD = m.map f := by
  rw [← List.map_mergeSort (r := le) (s := leD) (fun a _ b _ => (hle a b).symm)]
  congr 1
  have p : (l.mergeSort le).Perm m := (List.mergeSort_perm l le).trans ((List.perm_ext_iff_of_nodup hl hm).mpr hmem)
  exact p.eq_of_pairwise (le := fun a b => le a b = true) (fun a b _ _ h1 h2 => ha a b h1 h2) (List.pairwise_mergeSort (fun a b c h1 h2 => ht a b c h1 h2) (fun a b => hto a b) l) hs
/-- rows of numbers, as Python orders them -/
def leT (a b : List Nat) : Bool := decide (cI a ≤ cI b)
theorem leD_tI (a b : List Nat) : leD (tI a) (tI b) = leT a b := by
  have e : leD (tI a) (tI b) = !PySem.W.dataLt (toP (tI b)) (toP (tI a)) := rfl
  have m : ∀ l : List Nat, (l.map fun (i : Nat) => PyData.int i) = (cI l).map PyData.int := fun l => by unfold cI; rw [List.map_map]; rfl
  rw [e, toP_tI, toP_tI, PySem.W.dataLt_tuple, m, m]
  show (!PySem.W.rowLt ((cI b).map .int) ((cI a).map .int)) = _
  rw [PySem.W.dataLt_ints]
  unfold leT
  by_cases h : cI b < cI a
  · have h' : ¬ cI a ≤ cI b := fun r => List.not_lt.mpr r h
    simp [h, h']
  · have h' : cI a ≤ cI b := List.not_lt.mp h
    simp [h, h']
theorem leT_anti (a b : List Nat) (h1 : leT a b = true) (h2 : leT b a = true) : a = b := by
  unfold leT at h1 h2
  exact cI_inj (List.le_antisymm (of_decide_eq_true h1) (of_decide_eq_true h2))
theorem leT_trans (a b c : List Nat) (h1 : leT a b = true) (h2 : leT b c = true) : leT a c = true := by
  unfold leT at h1 h2 ⊢
  exact decide_eq_true (List.le_trans (of_decide_eq_true h1) (of_decide_eq_true h2))
theorem leT_total (a b : List Nat) : (leT a b || leT b a) = true := by
  unfold leT
  rcases List.le_total (cI a) (cI b) with h | h
  · simp [h]
  · simp [h]
theorem leT_pair (a b c d : Nat) : leT [a, b] [c, d] = decide (a < c ∨ a = c ∧ b ≤ d) := by
  unfold leT cI
  have e : (([a, b].map fun (i : Nat) => (i : Int)) ≤ ([c, d].map fun (i : Nat) => (i : Int))) ↔ (a < c ∨ a = c ∧ b ≤ d) := by
    simp only [List.map_cons, List.map_nil, List.cons_le_cons_iff]
    have : (([] : List Int) ≤ []) := List.le_refl _
    simp only [this, and_true]
    omega
  exact decide_eq_decide.mpr e
theorem sort_tI {l m : List (List Nat)} (hl : l.Nodup) (hm : m.Nodup) (hs : m.Pairwise fun a b => leT a b = true) (hmem : ∀ x, x ∈ l ↔ x ∈ m) : (l.map tI).mergeSort leD = m.map tI := sort_map leD_tI leT_anti leT_trans leT_total hl hm hs hmem
theorem sort_nI {l m : List Nat} (hl : l.Nodup) (hm : m.Nodup) (hs : m.Pairwise fun a b => a ≤ b) (hmem : ∀ x, x ∈ l ↔ x ∈ m) : (l.map nI).mergeSort leD = m.map nI :=
  sort_map (le := fun a b => decide (a ≤ b)) leD_nI (fun a b h1 h2 => Nat.le_antisymm (of_decide_eq_true h1) (of_decide_eq_true h2)) (fun a b c h1 h2 => decide_eq_true (Nat.le_trans (of_decide_eq_true h1) (of_decide_eq_true h2)))
    (fun a b => by rcases Nat.le_total a b with h | h <;> simp [h]) hl hm (hs.imp fun h => decide_eq_true h) hmem
theorem alikeAll_ints : ∀ a b : List Nat, PySem.W.alikeAll (a.map fun (i : Nat) => PyData.int i) (b.map fun (i : Nat) => PyData.int i) = true
  | [], b => by cases b <;> rfl
  | _ :: _, [] => rfl
  | x :: a, y :: b => by simp only [List.map_cons, PySem.W.alikeAll, PySem.W.alike, alikeAll_ints a b, Bool.and_self]
theorem sortL_nI {l : List Nat} (h : l.length ≤ 16777216) : sortL (l.map nI) = some (.lst true ((l.map nI).mergeSort leD)) := by
  have c : sortCk (l.map nI) = true := by
    unfold sortCk
    simp only [Bool.and_eq_true, fzs_nI, true_and, List.length_map]
    refine ⟨⟨?_, ?_⟩, decide_eq_true (by rw [sizeLine_eq]; exact h)⟩
    · simp only [List.all_eq_true, List.mem_map, forall_exists_index, and_imp, forall_apply_eq_imp_iff₂]
      intro i _ j _
      rfl
    · simp only [List.all_eq_true, List.mem_map, forall_exists_index, and_imp, forall_apply_eq_imp_iff₂]
      intro i _
      rfl
  unfold sortL
  rw [if_pos c]
theorem sortL_tI {l : List (List Nat)} (h : l.length ≤ 16777216) : sortL (l.map tI) = some (.lst true ((l.map tI).mergeSort leD)) := by
  have c : sortCk (l.map tI) = true := by
    unfold sortCk
    simp only [Bool.and_eq_true, fzs_tI, true_and, List.length_map]
    refine ⟨⟨?_, ?_⟩, decide_eq_true (by rw [sizeLine_eq]; exact h)⟩
    · simp only [List.all_eq_true, List.mem_map, forall_exists_index, and_imp, forall_apply_eq_imp_iff₂]
      intro i _ j _
      rw [toP_tI, toP_tI, PySem.W.alike, alikeAll_ints]
    · simp only [List.all_eq_true, List.mem_map, forall_exists_index, and_imp, forall_apply_eq_imp_iff₂]
      intro i _
      rw [okP_tI]
      rfl
  unfold sortL
  rw [if_pos c]
end Bp

/-! the evaluator, read: each form -/
namespace Bp
open PySem PySem.Spec PyProof.Rows L2
section
variable {α β : Type} {T : Tb} {e : Env}
@[simp] theorem getP_v {i : Nat} : getP T (.v i) e = (e[i]?).join := by
  unfold getP
  split
  · rename_i d h; rw [h]; rfl
  · rename_i h
    cases q : e[i]? with
    | none => rfl
    | some o =>
      cases o with
      | none => rfl
      | some d => exact absurd q (h d)
@[simp] theorem getP_k {n : Int} : getP T (.k n) e = some (.int n) := rfl
@[simp] theorem getP_ks {x : Str} : getP T (.ks x) e = some (.str x) := rfl
@[simp] theorem getP_s {p q : P0} : getP T (.s p q) e = (getP T p e).bind fun d => (getP T q e).bind fun i => subD d i := by
  rw [getP]
  cases getP T p e with
  | none => rfl
  | some d => cases getP T q e <;> rfl
@[simp] theorem getP_f {p : P0} {nm : Str} : getP T (.f p nm) e = (getP T p e).bind fun d => fldD T d nm := by
  rw [getP]
  cases getP T p e <;> rfl
@[simp] theorem wp_evA0 {K : List D → Env → Prop} : wp (evA T [] e) K = K [] e := by with_unfolding_all rfl
@[simp] theorem wp_evAe {f : M D} {as : List Ag} {K : List D → Env → Prop} : wp (evA T (.ev f :: as) e) K = wp (f e) fun d e1 => wp (evA T as e1) fun ds e2 => K (d :: ds) e2 := by
  rw [evA, wp_bnd]
  congr 1
  funext d e1
  rw [wp_bnd]
  with_unfolding_all rfl
@[simp] theorem wp_evA1 {p : P0} {K : List D → Env → Prop} : wp (evA T [.pk p] e) K = onO (getP T p e) fun d => K [d] e := by
  rw [evA]
  dsimp only
  cases getP T p e <;> with_unfolding_all rfl
@[simp] theorem wp_evA2 {i : Nat} {a : Ag} {as : List Ag} {K : List D → Env → Prop} : wp (evA T (.pk (.v i) :: a :: as) e) K = onO (getP T (.v i) e) fun _ => wp (evA T (a :: as) e) fun ds e2 => onO (getP T (.v i) e2) fun d' => K (d' :: ds) e2 := by
  rw [evA]
  dsimp only
  cases getP T (.v i) e with
  | none => with_unfolding_all rfl
  | some d =>
    rw [onO_some]
    show wp (bnd (evA T (a :: as)) _ e) K = _
    rw [wp_bnd]
    congr 1
    funext ds e2
    cases getP T (.v i) e2 <;> with_unfolding_all rfl
@[simp] theorem wp_evL0 {K : List D → Env → Prop} : wp (evL [] e) K = K [] e := by with_unfolding_all rfl
@[simp] theorem wp_evLc {f : M D} {fs : List (M D)} {K : List D → Env → Prop} : wp (evL (f :: fs) e) K = wp (f e) fun d e1 => wp (evL fs e1) fun ds e2 => K (d :: ds) e2 := by
  rw [evL, wp_bnd]
  congr 1
  funext d e1
  rw [wp_bnd]
  with_unfolding_all rfl
@[simp] theorem wp_evCA0 {K : List D → Env → Prop} : wp (evCA [] e) K = K [] e := by with_unfolding_all rfl
@[simp] theorem wp_evCAe {f : M D} {fs : List CAg} {K : List D → Env → Prop} : wp (evCA (.ev f :: fs) e) K = wp (f e) fun d e1 => wp (evCA fs e1) fun ds e2 => K (d :: ds) e2 := by
  rw [evCA, wp_bnd]
  congr 1
  funext d e1
  rw [wp_bnd]
  with_unfolding_all rfl
@[simp] theorem wp_evCAl {i : Nat} {fs : List CAg} {K : List D → Env → Prop} : wp (evCA (.ln i :: fs) e) K = onO (e[i]?).join fun _ => wp (evCA fs e) K := by
  rw [evCA]
  dsimp only
  cases q : e[i]? with
  | none => with_unfolding_all rfl
  | some o => cases o <;> with_unfolding_all rfl
@[simp] theorem wp_op {o : O2} {a b : Ag} {K : D → Env → Prop} : wp (fOp T o a b e) K = wp (evA T [a, b] e) fun ds e1 => onO (sem2L (sem2 o) ds) fun d => K d e1 := by
  unfold fOp
  rw [wp_bnd]
  congr 1
  funext ds e1
  unfold opt
  cases sem2L (sem2 o) ds <;> with_unfolding_all rfl
@[simp] theorem wp_chn {o o' : O2} {a b : Ag} {c : P0} {K : D → Env → Prop} : wp (fChn T o o' a b c e) K = wp (evA T [a, b] e) fun ds e1 => wp (chn2 T o o' c ds e1) K := by
  unfold fChn
  rw [wp_bnd]
@[simp] theorem wp_B {sem : List D → Option D} {as : List Ag} {K : D → Env → Prop} : wp (fB T sem as e) K = wp (evA T as e) fun ds e1 => onO (sem ds) fun d => K d e1 := by
  unfold fB
  rw [wp_bnd]
  congr 1
  funext ds e1
  unfold opt
  cases sem ds <;> with_unfolding_all rfl
@[simp] theorem wp_sub {a i : Ag} {K : D → Env → Prop} : wp (fSub T a i e) K = wp (evA T [a, i] e) fun ds e1 => onO (sem2L (fun x y => fzO (subD x y)) ds) fun d => K d e1 := by
  unfold fSub
  rw [wp_bnd]
  congr 1
  funext ds e1
  unfold opt
  cases sem2L (fun x y => fzO (subD x y)) ds <;> with_unfolding_all rfl
@[simp] theorem wp_tup {fs : List (M D)} {K : D → Env → Prop} : wp (fTup fs e) K = wp (evL fs e) fun ds e1 => K (.tup ds) e1 := by unfold fTup; rw [wp_bnd]; with_unfolding_all rfl
@[simp] theorem wp_lst {fs : List (M D)} {K : D → Env → Prop} : wp (fLst fs e) K = wp (evL fs e) fun ds e1 => K (.lst true ds) e1 := by unfold fLst; rw [wp_bnd]; with_unfolding_all rfl
@[simp] theorem wp_fC {d : D} {K : D → Env → Prop} : wp (fC d e) K = K d e := by with_unfolding_all rfl
@[simp] theorem wp_cT {K : Bool → Env → Prop} : wp (cT e) K = K true e := by with_unfolding_all rfl
@[simp] theorem wp_not {f : M Bool} {K : D → Env → Prop} : wp (fNot f e) K = wp (f e) fun b e1 => K (.bl (!b)) e1 := by unfold fNot; rw [wp_bnd]; with_unfolding_all rfl
@[simp] theorem wp_and {f : M Bool} {g : M D} {K : D → Env → Prop} : wp (fAnd f g e) K = wp (f e) fun b e1 => if b = true then wp (g e1) K else K (.bl false) e1 := by
  unfold fAnd; rw [wp_bnd]; congr 1; funext b e1; split <;> with_unfolding_all rfl
@[simp] theorem wp_or {f : M Bool} {g : M D} {K : D → Env → Prop} : wp (fOr f g e) K = wp (f e) fun b e1 => if b = true then K (.bl true) e1 else wp (g e1) K := by
  unfold fOr; rw [wp_bnd]; congr 1; funext b e1; split <;> with_unfolding_all rfl
@[simp] theorem wp_ifE {c : M Bool} {f g : M D} {K : D → Env → Prop} : wp (fIfE c f g e) K = wp (c e) fun b e1 => if b = true then wp (f e1) K else wp (g e1) K := by
  unfold fIfE; rw [wp_bnd]; congr 1; funext b e1; split <;> with_unfolding_all rfl
@[simp] theorem wp_sh {f : M D} {K : D → Env → Prop} : wp (fSh f e) K = wp (f e) fun d e1 => K d.sh e1 := by unfold fSh; rw [wp_bnd]; with_unfolding_all rfl
@[simp] theorem wp_dk {K : D → Env → Prop} : wp (fDk e) K = K (.dk true [] []) e := by with_unfolding_all rfl
@[simp] theorem wp_dt {K : D → Env → Prop} : wp (fDt e) K = K (.dt true [] []) e := by with_unfolding_all rfl
@[simp] theorem wp_dk1 {p : P0} {d : D} {K : D → Env → Prop} : wp (fDk1 T p d e) K = onO ((getP T p e).bind keyK) fun kk => K (.dk true [kk] [d]) e := by
  unfold fDk1
  cases getP T p e with
  | none => with_unfolding_all rfl
  | some kd => dsimp only [Option.bind_some]; cases keyK kd <;> with_unfolding_all rfl
@[simp] theorem wp_dt1 {f : M D} {d : D} {K : D → Env → Prop} : wp (fDt1 f d e) K = wp (f e) fun kd e1 => onO (keyT kd) fun kk => K (.dt true [kk] [d]) e1 := by
  unfold fDt1
  rw [wp_bnd]
  congr 1
  funext kd e1
  cases keyT kd <;> with_unfolding_all rfl
@[simp] theorem wp_call {cf : List D → R D} {as : List CAg} {K : D → Env → Prop} : wp (fCall cf as e) K = wp (evCA as e) fun ds e1 => onO (mrg as ds e1) fun p => wp (cf p.1) fun d ps => K d (bkE as ps p.2) := by
  unfold fCall
  rw [wp_bnd]
  congr 1
  funext ds e1
  cases mrg as ds e1 with
  | none => with_unfolding_all rfl
  | some p =>
    obtain ⟨xs, e2⟩ := p
    rw [onO_some]
    dsimp only
    cases cf xs <;> with_unfolding_all rfl
@[simp] theorem wp_make {c : Nat} {cf : List D → R D} {fs : List (M D)} {K : D → Env → Prop} : wp (fMake c cf fs e) K = wp (evL fs e) fun ds e1 => wp (cf (.ins true c [] [] :: ds)) fun d ps => match d, ps with
    | .non, some x :: _ => K x e1
    | _, _ => False := by
  unfold fMake
  rw [wp_bnd]
  congr 1
  funext ds e1
  cases cf (.ins true c [] [] :: ds) with
  | ok d ps => cases d <;> first | with_unfolding_all rfl | (cases ps with | nil => with_unfolding_all rfl | cons p ps => cases p <;> with_unfolding_all rfl)
  | _ => with_unfolding_all rfl
@[simp] theorem wp_setS {i : Nat} {f : M D} {K : Ct → Env → Prop} : wp (fSet i f e) K = wp (f e) fun d e1 => K .nx (e1.set i (some d)) := by unfold fSet; rw [wp_bnd]; with_unfolding_all rfl
@[simp] theorem wp_retS {f : M D} {K : Ct → Env → Prop} : wp (fRet f e) K = wp (f e) fun d e1 => K (.rt d) e1 := by unfold fRet; rw [wp_bnd]; with_unfolding_all rfl
@[simp] theorem wp_drop {f : M D} {K : Ct → Env → Prop} : wp (fDrop f e) K = wp (f e) fun _ e1 => K .nx e1 := by unfold fDrop; rw [wp_bnd]; with_unfolding_all rfl
@[simp] theorem wp_nx {K : Ct → Env → Prop} : wp (fNx e) K = K .nx e := by with_unfolding_all rfl
@[simp] theorem wp_if {c : M Bool} {f g : M Ct} {K : Ct → Env → Prop} : wp (fIf c f g e) K = wp (c e) fun b e1 => if b = true then wp (f e1) K else wp (g e1) K := by
  unfold fIf; rw [wp_bnd]; congr 1; funext b e1; split <;> with_unfolding_all rfl
@[simp] theorem wp_forS {f : M ItR} {t : Tg} {b : M Ct} {K : Ct → Env → Prop} : wp (fFor f t b e) K = wp (f e) fun r e1 => wp (forM t b r.its e1) K := by unfold fFor; rw [wp_bnd]
@[simp] theorem wp_setT {t : Tg} {f : M D} {K : Ct → Env → Prop} : wp (fSetT t f e) K = wp (f e) fun d e1 => onO (tgE t d e1) fun e' => K .nx e' := by
  unfold fSetT
  rw [wp_bnd]
  congr 1
  funext d e1
  cases tgE t d e1 <;> with_unfolding_all rfl
@[simp] theorem wp_par {is : List Nat} {fs : List (M D)} {K : Ct → Env → Prop} : wp (fPar is fs e) K = wp (evL fs e) fun ds e1 => onO (setL is ds e1) fun e' => K .nx e' := by
  unfold fPar
  rw [wp_bnd]
  congr 1
  funext ds e1
  cases setL is ds e1 <;> with_unfolding_all rfl
@[simp] theorem wp_put2 {p q : P0} {f : M D} {K : Ct → Env → Prop} : wp (fPut2 T p q f e) K = wp (f e) fun y e1 => onO ((getP T p e1).bind fun d => (getP T q e1).bind fun i => (setS d i y).bind fun d' => updP T p d' e1) fun e' => K .nx e' := by
  unfold fPut2
  rw [wp_bnd]
  congr 1
  funext y e1
  cases getP T p e1 with
  | none => with_unfolding_all rfl
  | some d =>
    cases getP T q e1 with
    | none => with_unfolding_all rfl
    | some i =>
      dsimp only [Option.bind_some]
      cases setS d i y with
      | none => with_unfolding_all rfl
      | some d' =>
        dsimp only [Option.bind_some]
        cases updP T p d' e1 <;> with_unfolding_all rfl
@[simp] theorem wp_put1 {i : Nat} {fi f : M D} {K : Ct → Env → Prop} : wp (fPut1 T i fi f e) K = wp (f e) fun y e1 => onO (getP T (.v i) e1) fun _ => wp (fi e1) fun id e2 => onO ((getP T (.v i) e2).bind fun d => (setS d id y).bind fun d' => updP T (.v i) d' e2) fun e' => K .nx e' := by
  unfold fPut1
  rw [wp_bnd]
  congr 1
  funext y e1
  cases getP T (.v i) e1 with
  | none => with_unfolding_all rfl
  | some d =>
    rw [onO_some]
    dsimp only
    rw [wp_bnd]
    congr 1
    funext id e2
    cases getP T (.v i) e2 with
    | none => with_unfolding_all rfl
    | some d =>
      dsimp only [Option.bind_some]
      cases setS d id y with
      | none => with_unfolding_all rfl
      | some d' =>
        dsimp only [Option.bind_some]
        cases updP T (.v i) d' e2 <;> with_unfolding_all rfl
@[simp] theorem wp_fld {i : Nat} {nm : Str} {f : M D} {K : Ct → Env → Prop} : wp (fFld T i nm f e) K = wp (f e) fun y e1 => match e1[i]? with
    | some (some (.ins true c fs xs)) => if (T.fk c nm && decide (fs.length < 1000) && !memB nm fs) = true then K .nx (e1.set i (some (.ins true c (fs ++ [nm]) (xs ++ [y])))) else False
    | _ => False := by
  unfold fFld
  rw [wp_bnd]
  congr 1
  funext y e1
  cases e1[i]? with
  | none => with_unfolding_all rfl
  | some o =>
    cases o with
    | none => with_unfolding_all rfl
    | some d =>
      cases d with
      | ins o c fs xs =>
        cases o with
        | false => with_unfolding_all rfl
        | true => dsimp only; split <;> with_unfolding_all rfl
      | _ => with_unfolding_all rfl
@[simp] theorem wp_mth {m : Mth} {i : Nat} {fs : List (M D)} {K : D → Env → Prop} : wp (fMth m i fs e) K = onO (e[i]?).join fun d0 => if m.ok d0 = true then wp (evL fs e) (fun ds e1 => onO (e1[i]?).join fun d => onO (m.mO d ds) fun p => K p.2 (e1.set i (some p.1))) else False := by
  unfold fMth
  cases e[i]? with
  | none => with_unfolding_all rfl
  | some o =>
    cases o with
    | none => with_unfolding_all rfl
    | some d0 =>
      rw [show (some (some d0)).join = some d0 from rfl, onO_some]
      dsimp only
      split
      · rw [wp_bnd]
        congr 1
        funext ds e1
        cases e1[i]? with
        | none => with_unfolding_all rfl
        | some o =>
          cases o with
          | none => with_unfolding_all rfl
          | some d =>
            rw [show (some (some d)).join = some d from rfl, onO_some]
            dsimp only
            cases m.mO d ds <;> with_unfolding_all rfl
      · with_unfolding_all rfl
@[simp] theorem wp_mthC {m : Mth} {p : P0} {qs : List P0} {K : D → Env → Prop} : wp (fMthC T m p qs e) K = onO (getP T p e) fun d => onO (getPs T qs e) fun ds => if m.ok d = true then (onO (m.mR d ds) fun y => onO (updP T p y.1 e) fun e' => K y.2 e') else False := by
  unfold fMthC
  cases getP T p e with
  | none => with_unfolding_all rfl
  | some d =>
    cases getPs T qs e with
    | none => with_unfolding_all rfl
    | some ds =>
      rw [onO_some, onO_some]
      dsimp only
      split
      · cases m.mR d ds with
        | none => with_unfolding_all rfl
        | some x =>
          rw [onO_some]
          dsimp only
          cases updP T p x.1 e <;> with_unfolding_all rfl
      · with_unfolding_all rfl
@[simp] theorem wp_itSeq {d : D} {K : ItR → Env → Prop} : wp (itSeq d e) K = onO (seqO d) fun xs => K ⟨[d], xs⟩ e := by
  unfold itSeq
  cases seqO d <;> with_unfolding_all rfl
@[simp] theorem wp_itEnum {d : D} {K : ItR → Env → Prop} : wp (itEnum d e) K = onO (seqO d) fun xs => K ⟨[d], enD xs⟩ e := by
  unfold itEnum
  cases seqO d <;> with_unfolding_all rfl
@[simp] theorem wp_itC {f : M D} {K : ItR → Env → Prop} : wp (fItC f e) K = wp (f e) fun d e1 => onO (seqO d) fun xs => K ⟨[d], xs⟩ e1 := by
  unfold fItC
  rw [wp_bnd]
  congr 1
  funext d e1
  exact wp_itSeq
theorem wp_rng1 {n : Nat} {K : ItR → Env → Prop} (h : n ≤ 1000000000000000000) : wp (rng1 [nI n] e) K = K ⟨[], (List.range n).map nI⟩ e := by
  unfold rng1 nI
  dsimp only
  rw [if_pos (rngOk_nat h), Int.toNat_natCast, rng_nI]
  with_unfolding_all rfl
end
end Bp

/-! the evaluator, form by form -/
namespace Bp
open PySem PySem.Spec PyProof.Rows L2
section
variable {G : Gv}
@[simp] theorem evE_1  : evE G (.nv) = fun _ => .bad := by rw [evE]
@[simp] theorem evE_2 {p} : evE G (.rd p) = fRd G.T p := by rw [evE]
@[simp] theorem evE_3 {i} : evE G (.mov i) = fMov i := by rw [evE]
@[simp] theorem evE_4 {i} : evE G (.shr i) = fShr i := by rw [evE]
@[simp] theorem evE_5 {d} : evE G (.kc d) = fC d := by rw [evE]
@[simp] theorem evE_6 {i} : evE G (.gl i) = fC (.int (G.con i)) := by rw [evE]
@[simp] theorem evE_7 {o} {a} {b} : evE G (.op o a b) = fOp G.T o (evG G a) (evG G b) := by rw [evE]
@[simp] theorem evE_8 {o} {o'} {a} {b} {c} : evE G (.chn o o' a b c) = fChn G.T o o' (evG G a) (evG G b) c := by rw [evE]
@[simp] theorem evE_9 {a} : evE G (.not a) = fNot (fT (evE G a)) := by rw [evE]
@[simp] theorem evE_10 {a} {b} : evE G (.and a b) = fAnd (fT (evE G a)) (evE G b) := by rw [evE]
@[simp] theorem evE_11 {a} {b} : evE G (.or a b) = fOr (fT (evE G a)) (evE G b) := by rw [evE]
@[simp] theorem evE_12 {t} {a} {b} : evE G (.ife t a b) = fIfE (fT (evE G t)) (evE G a) (evE G b) := by rw [evE]
@[simp] theorem evE_13 {es} : evE G (.tup es) = fTup (evMs G es) := by rw [evE]
@[simp] theorem evE_14 {es} : evE G (.lst es) = fLst (evMs G es) := by rw [evE]
@[simp] theorem evE_15  : evE G (.dk) = fDk := by rw [evE]
@[simp] theorem evE_16  : evE G (.dt) = fDt := by rw [evE]
@[simp] theorem evE_17 {p} {d} : evE G (.dk1 p d) = fDk1 G.T p d := by rw [evE]
@[simp] theorem evE_18 {c} {d} : evE G (.dt1 c d) = fDt1 (evE G c) d := by rw [evE]
@[simp] theorem evE_19 {a} {i} : evE G (.sub a i) = fSub G.T (evG G a) (evG G i) := by rw [evE]
@[simp] theorem evE_20 {a} : evE G (.sli0 a) = fSli0 G.T (evG G a) := by rw [evE]
@[simp] theorem evE_21 {a} {l} : evE G (.sliL a l) = fSliL G.T (evG G a) (evG G l) := by rw [evE]
@[simp] theorem evE_22 {a} {l} : evE G (.sliH a l) = fSliH G.T (evG G a) (evG G l) := by rw [evE]
@[simp] theorem evE_23 {a} {l} {h} : evE G (.sli2 a l h) = fSli2 G.T (evG G a) (evG G l) (evG G h) := by rw [evE]
@[simp] theorem evE_24 {b} {as} : evE G (.bf b as) = fB G.T (semB b) (evGs G as) := by rw [evE]
@[simp] theorem evE_25 {t} {a} : evE G (.isi t a) = fB G.T (isiS G.I t) [evG G a] := by rw [evE]
@[simp] theorem evE_26 {a} : evE G (.lrg a) = fB G.T lrgS [evG G a] := by rw [evE]
@[simp] theorem evE_27 {a} : evE G (.lset a) = fB G.T lsetS [evG G a] := by rw [evE]
@[simp] theorem evE_28 {f} {as} : evE G (.call f as) = fCall (G.cf f) (evKs G as) := by rw [evE]
@[simp] theorem evE_29 {c} {as} : evE G (.make c as) = fMake c (G.cf (G.ini c)) (evMs G as) := by rw [evE]
@[simp] theorem evE_30 {m} {i} {as} : evE G (.mth m i as) = fMth m i (evMs G as) := by rw [evE]
@[simp] theorem evE_31 {m} {p} {qs} : evE G (.mthC m p qs) = fMthC G.T m p qs := by rw [evE]
@[simp] theorem evE_32 {vs} {i} {t} {c} {e} : evE G (.lc vs i t c e) = fLc vs (evI G i) t (cond (evMs G c)) (evE G e) := by rw [evE]
@[simp] theorem evE_33 {vs} {vs1} {i} {t} {c} {i1} {t1} {c1} {e} : evE G (.lc2 vs vs1 i t c i1 t1 c1 e) = fLc2 vs vs1 (evI G i) t (cond (evMs G c)) (evI G i1) t1 (cond (evMs G c1)) (evE G e) := by rw [evE]
@[simp] theorem evE_34 {vs} {i} {t} {c} {k} {v} : evE G (.dc vs i t c k v) = fDc vs (evI G i) t (cond (evMs G c)) (evE G k) (evE G v) := by rw [evE]
@[simp] theorem evE_35 {vs} {i} {t} {c} {k} {v} : evE G (.dct vs i t c k v) = fDct vs (evI G i) t (cond (evMs G c)) (evE G k) (evE G v) := by rw [evE]
@[simp] theorem evE_36 {c} : evE G (.sh c) = fSh (evE G c) := by rw [evE]
@[simp] theorem evG_37 {p} : evG G (.pk p) = .pk p := by rw [evG]
@[simp] theorem evG_38 {c} : evG G (.ev c) = .ev (evE G c) := by rw [evG]
@[simp] theorem evK_39 {c} : evK G (.ev c) = .ev (evE G c) := by rw [evK]
@[simp] theorem evK_40 {i} : evK G (.ln i) = .ln i := by rw [evK]
@[simp] theorem evI_41 {c} : evI G (.c c) = fItC (evE G c) := by rw [evI]
@[simp] theorem evI_42 {a} : evI G (.r1 a) = bnd (evA G.T [evG G a]) rng1 := by rw [evI]
@[simp] theorem evI_43 {a} {b} : evI G (.r2 a b) = bnd (evA G.T [evG G a, evG G b]) rng2 := by rw [evI]
@[simp] theorem evI_44 {c} : evI G (.en c) = bnd (evE G c) itEnum := by rw [evI]
@[simp] theorem evI_45 {a} {b} : evI G (.zp a b) = bnd (evL [evE G a, evE G b]) itZip := by rw [evI]
@[simp] theorem evMs_46  : evMs G [] = [] := by rw [evMs]
@[simp] theorem evMs_47 {c} {cs} : evMs G (c :: cs) = evE G c :: evMs G cs := by rw [evMs]
@[simp] theorem evGs_48  : evGs G [] = [] := by rw [evGs]
@[simp] theorem evGs_49 {c} {cs} : evGs G (c :: cs) = evG G c :: evGs G cs := by rw [evGs]
@[simp] theorem evKs_50  : evKs G [] = [] := by rw [evKs]
@[simp] theorem evKs_51 {c} {cs} : evKs G (c :: cs) = evK G c :: evKs G cs := by rw [evKs]
@[simp] theorem evS_52  : evS G (.nv) = fun _ => .bad := by rw [evS]
@[simp] theorem evS_53  : evS G (.pass) = fNx := by rw [evS]
@[simp] theorem evS_54  : evS G (.brk) = ret .bk := by rw [evS]
@[simp] theorem evS_55  : evS G (.cnt) = ret .ct := by rw [evS]
@[simp] theorem evS_56  : evS G (.retN) = ret (.rt .non) := by rw [evS]
@[simp] theorem evS_57 {c} : evS G (.ret c) = fRet (evE G c) := by rw [evS]
@[simp] theorem evS_58 {c} : evS G (.expr c) = fDrop (evE G c) := by rw [evS]
@[simp] theorem evS_59 {i} {c} : evS G (.set i c) = fSet i (evE G c) := by rw [evS]
@[simp] theorem evS_60 {t} {c} : evS G (.setT t c) = fSetT t (evE G c) := by rw [evS]
@[simp] theorem evS_61 {i} {j} {a} {b} : evS G (.par2 i j a b) = fPar [i, j] [evE G a, evE G b] := by rw [evS]
@[simp] theorem evS_62 {i} {j} {l} {a} {b} {c} : evS G (.par3 i j l a b c) = fPar [i, j, l] [evE G a, evE G b, evE G c] := by rw [evS]
@[simp] theorem evS_63 {p} {q} {c} : evS G (.put2 p q c) = fPut2 G.T p q (evE G c) := by rw [evS]
@[simp] theorem evS_64 {i} {ci} {c} : evS G (.put1 i ci c) = fPut1 G.T i (evE G ci) (evE G c) := by rw [evS]
@[simp] theorem evS_65 {i} {nm} {c} : evS G (.fld i nm c) = fFld G.T i nm (evE G c) := by rw [evS]
@[simp] theorem evS_66 {t} {a} {b} : evS G (.ife t a b) = fIf (fT (evE G t)) (evSs G a) (evSs G b) := by rw [evS]
@[simp] theorem evS_67 {i} {t} {b} : evS G (.for_ i t b) = fFor (evI G i) t (evSs G b) := by rw [evS]
@[simp] theorem evS_68 {t} {b} : evS G (.whl t b) = fWhile (fT (evE G t)) (evSs G b) := by rw [evS]
@[simp] theorem evSs_69  : evSs G [] = fNx := by rw [evSs]
@[simp] theorem evSs_70 {s} {ss} : evSs G (s :: ss) = fSeq (evS G s) (evSs G ss) := by rw [evSs]
end
end Bp

namespace Bp
open PySem PySem.Spec PyProof.Rows L2
section
variable {e : Env} {T : Tb}
@[simp] theorem asBl_bl {b : Bool} : asBl (.bl b) = some b := rfl
@[simp] theorem wipeE_0 : wipeE e [] = e := rfl
@[simp] theorem wipeE_c {v : Nat} {vs : List Nat} : wipeE e (v :: vs) = (wipeE e vs).set v none := rfl
@[simp] theorem tgE_nm {i : Nat} {d : D} : tgE (.nm i) d e = some (e.set i (some d)) := by rw [tgE]
@[simp] theorem tgE_tp {ts : List Tg} {ds : List D} : tgE (.tp ts) (.tup ds) e = tgEs ts ds e := by rw [tgE]
@[simp] theorem tgEs_0 : tgEs [] [] e = some e := by rw [tgEs]
@[simp] theorem tgEs_c {t : Tg} {ts : List Tg} {d : D} {ds : List D} : tgEs (t :: ts) (d :: ds) e = (tgE t d e).bind fun e' => tgEs ts ds e' := by
  rw [tgEs]
  cases tgE t d e <;> rfl
@[simp] theorem mrg_0 {ds : List D} : mrg [] ds e = some ([], e) := rfl
@[simp] theorem mrg_e {f : M D} {as : List CAg} {d : D} {ds : List D} : mrg (.ev f :: as) (d :: ds) e = (mrg as ds e).map fun p => (d :: p.1, p.2) := by
  rw [mrg]
  cases mrg as ds e <;> rfl
@[simp] theorem mrg_l {i : Nat} {as : List CAg} {ds : List D} : mrg (.ln i :: as) ds e = (e[i]?).join.bind fun d => (mrg as ds (e.set i none)).map fun p => (d :: p.1, p.2) := by
  rw [mrg]
  cases q : e[i]? with
  | none => rfl
  | some o =>
    cases o with
    | none => rfl
    | some d =>
      dsimp only [Option.join_some, Option.bind_some]
      cases mrg as ds (e.set i none) <;> rfl
@[simp] theorem bkE_0 {ps : Env} : bkE [] ps e = e := by cases ps <;> rfl
@[simp] theorem bkE_e {f : M D} {as : List CAg} {p : Option D} {ps : Env} : bkE (.ev f :: as) (p :: ps) e = bkE as ps e := rfl
@[simp] theorem bkE_l {i : Nat} {as : List CAg} {p : Option D} {ps : Env} : bkE (.ln i :: as) (p :: ps) e = bkE as ps (e.set i p) := rfl
@[simp] theorem sem2L_2 {sem : D → D → Option D} {a b : D} : sem2L sem [a, b] = sem a b := rfl
@[simp] theorem one_1 {f : D → Option D} {d : D} : one f [d] = f d := rfl
@[simp] theorem fzO_some' {d : D} : fzO (some d) = if d.fz = true then some d else none := rfl
@[simp] theorem cond_0 : cond [] = cT := rfl
@[simp] theorem cond_1 {f : M D} : cond [f] = fT f := rfl
@[simp] theorem s_eq {a b : D} : sem2 .eq a b = if okP a && okP b then some (.bl (eqD a b)) else none := rfl
@[simp] theorem s_ne {a b : D} : sem2 .ne a b = if okP a && okP b then some (.bl (!eqD a b)) else none := rfl
@[simp] theorem s_in {a b : D} : sem2 .inn a b = (inD a b).map .bl := rfl
@[simp] theorem s_nin {a b : D} : sem2 .nin a b = (inD a b).map fun x => .bl (!x) := rfl
@[simp] theorem s_add {a b : D} : sem2 .add a b = addD a b := rfl
@[simp] theorem s_mul {a b : D} : sem2 .mul a b = mulD a b := rfl
@[simp] theorem s_sub {i j : Int} : sem2 .sub (.int i) (.int j) = some (.int (i - j)) := rfl
@[simp] theorem s_lt {i j : Int} : sem2 .lt (.int i) (.int j) = some (.bl (decide (i < j))) := rfl
@[simp] theorem s_le {i j : Int} : sem2 .le (.int i) (.int j) = some (.bl (decide (i ≤ j))) := rfl
@[simp] theorem s_gt {i j : Int} : sem2 .gt (.int i) (.int j) = some (.bl (decide (j < i))) := rfl
@[simp] theorem s_ge {i j : Int} : sem2 .ge (.int i) (.int j) = some (.bl (decide (j ≤ i))) := rfl
@[simp] theorem s_is {a b : D} : sem2 .is a b = (isD a b).map .bl := rfl
@[simp] theorem s_isn {a b : D} : sem2 .isn a b = (isD a b).map fun x => .bl (!x) := rfl
@[simp] theorem add_int {i j : Int} : addD (.int i) (.int j) = some (.int (i + j)) := rfl
@[simp] theorem isD_bl {a b : Bool} : isD (.bl a) (.bl b) = some (decide (a = b)) := rfl
@[simp] theorem fzs_0 : fzs [] = true := rfl
@[simp] theorem fzs_c {d : D} {ds : List D} : fzs (d :: ds) = (d.fz && fzs ds) := rfl
@[simp] theorem seqO_tup {xs : List D} (h : fzs xs = true) : seqO (.tup xs) = some xs := if_pos h
@[simp] theorem seqO_lst {o : Bool} {xs : List D} (h : fzs xs = true) : seqO (.lst o xs) = some xs := if_pos h
@[simp] theorem seqO_tI {l : List Nat} : seqO (tI l) = some (l.map nI) := seqO_tup (fzs_nI l)
@[simp] theorem seqO_tII {L : List (List Nat)} : seqO (tII L) = some (L.map tI) := seqO_tup (fzs_tI L)
end
end Bp

/-! plain lists: rows of small numbers, what follows of pairs -/
namespace Bp

def asc (n : Nat) (p : Nat → Bool) : List Nat := (List.range n).filter p
theorem mem_asc {n : Nat} {p : Nat → Bool} {x : Nat} : x ∈ asc n p ↔ x < n ∧ p x = true := by
  unfold asc; rw [List.mem_filter, List.mem_range]
theorem asc_srt {n : Nat} {p : Nat → Bool} : (asc n p).Pairwise (· < ·) := List.Pairwise.filter _ List.pairwise_lt_range
theorem asc_nodup {n : Nat} {p : Nat → Bool} : (asc n p).Nodup := asc_srt.imp fun h => Nat.ne_of_lt h
theorem srt_ext {a b : List Nat} (ha : a.Pairwise (· < ·)) (hb : b.Pairwise (· < ·)) (h : ∀ x, x ∈ a ↔ x ∈ b) : a = b := by
  have p : a.Perm b := (List.perm_ext_iff_of_nodup (ha.imp fun h => Nat.ne_of_lt h) (hb.imp fun h => Nat.ne_of_lt h)).mpr h
  exact p.eq_of_pairwise (le := (· < ·)) (fun a b _ _ h1 h2 => absurd h1 (Nat.lt_asymm h2)) ha hb
theorem asc_self {n : Nat} {l : List Nat} (h : l.Pairwise (· < ·)) (r : ∀ x ∈ l, x < n) : asc n (fun x => decide (x ∈ l)) = l :=
  srt_ext asc_srt h fun x => by rw [mem_asc]; simp; exact fun q => r x q
theorem asc_congr {n : Nat} {p q : Nat → Bool} (h : ∀ x, x < n → p x = q x) : asc n p = asc n q :=
  List.filter_congr fun x hx => h x (List.mem_range.mp hx)
/-- a space: rows ascending, in range, each place below itself, what follows -/
structure Sp (n : Nat) (L : List (List Nat)) : Prop where
  len : L.length = n
  rng : ∀ y x, x ∈ L.getD y [] → x < n
  srt : ∀ y, (L.getD y []).Pairwise (· < ·)
  rfl : ∀ x, x < n → x ∈ L.getD x []
  trs : ∀ x y z, x ∈ L.getD y [] → y ∈ L.getD z [] → x ∈ L.getD z []
theorem Sp.dom {n : Nat} {L : List (List Nat)} (s : Sp n L) {y x : Nat} (h : x ∈ L.getD y []) : y < n := by
  rw [← s.len]
  rcases Nat.lt_or_ge y L.length with q | q
  · exact q
  · rw [List.getD_eq_getElem?_getD, List.getElem?_eq_none q] at h; cases h

/-! ### a dict that takes in another one -/
def upd (a b : List Nat) : List Nat := b.foldl (fun a k => if k ∈ a then a else a ++ [k]) a
theorem mem_upd {b : List Nat} : ∀ {a : List Nat} {x : Nat}, x ∈ upd a b ↔ x ∈ a ∨ x ∈ b := by
  induction b with
  | nil => intro a x; simp [upd]
  | cons k b ih =>
    intro a x
    unfold upd at ih ⊢
    rw [List.foldl_cons, ih]
    split
    · rename_i h
      constructor
      · rintro (q | q)
        · exact .inl q
        · exact .inr (List.mem_cons_of_mem _ q)
      · rintro (q | q)
        · exact .inl q
        · rcases List.mem_cons.mp q with rfl | q
          · exact .inl h
          · exact .inr q
    · simp only [List.mem_append, List.mem_cons, List.not_mem_nil, or_false]
      constructor
      · rintro ((q | q) | q)
        · exact .inl q
        · exact .inr (.inl q)
        · exact .inr (.inr q)
      · rintro (q | q | q)
        · exact .inl (.inl q)
        · exact .inl (.inr q)
        · exact .inr q
theorem nodup_upd {b : List Nat} : ∀ {a : List Nat}, a.Nodup → (upd a b).Nodup := by
  induction b with
  | nil => intro a h; exact h
  | cons k b ih =>
    intro a h
    unfold upd at ih ⊢
    rw [List.foldl_cons]
    refine ih ?_
    split
    · exact h
    · rename_i q
      rw [List.nodup_append]
      refine ⟨h, by simp, fun x hx y hy => ?_⟩
      rw [List.mem_singleton] at hy
      subst hy
      exact fun e => q (e ▸ hx)
theorem getD_set {L : List (List Nat)} {i j : Nat} {r : List Nat} : (L.set i r).getD j [] = if i = j ∧ i < L.length then r else L.getD j [] := by
  rw [List.getD_eq_getElem?_getD, List.getElem?_set]
  by_cases h : i = j
  · subst h
    by_cases h2 : i < L.length
    · simp [h2]
    · simp [h2, List.getD_eq_getElem?_getD, List.getElem?_eq_none (Nat.le_of_not_lt h2)]
  · simp [h, List.getD_eq_getElem?_getD]
/-- rows of keys -/
structure Ok (n : Nat) (U : List (List Nat)) : Prop where
  len : U.length = n
  rng : ∀ y x, x ∈ U.getD y [] → x < n
  nd : ∀ y, (U.getD y []).Nodup
  rfl : ∀ x, x < n → x ∈ U.getD x []
def ins1 (U : List (List Nat)) (low high : Nat) : List (List Nat) := U.set high (upd (U.getD high []) (U.getD low []))
theorem mem_ins1 {U : List (List Nat)} {low high y x : Nat} (h : high < U.length) : x ∈ (ins1 U low high).getD y [] ↔ x ∈ U.getD y [] ∨ y = high ∧ x ∈ U.getD low [] := by
  unfold ins1
  rw [getD_set]
  by_cases e : high = y
  · subst e; simp [h, mem_upd]
  · have e' : ¬ y = high := fun z => e z.symm
    simp [e, e']
theorem Ok.ins {n : Nat} {U : List (List Nat)} (o : Ok n U) {low high : Nat} (h : high < n) : Ok n (ins1 U low high) := by
  have hl : high < U.length := by rw [o.len]; exact h
  refine ⟨by unfold ins1; rw [List.length_set, o.len], fun y x hx => ?_, fun y => ?_, fun x hx => (mem_ins1 hl).mpr (.inl (o.rfl x hx))⟩
  · rcases (mem_ins1 hl).mp hx with q | q
    · exact o.rng _ _ q
    · exact o.rng _ _ q.2
  · unfold ins1
    rw [getD_set]
    split
    · exact nodup_upd (o.nd _)
    · exact o.nd _
def least0 (n : Nat) : List (List Nat) := (List.range n).map fun at_ => [at_]
theorem ok0 {n : Nat} : Ok n (least0 n) := by
  have e : ∀ y, (least0 n).getD y [] = if y < n then [y] else [] := fun y => by
    unfold least0
    rw [List.getD_eq_getElem?_getD, List.getElem?_map]
    split
    · rename_i h; simp [h]
    · rename_i h; rw [List.getElem?_eq_none (by simpa using h)]; rfl
  refine ⟨by simp [least0], fun y x h => ?_, fun y => ?_, fun x h => ?_⟩
  · rw [e] at h; split at h
    · rw [List.mem_singleton] at h; omega
    · cases h
  · rw [e]; split <;> simp
  · rw [e, if_pos h]; simp

/-! ### what follows of what -/
def rch (U : List (List Nat)) : Nat → Nat → Nat → Prop
  | 0, x, y => x = y
  | t + 1, x, y => ∃ z, rch U t z y ∧ x ∈ U.getD z []
theorem rch_add {U : List (List Nat)} {x y z : Nat} {s : Nat} : ∀ {t : Nat}, rch U s y z → rch U t x y → rch U (s + t) x z
  | 0, h1, h2 => by cases h2; exact h1
  | t + 1, h1, ⟨w, h2, h3⟩ => ⟨w, rch_add h1 h2, h3⟩
theorem rch_lt {n : Nat} {U : List (List Nat)} (o : Ok n U) {y : Nat} (hy : y < n) : ∀ {t x : Nat}, rch U t x y → x < n
  | 0, _, h => by cases h; exact hy
  | _ + 1, _, ⟨_, _, h⟩ => o.rng _ _ h
theorem rch_up {n : Nat} {U : List (List Nat)} (o : Ok n U) {x y t : Nat} (hy : y < n) (h : rch U t x y) : rch U (t + 1) x y := ⟨x, h, o.rfl x (rch_lt o hy h)⟩
theorem rch_le {n : Nat} {U : List (List Nat)} (o : Ok n U) {x y s t : Nat} (hy : y < n) (h : rch U s x y) (q : s ≤ t) : rch U t x y := by
  induction q with
  | refl => exact h
  | step _ ih => exact rch_up o hy ih
theorem filter_lt {l : List Nat} {p q : Nat → Bool} (h : ∀ x, p x = true → q x = true) {a : Nat} (ha : a ∈ l) (hq : q a = true) (hp : p a = false) : (l.filter p).length < (l.filter q).length := by
  induction l with
  | nil => cases ha
  | cons b l ih =>
    have le : (l.filter p).length ≤ (l.filter q).length := by
      rw [← List.countP_eq_length_filter, ← List.countP_eq_length_filter]
      exact List.countP_mono_left fun x _ => h x
    rcases List.mem_cons.mp ha with rfl | ha
    · rw [List.filter_cons_of_neg (by rw [hp]; decide), List.filter_cons_of_pos hq, List.length_cons]
      omega
    · have := ih ha
      by_cases pb : p b = true
      · rw [List.filter_cons_of_pos pb, List.filter_cons_of_pos (h b pb), List.length_cons, List.length_cons]
        omega
      · rw [List.filter_cons_of_neg pb]
        by_cases qb : q b = true
        · rw [List.filter_cons_of_pos qb, List.length_cons]; omega
        · rw [List.filter_cons_of_neg qb]; exact this
open Classical in
theorem rch_fin {n : Nat} {U : List (List Nat)} (o : Ok n U) {x y t : Nat} (hy : y < n) (h : rch U t x y) : rch U n x y := by
  have step : ∀ t, (∀ x, rch U (t + 1) x y → rch U t x y) ∨ t + 1 ≤ ((List.range n).filter fun x => decide (rch U t x y)).length := by
    intro t
    induction t with
    | zero =>
      refine .inr ?_
      have : y ∈ (List.range n).filter fun x => decide (rch U 0 x y) := by
        rw [List.mem_filter, List.mem_range]; exact ⟨hy, decide_eq_true rfl⟩
      exact List.length_pos_of_mem this
    | succ t ih =>
      rcases ih with ih | ih
      · refine .inl fun x ⟨z, h1, h2⟩ => ⟨z, ih z h1, h2⟩
      · by_cases c : ∀ x, rch U (t + 1) x y → rch U t x y
        · exact .inl fun x ⟨z, h1, h2⟩ => ⟨z, c z h1, h2⟩
        · obtain ⟨a, ha⟩ := Classical.not_forall.mp c
          obtain ⟨ha, hb⟩ := Classical.not_imp.mp ha
          refine .inr ?_
          have := filter_lt (l := List.range n) (p := fun x => decide (rch U t x y)) (q := fun x => decide (rch U (t + 1) x y)) (fun x hx => decide_eq_true (rch_up o hy (of_decide_eq_true hx))) (a := a) (List.mem_range.mpr (rch_lt o hy ha)) (decide_eq_true ha) (decide_eq_false hb)
          omega
  have cl : ∀ x, rch U (n + 1) x y → rch U n x y := by
    rcases step n with q | q
    · exact q
    · have := List.length_filter_le (fun x => decide (rch U n x y)) (List.range n)
      rw [List.length_range] at this
      omega
  have all : ∀ k x, rch U (n + k) x y → rch U n x y := by
    intro k
    induction k with
    | zero => exact fun x h => h
    | succ k ih => exact fun x ⟨z, h1, h2⟩ => cl x ⟨z, ih z h1, h2⟩
  rcases Nat.le_total t n with q | q
  · exact rch_le o hy h q
  · obtain ⟨k, rfl⟩ := Nat.exists_eq_add_of_le q
    exact all k x h
/-! ### the second loop -/
def lat (U : List (List Nat)) (at_ : Nat) : List (List Nat) := (U.getD at_ []).foldl (fun U low => ins1 U low at_) U
def lturn (n : Nat) (U : List (List Nat)) : List (List Nat) := (List.range n).foldl lat U
structure Mid (n : Nat) (U0 U : List (List Nat)) : Prop where
  ok : Ok n U
  lo : ∀ y x, x ∈ U0.getD y [] → x ∈ U.getD y []
  hi : ∀ y x, x ∈ U.getD y [] → ∃ t, rch U0 t x y
def Gr (U U' : List (List Nat)) : Prop := ∀ y x, x ∈ U.getD y [] → x ∈ U'.getD y []
theorem Gr.trans {U V W : List (List Nat)} (a : Gr U V) (b : Gr V W) : Gr U W := fun y x h => b y x (a y x h)
theorem Mid.ins {n : Nat} {U0 U : List (List Nat)} (m : Mid n U0 U) {low high : Nat} (h : high < n) (hl : low ∈ U.getD high []) : Mid n U0 (ins1 U low high) ∧ Gr U (ins1 U low high) := by
  have hh : high < U.length := by rw [m.ok.len]; exact h
  refine ⟨⟨m.ok.ins h, fun y x q => (mem_ins1 hh).mpr (.inl (m.lo y x q)), fun y x q => ?_⟩, fun y x q => (mem_ins1 hh).mpr (.inl q)⟩
  rcases (mem_ins1 hh).mp q with q2 | ⟨rfl, q2⟩
  · exact m.hi y x q2
  · obtain ⟨s, hs⟩ := m.hi _ _ hl
    obtain ⟨t, ht⟩ := m.hi _ _ q2
    exact ⟨_, rch_add hs ht⟩
theorem Mid.inss {n : Nat} {U0 : List (List Nat)} {high : Nat} (h : high < n) : ∀ (ls : List Nat) {U : List (List Nat)}, Mid n U0 U → (∀ low ∈ ls, low ∈ U.getD high []) →
    Mid n U0 (ls.foldl (fun U low => ins1 U low high) U) ∧ Gr U (ls.foldl (fun U low => ins1 U low high) U) ∧ ∀ low ∈ ls, ∀ x ∈ U.getD low [], x ∈ (ls.foldl (fun U low => ins1 U low high) U).getD high []
  | [], U, m, _ => ⟨m, fun _ _ h => h, fun _ h => nomatch h⟩
  | low :: ls, U, m, hl => by
    have hh : high < U.length := by rw [m.ok.len]; exact h
    obtain ⟨m1, g1⟩ := m.ins h (hl low List.mem_cons_self)
    obtain ⟨m2, g2, c2⟩ := Mid.inss h ls m1 fun l q => g1 _ _ (hl l (List.mem_cons_of_mem _ q))
    refine ⟨m2, g1.trans g2, fun l q x hx => ?_⟩
    rcases List.mem_cons.mp q with rfl | q
    · exact g2 _ _ ((mem_ins1 hh).mpr (.inr ⟨rfl, hx⟩))
    · exact c2 l q x (g1 _ _ hx)
theorem Mid.lat {n : Nat} {U0 U : List (List Nat)} (m : Mid n U0 U) {high : Nat} (h : high < n) : Mid n U0 (lat U high) ∧ Gr U (lat U high) ∧ ∀ low ∈ U.getD high [], ∀ x ∈ U.getD low [], x ∈ (lat U high).getD high [] :=
  Mid.inss h _ m fun _ q => q
theorem Mid.lats {n : Nat} {U0 : List (List Nat)} : ∀ (hs : List Nat) {U : List (List Nat)}, Mid n U0 U → (∀ h ∈ hs, h < n) →
    Mid n U0 (hs.foldl Bp.lat U) ∧ Gr U (hs.foldl Bp.lat U) ∧ ∀ high ∈ hs, ∀ low ∈ U.getD high [], ∀ x ∈ U0.getD low [], x ∈ (hs.foldl Bp.lat U).getD high []
  | [], U, m, _ => ⟨m, fun _ _ h => h, fun _ h => nomatch h⟩
  | high :: hs, U, m, hl => by
    obtain ⟨m1, g1, c1⟩ := m.lat (hl high List.mem_cons_self)
    obtain ⟨m2, g2, c2⟩ := Mid.lats hs m1 fun l q => hl l (List.mem_cons_of_mem _ q)
    refine ⟨m2, g1.trans g2, fun hh q low ql x hx => ?_⟩
    rcases List.mem_cons.mp q with rfl | q
    · exact g2 _ _ (c1 low ql x (m.lo _ _ hx))
    · exact c2 hh q low (g1 _ _ ql) x hx
theorem Mid.turns {n : Nat} {U0 : List (List Nat)} (o0 : Ok n U0) : ∀ k : Nat, Mid n U0 ((List.range k).foldl (fun U _ => lturn n U) U0) ∧ ∀ y x, y < n → rch U0 (k + 1) x y → x ∈ ((List.range k).foldl (fun U _ => lturn n U) U0).getD y []
  | 0 => ⟨⟨o0, fun _ _ h => h, fun y x h => ⟨1, y, rfl, h⟩⟩, fun y x _ ⟨z, h1, h2⟩ => by cases h1; exact h2⟩
  | k + 1 => by
    obtain ⟨m, c⟩ := Mid.turns o0 k
    rw [List.range_succ, List.foldl_append, List.foldl_cons, List.foldl_nil]
    obtain ⟨m2, g2, c2⟩ := Mid.lats (List.range n) m fun h q => List.mem_range.mp q
    exact ⟨m2, fun y x hy ⟨z, h1, h2⟩ => c2 y (List.mem_range.mpr hy) z (c y z hy h1) x h2⟩
/-- the rows at the end -/
def lend (n : Nat) (U0 : List (List Nat)) : List (List Nat) := (List.range n).foldl (fun U _ => lturn n U) U0
theorem mem_lend {n : Nat} {U0 : List (List Nat)} (o0 : Ok n U0) {y x : Nat} (hy : y < n) : x ∈ (lend n U0).getD y [] ↔ ∃ t, rch U0 t x y := by
  obtain ⟨m, c⟩ := Mid.turns o0 n
  exact ⟨m.hi y x, fun ⟨t, h⟩ => c y x hy (rch_up o0 hy (rch_fin o0 hy h))⟩
theorem ok_lend {n : Nat} {U0 : List (List Nat)} (o0 : Ok n U0) : Ok n (lend n U0) := (Mid.turns o0 n).1.ok
def lpair (U : List (List Nat)) (p : Nat × Nat) : List (List Nat) := ins1 U p.1 p.2
def lone (n : Nat) (ps : List (Nat × Nat)) : List (List Nat) := (List.range n).foldl (fun U _ => ps.foldl lpair U) (least0 n)
theorem foldl_ok {α β : Type} {P : β → Prop} {f : β → α → β} : ∀ (l : List α) {b : β}, P b → (∀ a ∈ l, ∀ b, P b → P (f b a)) → P (l.foldl f b)
  | [], _, h, _ => h
  | a :: l, b, h, s => foldl_ok l (s a List.mem_cons_self b h) fun x q => s x (List.mem_cons_of_mem _ q)
theorem ok_lone {n : Nat} {ps : List (Nat × Nat)} (h : ∀ p ∈ ps, p.2 < n) : Ok n (lone n ps) :=
  foldl_ok _ ok0 fun _ _ _ o => foldl_ok ps o fun p hp _ o => o.ins (h p hp)
def lleast (n : Nat) (ps : List (Nat × Nat)) : List (List Nat) := (lend n (lone n ps)).map fun row => asc n fun x => decide (x ∈ row)
theorem getD_map_row {n : Nat} {U : List (List Nat)} (o : Ok n U) {y x : Nat} : x ∈ (U.map fun row => asc n fun x => decide (x ∈ row)).getD y [] ↔ x ∈ U.getD y [] := by
  rw [List.getD_eq_getElem?_getD, List.getElem?_map]
  cases q : U[y]? with
  | none => simp [List.getD_eq_getElem?_getD, q]
  | some r =>
    have e : U.getD y [] = r := by rw [List.getD_eq_getElem?_getD, q]; rfl
    rw [e]
    show x ∈ asc n _ ↔ _
    rw [mem_asc, decide_eq_true_eq]
    exact ⟨fun h => h.2, fun h => ⟨o.rng y x (e ▸ h), h⟩⟩
theorem sp_least {n : Nat} {ps : List (Nat × Nat)} (h : ∀ p ∈ ps, p.2 < n) : Sp n (lleast n ps) := by
  have o0 := ok_lone h
  have o := ok_lend o0
  refine ⟨by unfold lleast; rw [List.length_map, o.len], fun y x q => o.rng y x ((getD_map_row o).mp q), fun y => ?_, fun x q => (getD_map_row o).mpr (o.rfl x q), fun x y z h1 h2 => ?_⟩
  · unfold lleast
    rw [List.getD_eq_getElem?_getD, List.getElem?_map]
    cases (lend n (lone n ps))[y]? with
    | none => exact List.Pairwise.nil
    | some r => exact asc_srt
  · have q1 := (getD_map_row o).mp h1
    have q2 := (getD_map_row o).mp h2
    have hz : z < n := by
      rw [← o.len]
      rcases Nat.lt_or_ge z (lend n (lone n ps)).length with q | q
      · exact q
      · rw [List.getD_eq_getElem?_getD, List.getElem?_eq_none q] at q2; cases q2
    have hy := o.rng _ _ q2
    obtain ⟨s, a⟩ := (mem_lend o0 hy).mp q1
    obtain ⟨t, b⟩ := (mem_lend o0 hz).mp q2
    exact (getD_map_row o).mpr ((mem_lend o0 hz).mpr ⟨_, rch_add b a⟩)
end Bp

/-! plain lists: free lots, steps, heights -/
namespace Bp
structure LO {α : Type} (le : α → α → Bool) : Prop where
  anti : ∀ a b, le a b = true → le b a = true → a = b
  trans : ∀ a b c, le a b = true → le b c = true → le a c = true
  total : ∀ a b, (le a b || le b a) = true
section
variable {α : Type} {le : α → α → Bool}
theorem LO.uniq (o : LO le) {l m : List α} (p : l.Perm m) (hs : m.Pairwise fun a b => le a b = true) : l.mergeSort le = m :=
  ((List.mergeSort_perm l le).trans p).eq_of_pairwise (le := fun a b => le a b = true) (fun a b _ _ h1 h2 => o.anti a b h1 h2) (List.pairwise_mergeSort (fun a b c h1 h2 => o.trans a b c h1 h2) (fun a b => o.total a b) l) hs
theorem LO.ext (o : LO le) {l m : List α} (p : l.Perm m) : l.mergeSort le = m.mergeSort le :=
  o.uniq (p.trans (List.mergeSort_perm m le).symm) (List.pairwise_mergeSort (fun a b c h1 h2 => o.trans a b c h1 h2) (fun a b => o.total a b) m)
theorem LO.filt (o : LO le) {l : List α} {p : α → Bool} : (l.filter p).mergeSort le = (l.mergeSort le).filter p :=
  o.uniq ((List.mergeSort_perm l le).symm.filter p) ((List.pairwise_mergeSort (fun a b c h1 h2 => o.trans a b c h1 h2) (fun a b => o.total a b) l).filter p)
theorem perm_of {l m : List α} (hl : l.Nodup) (hm : m.Nodup) (h : ∀ x, x ∈ l ↔ x ∈ m) : l.Perm m := (List.perm_ext_iff_of_nodup hl hm).mpr h
end
theorem nodup_len_le {α : Type} [DecidableEq α] {l m : List α} (h : l.Nodup) (s : ∀ x ∈ l, x ∈ m) : l.length ≤ m.length := by
  induction l generalizing m with
  | nil => exact Nat.zero_le _
  | cons a l ih =>
    rw [List.nodup_cons] at h
    have ha := s a List.mem_cons_self
    have := ih (m := m.erase a) h.2 fun x hx => by
      have ne : x ≠ a := fun e => h.1 (by rw [← e]; exact hx)
      exact (List.mem_erase_of_ne ne).mpr (s x (List.mem_cons_of_mem _ hx))
    rw [List.length_erase_of_mem ha] at this
    have := List.length_pos_of_mem ha
    rw [List.length_cons]
    omega
/-! ### all lots -/
def lotsU (n : Nat) : List (List Nat) := (List.range n).foldl (fun f at_ => f ++ f.map fun l => l ++ [at_]) [[]]
theorem lotsU_succ (n : Nat) : lotsU (n + 1) = lotsU n ++ (lotsU n).map fun l => l ++ [n] := by
  unfold lotsU
  rw [List.range_succ, List.foldl_append]
  rfl
def IsLot (n : Nat) (l : List Nat) : Prop := l.Pairwise (· < ·) ∧ ∀ x ∈ l, x < n
theorem asc_isLot {n : Nat} {p : Nat → Bool} : IsLot n (asc n p) := ⟨asc_srt, fun x h => (mem_asc.mp h).1⟩
theorem mem_lotsU : ∀ {n : Nat} {l : List Nat}, l ∈ lotsU n ↔ IsLot n l
  | 0, l => by
    show l ∈ [[]] ↔ _
    rw [List.mem_singleton]
    refine ⟨fun h => by subst h; exact ⟨List.Pairwise.nil, fun x h => nomatch h⟩, fun ⟨_, h⟩ => ?_⟩
    cases l with
    | nil => rfl
    | cons a l => exact absurd (h a List.mem_cons_self) (Nat.not_lt_zero _)
  | n + 1, l => by
    rw [lotsU_succ, List.mem_append, List.mem_map, mem_lotsU]
    constructor
    · rintro (⟨h1, h2⟩ | ⟨m, hm, rfl⟩)
      · exact ⟨h1, fun x h => Nat.lt_succ_of_lt (h2 x h)⟩
      · obtain ⟨h1, h2⟩ := mem_lotsU.mp hm
        refine ⟨?_, fun x h => ?_⟩
        · rw [List.pairwise_append]
          exact ⟨h1, by simp, fun a ha b hb => by rw [List.mem_singleton] at hb; subst hb; exact h2 a ha⟩
        · rcases List.mem_append.mp h with h | h
          · exact Nat.lt_succ_of_lt (h2 x h)
          · rw [List.mem_singleton] at h; omega
    · rintro ⟨h1, h2⟩
      by_cases hn : n ∈ l
      · refine .inr ⟨asc n fun x => decide (x ∈ l), mem_lotsU.mpr asc_isLot, ?_⟩
        refine srt_ext ?_ h1 fun x => ?_
        · rw [List.pairwise_append]
          exact ⟨asc_srt, by simp, fun a ha b hb => by rw [List.mem_singleton] at hb; subst hb; exact (mem_asc.mp ha).1⟩
        · rw [List.mem_append, mem_asc, List.mem_singleton, decide_eq_true_eq]
          constructor
          · rintro (h | rfl)
            · exact h.2
            · exact hn
          · intro h
            by_cases e : x = n
            · exact .inr e
            · exact .inl ⟨by have := h2 x h; omega, h⟩
      · refine .inl ⟨h1, fun x h => ?_⟩
        have := h2 x h
        have : x ≠ n := fun e => hn (e ▸ h)
        omega
theorem nodup_lotsU : ∀ n : Nat, (lotsU n).Nodup
  | 0 => by show [[]].Nodup; simp
  | n + 1 => by
    rw [lotsU_succ, List.nodup_append]
    refine ⟨nodup_lotsU n, ?_, fun a ha b hb => ?_⟩
    · refine List.Pairwise.map _ (fun a b (h : a ≠ b) => ?_) (nodup_lotsU n)
      exact fun e => h (List.append_cancel_right e)
    · obtain ⟨m, _, rfl⟩ := List.mem_map.mp hb
      rintro rfl
      exact absurd ((mem_lotsU.mp ha).2 n (by simp)) (Nat.lt_irrefl _)
theorem length_lotsU : ∀ n : Nat, (lotsU n).length = 2 ^ n
  | 0 => rfl
  | n + 1 => by rw [lotsU_succ, List.length_append, List.length_map, length_lotsU n]; omega
/-! ### free lots -/
def isFree (L : List (List Nat)) (l : List Nat) : Bool := l.all fun at_ => (L.getD at_ []).all fun o => decide (o ∈ l)
theorem isFree_iff {L : List (List Nat)} {l : List Nat} : isFree L l = true ↔ ∀ x ∈ l, ∀ o ∈ L.getD x [], o ∈ l := by
  unfold isFree; simp only [List.all_eq_true, decide_eq_true_eq]
def uni (n : Nat) (a b : List Nat) : List Nat := asc n fun x => decide (x ∈ a ∨ x ∈ b)
theorem mem_uni {n : Nat} {a b : List Nat} {x : Nat} : x ∈ uni n a b ↔ x < n ∧ (x ∈ a ∨ x ∈ b) := by unfold uni; rw [mem_asc, decide_eq_true_eq]
def insK {α : Type} [DecidableEq α] (ks : List α) (k : α) : List α := if k ∈ ks then ks else ks ++ [k]
theorem mem_insK {α : Type} [DecidableEq α] {ks : List α} {k x : α} : x ∈ insK ks k ↔ x ∈ ks ∨ x = k := by
  unfold insK
  split
  · rename_i h; exact ⟨.inl, fun q => q.elim id fun e => e ▸ h⟩
  · simp
theorem nodup_insK {α : Type} [DecidableEq α] {ks : List α} {k : α} (h : ks.Nodup) : (insK ks k).Nodup := by
  unfold insK
  split
  · exact h
  · rename_i q
    rw [List.nodup_append]
    refine ⟨h, by simp, fun x hx y hy => ?_⟩
    rw [List.mem_singleton] at hy
    subst hy
    exact fun e => q (e ▸ hx)
def insKs {α β : Type} [DecidableEq α] (f : β → α) (bs : List β) (ks : List α) : List α := bs.foldl (fun acc b => insK acc (f b)) ks
theorem mem_insKs {α β : Type} [DecidableEq α] {f : β → α} {x : α} : ∀ {bs : List β} {ks : List α}, x ∈ insKs f bs ks ↔ x ∈ ks ∨ ∃ b ∈ bs, x = f b
  | [], ks => by simp [insKs]
  | b :: bs, ks => by
    have := mem_insKs (f := f) (x := x) (bs := bs) (ks := insK ks (f b))
    unfold insKs at this ⊢
    rw [List.foldl_cons, this, mem_insK]
    constructor
    · rintro ((h | h) | ⟨c, hc, h⟩)
      · exact .inl h
      · exact .inr ⟨b, List.mem_cons_self, h⟩
      · exact .inr ⟨c, List.mem_cons_of_mem _ hc, h⟩
    · rintro (h | ⟨c, hc, h⟩)
      · exact .inl (.inl h)
      · rcases List.mem_cons.mp hc with rfl | hc
        · exact .inl (.inr h)
        · exact .inr ⟨c, hc, h⟩
theorem nodup_insKs {α β : Type} [DecidableEq α] {f : β → α} : ∀ {bs : List β} {ks : List α}, ks.Nodup → (insKs f bs ks).Nodup
  | [], ks, h => h
  | b :: bs, ks, h => nodup_insKs (bs := bs) (nodup_insK h)
def fstep (n : Nat) (L : List (List Nat)) (found : List (List Nat)) (place : Nat) : List (List Nat) := insKs (fun lot => uni n lot (L.getD place [])) found found
def ffound (n : Nat) (L : List (List Nat)) (k : Nat) : List (List Nat) := (List.range k).foldl (fstep n L) [[]]
theorem ffound_succ {n k : Nat} {L : List (List Nat)} : ffound n L (k + 1) = fstep n L (ffound n L k) k := by
  unfold ffound; rw [List.range_succ, List.foldl_append]; rfl
theorem ffound_in {n : Nat} {L : List (List Nat)} (s : Sp n L) : ∀ {k : Nat}, k ≤ n → (ffound n L k).Nodup ∧ ∀ l ∈ ffound n L k, IsLot n l ∧ isFree L l = true
  | 0, _ => ⟨by show [[]].Nodup; simp, fun l h => by
      have : l = [] := by simpa [ffound] using h
      subst this
      exact ⟨⟨List.Pairwise.nil, fun x h => nomatch h⟩, rfl⟩⟩
  | k + 1, hk => by
    obtain ⟨h1, h2⟩ := ffound_in s (Nat.le_of_succ_le hk)
    rw [ffound_succ]
    refine ⟨nodup_insKs h1, fun l h => ?_⟩
    rcases mem_insKs.mp h with h | ⟨m, hm, rfl⟩
    · exact h2 l h
    · refine ⟨asc_isLot, isFree_iff.mpr fun x hx o ho => ?_⟩
      obtain ⟨hx1, hx⟩ := mem_uni.mp hx
      refine mem_uni.mpr ⟨s.rng _ _ ho, ?_⟩
      rcases hx with hx | hx
      · exact .inl (isFree_iff.mp (h2 m hm).2 x hx o ho)
      · exact .inr (s.trs _ _ _ ho hx)
theorem ffound_len {n : Nat} {L : List (List Nat)} (s : Sp n L) {k : Nat} (hk : k ≤ n) : (ffound n L k).length ≤ 2 ^ n := by
  obtain ⟨h1, h2⟩ := ffound_in s hk
  rw [← length_lotsU n]
  exact nodup_len_le h1 fun x hx => mem_lotsU.mpr (h2 x hx).1
def unL (n : Nat) (L : List (List Nat)) (l : List Nat) (k : Nat) : List Nat := asc n fun x => l.any fun i => decide (i < k) && decide (x ∈ L.getD i [])
theorem mem_unL {n k : Nat} {L : List (List Nat)} {l : List Nat} {x : Nat} : x ∈ unL n L l k ↔ x < n ∧ ∃ i, i < k ∧ i ∈ l ∧ x ∈ L.getD i [] := by
  unfold unL
  rw [mem_asc, List.any_eq_true]
  simp only [Bool.and_eq_true, decide_eq_true_eq]
  exact ⟨fun ⟨h, i, a, b, c⟩ => ⟨h, i, b, a, c⟩, fun ⟨h, i, a, b, c⟩ => ⟨h, i, b, a, c⟩⟩
theorem ffound_all {n : Nat} {L : List (List Nat)} (s : Sp n L) {l : List Nat} (hl : isFree L l = true) : ∀ {k : Nat}, k ≤ n → unL n L l k ∈ ffound n L k
  | 0, _ => by
    have : unL n L l 0 = [] := by
      rw [List.eq_nil_iff_forall_not_mem]
      intro x hx
      obtain ⟨_, i, h, _⟩ := mem_unL.mp hx
      exact absurd h (Nat.not_lt_zero _)
    rw [this]
    simp [ffound]
  | k + 1, hk => by
    have ih := ffound_all s hl (Nat.le_of_succ_le hk)
    rw [ffound_succ]
    unfold fstep
    rw [mem_insKs]
    by_cases hkl : k ∈ l
    · refine .inr ⟨_, ih, ?_⟩
      refine srt_ext asc_srt asc_srt fun x => ?_
      rw [mem_unL, mem_uni, mem_unL]
      constructor
      · rintro ⟨h1, i, h2, h3, h4⟩
        refine ⟨h1, ?_⟩
        by_cases e : i = k
        · subst e; exact .inr h4
        · exact .inl ⟨h1, i, by omega, h3, h4⟩
      · rintro ⟨h1, ⟨_, i, h2, h3, h4⟩ | h⟩
        · exact ⟨h1, i, by omega, h3, h4⟩
        · exact ⟨h1, k, by omega, hkl, h⟩
    · refine .inl ?_
      rw [show unL n L l (k + 1) = unL n L l k from srt_ext asc_srt asc_srt fun x => ?_]
      · exact ih
      · rw [mem_unL, mem_unL]
        refine and_congr_right fun _ => ⟨?_, ?_⟩
        · rintro ⟨i, h2, h3, h4⟩
          exact ⟨i, by have : i ≠ k := fun e => hkl (e ▸ h3); omega, h3, h4⟩
        · rintro ⟨i, h2, h3, h4⟩
          exact ⟨i, by omega, h3, h4⟩
theorem mem_ffound {n : Nat} {L : List (List Nat)} (s : Sp n L) {l : List Nat} : l ∈ ffound n L n ↔ IsLot n l ∧ isFree L l = true := by
  refine ⟨(ffound_in s (Nat.le_refl _)).2 l, fun ⟨h1, h2⟩ => ?_⟩
  have := ffound_all s h2 (Nat.le_refl _)
  rw [show unL n L l n = l from srt_ext asc_srt h1.1 fun x => by
    rw [mem_unL]
    constructor
    · rintro ⟨_, i, _, h3, h4⟩
      exact isFree_iff.mp h2 i h3 x h4
    · intro h
      exact ⟨h1.2 x h, x, h1.2 x h, h, s.rfl x (h1.2 x h)⟩] at this
  exact this
section
variable {le : List Nat → List Nat → Bool}
/-- free lots, by going through all, are what the program finds -/
theorem free_sort (o : LO le) {n : Nat} {L : List (List Nat)} (s : Sp n L) : (ffound n L n).mergeSort le = ((lotsU n).mergeSort le).filter (isFree L) := by
  rw [← o.filt]
  exact o.ext (perm_of (ffound_in s (Nat.le_refl _)).1 ((nodup_lotsU n).filter _) fun x => by rw [mem_ffound s, List.mem_filter, mem_lotsU])
def restL (n : Nat) (l : List Nat) : List Nat := asc n fun x => !decide (x ∈ l)
theorem mem_restL {n : Nat} {l : List Nat} {x : Nat} : x ∈ restL n l ↔ x < n ∧ x ∉ l := by unfold restL; rw [mem_asc]; simp
theorem rest_rest {n : Nat} {l : List Nat} (h : IsLot n l) : restL n (restL n l) = l := srt_ext asc_srt h.1 fun x => by
  rw [mem_restL, mem_restL]
  constructor
  · rintro ⟨h1, h2⟩
    exact Decidable.byContradiction fun c => h2 ⟨h1, c⟩
  · exact fun q => ⟨h.2 x q, fun c => c.2 q⟩
theorem shut_sort (o : LO le) {n : Nat} {L : List (List Nat)} (s : Sp n L) : (((ffound n L n).mergeSort le).map (restL n)).mergeSort le = ((lotsU n).mergeSort le).filter fun l => isFree L (restL n l) := by
  rw [← o.filt]
  have p := List.mergeSort_perm (ffound n L n) le
  refine o.ext (perm_of ?_ ((nodup_lotsU n).filter _) fun x => ?_)
  · have nd : ((ffound n L n).mergeSort le).Nodup := p.nodup_iff.mpr (ffound_in s (Nat.le_refl _)).1
    refine List.pairwise_map.mpr ?_
    refine List.Pairwise.imp_of_mem (fun {a b} ha hb (h : a ≠ b) e => h ?_) nd
    rw [← rest_rest ((mem_ffound s).mp (p.mem_iff.mp ha)).1, e, rest_rest ((mem_ffound s).mp (p.mem_iff.mp hb)).1]
  · rw [List.mem_map, List.mem_filter, mem_lotsU]
    constructor
    · rintro ⟨a, ha, rfl⟩
      have := (mem_ffound s).mp (p.mem_iff.mp ha)
      exact ⟨asc_isLot, by rw [rest_rest this.1]; exact this.2⟩
    · rintro ⟨h1, h2⟩
      exact ⟨restL n x, p.mem_iff.mpr ((mem_ffound s).mpr ⟨asc_isLot, h2⟩), rest_rest h1⟩
end
/-! ### one lot -/
def freePart (L : List (List Nat)) (l : List Nat) : List Nat := l.filter fun x => (L.getD x []).all fun o => decide (o ∈ l)
def shutHull (n : Nat) (L : List (List Nat)) (l : List Nat) : List Nat := asc n fun x => (L.getD x []).any fun o => decide (o ∈ l)
theorem freePart_iff {L : List (List Nat)} {l : List Nat} : freePart L l = l ↔ isFree L l = true := by
  unfold freePart isFree
  rw [List.filter_eq_self, List.all_eq_true]
theorem shutHull_iff {n : Nat} {L : List (List Nat)} (s : Sp n L) {l : List Nat} (hl : IsLot n l) : shutHull n L l = l ↔ isFree L (restL n l) = true := by
  rw [isFree_iff]
  constructor
  · intro h x hx o ho
    rw [mem_restL] at hx ⊢
    refine ⟨s.rng _ _ ho, fun c => hx.2 ?_⟩
    rw [← h]
    unfold shutHull
    rw [mem_asc, List.any_eq_true]
    exact ⟨hx.1, o, ho, decide_eq_true c⟩
  · intro h
    refine srt_ext asc_srt hl.1 fun x => ?_
    unfold shutHull
    rw [mem_asc, List.any_eq_true]
    constructor
    · rintro ⟨h1, o, ho, hd⟩
      exact Decidable.byContradiction fun c => (mem_restL.mp (h x (mem_restL.mpr ⟨h1, c⟩) o ho)).2 (of_decide_eq_true hd)
    · intro q
      exact ⟨hl.2 x q, x, s.rfl x (hl.2 x q), decide_eq_true q⟩
end Bp

/-! plain lists: steps, heights -/
namespace Bp
/-! ### pairs -/
def pairsAll (n : Nat) : List (Nat × Nat) := (List.range n).flatMap fun a => (List.range n).map fun b => (a, b)
theorem mem_pairsAll {n : Nat} {p : Nat × Nat} : p ∈ pairsAll n ↔ p.1 < n ∧ p.2 < n := by
  unfold pairsAll
  simp only [List.mem_flatMap, List.mem_range, List.mem_map]
  constructor
  · rintro ⟨a, ha, b, hb, rfl⟩; exact ⟨ha, hb⟩
  · intro h; exact ⟨p.1, h.1, p.2, h.2, rfl⟩
def ltP (p q : Nat × Nat) : Prop := p.1 < q.1 ∨ p.1 = q.1 ∧ p.2 < q.2
theorem pairsAll_srt {n : Nat} : (pairsAll n).Pairwise ltP := by
  unfold pairsAll
  rw [List.pairwise_flatMap]
  refine ⟨fun a _ => ?_, ?_⟩
  · rw [List.pairwise_map]
    exact List.pairwise_lt_range.imp fun h => .inr ⟨rfl, h⟩
  · refine List.pairwise_lt_range.imp fun {a b} h x hx y hy => ?_
    obtain ⟨_, _, rfl⟩ := List.mem_map.mp hx
    obtain ⟨_, _, rfl⟩ := List.mem_map.mp hy
    exact .inl h
theorem ltP_ne {p q : Nat × Nat} (h : ltP p q) : p ≠ q := by
  rintro rfl
  rcases h with h | ⟨_, h⟩ <;> exact Nat.lt_irrefl _ h
/-- pairs by rows of the first, sieved -/
theorem pairs_filter {n : Nat} {f : Nat × Nat → Bool} : ((List.range n).flatMap fun a => ((List.range n).filter fun b => f (a, b)).map fun b => (a, b)) = (pairsAll n).filter f := by
  unfold pairsAll
  rw [List.filter_flatMap]
  congr 1
  funext a
  rw [List.filter_map]
  rfl
/-! ### steps -/
def bel (L : List (List Nat)) (x y : Nat) : Bool := decide (x ∈ L.getD y [])
def strictB (L : List (List Nat)) (x y : Nat) : Bool := bel L x y && !bel L y x
def isStep (n : Nat) (L : List (List Nat)) (p : Nat × Nat) : Bool := strictB L p.1 p.2 && decide ((asc n fun a => strictB L p.1 a && strictB L a p.2).length = 0)
theorem isStep_iff {n : Nat} {L : List (List Nat)} (s : Sp n L) {p : Nat × Nat} : isStep n L p = true ↔ strictB L p.1 p.2 = true ∧ ∀ a, ¬ (strictB L p.1 a = true ∧ strictB L a p.2 = true) := by
  unfold isStep
  rw [Bool.and_eq_true, decide_eq_true_eq, List.length_eq_zero_iff, List.eq_nil_iff_forall_not_mem]
  refine and_congr_right fun _ => forall_congr' fun a => not_congr ?_
  rw [mem_asc, Bool.and_eq_true]
  refine ⟨fun h => h.2, fun h => ⟨?_, h⟩⟩
  have := h.2
  unfold strictB bel at this
  rw [Bool.and_eq_true, decide_eq_true_eq] at this
  exact s.rng _ _ this.1
def lowS (L : List (List Nat)) (high : Nat) : List Nat := (L.getD high []).filter fun one => !bel L high one
theorem mem_lowS {L : List (List Nat)} {x y : Nat} : x ∈ lowS L y ↔ strictB L x y = true := by
  unfold lowS strictB bel
  rw [List.mem_filter, Bool.and_eq_true, decide_eq_true_eq]
def stepsP (n : Nat) (L : List (List Nat)) : List (Nat × Nat) :=
  (List.range n).flatMap fun high => ((lowS L high).filter fun one => !((lowS L high).any fun other => bel L one other && !bel L other one)).map fun one => (one, high)
theorem nodup_rowsP {n : Nat} {f : Nat → List Nat} (h : ∀ y, (f y).Nodup) : ((List.range n).flatMap fun high => (f high).map fun one => (one, high)).Nodup := by
  refine List.pairwise_flatMap.mpr ⟨fun y _ => List.pairwise_map.mpr ((h y).imp fun {a b} ne e => ne (Prod.mk.inj e).1), ?_⟩
  refine List.pairwise_lt_range.imp fun {a b} h x hx y hy e => ?_
  obtain ⟨_, _, rfl⟩ := List.mem_map.mp hx
  obtain ⟨_, _, rfl⟩ := List.mem_map.mp hy
  exact Nat.ne_of_lt h (Prod.mk.inj e).2
theorem lowS_nodup {n : Nat} {L : List (List Nat)} (s : Sp n L) (y : Nat) : (lowS L y).Nodup := ((s.srt y).imp fun h => Nat.ne_of_lt h).filter _
theorem strict_lt {n : Nat} {L : List (List Nat)} (s : Sp n L) {x y : Nat} (h : strictB L x y = true) : x < n ∧ y < n := by
  unfold strictB bel at h
  rw [Bool.and_eq_true, decide_eq_true_eq] at h
  exact ⟨s.rng _ _ h.1, s.dom h.1⟩
theorem steps_perm {n : Nat} {L : List (List Nat)} (s : Sp n L) : (stepsP n L).Perm ((pairsAll n).filter (isStep n L)) := by
  refine perm_of (nodup_rowsP fun y => (lowS_nodup s y).filter _) ((pairsAll_srt.imp ltP_ne).filter _) fun p => ?_
  rw [List.mem_filter, mem_pairsAll, isStep_iff s]
  unfold stepsP
  simp only [List.mem_flatMap, List.mem_range, List.mem_map, List.mem_filter, mem_lowS]
  constructor
  · rintro ⟨y, hy, x, ⟨h1, h2⟩, rfl⟩
    refine ⟨strict_lt s h1, h1, fun a ⟨h3, h4⟩ => ?_⟩
    rw [Bool.not_eq_true', List.any_eq_false] at h2
    exact h2 a (mem_lowS.mpr h4) h3
  · rintro ⟨⟨h1, h2⟩, h3, h4⟩
    refine ⟨p.2, h2, p.1, ⟨h3, ?_⟩, rfl⟩
    rw [Bool.not_eq_true', List.any_eq_false]
    intro a ha hs
    exact h4 a ⟨hs, mem_lowS.mp ha⟩
/-! ### pairs below -/
def belowP (n : Nat) (L : List (List Nat)) : List (Nat × Nat) := (List.range n).flatMap fun high => ((L.getD high []).filter fun low => !decide (low = high)).map fun low => (low, high)
def isPair (L : List (List Nat)) (p : Nat × Nat) : Bool := !decide (p.2 = p.1) && bel L p.1 p.2
theorem below_perm {n : Nat} {L : List (List Nat)} (s : Sp n L) : (belowP n L).Perm ((pairsAll n).filter (isPair L)) := by
  refine perm_of (nodup_rowsP fun y => ((s.srt y).imp fun h => Nat.ne_of_lt h).filter _) ((pairsAll_srt.imp ltP_ne).filter _) fun p => ?_
  rw [List.mem_filter, mem_pairsAll]
  unfold belowP isPair bel
  simp only [List.mem_flatMap, List.mem_range, List.mem_map, List.mem_filter, Bool.and_eq_true, Bool.not_eq_true', decide_eq_false_iff_not, decide_eq_true_eq]
  constructor
  · rintro ⟨y, hy, x, ⟨h1, h2⟩, rfl⟩
    exact ⟨⟨s.rng _ _ h1, hy⟩, fun e => h2 e.symm, h1⟩
  · rintro ⟨⟨h1, h2⟩, h3, h4⟩
    exact ⟨p.2, h2, p.1, ⟨h4, fun e => h3 e.symm⟩, rfl⟩
/-! ### heights -/
def maxl (l : List Nat) : Nat := l.foldl max 0
theorem foldl_max (l : List Nat) : ∀ a : Nat, l.foldl max a = max a (l.foldl max 0) := by
  induction l with
  | nil => intro a; simp
  | cons b l ih => intro a; rw [List.foldl_cons, List.foldl_cons, ih, ih (max 0 b)]; omega
theorem maxl_cons (a : Nat) (l : List Nat) : maxl (a :: l) = max a (maxl l) := by
  unfold maxl; rw [List.foldl_cons, foldl_max]; omega
theorem le_maxl {l : List Nat} {x : Nat} (h : x ∈ l) : x ≤ maxl l := by
  induction l with
  | nil => cases h
  | cons a l ih =>
    rw [maxl_cons]
    rcases List.mem_cons.mp h with rfl | h
    · omega
    · have := ih h; omega
theorem maxl_mem {l : List Nat} (h : maxl l ≠ 0) : maxl l ∈ l := by
  induction l with
  | nil => exact absurd rfl h
  | cons a l ih =>
    rw [maxl_cons] at h ⊢
    by_cases q : maxl l ≤ a
    · rw [Nat.max_eq_left q]; exact List.mem_cons_self
    · rw [Nat.max_eq_right (by omega)]; exact List.mem_cons_of_mem _ (ih (by omega))
def hF (L : List (List Nat)) : Nat → Nat → Nat
  | 0, _ => 0
  | k + 1, x => maxl ((lowS L x).map fun y => hF L k y + 1)
def hgt (L : List (List Nat)) (x : Nat) : Nat := hF L (L.getD x []).length x
theorem low_len {n : Nat} {L : List (List Nat)} (s : Sp n L) {x y : Nat} (h : y ∈ lowS L x) : (L.getD y []).length < (L.getD x []).length := by
  have h := mem_lowS.mp h
  unfold strictB bel at h
  simp only [Bool.and_eq_true, decide_eq_true_eq, Bool.not_eq_true', decide_eq_false_iff_not] at h
  have hx := s.dom h.1
  have nd : (L.getD y []).Nodup := (s.srt y).imp fun h => Nat.ne_of_lt h
  have := nodup_len_le (l := x :: L.getD y []) (m := L.getD x []) (List.nodup_cons.mpr ⟨h.2, nd⟩) fun z hz => by
    rcases List.mem_cons.mp hz with rfl | hz
    · exact s.rfl _ hx
    · exact s.trs _ _ _ hz h.1
  rw [List.length_cons] at this
  omega
theorem hF_eq {n : Nat} {L : List (List Nat)} (s : Sp n L) : ∀ (k j x : Nat), (L.getD x []).length ≤ k → (L.getD x []).length ≤ j → hF L k x = hF L j x
  | k, j, x, hk, hj => by
    by_cases e : lowS L x = []
    · have z : ∀ k, hF L k x = 0 := fun k => by
        cases k with
        | zero => rfl
        | succ k => unfold hF; rw [e]; rfl
      rw [z, z]
    · obtain ⟨y, hy⟩ := List.exists_mem_of_ne_nil _ e
      have := low_len s hy
      cases k with
      | zero => omega
      | succ k =>
        cases j with
        | zero => omega
        | succ j =>
          unfold hF
          congr 1
          refine List.map_congr_left fun y hy => ?_
          have := low_len s hy
          rw [hF_eq s k j y (by omega) (by omega)]
theorem hgt_eq {n : Nat} {L : List (List Nat)} (s : Sp n L) (x : Nat) : hgt L x = maxl ((lowS L x).map fun y => hgt L y + 1) := by
  unfold hgt
  rw [hF_eq s _ ((L.getD x []).length + 1) x (Nat.le_refl _) (Nat.le_succ _)]
  show maxl _ = _
  congr 1
  refine List.map_congr_left fun y hy => ?_
  have := low_len s hy
  rw [hF_eq s (L.getD x []).length (L.getD y []).length y (by omega) (Nat.le_refl _)]
theorem hgt_low {n : Nat} {L : List (List Nat)} (s : Sp n L) {x y : Nat} (h : y ∈ lowS L x) : hgt L y + 1 ≤ hgt L x := by
  rw [hgt_eq s x]
  exact le_maxl (List.mem_map.mpr ⟨y, h, rfl⟩)
theorem hgt_lt {n : Nat} {L : List (List Nat)} (s : Sp n L) : ∀ (k x : Nat), x < n → (L.getD x []).length ≤ k → hgt L x < (L.getD x []).length
  | k, x, hx, hk => by
    have pos : 0 < (L.getD x []).length := List.length_pos_of_mem (s.rfl x hx)
    by_cases e : hgt L x = 0
    · omega
    · have q := hgt_eq s x
      rw [q] at e
      obtain ⟨y, hy, h⟩ := List.mem_map.mp (maxl_mem e)
      have := low_len s hy
      cases k with
      | zero => omega
      | succ k =>
        have := hgt_lt s k y (strict_lt s (mem_lowS.mp hy)).1 (by omega)
        omega
theorem row_len {n : Nat} {L : List (List Nat)} (s : Sp n L) (x : Nat) : (L.getD x []).length ≤ n := by
  have := nodup_len_le (m := List.range n) ((s.srt x).imp fun h => Nat.ne_of_lt h) fun z hz => List.mem_range.mpr (s.rng _ _ hz)
  rwa [List.length_range] at this
theorem hgt_n {n : Nat} {L : List (List Nat)} (s : Sp n L) {x : Nat} (hx : x < n) : hgt L x < n := by
  have := hgt_lt s _ x hx (Nat.le_refl _)
  have := row_len s x
  omega
/-- below a place that is not lowest, a step from a place one lower -/
theorem hgt_step {n : Nat} {L : List (List Nat)} (s : Sp n L) {x k : Nat} (h : hgt L x = k + 1) : ∃ y, hgt L y = k ∧ isStep n L (y, x) = true := by
  have e : maxl ((lowS L x).map fun y => hgt L y + 1) ≠ 0 := by rw [← hgt_eq s x]; omega
  obtain ⟨y, hy, q⟩ := List.mem_map.mp (maxl_mem e)
  rw [← hgt_eq s x] at q
  refine ⟨y, by omega, (isStep_iff s).mpr ⟨mem_lowS.mp hy, fun a ⟨h1, h2⟩ => ?_⟩⟩
  have a1 := hgt_low s (mem_lowS.mpr h1)
  have a2 := hgt_low s (mem_lowS.mpr h2)
  dsimp only at a1 a2
  omega
/-! the law's way: step by step, n times -/
def relax (F : List Nat) (p : Nat × Nat) : List Nat := F.set p.2 (max (F.getD p.2 0) (F.getD p.1 0 + 1))
theorem getD_setN {F : List Nat} {i j v : Nat} : (F.set i v).getD j 0 = if i = j ∧ i < F.length then v else F.getD j 0 := by
  rw [List.getD_eq_getElem?_getD, List.getElem?_set]
  by_cases h : i = j
  · subst h
    by_cases h2 : i < F.length
    · simp [h2]
    · simp [h2, List.getD_eq_getElem?_getD, List.getElem?_eq_none (Nat.le_of_not_lt h2)]
  · simp [h, List.getD_eq_getElem?_getD]
structure Rx (n : Nat) (L : List (List Nat)) (F : List Nat) : Prop where
  len : F.length = n
  le : ∀ x, F.getD x 0 ≤ hgt L x
theorem relax_get {F : List Nat} {p : Nat × Nat} (h : p.2 < F.length) (x : Nat) : F.getD x 0 ≤ (relax F p).getD x 0 ∧ (x = p.2 → F.getD p.1 0 + 1 ≤ (relax F p).getD x 0) := by
  unfold relax
  rw [getD_setN]
  by_cases e : p.2 = x
  · subst e; rw [if_pos ⟨rfl, h⟩]; exact ⟨by omega, fun _ => by omega⟩
  · rw [if_neg (fun q => e q.1)]; exact ⟨Nat.le_refl _, fun q => absurd q.symm e⟩
theorem Rx.relax {n : Nat} {L : List (List Nat)} (s : Sp n L) {F : List Nat} (r : Rx n L F) {p : Nat × Nat} (h : isStep n L p = true) : Rx n L (relax F p) := by
  have hs := ((isStep_iff s).mp h).1
  refine ⟨by unfold Bp.relax; rw [List.length_set, r.len], fun x => ?_⟩
  unfold Bp.relax
  rw [getD_setN]
  split
  · rename_i q
    have := r.le p.2
    have := r.le p.1
    have := hgt_low s (mem_lowS.mpr hs)
    rw [← q.1]
    omega
  · exact r.le x
theorem Rx.relaxs {n : Nat} {L : List (List Nat)} (s : Sp n L) : ∀ (ps : List (Nat × Nat)) {F : List Nat}, Rx n L F → (∀ p ∈ ps, isStep n L p = true) →
    Rx n L (ps.foldl Bp.relax F) ∧ (∀ x, F.getD x 0 ≤ (ps.foldl Bp.relax F).getD x 0) ∧ ∀ p ∈ ps, F.getD p.1 0 + 1 ≤ (ps.foldl Bp.relax F).getD p.2 0
  | [], F, r, _ => ⟨r, fun _ => Nat.le_refl _, fun _ h => nomatch h⟩
  | p :: ps, F, r, h => by
    have hp := h p List.mem_cons_self
    have lt : p.2 < F.length := by rw [r.len]; exact (strict_lt s ((isStep_iff s).mp hp).1).2
    obtain ⟨r2, g2, c2⟩ := Rx.relaxs s ps (r.relax s hp) fun q hq => h q (List.mem_cons_of_mem _ hq)
    refine ⟨r2, fun x => Nat.le_trans (relax_get lt x).1 (g2 x), fun q hq => ?_⟩
    rcases List.mem_cons.mp hq with rfl | hq
    · exact Nat.le_trans ((relax_get lt q.2).2 rfl) (g2 q.2)
    · exact Nat.le_trans (Nat.succ_le_succ (relax_get lt q.1).1) (c2 q hq)
def stepsL (n : Nat) (L : List (List Nat)) : List (Nat × Nat) := (pairsAll n).filter (isStep n L)
def hLaw (n : Nat) (L : List (List Nat)) (k : Nat) : List Nat := (List.range k).foldl (fun F _ => (stepsL n L).foldl relax F) (List.replicate n 0)
theorem hLaw_rx {n : Nat} {L : List (List Nat)} (s : Sp n L) : ∀ k : Nat, Rx n L (hLaw n L k) ∧ ∀ x, hgt L x ≤ k → hgt L x ≤ (hLaw n L k).getD x 0
  | 0 => by
    refine ⟨⟨by simp [hLaw], fun x => ?_⟩, fun x h => by omega⟩
    show (List.replicate n 0).getD x 0 ≤ _
    rw [List.getD_eq_getElem?_getD, List.getElem?_replicate]
    split <;> simp
  | k + 1 => by
    obtain ⟨r, c⟩ := hLaw_rx s k
    have e : hLaw n L (k + 1) = (stepsL n L).foldl relax (hLaw n L k) := by unfold hLaw; rw [List.range_succ, List.foldl_append]; rfl
    rw [e]
    obtain ⟨r2, g2, c2⟩ := r.relaxs s (stepsL n L) fun p hp => (List.mem_filter.mp hp).2
    refine ⟨r2, fun x hx => ?_⟩
    by_cases q : hgt L x ≤ k
    · exact Nat.le_trans (c x q) (g2 x)
    · obtain ⟨y, hy, st⟩ := hgt_step s (show hgt L x = k + 1 by omega)
      have := c2 (y, x) (List.mem_filter.mpr ⟨mem_pairsAll.mpr (strict_lt s ((isStep_iff s).mp st).1), st⟩)
      have := c y (by omega)
      simp only at *
      omega
theorem hLaw_eq {n : Nat} {L : List (List Nat)} (s : Sp n L) : hLaw n L n = (List.range n).map (hgt L) := by
  obtain ⟨r, c⟩ := hLaw_rx s n
  refine List.ext_getElem (by rw [r.len]; simp) fun i h1 h2 => ?_
  rw [List.getElem_map, List.getElem_range]
  have hi : i < n := by rw [← r.len]; exact h1
  have a := r.le i
  have b := c i (Nat.le_of_lt (hgt_n s hi))
  rw [List.getD_eq_getElem?_getD, List.getElem?_eq_getElem h1] at a b
  exact Nat.le_antisymm a b
/-! the program's way: a row of waiting ones -/
def ready (L : List (List Nat)) (ks : List Nat) (x : Nat) : Bool := (lowS L x).all fun y => decide (y ∈ ks)
theorem some_ready {n : Nat} {L : List (List Nat)} (s : Sp n L) {ks w : List Nat} (c : ∀ x, x < n → x ∈ ks ∨ x ∈ w) (h : w ≠ []) : ∃ x ∈ w, ready L ks x = true := by
  have : ∀ k, (∃ x ∈ w, (L.getD x []).length ≤ k) → ∃ x ∈ w, ready L ks x = true := by
    intro k
    induction k with
    | zero =>
      rintro ⟨x, hx, h⟩
      have e : lowS L x = [] := by
        unfold lowS
        rw [List.length_eq_zero_iff.mp (Nat.le_zero.mp h)]
        rfl
      exact ⟨x, hx, by unfold ready; rw [e]; rfl⟩
    | succ k ih =>
      rintro ⟨x, hx, h⟩
      by_cases q : ready L ks x = true
      · exact ⟨x, hx, q⟩
      · unfold ready at q
        rw [List.all_eq_true] at q
        obtain ⟨y, hy⟩ := Classical.not_forall.mp q
        obtain ⟨hy, hk⟩ := Classical.not_imp.mp hy
        rw [decide_eq_true_eq] at hk
        have := low_len s hy
        rcases c y (strict_lt s (mem_lowS.mp hy)).1 with z | z
        · exact absurd z hk
        · exact ih ⟨y, z, by omega⟩
  obtain ⟨x, hx⟩ := List.exists_mem_of_ne_nil _ h
  exact this _ ⟨x, hx, Nat.le_refl _⟩
def waitM (n : Nat) (L : List (List Nat)) (ks w : List Nat) : Nat := w.length * (n + 1) + w.findIdx (ready L ks)
theorem waitM_put {n : Nat} {L : List (List Nat)} {ks ks' w : List Nat} {x : Nat} (hl : (x :: w).length ≤ n) : waitM n L ks' w < waitM n L ks (x :: w) := by
  unfold waitM
  have := List.findIdx_le_length (xs := w) (p := ready L ks')
  rw [List.length_cons] at hl ⊢
  have e : (w.length + 1) * (n + 1) = w.length * (n + 1) + (n + 1) := Nat.succ_mul _ _
  omega
theorem waitM_turn {n : Nat} {L : List (List Nat)} {ks w : List Nat} {x : Nat} (h : ∃ y ∈ x :: w, ready L ks y = true) (hx : ready L ks x = false) : waitM n L ks (w ++ [x]) < waitM n L ks (x :: w) := by
  obtain ⟨y, hy, hr⟩ := h
  have hw : y ∈ w := by
    rcases List.mem_cons.mp hy with rfl | hy
    · rw [hx] at hr; cases hr
    · exact hy
  unfold waitM
  have : w.findIdx (ready L ks) < w.length := List.findIdx_lt_length.mpr ⟨y, hw, hr⟩
  rw [List.findIdx_append, if_pos this, List.findIdx_cons, hx, List.length_append, List.length_cons]
  show _ < _ + (w.findIdx (ready L ks) + 1)
  rw [List.length_cons, List.length_nil, Nat.zero_add]
  omega
end Bp

/-! the evaluator, read: comprehensions of dicts, of two loops; dicts of flags -/
namespace Bp
open PySem PySem.Spec PyProof.Rows L2
section
variable {α γ : Type} {K : α → Env → Prop} {e : Env}
/-- what one turn must give, whatever is gathered -/
def GoAt {α γ : Type} (vs : List Nat) (t : Tg) (c : M Bool) (b : α → M α) (e0 : Env) (g : γ → D) (P : γ → Bool) (st : α → γ → α) (J : Nat → α → Prop) (x : γ) : Prop :=
  wp (tgM t (g x) e0) fun _ e1 => wp (c e1) fun y e2 => y = P x ∧ (P x = false → wipeE e2 vs = e0) ∧ (P x = true → ∀ n acc, J (n + 1) acc → wp (b acc e2) fun acc' e3 => acc' = st acc x ∧ J n acc' ∧ wipeE e3 vs = e0)
theorem lcGo_gen {vs : List Nat} {t : Tg} {c : M Bool} {b : α → M α} {e0 : Env} (g : γ → D) (P : γ → Bool) (st : α → γ → α) (J : Nat → α → Prop) (hJ : ∀ n a, J (n + 1) a → J n a) : ∀ (l : List γ) (acc : α) (e : Env), (∀ x ∈ l, GoAt vs t c b e0 g P st J x) → wipeE e vs = e0 → J l.length acc →
    lcGo vs t c b (l.map g) acc e = .ok ((l.filter P).foldl st acc) e0
  | [], acc, e, _, he, _ => by rw [List.map_nil, lcGo]; dsimp only; rw [he]; rfl
  | x :: l, acc, e, h, he, hj => by
    have hx := h x List.mem_cons_self
    unfold GoAt at hx
    obtain ⟨_, e1, q1, hx⟩ := wp_ex hx
    obtain ⟨y, e2, q2, rfl, hx1, hx2⟩ := wp_ex hx
    rw [List.map_cons, lcGo]
    dsimp only
    rw [he, bnd_ok q1, bnd_ok q2]
    cases hP : P x with
    | true =>
      obtain ⟨d, e3, q3, rfl, j3, q4⟩ := wp_ex (hx2 hP l.length acc hj)
      rw [if_pos rfl, bnd_ok q3, lcGo_gen g P st J hJ l _ e3 (fun y hy => h y (List.mem_cons_of_mem _ hy)) q4 j3, List.filter_cons_of_pos hP]
      rfl
    | false =>
      rw [if_neg (by decide), lcGo_gen g P st J hJ l acc e2 (fun y hy => h y (List.mem_cons_of_mem _ hy)) (hx1 hP) (hJ _ _ hj), List.filter_cons_of_neg (by rw [hP]; decide)]
theorem putD_len {κ : Type} [DecidableEq κ] {kx : List κ × List D} {kk : κ} {y : D} : (putD kx kk y).1.length ≤ kx.1.length + 1 := by
  unfold putD; split
  · exact Nat.le_succ _
  · simp
/-- one turn of a dict's comprehension -/
def DcAt {γ : Type} (kf : D → Option (List Key)) (vs : List Nat) (t : Tg) (c : M Bool) (fk fv : M D) (e0 : Env) (g : γ → D) (P : γ → Bool) (F : γ → List Key) (V : γ → D) (x : γ) : Prop :=
  wp (tgM t (g x) e0) fun _ e1 => wp (c e1) fun b e2 => b = P x ∧ (P x = false → wipeE e2 vs = e0) ∧ (P x = true → wp (fk e2) fun kd e3 => kf kd = some (F x) ∧ wp (fv e3) fun vd e4 => vd = V x ∧ vd.fz = true ∧ wipeE e4 vs = e0)
theorem wp_fDct {γ : Type} {vs : List Nat} {i : M ItR} {t : Tg} {c : M Bool} {fk fv : M D} {e : Env} {K : D → Env → Prop} (g : γ → D) (P : γ → Bool) (F : γ → List Key) (V : γ → D) (l : List γ)
    (hi : wp (i e) fun r e1 => r.its = l.map g ∧ (∀ x ∈ l, DcAt keyT vs t c fk fv (wipeE e1 vs) g P F V x) ∧ K (hdT ((l.filter P).foldl (fun acc x => putD acc (F x) (V x)) ([], []))) (wipeE e1 vs)) (hl : l.length ≤ 16777216) : wp (fDct vs i t c fk fv e) K := by
  unfold fDct
  rw [wp_bnd]
  refine wp_mono hi fun r e1 ⟨h1, h2, h3⟩ => ?_
  rw [wp_noR, wp_bnd, h1, lcGo_gen g P (fun acc x => putD acc (F x) (V x)) (fun n acc => acc.1.length + n ≤ 16777216) (fun n a h => by omega) l ([], []) e1 ?_ rfl (by simpa using hl)]
  · with_unfolding_all exact h3
  · intro x hx
    refine wp_mono (h2 x hx) fun _ e2 h4 => wp_mono h4 fun b e3 ⟨a1, a2, a3⟩ => ⟨a1, a2, fun hP n acc hJ => ?_⟩
    obtain ⟨kd, e4, q4, k1, k2⟩ := wp_ex (a3 hP)
    obtain ⟨vd, e5, q5, rfl, v2, v3⟩ := wp_ex k2
    unfold dctEl
    rw [if_pos (decide_eq_true (by omega)), bnd_ok q4, bnd_ok q5, k1]
    dsimp only
    rw [if_pos v2]
    rw [wp_optS]
    exact ⟨rfl, by have := putD_len (kx := acc) (kk := F x) (y := V x); omega, v3⟩
theorem wp_fDc {γ : Type} {vs : List Nat} {i : M ItR} {t : Tg} {c : M Bool} {fk fv : M D} {e : Env} {K : D → Env → Prop} (g : γ → D) (P : γ → Bool) (F : γ → Key) (V : γ → D) (l : List γ)
    (hi : wp (i e) fun r e1 => r.its = l.map g ∧ (∀ x ∈ l, DcAt (fun d => (keyK d).map fun k => [k]) vs t c fk fv (wipeE e1 vs) g P (fun x => [F x]) V x) ∧ K (hdK ((l.filter P).foldl (fun acc x => putD acc (F x) (V x)) ([], []))) (wipeE e1 vs)) (hl : l.length ≤ 16777216) : wp (fDc vs i t c fk fv e) K := by
  unfold fDc
  rw [wp_bnd]
  refine wp_mono hi fun r e1 ⟨h1, h2, h3⟩ => ?_
  rw [wp_noR, wp_bnd, h1, lcGo_gen g P (fun acc x => putD acc (F x) (V x)) (fun n acc => acc.1.length + n ≤ 16777216) (fun n a h => by omega) l ([], []) e1 ?_ rfl (by simpa using hl)]
  · with_unfolding_all exact h3
  · intro x hx
    refine wp_mono (h2 x hx) fun _ e2 h4 => wp_mono h4 fun b e3 ⟨a1, a2, a3⟩ => ⟨a1, a2, fun hP n acc hJ => ?_⟩
    obtain ⟨kd, e4, q4, k1, k2⟩ := wp_ex (a3 hP)
    obtain ⟨vd, e5, q5, rfl, v2, v3⟩ := wp_ex k2
    have k1' : keyK kd = some (F x) := by
      cases h : keyK kd with
      | none => exfalso; simp only [h] at k1; cases k1
      | some k => simp only [h] at k1; cases k1; rfl
    unfold dcEl
    rw [if_pos (decide_eq_true (by omega)), bnd_ok q4, bnd_ok q5, k1']
    dsimp only
    rw [if_pos v2]
    rw [wp_optS]
    exact ⟨rfl, by have := putD_len (kx := acc) (kk := F x) (y := V x); omega, v3⟩
/-- two loops -/
theorem lcGo_app {vs : List Nat} {t : Tg} {c : M Bool} {f : M D} {e0 : Env} (g : γ → D) (P : γ → Bool) (F : γ → D) (l : List γ) (acc : List D) (e : Env) (h : ∀ x ∈ l, LcAt vs t c f e0 g P F x) (he : wipeE e vs = e0) (hl : acc.length + l.length ≤ 16777216) :
    lcGo vs t c (lcEl f) (l.map g) acc e = .ok (acc ++ (l.filter P).map F) e0 := lcGo_eq g P F l acc e h he hl
theorem wp_fLc2 {γ δ : Type} {vs vs1 : List Nat} {i i1 : M ItR} {t t1 : Tg} {c c1 : M Bool} {f : M D} {e : Env} {K : D → Env → Prop} (g : γ → D) (P : γ → Bool) (g1 : δ → D) (l1 : γ → List δ) (P1 : γ → δ → Bool) (F : γ → δ → D) (l : List γ)
    (hi : wp (i e) fun r e1 => r.its = l.map g ∧ (∀ x ∈ l, wp (tgM t (g x) (wipeE e1 vs)) fun _ e2 => wp (c e2) fun y e3 => y = P x ∧ (P x = false → wipeE e3 vs = wipeE e1 vs) ∧
      (P x = true → wp (i1 e3) fun r1 e4 => r1.its = (l1 x).map g1 ∧ (∀ z ∈ l1 x, LcAt vs1 t1 c1 f (wipeE e4 vs1) g1 (P1 x) (F x) z) ∧ wipeE (wipeE e4 vs1) vs = wipeE e1 vs)) ∧
      K (.lst true ((l.filter P).flatMap fun x => ((l1 x).filter (P1 x)).map (F x))) (wipeE e1 vs)) (m : Nat) (hm : ∀ x ∈ l, (l1 x).length ≤ m) (hl : l.length * m ≤ 16777216) : wp (fLc2 vs vs1 i t c i1 t1 c1 f e) K := by
  unfold fLc2
  rw [wp_bnd]
  refine wp_mono hi fun r e1 ⟨h1, h2, h3⟩ => ?_
  have key : ∀ (l : List γ), (∀ x ∈ l, wp (tgM t (g x) (wipeE e1 vs)) fun _ e2 => wp (c e2) fun y e3 => y = P x ∧ (P x = false → wipeE e3 vs = wipeE e1 vs) ∧
      (P x = true → wp (i1 e3) fun r1 e4 => r1.its = (l1 x).map g1 ∧ (∀ z ∈ l1 x, LcAt vs1 t1 c1 f (wipeE e4 vs1) g1 (P1 x) (F x) z) ∧ wipeE (wipeE e4 vs1) vs = wipeE e1 vs)) → (∀ x ∈ l, (l1 x).length ≤ m) → ∀ acc e, wipeE e vs = wipeE e1 vs → acc.length + l.length * m ≤ 16777216 →
      lcGo vs t c (lcIn vs1 i1 t1 c1 f) (l.map g) acc e = .ok (acc ++ (l.filter P).flatMap fun x => ((l1 x).filter (P1 x)).map (F x)) (wipeE e1 vs) := by
    intro l
    induction l with
    | nil => intro _ _ acc e he _; rw [List.map_nil, lcGo]; dsimp only; rw [he]; simp
    | cons x l ih =>
      intro h hm acc e he hl
      have e' : (x :: l).length * m = l.length * m + m := by rw [List.length_cons, Nat.succ_mul]
      have hmx := hm x List.mem_cons_self
      obtain ⟨_, e2, q1, hx⟩ := wp_ex (h x List.mem_cons_self)
      obtain ⟨y, e3, q2, rfl, hx1, hx2⟩ := wp_ex hx
      rw [List.map_cons, lcGo]
      dsimp only
      rw [he, bnd_ok q1, bnd_ok q2]
      cases hP : P x with
      | true =>
        obtain ⟨r1, e4, q3, a1, a2, a3⟩ := wp_ex (hx2 hP)
        rw [if_pos rfl]
        have qi : lcIn vs1 i1 t1 c1 f acc e3 = .ok (acc ++ ((l1 x).filter (P1 x)).map (F x)) (wipeE e4 vs1) := by
          unfold lcIn
          rw [bnd_ok q3, a1]
          exact lcGo_eq g1 (P1 x) (F x) (l1 x) acc e4 a2 rfl (by omega)
        rw [bnd_ok qi]
        have len : (acc ++ ((l1 x).filter (P1 x)).map (F x)).length ≤ acc.length + m := by
          rw [List.length_append, List.length_map]
          have := List.length_filter_le (P1 x) (l1 x)
          omega
        have := ih (fun y hy => h y (List.mem_cons_of_mem _ hy)) (fun y hy => hm y (List.mem_cons_of_mem _ hy)) (acc ++ ((l1 x).filter (P1 x)).map (F x)) (wipeE e4 vs1) a3 (by omega)
        rw [List.filter_cons_of_pos hP, List.flatMap_cons, ← List.append_assoc]
        exact this
      | false =>
        rw [if_neg (by decide), List.filter_cons_of_neg (by rw [hP]; decide)]
        exact ih (fun y hy => h y (List.mem_cons_of_mem _ hy)) (fun y hy => hm y (List.mem_cons_of_mem _ hy)) acc e3 (hx1 hP) (by omega)
  rw [wp_noR, wp_bnd, h1, key l h2 hm [] e1 rfl (by simpa using hl)]
  with_unfolding_all exact h3
end
/-! ### dicts of flags -/
def kN (i : Nat) : Key := .inl (i : Int)
def kT (l : List Nat) : List Key := l.map kN
theorem kN_inj {a b : Nat} (h : kN a = kN b) : a = b := by unfold kN at h; cases h; rfl
theorem kN_inj' {a b : Nat} (h : kN a = kN b) : a = b := Int.ofNat_inj.mp (Sum.inl.inj h)
theorem kT_inj {a b : List Nat} (h : kT a = kT b) : a = b := List.map_inj_right (f := kN) (fun _ _ q => kN_inj' q) |>.mp h
@[simp] theorem keyK_nI (i : Nat) : keyK (nI i) = some (kN i) := rfl
theorem keysK_nI : ∀ l : List Nat, keysK (l.map nI) = some (kT l)
  | [] => rfl
  | x :: l => by rw [List.map_cons, keysK, keysK_nI l]; rfl
@[simp] theorem keyT_tI (l : List Nat) : keyT (tI l) = some (kT l) := keysK_nI l
theorem dsetv_const {κ : Type} [DecidableEq κ] {v : D} {kk : κ} : ∀ ks : List κ, dsetv ks (ks.map fun _ => v) kk v = ks.map fun _ => v
  | [] => rfl
  | k :: ks => by
    rw [List.map_cons, dsetv, dsetv_const ks]
    congr 1
    split <;> rfl
theorem putD_const {α κ : Type} [DecidableEq α] [DecidableEq κ] {f : α → κ} (hf : ∀ a b, f a = f b → a = b) {v : D} {ks : List α} {x : α} : putD (ks.map f, ks.map fun _ => v) (f x) v = ((insK ks x).map f, (insK ks x).map fun _ => v) := by
  have e : (ks.map fun _ => v) = (ks.map f).map fun _ => v := by rw [List.map_map]; rfl
  have m : f x ∈ ks.map f ↔ x ∈ ks := ⟨fun h => by
    obtain ⟨y, hy, q⟩ := List.mem_map.mp h
    exact hf _ _ q ▸ hy, fun h => List.mem_map.mpr ⟨x, h, rfl⟩⟩
  unfold putD insK
  dsimp only
  by_cases h : x ∈ ks
  · rw [if_pos (m.mpr h), if_pos h]
    rw [e, dsetv_const]
  · rw [if_neg (fun q => h (m.mp q)), if_neg h]
    simp
theorem foldl_putD {α β κ : Type} [DecidableEq α] [DecidableEq κ] {f : α → κ} (hf : ∀ a b, f a = f b → a = b) {v : D} {h : β → α} : ∀ (l : List β) (ks : List α), l.foldl (fun acc x => putD acc (f (h x)) v) (ks.map f, ks.map fun _ => v) = ((insKs h l ks).map f, (insKs h l ks).map fun _ => v)
  | [], _ => rfl
  | x :: l, ks => by rw [List.foldl_cons, putD_const hf, foldl_putD hf l]; rfl
def tru : D := .bl true
/-- a dict of flags, its keys numbers -/
def dN (o : Bool) (ks : List Nat) : D := .dk o (ks.map kN) (ks.map fun _ => tru)
def dT (o : Bool) (ks : List (List Nat)) : D := .dt o (ks.map kT) (ks.map fun _ => tru)
theorem hdK_fold {β : Type} {h : β → Nat} (l : List β) : hdK (l.foldl (fun acc x => putD acc (kN (h x)) tru) ([], [])) = dN true (insKs h l []) := by
  have := foldl_putD (f := kN) (fun _ _ => kN_inj') (v := tru) (h := h) l []
  rw [show (([] : List Key), ([] : List D)) = (([] : List Nat).map kN, ([] : List Nat).map fun _ => tru) from rfl, this]
  rfl
theorem hdT_fold {β : Type} {h : β → List Nat} (l : List β) : hdT (l.foldl (fun acc x => putD acc (kT (h x)) tru) ([], [])) = dT true (insKs h l []) := by
  have := foldl_putD (f := kT) (fun _ _ => kT_inj) (v := tru) (h := h) l []
  rw [show (([] : List (List Key)), ([] : List D)) = (([] : List (List Nat)).map kT, ([] : List (List Nat)).map fun _ => tru) from rfl, this]
  rfl
theorem keysD_kN (ks : List Nat) : keysD (ks.map kN) = ks.map nI := by unfold keysD; rw [List.map_map]; rfl
theorem keysT_kT (ks : List (List Nat)) : keysT (ks.map kT) = ks.map tI := by
  unfold keysT
  rw [List.map_map]
  refine List.map_congr_left fun l _ => ?_
  show D.tup ((kT l).map kD) = tI l
  unfold kT tI
  rw [List.map_map]
  rfl
@[simp] theorem itemsD_dN (o : Bool) (ks : List Nat) : itemsD (dN o ks) = some (ks.map nI) := by show some (keysD _) = _; rw [keysD_kN]
@[simp] theorem itemsD_dT (o : Bool) (ks : List (List Nat)) : itemsD (dT o ks) = some (ks.map tI) := by show some (keysT _) = _; rw [keysT_kT]
@[simp] theorem lenD_dN (o : Bool) (ks : List Nat) : lenD (dN o ks) = some ks.length := by show some _ = _; rw [List.length_map]
@[simp] theorem lenD_dT (o : Bool) (ks : List (List Nat)) : lenD (dT o ks) = some ks.length := by show some _ = _; rw [List.length_map]
theorem fzs_tru {α : Type} (ks : List α) : fzs (ks.map fun _ => tru) = true := fzs_all fun x h => by
  obtain ⟨_, _, rfl⟩ := List.mem_map.mp h; rfl
theorem nodup_len_n {n : Nat} {ks : List Nat} (hd : ks.Nodup) (hr : ∀ x ∈ ks, x < n) : ks.length ≤ n := by
  have := nodup_len_le (m := List.range n) hd fun x hx => List.mem_range.mpr (hr x hx)
  rwa [List.length_range] at this
theorem sorted_dN {o : Bool} {n : Nat} {ks : List Nat} (hd : ks.Nodup) (hr : ∀ x ∈ ks, x < n) (hn : n ≤ 16777216) : sortedD (dN o ks) = some (.lst true ((asc n fun x => decide (x ∈ ks)).map nI)) := by
  show sortL (keysD _) = _
  rw [keysD_kN, sortL_nI (Nat.le_trans (nodup_len_n hd hr) hn), sort_nI (m := asc n fun x => decide (x ∈ ks)) hd asc_nodup (asc_srt.imp fun h => Nat.le_of_lt h) fun x => by rw [mem_asc, decide_eq_true_eq]; exact ⟨fun h => ⟨hr x h, h⟩, fun h => h.2⟩]
/-- rows, as they are sorted -/
theorem lo_leT : LO leT := ⟨leT_anti, leT_trans, leT_total⟩
theorem sort_tI' (l : List (List Nat)) : (l.map tI).mergeSort leD = (l.mergeSort leT).map tI := (List.map_mergeSort (fun a _ b _ => (leD_tI a b).symm)).symm
theorem sortedL_tI {o : Bool} {l : List (List Nat)} (h : l.length ≤ 16777216) : sortedD (.lst o (l.map tI)) = some (.lst true ((l.mergeSort leT).map tI)) := by
  show sortL _ = _
  rw [sortL_tI h, sort_tI']
theorem sorted_dT {o : Bool} {ks : List (List Nat)} (h : ks.length ≤ 16777216) : sortedD (dT o ks) = some (.lst true ((ks.mergeSort leT).map tI)) := by
  show sortL (keysT _) = _
  rw [keysT_kT, sortL_tI h, sort_tI']
end Bp

namespace Bp
open PySem PySem.Spec PyProof.Rows L2
def chnV (o1 o2 : Option D) : Option D := match o1 with
  | some (.bl x) => if x = true then o2 else some (.bl false)
  | _ => none
@[simp] theorem chnV_bl {x y : Bool} : chnV (some (.bl x)) (some (.bl y)) = some (.bl (x && y)) := by cases x <;> rfl
@[simp] theorem wp_chn2 {T : Tb} {o o' : O2} {c : P0} {a : D} {j : Int} {e : Env} {K : D → Env → Prop} : wp (chn2 T o o' c [a, .int j] e) K = onO (chnV (sem2 o a (.int j)) ((getP T c e).bind fun w => sem2 o' (.int j) w)) fun d => K d e := by
  show wp (match blO (sem2 o a (.int j)), getP T c e with | some true, some w => opt (sem2 o' (.int j) w) e | some false, _ => .ok (.bl false) e | _, _ => .bad) K = _
  cases h : sem2 o a (.int j) with
  | none => with_unfolding_all rfl
  | some d =>
    cases d with
    | bl x =>
      cases x with
      | true =>
        cases getP T c e with
        | none => with_unfolding_all rfl
        | some w =>
          show wp (opt (sem2 o' (.int j) w) e) K = onO ((sem2 o' (.int j) w)) fun d => K d e
          cases sem2 o' (.int j) w <;> with_unfolding_all rfl
      | false => with_unfolding_all rfl
    | _ => with_unfolding_all rfl
@[simp] theorem B_len {ds : List D} : semB .len ds = one (fun d => (lenD d).map fun n : Nat => D.int ((n : Nat) : Int)) ds := rfl
@[simp] theorem B_abs {ds : List D} : semB .abs ds = one absD ds := rfl
@[simp] theorem B_int {ds : List D} : semB .int ds = one intD ds := rfl
@[simp] theorem B_lst {ds : List D} : semB .lst ds = one lstD ds := rfl
@[simp] theorem B_tup {ds : List D} : semB .tup ds = one tupD ds := rfl
@[simp] theorem B_sorted {ds : List D} : semB .sorted ds = one sortedD ds := rfl
@[simp] theorem B_all {ds : List D} : semB .all ds = one (overB fun bs => some (.bl (bs.all id))) ds := rfl
@[simp] theorem B_any {ds : List D} : semB .any ds = one (overB fun bs => some (.bl (bs.any id))) ds := rfl
@[simp] theorem B_maxL {ds : List D} : semB .maxL ds = one (overI fun is => (maxI is).map .int) ds := rfl
@[simp] theorem B_max2 {i j : Int} : semB .max2 [.int i, .int j] = some (.int (if j > i then j else i)) := rfl
@[simp] theorem B_min2 {i j : Int} : semB .min2 [.int i, .int j] = some (.int (if j < i then j else i)) := rfl
@[simp] theorem lenD_tup {xs : List D} : lenD (.tup xs) = some xs.length := rfl
@[simp] theorem lenD_lst {o : Bool} {xs : List D} : lenD (.lst o xs) = some xs.length := rfl
@[simp] theorem lenD_tI {l : List Nat} : lenD (tI l) = some l.length := by unfold tI; rw [lenD_tup, List.length_map]
@[simp] theorem lenD_tII {l : List (List Nat)} : lenD (tII l) = some l.length := by unfold tII; rw [lenD_tup, List.length_map]
theorem blsOf_map {γ : Type} (f : γ → Bool) : ∀ l : List γ, blsOf (l.map fun x => D.bl (f x)) = some (l.map f)
  | [] => rfl
  | x :: l => by rw [List.map_cons, blsOf, blsOf_map f l]; rfl
@[simp] theorem overB_all {γ : Type} {o : Bool} {f : γ → Bool} {l : List γ} : overB (fun bs => some (.bl (bs.all id))) (.lst o (l.map fun x => D.bl (f x))) = some (.bl (l.all f)) := by
  unfold overB seqD
  dsimp only
  rw [blsOf_map]
  dsimp only
  rw [List.all_map]
  rfl
@[simp] theorem overB_any {γ : Type} {o : Bool} {f : γ → Bool} {l : List γ} : overB (fun bs => some (.bl (bs.any id))) (.lst o (l.map fun x => D.bl (f x))) = some (.bl (l.any f)) := by
  unfold overB seqD
  dsimp only
  rw [blsOf_map]
  dsimp only
  rw [List.any_map]
  rfl
@[simp] theorem tupD_nI {o : Bool} {l : List Nat} : tupD (.lst o (l.map nI)) = some (tI l) := by
  show (if fzs _ = true then _ else _) = _
  rw [if_pos (fzs_nI l)]; rfl
@[simp] theorem tupD_tI {o : Bool} {l : List (List Nat)} : tupD (.lst o (l.map tI)) = some (tII l) := by
  show (if fzs _ = true then _ else _) = _
  rw [if_pos (fzs_tI l)]; rfl
@[simp] theorem lstD_tI {l : List Nat} : lstD (tI l) = some (.lst true (l.map nI)) := by
  show (if fzs _ = true then _ else _) = _
  rw [if_pos (fzs_nI l)]
@[simp] theorem filter_tt {γ : Type} {l : List γ} : l.filter (fun _ => true) = l := List.filter_eq_self.mpr fun _ _ => rfl
/-- a comprehension over what is at hand, no condition on what it leaves -/
theorem LcAt_iff {γ : Type} {vs : List Nat} {t : Tg} {c : M Bool} {f : M D} {e0 : Env} {g : γ → D} {P : γ → Bool} {F : γ → D} {x : γ} : LcAt vs t c f e0 g P F x ↔ wp (tgM t (g x) e0) fun _ e1 => wp (c e1) fun b e2 => b = P x ∧ (P x = false → wipeE e2 vs = e0) ∧ (P x = true → wp (f e2) fun d e3 => d = F x ∧ wipeE e3 vs = e0) := Iff.rfl
end Bp

namespace Bp
open PySem PySem.Spec PyProof.Rows L2
/-- through range(n) -/
theorem wp_rangeFor {t : Tg} {b : M Ct} (I : Nat → Env → Prop) {K : Ct → Env → Prop} {n : Nat} {e : Env}
    (h : ∀ k e, k < n → I k e → wp (tgM t (nI k) e) fun _ e1 => wp (b e1) fun c e2 => match c with
      | .nx => I (k + 1) e2
      | .ct => I (k + 1) e2
      | .bk => K .nx e2
      | .rt d => K (.rt d) e2)
    (h0 : I 0 e) (hn : ∀ e, I n e → K .nx e) : wp (forM t b ((List.range n).map nI) e) K := by
  refine wp_for nI (fun p e => I p.length e) (List.range n) (fun p x s e hp hi => ?_) h0 (fun e hi => hn e (by rwa [List.length_range] at hi))
  have hlt : p.length < n := by
    have := congrArg List.length hp
    simp at this
    omega
  have hx : x = p.length := by
    have := congrArg (fun l => l[p.length]?) hp
    simp [hlt] at this
    exact this.symm
  subst hx
  refine wp_mono (h p.length e hlt hi) fun _ e1 h1 => wp_mono h1 fun c e2 h2 => ?_
  cases c with
  | nx => simpa using h2
  | ct => simpa using h2
  | bk => exact h2
  | rt d => exact h2
/-- through a list, a state folded -/
theorem wp_foldFor {γ σ : Type} {t : Tg} {b : M Ct} (g : γ → D) (st : σ → γ → σ) (I : σ → Env → Prop) {K : Ct → Env → Prop} : ∀ (l : List γ) (s : σ) (e : Env),
    (∀ x s e, x ∈ l → I s e → wp (tgM t (g x) e) fun _ e1 => wp (b e1) fun c e2 => match c with
      | .nx => I (st s x) e2
      | .ct => I (st s x) e2
      | .bk => K .nx e2
      | .rt d => K (.rt d) e2) →
    I s e → (∀ e, I (l.foldl st s) e → K .nx e) → wp (forM t b (l.map g) e) K
  | [], s, e, _, h0, hn => by with_unfolding_all exact hn e h0
  | x :: l, s, e, h, h0, hn => by
    rw [List.map_cons, forM, wp_bnd]
    refine wp_mono (h x s e List.mem_cons_self h0) fun _ e1 h1 => ?_
    rw [wp_bnd]
    have go : ∀ e2, I (st s x) e2 → wp (forM t b (l.map g) e2) K := fun e2 h2 => wp_foldFor g st I l (st s x) e2 (fun y s e hy => h y s e (List.mem_cons_of_mem _ hy)) h2 hn
    refine wp_mono h1 fun c e2 h2 => ?_
    cases c with
    | nx => exact go e2 h2
    | ct => exact go e2 h2
    | bk => with_unfolding_all exact h2
    | rt d => with_unfolding_all exact h2
@[simp] theorem subN {n : Nat} {j : Int} : sem2 .sub (nI n) (.int j) = some (.int ((n : Int) - j)) := rfl
@[simp] theorem ltN {n m : Nat} : sem2 .lt (nI n) (nI m) = some (.bl (decide (n < m))) := by
  show some (D.bl (decide ((n : Int) < (m : Int)))) = _
  rw [decide_eq_decide.mpr Int.ofNat_lt]
@[simp] theorem gtN {n m : Nat} : sem2 .gt (nI n) (nI m) = some (.bl (decide (m < n))) := by
  show some (D.bl (decide ((m : Int) < (n : Int)))) = _
  rw [decide_eq_decide.mpr Int.ofNat_lt]
@[simp] theorem leN {n m : Nat} : sem2 .le (nI n) (nI m) = some (.bl (decide (n ≤ m))) := by
  show some (D.bl (decide ((n : Int) ≤ (m : Int)))) = _
  rw [decide_eq_decide.mpr Int.ofNat_le]
@[simp] theorem gtN0 {n : Nat} {j : Int} : sem2 .gt (nI n) (.int j) = some (.bl (decide (j < (n : Int)))) := rfl
theorem sub_sp {n : Nat} {L : List (List Nat)} (s : Sp n L) {x : Nat} (h : x < n) : subD (tII L) (nI x) = some (tI (L.getD x [])) := sub_tII (by rw [s.len]; exact h)
theorem add_tI {a b : List Nat} (h : a.length + b.length ≤ 16777216) : addD (tI a) (tI b) = some (tI (a ++ b)) := by
  show (if (fzs (a.map nI) && fzs (b.map nI) && decide ((a.map nI).length + (b.map nI).length ≤ sizeLine)) = true then _ else _) = _
  rw [if_pos]
  · unfold tI; rw [List.map_append]
  · simp only [fzs_nI, Bool.true_and, List.length_map, decide_eq_true_eq, sizeLine_eq]; exact h
@[simp] theorem updP_v {T : Tb} {i : Nat} {x : D} {e : Env} : updP T (.v i) x e = (e[i]?).join.map fun _ => e.set i (some x) := by
  rw [updP]
  cases e[i]? with
  | none => rfl
  | some o => cases o <;> rfl
theorem setS_dT {ks : List (List Nat)} {u : List Nat} (h : ks.length < 16777216) : setS (dT true ks) (tI u) (.bl true) = some (dT true (insK ks u)) := by
  unfold dT setS
  dsimp only
  rw [keyT_tI]
  dsimp only
  rw [if_pos (by simp [h]), show D.bl true = tru from rfl, putD_const (f := kT) (fun _ _ => kT_inj)]
theorem setS_dN {ks : List Nat} {u : Nat} (h : ks.length < 16777216) : setS (dN true ks) (nI u) (.bl true) = some (dN true (insK ks u)) := by
  unfold dN setS
  dsimp only
  rw [keyK_nI]
  dsimp only
  rw [if_pos (by simp [h]), show D.bl true = tru from rfl, putD_const (f := kN) (fun _ _ => kN_inj')]
theorem dt1_nil : D.dt true [[]] [.bl true] = dT true [[]] := rfl
@[simp] theorem keyT_nil : keyT (.tup []) = some [] := rfl
theorem lstD_dT {o : Bool} {ks : List (List Nat)} : lstD (dT o ks) = some (.lst true (ks.map tI)) := by
  unfold lstD
  rw [itemsD_dT]
  dsimp only
  rw [if_pos (fzs_tI ks)]
theorem lstD_dN {o : Bool} {ks : List Nat} : lstD (dN o ks) = some (.lst true (ks.map nI)) := by
  unfold lstD
  rw [itemsD_dN]
  dsimp only
  rw [if_pos (fzs_nI ks)]
@[simp] theorem seqO_lN {o : Bool} {l : List Nat} : seqO (.lst o (l.map nI)) = some (l.map nI) := if_pos (fzs_nI l)
@[simp] theorem seqO_lT {o : Bool} {l : List (List Nat)} : seqO (.lst o (l.map tI)) = some (l.map tI) := if_pos (fzs_tI l)
@[simp] theorem fz_lN {l : List Nat} : (D.lst false (l.map nI)).fz = true := by simp [D.fz]
@[simp] theorem fz_lT {l : List (List Nat)} : (D.lst false (l.map tI)).fz = true := by simp [D.fz]
@[simp] theorem sh_lN {o : Bool} {l : List Nat} : (D.lst o (l.map nI)).sh = .lst false (l.map nI) := sh_lst o (fzs_nI l)
@[simp] theorem sh_lT {o : Bool} {l : List (List Nat)} : (D.lst o (l.map tI)).sh = .lst false (l.map tI) := sh_lst o (fzs_tI l)
theorem wp_rngS {e : Env} {n : Nat} {K : ItR → Env → Prop} (h : n ≤ 4096) : wp (rng1 [nI n] e) K = K ⟨[], (List.range n).map nI⟩ e := wp_rng1 (Nat.le_trans h (by decide))
structure Small (k : Nat) : Prop where
  le : k ≤ 16777216
theorem Small.of {k : Nat} (h : k ≤ 8192) : Small k := ⟨by omega⟩
theorem Small.rng {n : Nat} (h : n ≤ 12) : Small (List.range n).length := ⟨by rw [List.length_range]; omega⟩
theorem wp_lc {γ : Type} {vs : List Nat} {i : M ItR} {t : Tg} {c : M Bool} {f : M D} {e : Env} {K : D → Env → Prop} (g : γ → D) (P : γ → Bool) (F : γ → D) (l : List γ) (hl : Small l.length)
    (hi : wp (i e) fun r e1 => r.its = l.map g ∧ (∀ x ∈ l, LcAt vs t c f (wipeE e1 vs) g P F x) ∧ K (.lst true ((l.filter P).map F)) (wipeE e1 vs)) : wp (fLc vs i t c f e) K := wp_fLc g P F l hi hl.le
theorem wp_dct {γ : Type} {vs : List Nat} {i : M ItR} {t : Tg} {c : M Bool} {fk fv : M D} {e : Env} {K : D → Env → Prop} (g : γ → D) (P : γ → Bool) (h : γ → List Nat) (l : List γ) (hl : Small l.length)
    (hi : wp (i e) fun r e1 => r.its = l.map g ∧ (∀ x ∈ l, DcAt keyT vs t c fk fv (wipeE e1 vs) g P (fun x => kT (h x)) (fun _ => tru) x) ∧ K (dT true (insKs h (l.filter P) [])) (wipeE e1 vs)) : wp (fDct vs i t c fk fv e) K :=
  wp_fDct g P (fun x => kT (h x)) (fun _ => tru) l (wp_mono hi fun r e1 ⟨a, b, c⟩ => ⟨a, b, by rw [hdT_fold (h := h)]; exact c⟩) hl.le
theorem wp_dc {γ : Type} {vs : List Nat} {i : M ItR} {t : Tg} {c : M Bool} {fk fv : M D} {e : Env} {K : D → Env → Prop} (g : γ → D) (P : γ → Bool) (h : γ → Nat) (l : List γ) (hl : Small l.length)
    (hi : wp (i e) fun r e1 => r.its = l.map g ∧ (∀ x ∈ l, DcAt (fun d => (keyK d).map fun k => [k]) vs t c fk fv (wipeE e1 vs) g P (fun x => [kN (h x)]) (fun _ => tru) x) ∧ K (dN true (insKs h (l.filter P) [])) (wipeE e1 vs)) : wp (fDc vs i t c fk fv e) K :=
  wp_fDc g P (fun x => kN (h x)) (fun _ => tru) l (wp_mono hi fun r e1 ⟨a, b, c⟩ => ⟨a, b, by rw [hdK_fold (h := h)]; exact c⟩) hl.le
theorem wp_lc2 {γ δ : Type} {vs vs1 : List Nat} {i i1 : M ItR} {t t1 : Tg} {c c1 : M Bool} {f : M D} {e : Env} {K : D → Env → Prop} (g : γ → D) (P : γ → Bool) (g1 : δ → D) (l1 : γ → List δ) (P1 : γ → δ → Bool) (F : γ → δ → D) (l : List γ) (m : Nat) (hl : Small (l.length * m)) (hm : ∀ x ∈ l, (l1 x).length ≤ m)
    (hi : wp (i e) fun r e1 => r.its = l.map g ∧ (∀ x ∈ l, wp (tgM t (g x) (wipeE e1 vs)) fun _ e2 => wp (c e2) fun y e3 => y = P x ∧ (P x = false → wipeE e3 vs = wipeE e1 vs) ∧
      (P x = true → wp (i1 e3) fun r1 e4 => r1.its = (l1 x).map g1 ∧ (∀ z ∈ l1 x, LcAt vs1 t1 c1 f (wipeE e4 vs1) g1 (P1 x) (F x) z) ∧ wipeE (wipeE e4 vs1) vs = wipeE e1 vs)) ∧
      K (.lst true ((l.filter P).flatMap fun x => ((l1 x).filter (P1 x)).map (F x))) (wipeE e1 vs)) : wp (fLc2 vs vs1 i t c i1 t1 c1 f e) K := wp_fLc2 g P g1 l1 P1 F l hi m hm hl.le
end Bp

/-! pairs of numbers; lists that grow -/
namespace Bp
open PySem PySem.Spec PyProof.Rows L2
def q2 (p : Nat × Nat) : List Nat := [p.1, p.2]
def pI (p : Nat × Nat) : D := .tup [nI p.1, nI p.2]
theorem pI_q2 (p : Nat × Nat) : pI p = tI (q2 p) := rfl
theorem map_pI (l : List (Nat × Nat)) : l.map pI = (l.map q2).map tI := by rw [List.map_map]; rfl
theorem q2_inj {a b : Nat × Nat} (h : q2 a = q2 b) : a = b := by
  unfold q2 at h
  simp at h
  exact Prod.ext h.1 h.2
@[simp] theorem fz_pI (p : Nat × Nat) : (pI p).fz = true := fz_tI (q2 p)
@[simp] theorem sh_pI (p : Nat × Nat) : (pI p).sh = pI p := sh_tI (q2 p)
@[simp] theorem fzs_pI (l : List (Nat × Nat)) : fzs (l.map pI) = true := by rw [map_pI]; exact fzs_tI _
@[simp] theorem okP_lP (o : Bool) (l : List (Nat × Nat)) : okP (.lst o (l.map pI)) = true := by rw [map_pI]; exact okP_lst_tI o _
@[simp] theorem seqO_lP {o : Bool} {l : List (Nat × Nat)} : seqO (.lst o (l.map pI)) = some (l.map pI) := if_pos (fzs_pI l)
@[simp] theorem sh_lP {o : Bool} {l : List (Nat × Nat)} : (D.lst o (l.map pI)).sh = .lst false (l.map pI) := sh_lst o (fzs_pI l)
theorem map_q2_inj {a b : List (Nat × Nat)} : a.map q2 = b.map q2 ↔ a = b := List.map_inj_right fun _ _ => q2_inj
@[simp] theorem eqD_lP (o o' : Bool) (a b : List (Nat × Nat)) : eqD (.lst o (a.map pI)) (.lst o' (b.map pI)) = decide (a = b) := by
  rw [map_pI, map_pI, eqD_lst_tI]
  exact decide_eq_decide.mpr map_q2_inj
theorem sortedL_pI {o : Bool} {l m : List (Nat × Nat)} (h : l.length ≤ 16777216) (p : l.Perm m) (hs : m.Pairwise ltP) : sortedD (.lst o (l.map pI)) = some (.lst true (m.map pI)) := by
  rw [map_pI, sortedL_tI (by rw [List.length_map]; exact h), map_pI]
  congr 2
  congr 1
  refine lo_leT.uniq (p.map q2) (List.pairwise_map.mpr (hs.imp fun {a b} h => ?_))
  unfold q2
  rw [leT_pair]
  refine decide_eq_true ?_
  rcases h with h | h
  · exact .inl h
  · exact .inr ⟨h.1, Nat.le_of_lt h.2⟩
@[simp] theorem mok_app {xs : List D} : Mth.ok .append (.lst true xs) = true := rfl
@[simp] theorem mok_ext {xs : List D} : Mth.ok .extend (.lst true xs) = true := rfl
@[simp] theorem mok_popAt {xs : List D} : Mth.ok .popAt (.lst true xs) = true := rfl
@[simp] theorem mok_upd {ks : List Key} {xs : List D} : Mth.ok .update (.dk true ks xs) = true := rfl
theorem mO_app {xs : List D} {y : D} (h : Small (xs.length + 1)) : Mth.mO .append (.lst true xs) [y] = some (.lst true (xs ++ [y]), .non) := by
  have := h.le
  exact if_pos (decide_eq_true (by omega))
theorem mO_ext {xs ys : List D} {o : Bool} (hf : fzs ys = true) (h : Small (xs.length + ys.length)) : Mth.mO .extend (.lst true xs) [.lst o ys] = some (.lst true (xs ++ ys), .non) := by
  have := h.le
  exact if_pos (by rw [hf, Bool.true_and]; exact decide_eq_true this)
theorem mO_pop0 {x : D} {xs : List D} : Mth.mO .popAt (.lst true (x :: xs)) [.int 0] = some (.lst true xs, x) := by
  have : ixN (x :: xs).length 0 = some 0 := by
    unfold ixN
    rw [if_pos (by omega), if_pos (by rw [List.length_cons]; omega)]
    rfl
  have r : rngOk 0 = true := by decide
  simp only [Mth.mO, mPopAt, r, if_true, this, List.getElem?_cons_zero, List.eraseIdx_cons_zero]
theorem flat_len {α β : Type} {f : α → List β} {m : Nat} : ∀ {l : List α}, (∀ x ∈ l, (f x).length ≤ m) → (l.flatMap f).length ≤ l.length * m
  | [], _ => by simp
  | x :: l, h => by
    rw [List.flatMap_cons, List.length_append, List.length_cons, Nat.succ_mul]
    have := h x List.mem_cons_self
    have := flat_len (f := f) (m := m) (l := l) fun y hy => h y (List.mem_cons_of_mem _ hy)
    omega
/-- a list that grows as a loop goes -/
theorem wp_growFor {γ : Type} {t : Tg} {b : M Ct} (g : γ → D) (ys : γ → List D) (I : List D → Env → Prop) {K : Ct → Env → Prop} (l : List γ) (acc : List D) (m : Nat) (hm : ∀ x ∈ l, (ys x).length ≤ m) (hS : Small (acc.length + l.length * m + m)) {e : Env}
    (h : ∀ x acc e, x ∈ l → Small (acc.length + m) → I acc e → wp (tgM t (g x) e) fun _ e1 => wp (b e1) fun c e2 => match c with
      | .nx => I (acc ++ ys x) e2
      | .ct => I (acc ++ ys x) e2
      | .bk => K .nx e2
      | .rt d => K (.rt d) e2)
    (h0 : I acc e) (hn : ∀ e, I (acc ++ l.flatMap ys) e → K .nx e) : wp (forM t b (l.map g) e) K := by
  refine wp_for g (fun p e => I (acc ++ p.flatMap ys) e) l (fun p x s e hp hi => ?_) (by simpa using h0) hn
  have hx : x ∈ l := by rw [hp]; simp
  have h1 := flat_len (f := ys) (m := m) (l := p) fun y hy => hm y (by rw [hp]; simp [hy])
  have h2 := hm x hx
  have h3 : p.length ≤ l.length := by rw [hp, List.length_append]; omega
  have h4 : p.length * m ≤ l.length * m := Nat.mul_le_mul_right m h3
  have := hS.le
  refine wp_mono (h x (acc ++ p.flatMap ys) e hx ⟨by rw [List.length_append]; omega⟩ hi) fun _ e1 h5 => wp_mono h5 fun c e2 h6 => ?_
  have q : acc ++ (p ++ [x]).flatMap ys = acc ++ p.flatMap ys ++ ys x := by simp
  cases c with
  | nx => rw [q]; exact h6
  | ct => rw [q]; exact h6
  | bk => exact h6
  | rt d => exact h6
theorem map_flatMap' {α β γ : Type} {f : β → γ} {g : α → List β} {l : List α} : (l.flatMap g).map f = l.flatMap fun x => (g x).map f := List.map_flatMap
theorem flat_if {α β : Type} {p : α → Bool} {f : α → β} : ∀ {l : List α}, (l.flatMap fun x => if p x = true then [f x] else []) = (l.filter p).map f
  | [] => rfl
  | x :: l => by
    rw [List.flatMap_cons, flat_if (l := l)]
    by_cases h : p x = true
    · rw [if_pos h, List.filter_cons_of_pos h]; rfl
    · rw [if_neg h, List.filter_cons_of_neg h]; rfl
end Bp

/-! whole numbers; the hand that draws -/
namespace Bp
open PySem PySem.Spec PyProof.Rows L2
@[simp] theorem mul_i {i j : Int} : mulD (.int i) (.int j) = if mulOk i j = true then some (.int (i * j)) else none := rfl
@[simp] theorem mod_i {i j : Int} : sem2 .mod (.int i) (.int j) = if j ≠ 0 then some (.int (i.fmod j)) else none := rfl
@[simp] theorem fdiv_i {i j : Int} : sem2 .fdiv (.int i) (.int j) = if (decide (j ≠ 0) && decide (j.natAbs < 1073741824)) = true then some (.int (i.fdiv j)) else none := rfl
theorem pow1018 : sem2 .pow (.int 10) (.int 18) = some (.int 1000000000000000000) := by rfl
@[simp] theorem eq_i {i j : Int} : sem2 .eq (.int i) (.int j) = some (.bl (decide (i = j))) := by
  rw [s_eq, okP_int, okP_int, eqD_int]; rfl
@[simp] theorem intD_i {i : Int} : intD (.int i) = some (.int i) := rfl
@[simp] theorem absD_i {i : Int} : absD (.int i) = some (.int (if i < 0 then -i else i)) := rfl
structure Hd where
  cs : List Int
  a : Int
  ha : 0 ≤ a
  b : Int
  c : Int
  d : Int
def hd (h : Hd) : D := .lst true [.lst false (h.cs.map D.int), .int h.a, .int h.b, .int h.c, .int h.d]
@[simp] theorem hd0 {h : Hd} : subD (hd h) (.int 0) = some (.lst false (h.cs.map D.int)) := rfl
@[simp] theorem hd1 {h : Hd} : subD (hd h) (.int 1) = some (.int h.a) := rfl
@[simp] theorem hd2 {h : Hd} : subD (hd h) (.int 2) = some (.int h.b) := rfl
@[simp] theorem hd3 {h : Hd} : subD (hd h) (.int 3) = some (.int h.c) := rfl
@[simp] theorem hd4 {h : Hd} : subD (hd h) (.int 4) = some (.int h.d) := rfl
theorem st1 {h : Hd} {x : Int} (hx : 0 ≤ x) : setS (hd h) (.int 1) (.int x) = some (hd { h with a := x, ha := hx }) := rfl
@[simp] theorem st2 {h : Hd} {x : Int} : setS (hd h) (.int 2) (.int x) = some (hd { h with b := x }) := rfl
@[simp] theorem st3 {h : Hd} {x : Int} : setS (hd h) (.int 3) (.int x) = some (hd { h with c := x }) := rfl
@[simp] theorem st4 {h : Hd} {x : Int} : setS (hd h) (.int 4) (.int x) = some (hd { h with d := x }) := rfl
theorem hd_cell {cs : List Int} {a : Int} (h1 : 0 ≤ a) (h2 : a < (cs.length : Int)) : ∃ c, subD (.lst false (cs.map D.int)) (.int a) = some (.int c) := by
  obtain ⟨n, rfl⟩ := Int.eq_ofNat_of_zero_le h1
  have hn : n < cs.length := by omega
  exact ⟨cs[n], by
    show atI (cs.map D.int) (n : Int) = _
    rw [atI_nat (by rw [List.length_map]; exact hn), List.getElem_map]⟩
theorem mulOk_r {i j : Int} (h1 : -two64 < j) (h2 : j < two64) : mulOk i j = true := by unfold mulOk; simp [h1, h2]
theorem mulOk_l {i j : Int} (h1 : -two64 < i) (h2 : i < two64) : mulOk i j = true := by unfold mulOk; simp [h1, h2]
theorem fmod_lt (i : Int) {j : Int} (h : 0 < j) : 0 ≤ i.fmod j ∧ i.fmod j < j := ⟨Int.fmod_nonneg_of_pos i h, Int.fmod_lt_of_pos i h⟩
theorem mulOk_m {i j k : Int} (h : 0 < j) (h2 : j < two64) : mulOk (i.fmod j) k = true := by
  obtain ⟨a, b⟩ := fmod_lt i h
  have : (0 : Int) < two64 := by decide
  exact mulOk_l (by omega) (by omega)
end Bp
namespace Bp
open PySem PySem.Spec PyProof.Rows L2
theorem wp_body {As : List Nat} {n m : Nat} {f : M Ct} {ds : List D} {K : D → Env → Prop} (h : wp (f (ds.map some ++ List.replicate m none)) fun c e' => match c with
    | .nx => K .non (wipeE (e'.take n) As)
    | .rt x => K x (wipeE (e'.take n) As)
    | _ => False) : wp (evBody As n m f ds) K := by
  obtain ⟨c, e', h1, h2⟩ := wp_ex h
  unfold evBody
  rw [h1]
  cases c with
  | nx => with_unfolding_all exact h2
  | rt x => with_unfolding_all exact h2
  | _ => exact h2.elim
end Bp
namespace Bp
open PySem PySem.Spec PyProof.Rows L2
@[simp] theorem fSliH_eq {T : Tb} {a l : Ag} : fSliH T a l = fB T sliH [a, l] := rfl
@[simp] theorem fSliL_eq {T : Tb} {a l : Ag} : fSliL T a l = fB T sliL [a, l] := rfl
@[simp] theorem fSli0_eq {T : Tb} {a : Ag} : fSli0 T a = fB T sli0 [a] := rfl
theorem sliH_scr {ns : List Int} {j : Int} : ∃ ms : List Int, ms.length ≤ ns.length ∧ sliH [.scr (ns.map D.int), .int j] = some (.lst true (ms.map D.int)) := by
  refine ⟨(ns.drop (HT.sIx ns.length 0 none)).take (HT.sIx ns.length ns.length (some j) - HT.sIx ns.length 0 none), ?_, ?_⟩
  · rw [List.length_take, List.length_drop]; omega
  · show (if fzs (ns.map D.int) = true then some (D.lst true (cutD _ _ _)) else none) = _
    rw [if_pos (fzs_int ns)]
    unfold cutD
    rw [List.length_map, List.map_take, List.map_drop]
@[simp] theorem seqO_lI {o : Bool} {l : List Int} : seqO (.lst o (l.map D.int)) = some (l.map D.int) := if_pos (fzs_int l)
@[simp] theorem sh_lI {o : Bool} {l : List Int} : (D.lst o (l.map D.int)).sh = .lst false (l.map D.int) := sh_lst o (fzs_int l)
@[simp] theorem fz_lI {l : List Int} : (D.lst false (l.map D.int)).fz = true := by simp [D.fz]
end Bp
namespace Bp
open PySem PySem.Spec PyProof.Rows L2
theorem fzs_mem {xs : List D} (h : fzs xs = true) {x : D} (hx : x ∈ xs) : x.fz = true := by
  induction xs with
  | nil => cases hx
  | cons y xs ih =>
    rw [fzs_c, Bool.and_eq_true] at h
    rcases List.mem_cons.mp hx with rfl | hx
    · exact h.1
    · exact ih h.2 hx
theorem add_t1 {l : List Nat} {x : Nat} (h : l.length + 1 ≤ 8192) : addD (tI l) (.tup [nI x]) = some (tI (l ++ [x])) := add_tI (b := [x]) (by simp only [List.length_cons, List.length_nil]; omega)
theorem add_lst {o o' : Bool} {xs ys : List D} (h1 : fzs xs = true) (h2 : fzs ys = true) (h : xs.length + ys.length ≤ 8192) : addD (.lst o xs) (.lst o' ys) = some (.lst true (xs ++ ys)) := by
  show (if (fzs xs && fzs ys && decide (xs.length + ys.length ≤ sizeLine)) = true then _ else _) = _
  rw [h1, h2, if_pos]
  simp only [Bool.true_and, decide_eq_true_eq, sizeLine_eq]
  omega
end Bp

/-! lists of dicts of flags -/
namespace Bp
open PySem PySem.Spec PyProof.Rows L2
def lU (o : Bool) (U : List (List Nat)) : D := .lst o (U.map (dN o))
theorem fz_dN (ks : List Nat) : (dN false ks).fz = true := by unfold dN D.fz; rw [fzs_tru]; rfl
theorem sh_dN (o : Bool) (ks : List Nat) : (dN o ks).sh = dN false ks := by
  unfold dN D.sh
  rw [shs_fz _ (fzs_tru ks)]
theorem fzs_dN (U : List (List Nat)) : fzs (U.map (dN false)) = true := fzs_all fun d hd => by
  obtain ⟨k, _, rfl⟩ := List.mem_map.mp hd
  exact fz_dN k
theorem shs_map {γ : Type} (f : γ → D) : ∀ l : List γ, shs (l.map f) = l.map fun x => (f x).sh
  | [] => by rw [List.map_nil, shs]; rfl
  | x :: l => by rw [List.map_cons, shs, shs_map f l]; rfl
theorem sh_lU (o : Bool) (U : List (List Nat)) : (lU o U).sh = lU false U := by
  unfold lU D.sh
  rw [shs_map]
  congr 1
  exact List.map_congr_left fun k _ => sh_dN o k
theorem fz_lU (U : List (List Nat)) : (lU false U).fz = true := by unfold lU D.fz; rw [fzs_dN]; rfl
theorem seqO_lU (U : List (List Nat)) : seqO (lU false U) = some (U.map (dN false)) := if_pos (fzs_dN U)
theorem sub_lU {o : Bool} {U : List (List Nat)} {i : Nat} (h : i < U.length) : subD (lU o U) (nI i) = some (dN o (U.getD i [])) := by
  show atI (U.map (dN o)) (i : Int) = _
  rw [atI_nat (by rw [List.length_map]; exact h), List.getElem_map, List.getD_eq_getElem?_getD, List.getElem?_eq_getElem h]
  rfl
theorem ixN_nat {n i : Nat} (h : i < n) : ixN n (i : Int) = some i := by
  unfold ixN
  rw [if_pos (Int.natCast_nonneg i), if_pos (by omega), Int.toNat_natCast]
theorem subU_lU {U : List (List Nat)} {i : Nat} {r : List Nat} (h : i < U.length) : subU (lU true U) (nI i) (dN true r) = some (lU true (U.set i r)) := by
  show (setN (U.map (dN true)) (nI i) (dN true r)).map (D.lst true) = _
  unfold setN
  show (match ixN (U.map (dN true)).length (i : Int) with | some n => some ((U.map (dN true)).set n (dN true r)) | none => none).map (D.lst true) = _
  rw [ixN_nat (by rw [List.length_map]; exact h)]
  unfold lU
  rw [List.map_set]
  rfl
theorem upd_ins (a b : List Nat) : upd a b = insKs (fun x => x) b a := rfl
theorem mrgD_const {α κ : Type} [DecidableEq α] [DecidableEq κ] {f : α → κ} (hf : ∀ a b, f a = f b → a = b) {v : D} : ∀ (b a : List α), mrgD (a.map f, a.map fun _ => v) (b.map f) (b.map fun _ => v) = ((insKs (fun x => x) b a).map f, (insKs (fun x => x) b a).map fun _ => v)
  | [], a => by rw [List.map_nil, List.map_nil, mrgD]; rfl; intro a b c d h; cases h
  | x :: b, a => by rw [List.map_cons, List.map_cons, mrgD, putD_const hf, mrgD_const hf b]; rfl
theorem all_bl {α : Type} (ks : List α) : (ks.map fun _ => tru).all isBl = true := by
  rw [List.all_eq_true]
  intro x hx
  obtain ⟨_, _, rfl⟩ := List.mem_map.mp hx
  rfl
theorem mR_upd {o : Bool} {a b : List Nat} (h : Small (a.length + b.length)) : Mth.mR .update (dN true a) [dN o b] = some (dN true (upd a b), .non) := by
  have hs := h.le
  show mUpd (dN true a) [dN o b] = _
  unfold mUpd dN
  dsimp only
  rw [all_bl, all_bl, List.length_map, List.length_map, mrgD_const (fun _ _ => kN_inj')]
  rw [if_pos (by simp; omega)]
  rfl
theorem mok_dN {a : List Nat} : Mth.ok .update (dN true a) = true := rfl
theorem getP_lU {T : Tb} {e : Env} {i j : Nat} {U : List (List Nat)} {x : Nat} (h1 : (e[i]?).join = some (lU true U)) (h2 : (e[j]?).join = some (nI x)) (h : x < U.length) : getP T (.s (.v i) (.v j)) e = some (dN true (U.getD x [])) := by
  rw [getP_s, getP_v, getP_v, h1, h2]
  exact sub_lU h
theorem updP_lU {T : Tb} {e : Env} {i j : Nat} {U : List (List Nat)} {x : Nat} {r : List Nat} (h1 : (e[i]?).join = some (lU true U)) (h2 : (e[j]?).join = some (nI x)) (h : x < U.length) : updP T (.s (.v i) (.v j)) (dN true r) e = some (e.set i (some (lU true (U.set x r)))) := by
  rw [updP, getP_v, getP_v, h1, h2]
  dsimp only
  rw [subU_lU h]
  dsimp only
  rw [updP_v, h1]
  rfl
theorem wp_updU {T : Tb} {e : Env} {i j l : Nat} {U : List (List Nat)} {high low : Nat} {K : D → Env → Prop} (h1 : (e[i]?).join = some (lU true U)) (h2 : (e[j]?).join = some (nI high)) (h3 : (e[l]?).join = some (nI low)) (hh : high < U.length) (hl : low < U.length) (hs : Small ((U.getD high []).length + (U.getD low []).length))
    (h : K .non (e.set i (some (lU true (ins1 U low high))))) : wp (fMthC T .update (.s (.v i) (.v j)) [.s (.v i) (.v l)] e) K := by
  have e1 : getPs T [.s (.v i) (.v l)] e = some [dN true (U.getD low [])] := by
    simp only [getPs, getP_lU h1 h3 hl]
  rw [wp_mthC, getP_lU h1 h2 hh, onO_some, e1, onO_some, if_pos mok_dN, mR_upd hs, onO_some, updP_lU h1 h2 hh, onO_some]
  exact h
@[simp] theorem sh_int (i : Int) : (D.int i).sh = .int i := rfl
@[simp] theorem sh_bl (i : Bool) : (D.bl i).sh = .bl i := rfl
@[simp] theorem sh_non : D.non.sh = .non := rfl
@[simp] theorem sh_str (i : Str) : (D.str i).sh = .str i := rfl
theorem wp_rng0 {e : Env} {K : ItR → Env → Prop} : wp (rng1 [.int 0] e) K = K ⟨[], []⟩ e := by
  have := wp_rngS (e := e) (n := 0) (K := K) (by decide)
  exact this
@[simp] theorem wp_forNil {t : Tg} {b : M Ct} {e : Env} {K : Ct → Env → Prop} : wp (forM t b [] e) K = K .nx e := by
  rw [forM]
  exact wp_nx
@[simp] theorem fz_lP {l : List (Nat × Nat)} : (D.lst false (l.map pI)).fz = true := by simp [D.fz]
end Bp

/-! how many different ones; small spaces by looking -/
namespace Bp
open PySem PySem.Spec PyProof.Rows L2
def dd {α : Type} [DecidableEq α] : List α → List α
  | [] => []
  | x :: xs => if x ∈ xs then dd xs else x :: dd xs
theorem mem_dd {α : Type} [DecidableEq α] {y : α} : ∀ {l : List α}, y ∈ dd l ↔ y ∈ l
  | [] => Iff.rfl
  | x :: l => by
    unfold dd
    split
    · rename_i h
      rw [mem_dd (l := l), List.mem_cons]
      exact ⟨.inr, fun q => q.elim (fun e => e ▸ h) id⟩
    · rw [List.mem_cons, List.mem_cons, mem_dd (l := l)]
theorem nodup_dd {α : Type} [DecidableEq α] : ∀ l : List α, (dd l).Nodup
  | [] => List.nodup_nil
  | x :: l => by
    unfold dd
    split
    · exact nodup_dd l
    · rename_i h
      exact List.nodup_cons.mpr ⟨fun q => h (mem_dd.mp q), nodup_dd l⟩
theorem dcnt_dd : ∀ l : List (List Int), dcnt l = (dd l).length
  | [] => rfl
  | x :: l => by
    unfold dcnt dd
    by_cases h : x ∈ l
    · rw [if_pos h, if_pos (by simpa using h), dcnt_dd l]
    · rw [if_neg h, if_neg (by simpa using h), dcnt_dd l, List.length_cons]
def cntD (L : List (List Nat)) : Nat := (insKs (fun x => x) L []).length
theorem dcnt_cnt (L : List (List Nat)) : dcnt (L.map cI) = cntD L := by
  have n1 : (insKs (fun x => x) L []).Nodup := nodup_insKs List.nodup_nil
  have m1 : ∀ x, x ∈ insKs (fun x => x) L [] ↔ x ∈ L := fun x => by rw [mem_insKs]; simp
  have n2 : ((insKs (fun x => x) L []).map cI).Nodup := List.pairwise_map.mpr (n1.imp fun {a b} h e => h (cI_inj e))
  have m2 : ∀ y, y ∈ (insKs (fun x => x) L []).map cI ↔ y ∈ dd (L.map cI) := fun y => by
    rw [mem_dd, List.mem_map, List.mem_map]
    exact ⟨fun ⟨x, h, e⟩ => ⟨x, (m1 x).mp h, e⟩, fun ⟨x, h, e⟩ => ⟨x, (m1 x).mpr h, e⟩⟩
  have a := nodup_len_le n2 fun y h => (m2 y).mp h
  have b := nodup_len_le (nodup_dd (L.map cI)) fun y h => (m2 y).mpr h
  rw [List.length_map] at a b
  rw [dcnt_dd]
  exact Nat.le_antisymm b a
theorem intsOf_tI : ∀ l : List Nat, intsOf (l.map nI) = some (cI l)
  | [] => rfl
  | x :: l => by rw [List.map_cons, intsOf, intsOf_tI l]; rfl
theorem tupsI_tI : ∀ L : List (List Nat), tupsI (L.map tI) = some (L.map cI)
  | [] => rfl
  | x :: L => by
    rw [List.map_cons]
    show tupsI (.tup (x.map nI) :: L.map tI) = _
    simp only [tupsI, intsOf_tI, tupsI_tI L, List.map_cons]
theorem lset_tII {L : List (List Nat)} (h : L.length < 64) : lsetS [tII L] = some (nI (cntD L)) := by
  show (match tupsI (L.map tI) with | some ks => if ks.length < 64 then some (D.int (dcnt ks)) else none | none => none) = _
  rw [tupsI_tI]
  dsimp only
  rw [if_pos (by rw [List.length_map]; exact h), dcnt_cnt]
  rfl
def spB (n : Nat) (L : List (List Nat)) : Bool := decide (L.length = n) && (List.range n).all fun y => decide (y ∈ L.getD y []) && decide (L.getD y [] = asc n fun x => decide (x ∈ L.getD y [])) && (L.getD y []).all fun x => (L.getD x []).all fun z => decide (z ∈ L.getD y [])
theorem sp_of {n : Nat} {L : List (List Nat)} (h : spB n L = true) : Sp n L := by
  unfold spB at h
  simp only [Bool.and_eq_true, decide_eq_true_eq, List.all_eq_true, List.mem_range] at h
  obtain ⟨hl, h⟩ := h
  have dom : ∀ {y x}, x ∈ L.getD y [] → y < n := fun {y x} q => by
    rw [← hl]
    rcases Nat.lt_or_ge y L.length with z | z
    · exact z
    · rw [List.getD_eq_getElem?_getD, List.getElem?_eq_none z] at q; cases q
  refine ⟨hl, fun y x q => ?_, fun y => ?_, fun x q => (h x q).1.1, fun x y z h1 h2 => (h z (dom h2)).2 y h2 x h1⟩
  · have e := (h y (dom q)).1.2
    rw [e] at q
    exact (mem_asc.mp q).1
  · rcases Nat.lt_or_ge y n with q | q
    · rw [(h y q).1.2]; exact asc_srt
    · rw [List.getD_eq_getElem?_getD, List.getElem?_eq_none (by rw [hl]; exact q)]; exact List.Pairwise.nil
@[simp] theorem eqD_bl {a b : Bool} : eqD (.bl a) (.bl b) = decide (a = b) := by
  show (a == b) = _
  cases a <;> cases b <;> rfl
theorem mem_sort {l : List (List Nat)} {x : List Nat} : x ∈ l.mergeSort leT ↔ x ∈ l := (List.mergeSort_perm l leT).mem_iff
theorem sliH_any {ns : List Int} {j : Int} {d : D} (h : d = .scr (ns.map D.int) ∨ d = .lst false (ns.map D.int)) : ∃ ms : List Int, ms.length ≤ ns.length ∧ sliH [d, .int j] = some (.lst true (ms.map D.int)) := by
  rcases h with rfl | rfl
  · exact sliH_scr
  · exact sliH_scr (ns := ns) (j := j)
theorem lset_lT {o : Bool} {L : List (List Nat)} (h : L.length < 64) : lsetS [.lst o (L.map tI)] = some (nI (cntD L)) := by
  show (match tupsI (L.map tI) with | some ks => if ks.length < 64 then some (D.int (dcnt ks)) else none | none => none) = _
  rw [tupsI_tI]
  dsimp only
  rw [if_pos (by rw [List.length_map]; exact h), dcnt_cnt]
  rfl
theorem wp_rngI {e : Env} {n : Nat} {K : ItR → Env → Prop} (h : n ≤ 4096) : wp (rng1 [.int (n : Int)] e) K = K ⟨[], (List.range n).map nI⟩ e := wp_rngS h
theorem addN_N {a b : Nat} : addD (nI a) (nI b) = some (nI (a + b)) := rfl
theorem addI_N {a : Int} {b : Nat} : addD (.int a) (nI b) = some (.int (a + b)) := rfl
theorem addN_I {a : Nat} {b : Int} : addD (nI a) (.int b) = some (.int (a + b)) := rfl
theorem subNN {a b : Nat} : sem2 .sub (nI a) (nI b) = some (.int ((a : Int) - b)) := rfl
@[simp] theorem isN_nI {a : Nat} : isD (nI a) .non = some false := rfl
@[simp] theorem isN_tI {a : List Nat} : isD (tI a) .non = some false := rfl
@[simp] theorem isN_non : isD .non .non = some true := rfl
theorem evSs_cs {G : Gv} {s : S} {ss : List S} : evSs G (s :: ss) = fSeq (evS G s) (evSs G ss) := by rw [evSs]
theorem sub_lN {o : Bool} {F : List Nat} {i : Nat} (h : i < F.length) : subD (.lst o (F.map nI)) (nI i) = some (nI (F.getD i 0)) := by
  show atI (F.map nI) (i : Int) = _
  rw [atI_nat (by rw [List.length_map]; exact h), List.getElem_map, List.getD_eq_getElem?_getD, List.getElem?_eq_getElem h]
  rfl
theorem sub_tN {F : List Nat} {i : Nat} (h : i < F.length) : subD (tI F) (nI i) = some (nI (F.getD i 0)) := sub_lN (o := false) h
theorem sub_h0 {o : Bool} {x : Nat} {l : List Nat} : subD (.lst o (nI x :: l.map nI)) (.int 0) = some (nI x) := sub_lN (i := 0) (F := x :: l) (by simp)
theorem enD_nI (f : List Nat) : enD (f.map nI) = (List.range f.length).map fun i => D.tup [nI i, nI (f.getD i 0)] := by
  unfold enD
  refine List.ext_getElem (by simp) fun i h1 h2 => ?_
  rw [List.length_mapIdx, List.length_map] at h1
  simp [List.getD_eq_getElem?_getD, h1, nI]
theorem zip_nI (a b : List Nat) : zipD (a.map nI) (b.map nI) = (a.zip b).map pI := by
  unfold zipD
  rw [List.zip_map, List.map_map]
  rfl
end Bp

/-! plain lists: hulls -/
namespace Bp
def Anti (L : List (List Nat)) : Prop := ∀ x y, bel L x y = true → bel L y x = true → x = y
theorem bel_iff {L : List (List Nat)} {x y : Nat} : bel L x y = true ↔ x ∈ L.getD y [] := by unfold bel; exact decide_eq_true_iff
theorem bel_rfl {n : Nat} {L : List (List Nat)} (s : Sp n L) {x : Nat} (h : x < n) : bel L x x = true := bel_iff.mpr (s.rfl x h)
theorem bel_trs {n : Nat} {L : List (List Nat)} (s : Sp n L) {x y z : Nat} (h1 : bel L x y = true) (h2 : bel L y z = true) : bel L x z = true := bel_iff.mpr (s.trs _ _ _ (bel_iff.mp h1) (bel_iff.mp h2))
def leastOf (L : List (List Nat)) (lot : List Nat) : Option Nat := (lot.filter fun one => lot.all fun other => bel L one other).head?
def greatOf (L : List (List Nat)) (lot : List Nat) : Option Nat := (lot.filter fun one => lot.all fun other => bel L other one).head?
theorem leastOf_some {L : List (List Nat)} {lot : List Nat} {y : Nat} (h : leastOf L lot = some y) : y ∈ lot ∧ ∀ z ∈ lot, bel L y z = true := by
  unfold leastOf at h
  have := List.mem_of_mem_head? (show y ∈ (lot.filter fun one => lot.all fun other => bel L one other).head? from h)
  rw [List.mem_filter, List.all_eq_true] at this
  exact this
theorem leastOf_of {L : List (List Nat)} (a : Anti L) {lot : List Nat} {y : Nat} (hy : y ∈ lot) (h : ∀ z ∈ lot, bel L y z = true) : leastOf L lot = some y := by
  have hm : y ∈ lot.filter fun one => lot.all fun other => bel L one other := by
    rw [List.mem_filter, List.all_eq_true]; exact ⟨hy, h⟩
  unfold leastOf
  cases q : lot.filter fun one => lot.all fun other => bel L one other with
  | nil => rw [q] at hm; cases hm
  | cons x l =>
    have hx : x ∈ lot.filter fun one => lot.all fun other => bel L one other := by rw [q]; exact List.mem_cons_self
    rw [List.mem_filter, List.all_eq_true] at hx
    rw [List.head?_cons, a x y (hx.2 y hy) (h x hx.1)]
/-- all of them there -/
def allSome : List (Option Nat) → Option (List Nat)
  | [] => some []
  | none :: _ => none
  | some x :: l => (allSome l).map fun r => x :: r
theorem allSome_iff : ∀ {l : List (Option Nat)} {r : List Nat}, allSome l = some r ↔ l = r.map some
  | [], r => by
    constructor
    · intro h; cases h; rfl
    · intro h; cases r with
      | nil => rfl
      | cons _ _ => cases h
  | none :: l, r => by
    constructor
    · intro h; cases h
    · intro h; cases r <;> cases h
  | some x :: l, r => by
    have ih := fun {r} => allSome_iff (l := l) (r := r)
    constructor
    · intro h
      unfold allSome at h
      cases q : allSome l with
      | none => rw [q] at h; cases h
      | some r' => rw [q] at h; cases h; rw [List.map_cons, ih.mp q]
    · intro h
      cases r with
      | nil => cases h
      | cons y r =>
        rw [List.map_cons] at h
        cases h
        unfold allSome
        rw [ih.mpr rfl]
        rfl
def hullAt (L : List (List Nat)) (lot : List Nat) (x : Nat) : Option Nat := leastOf L (lot.filter fun one => bel L x one)
def hullBy (n : Nat) (L : List (List Nat)) (lot : List Nat) : Option (List Nat) := allSome ((List.range n).map (hullAt L lot))
def kernBy (n : Nat) (L : List (List Nat)) (lot : List Nat) : Option (List Nat) := allSome ((List.range n).map fun x => greatOf L (lot.filter fun one => bel L one x))
/-- f is the hull that goes to lot -/
structure HullOf (n : Nat) (L : List (List Nat)) (lot f : List Nat) : Prop where
  len : f.length = n
  at_ : ∀ x, x < n → hullAt L lot x = some (f.getD x 0)
theorem hullBy_iff {n : Nat} {L : List (List Nat)} {lot f : List Nat} : hullBy n L lot = some f ↔ HullOf n L lot f := by
  unfold hullBy
  rw [allSome_iff]
  constructor
  · intro h
    have hl : f.length = n := by
      have := congrArg List.length h
      simpa using this.symm
    refine ⟨hl, fun x hx => ?_⟩
    have := congrArg (fun l => l[x]?) h
    simp only [List.getElem?_map, List.getElem?_range hx] at this
    rw [List.getD_eq_getElem?_getD, List.getElem?_eq_getElem (by omega)] at *
    simpa [List.getElem?_eq_getElem (show x < f.length by omega)] using this
  · intro h
    refine List.ext_getElem (by simp [h.len]) fun i h1 h2 => ?_
    rw [List.length_map, List.length_range] at h1
    rw [List.getElem_map, List.getElem_range, List.getElem_map, h.at_ i h1, List.getD_eq_getElem?_getD, List.getElem?_eq_getElem (by rw [h.len]; exact h1)]
    rfl
section
variable {n : Nat} {L : List (List Nat)} {lot f : List Nat}
theorem HullOf.mem (h : HullOf n L lot f) {x : Nat} (hx : x < n) : f.getD x 0 ∈ lot := (List.mem_filter.mp (leastOf_some (h.at_ x hx)).1).1
theorem HullOf.up (h : HullOf n L lot f) {x : Nat} (hx : x < n) : bel L x (f.getD x 0) = true := (List.mem_filter.mp (leastOf_some (h.at_ x hx)).1).2
theorem HullOf.le (h : HullOf n L lot f) {x z : Nat} (hx : x < n) (hz : z ∈ lot) (hb : bel L x z = true) : bel L (f.getD x 0) z = true := (leastOf_some (h.at_ x hx)).2 z (List.mem_filter.mpr ⟨hz, hb⟩)
theorem HullOf.fix (s : Sp n L) (a : Anti L) (h : HullOf n L lot f) {x : Nat} (hx : x < n) (hl : x ∈ lot) : f.getD x 0 = x := a _ _ (h.le hx hl (bel_rfl s hx)) (h.up hx)
theorem HullOf.mono (s : Sp n L) (h : HullOf n L lot f) {x y : Nat} (hy : y < n) (hb : bel L x y = true) : bel L (f.getD x 0) (f.getD y 0) = true :=
  h.le (s.rng _ _ (bel_iff.mp hb)) (h.mem hy) (bel_trs s hb (h.up hy))
theorem HullOf.twice (s : Sp n L) (a : Anti L) (hl : IsLot n lot) (h : HullOf n L lot f) {x : Nat} (hx : x < n) : f.getD (f.getD x 0) 0 = f.getD x 0 := h.fix s a (hl.2 _ (h.mem hx)) (h.mem hx)
theorem HullOf.kept (s : Sp n L) (a : Anti L) (hl : IsLot n lot) (h : HullOf n L lot f) : asc n (fun x => decide (x = f.getD x 0)) = lot := srt_ext asc_srt hl.1 fun x => by
  rw [mem_asc, decide_eq_true_eq]
  constructor
  · rintro ⟨h1, h2⟩
    rw [h2]
    exact h.mem h1
  · intro q
    exact ⟨hl.2 x q, (h.fix s a (hl.2 x q) q).symm⟩
theorem HullOf.eqs {lot' : List Nat} (s : Sp n L) (a : Anti L) (hl : IsLot n lot) (hl' : IsLot n lot') (h : HullOf n L lot f) (h' : HullOf n L lot' f) : lot = lot' := by rw [← h.kept s a hl, h'.kept s a hl']
/-- beneath just when what is kept holds what the other keeps -/
theorem HullOf.beneath {lot' f' : List Nat} (s : Sp n L) (a : Anti L) (hl : IsLot n lot) (hl' : IsLot n lot') (h : HullOf n L lot f) (h' : HullOf n L lot' f') : (∀ x, x < n → bel L (f.getD x 0) (f'.getD x 0) = true) ↔ ∀ x ∈ lot', x ∈ lot := by
  constructor
  · intro q x hx
    have hx' := hl'.2 x hx
    have e := h'.fix s a hx' hx
    have := q x hx'
    rw [e] at this
    rw [← a _ _ this (h.up hx')]
    exact h.mem hx'
  · intro q x hx
    exact h.le hx (q _ (h'.mem hx)) (h'.up hx)
theorem HullOf.behind {lot' f' : List Nat} (s : Sp n L) (a : Anti L) (hl : IsLot n lot) (h : HullOf n L lot f) (h' : HullOf n L lot' f') (q : ∀ x, x < n → bel L (f.getD x 0) (f'.getD x 0) = true) {x : Nat} (hx : x < n) : f'.getD (f.getD x 0) 0 = f'.getD x 0 :=
  have hf := hl.2 _ (h.mem hx)
  a _ _ (h'.le hf (h'.mem hx) (q x hx)) (h'.mono s hf (h.up hx))
end
def hullsF (n : Nat) (L : List (List Nat)) : List (List Nat) := (lotsU n).filterMap (hullBy n L)
def kernsF (n : Nat) (L : List (List Nat)) : List (List Nat) := (lotsU n).filterMap (kernBy n L)
theorem mem_hullsF {n : Nat} {L : List (List Nat)} {f : List Nat} : f ∈ hullsF n L ↔ ∃ lot, IsLot n lot ∧ HullOf n L lot f := by
  unfold hullsF
  rw [List.mem_filterMap]
  exact ⟨fun ⟨l, h1, h2⟩ => ⟨l, mem_lotsU.mp h1, hullBy_iff.mp h2⟩, fun ⟨l, h1, h2⟩ => ⟨l, mem_lotsU.mpr h1, hullBy_iff.mpr h2⟩⟩
theorem nodup_filterMap {α β : Type} {f : α → Option β} : ∀ {l : List α}, l.Nodup → (∀ a ∈ l, ∀ b ∈ l, ∀ y, f a = some y → f b = some y → a = b) → (l.filterMap f).Nodup
  | [], _, _ => List.nodup_nil
  | x :: l, h, g => by
    rw [List.nodup_cons] at h
    have ih := nodup_filterMap (f := f) h.2 fun a ha b hb => g a (List.mem_cons_of_mem _ ha) b (List.mem_cons_of_mem _ hb)
    cases q : f x with
    | none => rw [List.filterMap_cons_none q]; exact ih
    | some y =>
      rw [List.filterMap_cons_some q, List.nodup_cons]
      refine ⟨fun z => ?_, ih⟩
      obtain ⟨b, hb, e⟩ := List.mem_filterMap.mp z
      have := g x List.mem_cons_self b (List.mem_cons_of_mem _ hb) y q e
      subst this
      exact h.1 hb
theorem nodup_hullsF {n : Nat} {L : List (List Nat)} (s : Sp n L) (a : Anti L) : (hullsF n L).Nodup :=
  nodup_filterMap (nodup_lotsU n) fun x hx y hy f h1 h2 => (hullBy_iff.mp h1).eqs s a (mem_lotsU.mp hx) (mem_lotsU.mp hy) (hullBy_iff.mp h2)
/-! ### turned about -/
def opL (n : Nat) (L : List (List Nat)) : List (List Nat) := (List.range n).map fun x => asc n fun y => bel L x y
theorem getD_map_range {n : Nat} {f : Nat → List Nat} {y : Nat} : ((List.range n).map f).getD y [] = if y < n then f y else [] := by
  rw [List.getD_eq_getElem?_getD, List.getElem?_map]
  split
  · rename_i h; simp [h]
  · rename_i h; rw [List.getElem?_eq_none (by simpa using h)]; rfl
theorem bel_op {n : Nat} {L : List (List Nat)} (s : Sp n L) {x y : Nat} : bel (opL n L) x y = bel L y x := by
  rw [Bool.eq_iff_iff, bel_iff]
  unfold opL
  rw [getD_map_range]
  split
  · rw [mem_asc]
    exact ⟨fun h => h.2, fun h => ⟨s.dom (bel_iff.mp h), h⟩⟩
  · rename_i h
    exact ⟨fun q => (nomatch q), fun q => absurd (s.rng _ _ (bel_iff.mp q)) h⟩
theorem sp_op {n : Nat} {L : List (List Nat)} (s : Sp n L) : Sp n (opL n L) := by
  refine ⟨by simp [opL], fun y x h => s.dom (bel_iff.mp (by rw [← bel_op s]; exact bel_iff.mpr h)), fun y => ?_, fun x h => ?_, fun x y z h1 h2 => ?_⟩
  · unfold opL
    rw [getD_map_range]
    split
    · exact asc_srt
    · exact List.Pairwise.nil
  · exact bel_iff.mp (by rw [bel_op s]; exact bel_rfl s h)
  · have a := bel_iff.mpr h1
    have b := bel_iff.mpr h2
    rw [bel_op s] at a b
    exact bel_iff.mp (by rw [bel_op s]; exact bel_trs s b a)
theorem anti_op {n : Nat} {L : List (List Nat)} (s : Sp n L) (a : Anti L) : Anti (opL n L) := fun x y h1 h2 => by
  rw [bel_op s] at h1 h2
  exact a x y h2 h1
theorem hull_op {n : Nat} {L : List (List Nat)} (s : Sp n L) (lot : List Nat) : hullBy n (opL n L) lot = kernBy n L lot := by
  unfold hullBy kernBy hullAt leastOf greatOf
  simp only [bel_op s]
theorem kern_op {n : Nat} {L : List (List Nat)} (s : Sp n L) (lot : List Nat) : kernBy n (opL n L) lot = hullBy n L lot := by
  unfold hullBy kernBy hullAt leastOf greatOf
  simp only [bel_op s]
end Bp

/-! plain lists: two spaces side by side; drawn spaces of unlike lots -/
namespace Bp
def shf (n : Nat) (l : List Nat) : List Nat := l.map fun x => x + n
def sumL (n : Nat) (L M : List (List Nat)) : List (List Nat) := L ++ M.map (shf n)
theorem mem_shf {n x : Nat} {l : List Nat} : x ∈ shf n l ↔ n ≤ x ∧ x - n ∈ l := by
  unfold shf
  rw [List.mem_map]
  constructor
  · rintro ⟨y, hy, rfl⟩
    exact ⟨Nat.le_add_left _ _, by rw [Nat.add_sub_cancel]; exact hy⟩
  · rintro ⟨h1, h2⟩
    exact ⟨x - n, h2, Nat.sub_add_cancel h1⟩
section
variable {n m : Nat} {L M : List (List Nat)}
theorem getD_sum (hL : L.length = n) {y : Nat} : (sumL n L M).getD y [] = if y < n then L.getD y [] else shf n (M.getD (y - n) []) := by
  unfold sumL
  simp only [List.getD_eq_getElem?_getD, List.getElem?_append, hL]
  split
  · rfl
  · rw [List.getElem?_map]
    cases M[y - n]? <;> rfl
theorem bel_sum_lo (s : Sp n L) {x y : Nat} (hy : y < n) : bel (sumL n L M) x y = bel L x y := by
  unfold bel
  rw [getD_sum s.len, if_pos hy]
theorem bel_sum_hi (s : Sp n L) {x y : Nat} : bel (sumL n L M) x (y + n) = (decide (n ≤ x) && bel M (x - n) y) := by
  unfold bel
  rw [getD_sum s.len, if_neg (by omega), Nat.add_sub_cancel, Bool.eq_iff_iff, Bool.and_eq_true, decide_eq_true_eq, decide_eq_true_eq, decide_eq_true_eq]
  exact mem_shf
theorem bel_sum_hh (s : Sp n L) {x y : Nat} : bel (sumL n L M) (x + n) (y + n) = bel M x y := by
  rw [bel_sum_hi s, Nat.add_sub_cancel, decide_eq_true (Nat.le_add_left n x), Bool.true_and]
theorem bel_sum_lh (s : Sp n L) {x y : Nat} (hx : x < n) : bel (sumL n L M) x (y + n) = false := by
  rw [bel_sum_hi s, decide_eq_false (by omega), Bool.false_and]
theorem bel_sum_hl (s : Sp n L) {x y : Nat} (hy : y < n) : bel (sumL n L M) (x + n) y = false := by
  rw [bel_sum_lo s hy]
  refine Bool.eq_false_iff.mpr fun h => ?_
  have := s.rng _ _ (bel_iff.mp h)
  omega
theorem sp_sum (s : Sp n L) (t : Sp m M) : Sp (n + m) (sumL n L M) := by
  refine ⟨by simp [sumL, s.len, t.len], fun y x h => ?_, fun y => ?_, fun x h => ?_, fun x y z h1 h2 => ?_⟩
  · rw [getD_sum s.len] at h
    split at h
    · have := s.rng _ _ h; omega
    · obtain ⟨_, h⟩ := mem_shf.mp h
      have := t.rng _ _ h; omega
  · rw [getD_sum s.len]
    split
    · exact s.srt y
    · exact List.pairwise_map.mpr ((t.srt (y - n)).imp fun h => Nat.add_lt_add_right h n)
  · rw [getD_sum s.len]
    split
    · rename_i q; exact s.rfl x q
    · rename_i q
      exact mem_shf.mpr ⟨by omega, t.rfl (x - n) (by omega)⟩
  · rw [getD_sum s.len] at h2 ⊢
    split at h2
    · rename_i q
      rw [getD_sum s.len, if_pos (s.rng _ _ h2)] at h1
      rw [if_pos q]
      exact s.trs _ _ _ h1 h2
    · rename_i q
      obtain ⟨hy, h2⟩ := mem_shf.mp h2
      rw [getD_sum s.len, if_neg (by omega)] at h1
      obtain ⟨hx, h1⟩ := mem_shf.mp h1
      rw [if_neg q]
      exact mem_shf.mpr ⟨hx, t.trs _ _ _ h1 h2⟩
theorem anti_sum (s : Sp n L) (t : Sp m M) (a : Anti L) (b : Anti M) : Anti (sumL n L M) := fun x y h1 h2 => by
  rcases Nat.lt_or_ge x n with hx | hx
  · rcases Nat.lt_or_ge y n with hy | hy
    · rw [bel_sum_lo s hy] at h1
      rw [bel_sum_lo s hx] at h2
      exact a x y h1 h2
    · obtain ⟨z, rfl⟩ := Nat.exists_eq_add_of_le' hy
      rw [bel_sum_lh s hx] at h1; cases h1
  · obtain ⟨w, rfl⟩ := Nat.exists_eq_add_of_le' hx
    rcases Nat.lt_or_ge y n with hy | hy
    · rw [bel_sum_hl s hy] at h1; cases h1
    · obtain ⟨z, rfl⟩ := Nat.exists_eq_add_of_le' hy
      rw [bel_sum_hh s] at h1 h2
      rw [b w z h1 h2]
/-- lots of both -/
theorem lot_split {l : List Nat} (h : IsLot (n + m) l) : ∃ l1 l2, IsLot n l1 ∧ IsLot m l2 ∧ l = l1 ++ shf n l2 := by
  refine ⟨asc n fun x => decide (x ∈ l), asc m fun x => decide (x + n ∈ l), asc_isLot, asc_isLot, ?_⟩
  refine srt_ext h.1 ?_ fun x => ?_
  · rw [List.pairwise_append]
    refine ⟨asc_srt, List.pairwise_map.mpr (asc_srt.imp fun h => Nat.add_lt_add_right h n), fun a ha b hb => ?_⟩
    have := (mem_asc.mp ha).1
    have := (mem_shf.mp hb).1
    omega
  · rw [List.mem_append, mem_asc, mem_shf, mem_asc, decide_eq_true_eq, decide_eq_true_eq]
    constructor
    · intro q
      have := h.2 x q
      rcases Nat.lt_or_ge x n with hx | hx
      · exact .inl ⟨hx, q⟩
      · exact .inr ⟨hx, by omega, by rw [Nat.sub_add_cancel hx]; exact q⟩
    · rintro (⟨_, q⟩ | ⟨hx, _, q⟩)
      · exact q
      · rwa [Nat.sub_add_cancel hx] at q
theorem lot_join {l1 l2 : List Nat} (h1 : IsLot n l1) (h2 : IsLot m l2) : IsLot (n + m) (l1 ++ shf n l2) := by
  refine ⟨?_, fun x hx => ?_⟩
  · rw [List.pairwise_append]
    refine ⟨h1.1, List.pairwise_map.mpr (h2.1.imp fun h => Nat.add_lt_add_right h n), fun a ha b hb => ?_⟩
    have := h1.2 a ha
    have := (mem_shf.mp hb).1
    omega
  · rcases List.mem_append.mp hx with q | q
    · have := h1.2 x q; omega
    · obtain ⟨_, q⟩ := mem_shf.mp q
      have := h2.2 _ q; omega
theorem head_shf {l : List Nat} : (shf n l).head? = l.head?.map fun x => x + n := by cases l <;> rfl
theorem filter_shf {l : List Nat} {p : Nat → Bool} : (shf n l).filter p = shf n (l.filter fun x => p (x + n)) := by
  unfold shf
  rw [List.filter_map]
  rfl
theorem leastOf_lo (s : Sp n L) {l : List Nat} (h : ∀ x ∈ l, x < n) : leastOf (sumL n L M) l = leastOf L l := by
  unfold leastOf
  rw [List.filter_congr fun x hx => ?_]
  rw [Bool.eq_iff_iff, List.all_eq_true, List.all_eq_true]
  exact forall_congr' fun y => ⟨fun q hy => by rw [← bel_sum_lo s (h y hy)]; exact q hy, fun q hy => by rw [bel_sum_lo s (h y hy)]; exact q hy⟩
theorem leastOf_hi (s : Sp n L) {l : List Nat} : leastOf (sumL n L M) (shf n l) = (leastOf M l).map fun x => x + n := by
  unfold leastOf
  rw [filter_shf, head_shf]
  congr 2
  refine List.filter_congr fun x hx => ?_
  unfold shf
  rw [List.all_map]
  congr 1
  funext y
  exact bel_sum_hh s
theorem hullAt_lo (s : Sp n L) {l1 l2 : List Nat} (h1 : IsLot n l1) {x : Nat} (hx : x < n) : hullAt (sumL n L M) (l1 ++ shf n l2) x = hullAt L l1 x := by
  unfold hullAt
  rw [List.filter_append, filter_shf]
  have e : (l2.filter fun y => bel (sumL n L M) x (y + n)) = [] := by
    rw [List.filter_eq_nil_iff]
    intro y _
    rw [bel_sum_lh s hx]
    decide
  rw [e]
  show leastOf _ (_ ++ []) = _
  rw [List.append_nil]
  have e2 : l1.filter (fun y => bel (sumL n L M) x y) = l1.filter fun y => bel L x y := List.filter_congr fun y hy => bel_sum_lo s (h1.2 y hy)
  rw [e2]
  exact leastOf_lo s fun y hy => h1.2 y (List.mem_filter.mp hy).1
theorem hullAt_hi (s : Sp n L) {l1 l2 : List Nat} (h1 : IsLot n l1) {x : Nat} : hullAt (sumL n L M) (l1 ++ shf n l2) (x + n) = (hullAt M l2 x).map fun y => y + n := by
  unfold hullAt
  rw [List.filter_append, filter_shf]
  have e : (l1.filter fun y => bel (sumL n L M) (x + n) y) = [] := by
    rw [List.filter_eq_nil_iff]
    intro y hy
    rw [bel_sum_hl s (h1.2 y hy)]
    decide
  rw [e, List.nil_append]
  have e2 : (l2.filter fun y => bel (sumL n L M) (x + n) (y + n)) = l2.filter fun y => bel M x y := List.filter_congr fun y _ => bel_sum_hh s
  rw [e2]
  exact leastOf_hi s
theorem getD_app {f g : List Nat} {x : Nat} : (f ++ g).getD x 0 = if x < f.length then f.getD x 0 else g.getD (x - f.length) 0 := by
  simp only [List.getD_eq_getElem?_getD, List.getElem?_append]
  split <;> rfl
theorem getD_shf {g : List Nat} {x : Nat} (h : x < g.length) : (shf n g).getD x 0 = g.getD x 0 + n := by
  unfold shf
  rw [List.getD_eq_getElem?_getD, List.getElem?_map, List.getD_eq_getElem?_getD, List.getElem?_eq_getElem h]
  rfl
theorem hull_sum (s : Sp n L) (t : Sp m M) {l1 l2 f : List Nat} (h1 : IsLot n l1) : HullOf (n + m) (sumL n L M) (l1 ++ shf n l2) f ↔ ∃ f1 f2, HullOf n L l1 f1 ∧ HullOf m M l2 f2 ∧ f = f1 ++ shf n f2 := by
  constructor
  · intro h
    have lo : ∀ x, x < n → hullAt L l1 x = some (f.getD x 0) := fun x hx => by rw [← hullAt_lo (M := M) (l2 := l2) s h1 hx]; exact h.at_ x (by omega)
    have hi : ∀ x, x < m → (hullAt M l2 x).map (fun y => y + n) = some (f.getD (x + n) 0) := fun x hx => by rw [← hullAt_hi s h1]; exact h.at_ (x + n) (by omega)
    have hi2 : ∀ x, x < m → n ≤ f.getD (x + n) 0 ∧ hullAt M l2 x = some (f.getD (x + n) 0 - n) := fun x hx => by
      have q := hi x hx
      cases e : hullAt M l2 x with
      | none => rw [e] at q; cases q
      | some y =>
        rw [e] at q
        have q : y + n = f.getD (x + n) 0 := Option.some.inj q
        exact ⟨by omega, by rw [← q, Nat.add_sub_cancel]⟩
    have el : ∀ x, x < n → (f.take n).getD x 0 = f.getD x 0 := fun x hx => by
      simp only [List.getD_eq_getElem?_getD, List.getElem?_take, if_pos hx]
    have lf : (f.drop n).length = m := by rw [List.length_drop, h.len]; omega
    have eh : ∀ x, x < m → ((f.drop n).map fun y => y - n).getD x 0 = f.getD (x + n) 0 - n := fun x hx => by
      have hd : x < (f.drop n).length := by rw [lf]; exact hx
      rw [List.getD_eq_getElem?_getD, List.getElem?_map, List.getElem?_eq_getElem hd, List.getD_eq_getElem?_getD]
      have : (f.drop n)[x] = f[n + x]'(by rw [h.len]; omega) := List.getElem_drop
      rw [this, Nat.add_comm x n, List.getElem?_eq_getElem (by rw [h.len]; omega)]
      rfl
    refine ⟨f.take n, (f.drop n).map fun y => y - n, ⟨by rw [List.length_take, h.len]; omega, fun x hx => by rw [el x hx]; exact lo x hx⟩, ⟨by rw [List.length_map, lf], fun x hx => by rw [eh x hx]; exact (hi2 x hx).2⟩, ?_⟩
    have : shf n ((f.drop n).map fun y => y - n) = f.drop n := by
      unfold shf
      rw [List.map_map]
      refine List.ext_getElem (by simp) fun i p q => ?_
      rw [List.getElem_map]
      have hi3 : i < m := by rw [← lf]; exact q
      have := (hi2 i hi3).1
      have e : (f.drop n)[i] = f.getD (i + n) 0 := by
        have : (f.drop n)[i] = f[n + i]'(by rw [h.len]; omega) := List.getElem_drop
        rw [this, List.getD_eq_getElem?_getD, Nat.add_comm i n, List.getElem?_eq_getElem (by rw [h.len]; omega)]
        rfl
      rw [e]
      exact Nat.sub_add_cancel this
    rw [this, List.take_append_drop]
  · rintro ⟨f1, f2, a, b, rfl⟩
    refine ⟨by unfold shf; rw [List.length_append, List.length_map, a.len, b.len], fun x hx => ?_⟩
    rw [getD_app, a.len]
    split
    · rename_i q
      rw [hullAt_lo s h1 q, a.at_ x q]
    · rename_i q
      obtain ⟨z, rfl⟩ := Nat.exists_eq_add_of_le' (Nat.le_of_not_lt q)
      rw [Nat.add_sub_cancel, hullAt_hi s h1, b.at_ z (by omega), getD_shf (by rw [b.len]; omega)]
      rfl
theorem mem_hulls_sum (s : Sp n L) (t : Sp m M) {f : List Nat} : f ∈ hullsF (n + m) (sumL n L M) ↔ ∃ f1 ∈ hullsF n L, ∃ f2 ∈ hullsF m M, f = f1 ++ shf n f2 := by
  rw [mem_hullsF]
  constructor
  · rintro ⟨lot, hl, h⟩
    obtain ⟨l1, l2, a, b, rfl⟩ := lot_split hl
    obtain ⟨f1, f2, c, d, rfl⟩ := (hull_sum s t a).mp h
    exact ⟨f1, mem_hullsF.mpr ⟨l1, a, c⟩, f2, mem_hullsF.mpr ⟨l2, b, d⟩, rfl⟩
  · rintro ⟨f1, h1, f2, h2, rfl⟩
    obtain ⟨l1, a, c⟩ := mem_hullsF.mp h1
    obtain ⟨l2, b, d⟩ := mem_hullsF.mp h2
    exact ⟨l1 ++ shf n l2, lot_join a b, (hull_sum s t a).mpr ⟨f1, f2, c, d, rfl⟩⟩
/-- all pairs of hulls -/
def pairsH (n : Nat) (A B : List (List Nat)) : List (List Nat) := A.flatMap fun f1 => B.map fun f2 => f1 ++ shf n f2
theorem shf_inj {a b : List Nat} (h : shf n a = shf n b) : a = b := List.map_inj_right (f := fun x => x + n) (fun _ _ q => Nat.add_right_cancel q) |>.mp h
theorem pairsH_perm (s : Sp n L) (t : Sp m M) (a : Anti L) (b : Anti M) {A B : List (List Nat)} (pA : A.Perm (hullsF n L)) (pB : B.Perm (hullsF m M)) : (hullsF (n + m) (sumL n L M)).Perm (pairsH n A B) := by
  have lenA : ∀ f ∈ A, f.length = n := fun f hf => by
    obtain ⟨_, _, h⟩ := mem_hullsF.mp (pA.mem_iff.mp hf)
    exact h.len
  have nA := pA.nodup_iff.mpr (nodup_hullsF s a)
  have nB := pB.nodup_iff.mpr (nodup_hullsF t b)
  refine perm_of (nodup_hullsF (sp_sum s t) (anti_sum s t a b)) ?_ fun f => ?_
  · unfold pairsH
    refine List.pairwise_flatMap.mpr ⟨fun f1 _ => List.pairwise_map.mpr (nB.imp fun {x y} h e => h (shf_inj (List.append_cancel_left e))), ?_⟩
    refine List.Pairwise.imp_of_mem (fun {x y} hx hy h u hu v hv e => ?_) nA
    obtain ⟨p, _, rfl⟩ := List.mem_map.mp hu
    obtain ⟨q, _, rfl⟩ := List.mem_map.mp hv
    exact h (List.append_inj_left e (by rw [lenA x hx, lenA y hy]))
  · rw [mem_hulls_sum s t]
    unfold pairsH
    simp only [List.mem_flatMap, List.mem_map]
    constructor
    · rintro ⟨f1, h1, f2, h2, rfl⟩
      exact ⟨f1, pA.mem_iff.mpr h1, f2, pB.mem_iff.mpr h2, rfl⟩
    · rintro ⟨f1, h1, f2, h2, rfl⟩
      exact ⟨f1, pA.mem_iff.mp h1, f2, pB.mem_iff.mp h2, rfl⟩
theorem pairsH_len {A B : List (List Nat)} : (pairsH n A B).length = A.length * B.length := by
  unfold pairsH
  induction A with
  | nil => simp
  | cons x A ih => rw [List.flatMap_cons, List.length_append, List.length_map, ih, List.length_cons, Nat.succ_mul]; omega
end
/-! ### unlike lots -/
theorem anti_nodup {n : Nat} {L : List (List Nat)} (s : Sp n L) (a : Anti L) : L.Nodup := by
  rw [List.nodup_iff_pairwise_ne, List.pairwise_iff_getElem]
  intro i j hi hj hij e
  have e' : L.getD i [] = L.getD j [] := by
    rw [List.getD_eq_getElem?_getD, List.getD_eq_getElem?_getD, List.getElem?_eq_getElem hi, List.getElem?_eq_getElem hj, e]
  rw [s.len] at hi hj
  have := a i j (bel_iff.mpr (by rw [← e']; exact s.rfl i hi)) (bel_iff.mpr (by rw [e']; exact s.rfl j hj))
  omega
theorem insKs_nodup {α : Type} [DecidableEq α] : ∀ {l ks : List α}, (ks ++ l).Nodup → insKs (fun x => x) l ks = ks ++ l
  | [], ks, _ => by simp [insKs]
  | x :: l, ks, h => by
    have hx : x ∉ ks := fun q => (List.nodup_append.mp h).2.2 x q x List.mem_cons_self rfl
    show insKs (fun x => x) l (insK ks x) = _
    unfold insK
    rw [if_neg hx, insKs_nodup (by simpa using h)]
    simp
/-- the second loop keeps what the relation keeps -/
theorem lend_rel {n : Nat} {U0 : List (List Nat)} (o0 : Ok n U0) {P : Nat → Nat → Prop} (pr : ∀ x, P x x) (pt : ∀ x y z, P x y → P y z → P x z) (h : ∀ y x, x ∈ U0.getD y [] → P x y) {y x : Nat} (q : x ∈ (lend n U0).getD y []) : P x y := by
  obtain ⟨t, ht⟩ := (Mid.turns o0 n).1.hi y x q
  clear q
  induction t generalizing x with
  | zero => cases ht; exact pr _
  | succ t ih =>
    obtain ⟨z, h1, h2⟩ := ht
    exact pt _ _ _ (h z x h2) (ih h1)
theorem lone_rel {n : Nat} {ps : List (Nat × Nat)} {P : Nat → Nat → Prop} (pr : ∀ x, P x x) (pt : ∀ x y z, P x y → P y z → P x z) (hn : ∀ p ∈ ps, p.2 < n) (h : ∀ p ∈ ps, P p.1 p.2) : ∀ y x, x ∈ (lone n ps).getD y [] → P x y := by
  have : Ok n (lone n ps) ∧ ∀ y x, x ∈ (lone n ps).getD y [] → P x y := by
    unfold lone
    refine foldl_ok (P := fun U => Ok n U ∧ ∀ y x, x ∈ U.getD y [] → P x y) _ ⟨ok0, fun y x q => ?_⟩ fun _ _ U o => foldl_ok (P := fun U => Ok n U ∧ ∀ y x, x ∈ U.getD y [] → P x y) ps o fun p hp U o => ⟨o.1.ins (hn p hp), fun y x q => ?_⟩
    · unfold least0 at q
      rw [getD_map_range (f := fun y => [y])] at q
      split at q
      · rw [List.mem_singleton] at q; subst q; exact pr _
      · cases q
    · have hh : p.2 < U.length := by rw [o.1.len]; exact hn p hp
      rcases (mem_ins1 hh).mp q with q2 | ⟨rfl, q2⟩
      · exact o.2 _ _ q2
      · exact pt _ _ _ (o.2 _ _ q2) (h p hp)
  exact this.2
theorem least_rel {n : Nat} {ps : List (Nat × Nat)} {P : Nat → Nat → Prop} (pr : ∀ x, P x x) (pt : ∀ x y z, P x y → P y z → P x z) (hn : ∀ p ∈ ps, p.2 < n) (h : ∀ p ∈ ps, P p.1 p.2) {y x : Nat} (q : bel (lleast n ps) x y = true) : P x y :=
  lend_rel (ok_lone hn) pr pt (lone_rel pr pt hn h) ((getD_map_row (ok_lend (ok_lone hn))).mp (bel_iff.mp q))
/-- pairs along an order -/
theorem anti_told {n : Nat} {ord : List Nat} (hd : ord.Nodup) (hl : ∀ x ∈ ord, x < n) {ps : List (Nat × Nat)} (hp : ∀ p ∈ ps, p.1 < p.2 ∧ p.2 < ord.length) : Anti (lleast n (ps.map fun p => (ord.getD p.1 0, ord.getD p.2 0))) := by
  let P : Nat → Nat → Prop := fun x y => x = y ∨ ∃ i j, i < j ∧ j < ord.length ∧ ord.getD i 0 = x ∧ ord.getD j 0 = y
  have inj : ∀ {i j : Nat}, i < ord.length → j < ord.length → ord.getD i 0 = ord.getD j 0 → i = j := fun {i j} hi hj e => by
    rw [List.getD_eq_getElem?_getD, List.getD_eq_getElem?_getD, List.getElem?_eq_getElem hi, List.getElem?_eq_getElem hj] at e
    exact (List.getElem_inj hd).mp e
  have pt : ∀ x y z, P x y → P y z → P x z := fun x y z h1 h2 => by
    rcases h1 with rfl | ⟨i, j, a, b, c, d⟩
    · exact h2
    · rcases h2 with rfl | ⟨i', j', a', b', c', d'⟩
      · exact .inr ⟨i, j, a, b, c, d⟩
      · have : j = i' := inj b (by omega) (by rw [d, c'])
        exact .inr ⟨i, j', by omega, b', c, d'⟩
  have hn : ∀ p ∈ ps.map (fun p => (ord.getD p.1 0, ord.getD p.2 0)), p.2 < n := fun p hpp => by
    obtain ⟨q, hq, rfl⟩ := List.mem_map.mp hpp
    have := (hp q hq).2
    refine hl _ ?_
    show ord.getD q.2 0 ∈ ord
    rw [List.getD_eq_getElem?_getD, List.getElem?_eq_getElem this]
    exact List.getElem_mem this
  have h : ∀ p ∈ ps.map (fun p => (ord.getD p.1 0, ord.getD p.2 0)), P p.1 p.2 := fun p hpp => by
    obtain ⟨q, hq, rfl⟩ := List.mem_map.mp hpp
    exact .inr ⟨q.1, q.2, (hp q hq).1, (hp q hq).2, rfl, rfl⟩
  intro x y h1 h2
  have a := least_rel (fun x => .inl rfl) pt hn h h1
  have b := least_rel (fun x => .inl rfl) pt hn h h2
  rcases a with a | ⟨i, j, a1, a2, a3, a4⟩
  · exact a
  · rcases b with b | ⟨i', j', b1, b2, b3, b4⟩
    · exact b.symm
    · have e1 : j = i' := inj a2 (by omega) (by rw [a4, b3])
      have e2 : i = j' := inj (by omega) b2 (by rw [a3, b4])
      omega
end Bp

namespace Bp.K04
open PySem PySem.Spec PyProof.Rows L2 Bp
set_option maxHeartbeats 0
def topS (i : Nat) : Stmt := PySem.Challenge.pw_beatplaces_k45_whole_hulls_kernels_turne.main.body.getD i (.Pass ⟨0, 0, 0, 0⟩)
def clsM (s : Stmt) (j : Nat) : Stmt := match s with
  | .ClassDef (body := b) .. => b.getD j (.Pass ⟨0, 0, 0, 0⟩)
  | _ => .Pass ⟨0, 0, 0, 0⟩
/-- is_integer : 0=thing -/
def b0 : List S := [(.ret (.and (.isi .int (.pk (.v 0))) (.not (.isi .bl (.pk (.v 0))))))]
def d0 : Fd := ⟨1, 0, [], b0⟩
def x0 (a : Addr) (fd : FuncData) : Fx := ⟨"is_integer", "is_integer", (topS 1), ["thing"], ["thing"], a, fd⟩
/-- is_within : 0=thing 1=least 2=most -/
def b1 : List S := [(.ret (.and (.call 0 [(.ev (.rd (.v 0)))]) (.chn .le .le (.pk (.v 1)) (.pk (.v 0)) (.v 2))))]
def d1 : Fd := ⟨3, 0, [], b1⟩
def x1 (a : Addr) (fd : FuncData) : Fx := ⟨"is_within", "is_within", (topS 2), ["thing", "least", "most"], ["thing", "least", "most"], a, fd⟩
/-- is_tuple : 0=thing 1=least 2=most -/
def b2 : List S := [(.ret (.and (.isi .tup (.pk (.v 0))) (.chn .le .le (.pk (.v 1)) (.ev (.bf .len [(.pk (.v 0))])) (.v 2))))]
def d2 : Fd := ⟨3, 0, [], b2⟩
def x2 (a : Addr) (fd : FuncData) : Fx := ⟨"is_tuple", "is_tuple", (topS 3), ["thing", "least", "most"], ["thing", "least", "most"], a, fd⟩
/-- is_lot : 0=places 1=thing 2=one -/
def b3 : List S := [(.ife (.or (.not (.call 2 [(.ev (.rd (.v 1))), (.ev (.kc (.int 0))), (.ev (.rd (.v 0)))])) (.not (.bf .all [(.ev (.lc [2] (.c (.rd (.v 1))) (.nm 2) [] (.call 1 [(.ev (.rd (.v 2))), (.ev (.kc (.int 0))), (.ev (.op .sub (.pk (.v 0)) (.ev (.kc (.int 1)))))])))]))) [(.ret (.kc (.bl false)))] []),
   (.ret (.op .eq (.ev (.bf .lst [(.pk (.v 1))])) (.ev (.bf .sorted [(.ev (.dc [2] (.c (.rd (.v 1))) (.nm 2) [] (.rd (.v 2)) (.kc (.bl true))))]))))]
def d3 : Fd := ⟨2, 1, [], b3⟩
def x3 (a : Addr) (fd : FuncData) : Fx := ⟨"is_lot", "is_lot", (topS 15), ["places", "thing", "one"], ["places", "thing"], a, fd⟩
/-- check_lot : 0=space 1=thing -/
def b4 : List S := [(.ife (.not (.call 3 [(.ev (.rd (.f (.v 0) "places"))), (.ev (.rd (.v 1)))])) [.nv] [])]
def d4 : Fd := ⟨2, 0, [], b4⟩
def x4 (a : Addr) (fd : FuncData) : Fx := ⟨"check_lot", "check_lot", (topS 16), ["space", "thing"], ["space", "thing"], a, fd⟩
/-- space_by : 0=rows 1=row -/
def b5 : List S := [(.ret (.sh (.make 0 [(.bf .len [(.pk (.v 0))]), (.bf .tup [(.ev (.lc [1] (.c (.rd (.v 0))) (.nm 1) [] (.bf .tup [(.ev (.bf .sorted [(.pk (.v 1))]))])))])])))]
def d5 : Fd := ⟨1, 1, [], b5⟩
def x5 (a : Addr) (fd : FuncData) : Fx := ⟨"space_by", "space_by", (topS 17), ["rows", "row"], ["rows"], a, fd⟩
/-- is_below : 0=space 1=one 2=other -/
def b6 : List S := [(.ret (.op .inn (.pk (.v 1)) (.pk (.s (.f (.v 0) "least") (.v 2)))))]
def d6 : Fd := ⟨3, 0, [], b6⟩
def x6 (a : Addr) (fd : FuncData) : Fx := ⟨"is_below", "is_below", (topS 18), ["space", "one", "other"], ["space", "one", "other"], a, fd⟩
/-- above_of : 0=space 1=place 2=one -/
def b7 : List S := [(.ret (.bf .tup [(.ev (.lc [2] (.r1 (.pk (.f (.v 0) "places"))) (.nm 2) [(.op .inn (.pk (.v 1)) (.pk (.s (.f (.v 0) "least") (.v 2))))] (.rd (.v 2))))]))]
def d7 : Fd := ⟨2, 1, [], b7⟩
def x7 (a : Addr) (fd : FuncData) : Fx := ⟨"above_of", "above_of", (topS 19), ["space", "place", "one"], ["space", "place"], a, fd⟩
/-- is_told : 0=space 1=lot -/
def b8 : List S := [(.ret (.op .eq (.ev (.bf .len [(.ev (.dct [1] (.c (.rd (.f (.v 0) "least"))) (.nm 1) [] (.rd (.v 1)) (.kc (.bl true))))])) (.pk (.f (.v 0) "places"))))]
def d8 : Fd := ⟨1, 1, [], b8⟩
def x8 (a : Addr) (fd : FuncData) : Fx := ⟨"is_told", "is_told", (topS 20), ["space", "lot"], ["space"], a, fd⟩
/-- check_size : 0=many -/
def b9 : List S := [(.ife (.op .gt (.pk (.v 0)) (.ev (.gl 0))) [.nv] [])]
def d9 : Fd := ⟨1, 0, [], b9⟩
def x9 (a : Addr) (fd : FuncData) : Fx := ⟨"check_size", "check_size", (topS 22), ["many"], ["many"], a, fd⟩
/-- sum_by : 0=one 1=other 2=rows 3=row 4=place -/
def b10 : List S := [(.set 2 (.sh (.lc [3] (.c (.rd (.f (.v 0) "least"))) (.nm 3) [] (.bf .lst [(.pk (.v 3))])))),
   (.ret (.call 5 [(.ev (.sh (.op .add (.pk (.v 2)) (.ev (.lc [3] (.c (.rd (.f (.v 1) "least"))) (.nm 3) [] (.sh (.lc [4] (.c (.rd (.v 3))) (.nm 4) [] (.op .add (.pk (.v 4)) (.pk (.f (.v 0) "places"))))))))))]))]
def d10 : Fd := ⟨2, 3, [2], b10⟩
def x10 (a : Addr) (fd : FuncData) : Fx := ⟨"sum_by", "sum_by", (topS 23), ["one", "other", "rows", "row", "place"], ["one", "other"], a, fd⟩
/-- together : 0=one 1=other -/
def b11 : List S := [(.expr (.call 9 [(.ev (.op .add (.ev (.rd (.f (.v 0) "places"))) (.pk (.f (.v 1) "places"))))])),
   (.ret (.call 10 [(.ev (.rd (.v 0))), (.ev (.rd (.v 1)))]))]
def d11 : Fd := ⟨2, 0, [], b11⟩
def x11 (a : Addr) (fd : FuncData) : Fx := ⟨"together", "together", (topS 24), ["one", "other"], ["one", "other"], a, fd⟩
/-- turned : 0=space 1=place -/
def b12 : List S := [(.ret (.call 5 [(.ev (.sh (.lc [1] (.r1 (.pk (.f (.v 0) "places"))) (.nm 1) [] (.bf .lst [(.ev (.call 7 [(.ev (.rd (.v 0))), (.ev (.rd (.v 1)))]))]))))]))]
def d12 : Fd := ⟨1, 1, [], b12⟩
def x12 (a : Addr) (fd : FuncData) : Fx := ⟨"turned", "turned", (topS 25), ["space", "place"], ["space"], a, fd⟩
/-- check_told : 0=space -/
def b13 : List S := [(.ife (.not (.call 8 [(.ev (.rd (.v 0)))])) [.nv] [])]
def d13 : Fd := ⟨1, 0, [], b13⟩
def x13 (a : Addr) (fd : FuncData) : Fx := ⟨"check_told", "check_told", (topS 27), ["space"], ["space"], a, fd⟩
/-- least_of : 0=space 1=lot 2=some 3=one 4=other -/
def b14 : List S := [(.set 2 (.sh (.lc [3] (.c (.rd (.v 1))) (.nm 3) [(.bf .all [(.ev (.lc [4] (.c (.rd (.v 1))) (.nm 4) [] (.call 6 [(.ev (.rd (.v 0))), (.ev (.rd (.v 3))), (.ev (.rd (.v 4)))])))])] (.rd (.v 3))))),
   (.ret (.ife (.op .gt (.ev (.bf .len [(.pk (.v 2))])) (.ev (.kc (.int 0)))) (.rd (.s (.v 2) (.k 0))) (.kc .non)))]
def d14 : Fd := ⟨2, 3, [2], b14⟩
def x14 (a : Addr) (fd : FuncData) : Fx := ⟨"least_of", "least_of", (topS 29), ["space", "lot", "some", "one", "other"], ["space", "lot"], a, fd⟩
/-- greatest_of : 0=space 1=lot 2=some 3=one 4=other -/
def b15 : List S := [(.set 2 (.sh (.lc [3] (.c (.rd (.v 1))) (.nm 3) [(.bf .all [(.ev (.lc [4] (.c (.rd (.v 1))) (.nm 4) [] (.call 6 [(.ev (.rd (.v 0))), (.ev (.rd (.v 4))), (.ev (.rd (.v 3)))])))])] (.rd (.v 3))))),
   (.ret (.ife (.op .gt (.ev (.bf .len [(.pk (.v 2))])) (.ev (.kc (.int 0)))) (.rd (.s (.v 2) (.k 0))) (.kc .non)))]
def d15 : Fd := ⟨2, 3, [2], b15⟩
def x15 (a : Addr) (fd : FuncData) : Fx := ⟨"greatest_of", "greatest_of", (topS 30), ["space", "lot", "some", "one", "other"], ["space", "lot"], a, fd⟩
/-- is_map : 0=space 1=other 2=thing 3=one -/
def b16 : List S := [(.ife (.not (.call 2 [(.ev (.rd (.v 2))), (.ev (.rd (.f (.v 0) "places"))), (.ev (.rd (.f (.v 0) "places")))])) [(.ret (.kc (.bl false)))] []),
   (.ife (.not (.bf .all [(.ev (.lc [3] (.c (.rd (.v 2))) (.nm 3) [] (.call 1 [(.ev (.rd (.v 3))), (.ev (.kc (.int 0))), (.ev (.op .sub (.ev (.rd (.f (.v 1) "places"))) (.ev (.kc (.int 1)))))])))])) [(.ret (.kc (.bl false)))] []),
   (.ret (.call 17 [(.ev (.rd (.v 0))), (.ev (.rd (.v 1))), (.ev (.rd (.v 2)))]))]
def d16 : Fd := ⟨3, 1, [], b16⟩
def x16 (a : Addr) (fd : FuncData) : Fx := ⟨"is_map", "is_map", (topS 32), ["space", "other", "thing", "one"], ["space", "other", "thing"], a, fd⟩
/-- keeps : 0=space 1=other 2=told 3=high 4=lot 5=low -/
def b17 : List S := [(.for_ (.en (.rd (.f (.v 0) "least"))) (.tp [(.nm 3), (.nm 4)]) [(.ife (.not (.bf .all [(.ev (.lc [5] (.c (.rd (.v 4))) (.nm 5) [] (.call 6 [(.ev (.rd (.v 1))), (.ev (.rd (.s (.v 2) (.v 5)))), (.ev (.rd (.s (.v 2) (.v 3))))])))])) [(.ret (.kc (.bl false)))] [])]),
   (.ret (.kc (.bl true)))]
def d17 : Fd := ⟨3, 3, [3, 4], b17⟩
def x17 (a : Addr) (fd : FuncData) : Fx := ⟨"keeps", "keeps", (topS 33), ["space", "other", "told", "high", "lot", "low"], ["space", "other", "told"], a, fd⟩
/-- is_beneath : 0=other 1=one 2=two 3=a 4=b -/
def b18 : List S := [(.ret (.bf .all [(.ev (.lc [3, 4] (.zp (.rd (.v 1)) (.rd (.v 2))) (.tp [(.nm 3), (.nm 4)]) [] (.call 6 [(.ev (.rd (.v 0))), (.ev (.rd (.v 3))), (.ev (.rd (.v 4)))])))]))]
def d18 : Fd := ⟨3, 2, [], b18⟩
def x18 (a : Addr) (fd : FuncData) : Fx := ⟨"is_beneath", "is_beneath", (topS 34), ["other", "one", "two", "a", "b"], ["other", "one", "two"], a, fd⟩
/-- is_hull : 0=space 1=thing 2=place 3=one -/
def b19 : List S := [(.ife (.not (.call 16 [(.ev (.rd (.v 0))), (.ev (.rd (.v 0))), (.ev (.rd (.v 1)))])) [(.ret (.kc (.bl false)))] []),
   (.ret (.bf .all [(.ev (.lc [2, 3] (.en (.rd (.v 1))) (.tp [(.nm 2), (.nm 3)]) [] (.and (.call 6 [(.ev (.rd (.v 0))), (.ev (.rd (.v 2))), (.ev (.rd (.v 3)))]) (.op .eq (.ev (.rd (.s (.v 1) (.v 3)))) (.pk (.v 3))))))]))]
def d19 : Fd := ⟨2, 2, [], b19⟩
def x19 (a : Addr) (fd : FuncData) : Fx := ⟨"is_hull", "is_hull", (topS 36), ["space", "thing", "place", "one"], ["space", "thing"], a, fd⟩
/-- hulls : 0=space -/
def b20 : List S := [(.expr (.call 13 [(.ev (.rd (.v 0)))])),
   (.ret (.call 21 [(.ev (.rd (.v 0)))]))]
def d20 : Fd := ⟨1, 0, [], b20⟩
def x20 (a : Addr) (fd : FuncData) : Fx := ⟨"hulls", "hulls", (topS 37), ["space"], ["space"], a, fd⟩
/-- hulls_of : 0=space 1=lots 2=found 3=place 4=lot 5=told -/
def b21 : List S := [(.par2 1 2 (.sh (.lst [(.tup [])])) (.lst [])),
   (.for_ (.r1 (.pk (.f (.v 0) "places"))) (.nm 3) [(.set 1 (.sh (.op .add (.pk (.v 1)) (.ev (.lc [4] (.c (.rd (.v 1))) (.nm 4) [] (.sh (.op .add (.pk (.v 4)) (.ev (.tup [(.rd (.v 3))])))))))))]),
   (.for_ (.c (.rd (.v 1))) (.nm 4) [(.set 5 (.sh (.call 22 [(.ev (.rd (.v 0))), (.ev (.rd (.v 4)))]))),
   (.ife (.op .isn (.pk (.v 5)) (.ev (.kc .non))) [(.expr (.mth .append 2 [(.rd (.v 5))]))] [])]),
   (.ret (.bf .sorted [(.pk (.v 2))]))]
def d21 : Fd := ⟨1, 5, [1, 2, 3, 4, 5], b21⟩
def x21 (a : Addr) (fd : FuncData) : Fx := ⟨"hulls_of", "hulls_of", (topS 38), ["space", "lots", "found", "place", "lot", "told"], ["space"], a, fd⟩
/-- hull_by : 0=space 1=lot 2=found 3=place 4=least 5=one -/
def b22 : List S := [(.set 2 (.lst [])),
   (.for_ (.r1 (.pk (.f (.v 0) "places"))) (.nm 3) [(.set 4 (.sh (.call 14 [(.ev (.rd (.v 0))), (.ev (.sh (.lc [5] (.c (.rd (.v 1))) (.nm 5) [(.call 6 [(.ev (.rd (.v 0))), (.ev (.rd (.v 3))), (.ev (.rd (.v 5)))])] (.rd (.v 5)))))]))),
   (.ife (.op .is (.pk (.v 4)) (.ev (.kc .non))) [(.ret (.kc .non))] []),
   (.expr (.mth .append 2 [(.rd (.v 4))]))]),
   (.ret (.bf .tup [(.pk (.v 2))]))]
def d22 : Fd := ⟨2, 4, [2, 3, 4], b22⟩
def x22 (a : Addr) (fd : FuncData) : Fx := ⟨"hull_by", "hull_by", (topS 39), ["space", "lot", "found", "place", "least", "one"], ["space", "lot"], a, fd⟩
/-- hull_for : 0=space 1=lot -/
def b23 : List S := [(.expr (.call 13 [(.ev (.rd (.v 0)))])),
   (.expr (.call 4 [(.ev (.rd (.v 0))), (.ev (.rd (.v 1)))])),
   (.ret (.call 22 [(.ev (.rd (.v 0))), (.ev (.rd (.v 1)))]))]
def d23 : Fd := ⟨2, 0, [], b23⟩
def x23 (a : Addr) (fd : FuncData) : Fx := ⟨"hull_for", "hull_for", (topS 40), ["space", "lot"], ["space", "lot"], a, fd⟩
/-- kept_by : 0=space 1=hull 2=place 3=one -/
def b24 : List S := [(.expr (.call 13 [(.ev (.rd (.v 0)))])),
   (.ife (.not (.call 19 [(.ev (.rd (.v 0))), (.ev (.rd (.v 1)))])) [.nv] []),
   (.ret (.bf .tup [(.ev (.lc [2, 3] (.en (.rd (.v 1))) (.tp [(.nm 2), (.nm 3)]) [(.op .eq (.pk (.v 2)) (.pk (.v 3)))] (.rd (.v 2))))]))]
def d24 : Fd := ⟨2, 2, [], b24⟩
def x24 (a : Addr) (fd : FuncData) : Fx := ⟨"kept_by", "kept_by", (topS 41), ["space", "hull", "place", "one"], ["space", "hull"], a, fd⟩
/-- kernels : 0=space 1=lots 2=found 3=place 4=lot 5=told -/
def b25 : List S := [(.expr (.call 13 [(.ev (.rd (.v 0)))])),
   (.par2 1 2 (.sh (.lst [(.tup [])])) (.lst [])),
   (.for_ (.r1 (.pk (.f (.v 0) "places"))) (.nm 3) [(.set 1 (.sh (.op .add (.pk (.v 1)) (.ev (.lc [4] (.c (.rd (.v 1))) (.nm 4) [] (.sh (.op .add (.pk (.v 4)) (.ev (.tup [(.rd (.v 3))])))))))))]),
   (.for_ (.c (.rd (.v 1))) (.nm 4) [(.set 5 (.sh (.call 26 [(.ev (.rd (.v 0))), (.ev (.rd (.v 4)))]))),
   (.ife (.op .isn (.pk (.v 5)) (.ev (.kc .non))) [(.expr (.mth .append 2 [(.rd (.v 5))]))] [])]),
   (.ret (.bf .sorted [(.pk (.v 2))]))]
def d25 : Fd := ⟨1, 5, [1, 2, 3, 4, 5], b25⟩
def x25 (a : Addr) (fd : FuncData) : Fx := ⟨"kernels", "kernels", (topS 42), ["space", "lots", "found", "place", "lot", "told"], ["space"], a, fd⟩
/-- kernel_by : 0=space 1=lot 2=found 3=place 4=greatest 5=one -/
def b26 : List S := [(.set 2 (.lst [])),
   (.for_ (.r1 (.pk (.f (.v 0) "places"))) (.nm 3) [(.set 4 (.sh (.call 15 [(.ev (.rd (.v 0))), (.ev (.sh (.lc [5] (.c (.rd (.v 1))) (.nm 5) [(.call 6 [(.ev (.rd (.v 0))), (.ev (.rd (.v 5))), (.ev (.rd (.v 3)))])] (.rd (.v 5)))))]))),
   (.ife (.op .is (.pk (.v 4)) (.ev (.kc .non))) [(.ret (.kc .non))] []),
   (.expr (.mth .append 2 [(.rd (.v 4))]))]),
   (.ret (.bf .tup [(.pk (.v 2))]))]
def d26 : Fd := ⟨2, 4, [2, 3, 4], b26⟩
def x26 (a : Addr) (fd : FuncData) : Fx := ⟨"kernel_by", "kernel_by", (topS 43), ["space", "lot", "found", "place", "greatest", "one"], ["space", "lot"], a, fd⟩
/-- lies_beneath : 0=space 1=one 2=other -/
def b27 : List S := [(.expr (.call 13 [(.ev (.rd (.v 0)))])),
   (.ife (.or (.not (.call 19 [(.ev (.rd (.v 0))), (.ev (.rd (.v 1)))])) (.not (.call 19 [(.ev (.rd (.v 0))), (.ev (.rd (.v 2)))]))) [.nv] []),
   (.ret (.call 18 [(.ev (.rd (.v 0))), (.ev (.rd (.v 1))), (.ev (.rd (.v 2)))]))]
def d27 : Fd := ⟨3, 0, [], b27⟩
def x27 (a : Addr) (fd : FuncData) : Fx := ⟨"lies_beneath", "lies_beneath", (topS 44), ["space", "one", "other"], ["space", "one", "other"], a, fd⟩
/-- many_hulls : 0=space -/
def b28 : List S := [(.expr (.call 13 [(.ev (.rd (.v 0)))])),
   (.ife (.op .gt (.ev (.rd (.f (.v 0) "places"))) (.ev (.kc (.int 10)))) [.nv] []),
   (.ret (.bf .len [(.ev (.call 21 [(.ev (.rd (.v 0)))]))]))]
def d28 : Fd := ⟨1, 0, [], b28⟩
def x28 (a : Addr) (fd : FuncData) : Fx := ⟨"many_hulls", "many_hulls", (topS 45), ["space"], ["space"], a, fd⟩
/-- _law_hand : 0=script 1=cells 2=cell -/
def b29 : List S := [(.set 1 (.sh (.lc [2] (.c (.sliH (.pk (.v 0)) (.ev (.kc (.int 63))))) (.nm 2) [] (.bf .abs [(.ev (.bf .int [(.pk (.v 2))]))])))),
   (.ret (.lst [(.rd (.v 1)), (.kc (.int 0)), (.kc (.int 0)), (.op .add (.ev (.kc (.int 113))) (.ev (.op .mul (.ev (.kc (.int 13))) (.ev (.bf .len [(.pk (.v 1))]))))), (.kc (.int 0))]))]
def d29 : Fd := ⟨1, 2, [1], b29⟩
def x29 (a : Addr) (fd : FuncData) : Fx := ⟨"_law_hand", "_law_hand", (topS 47), ["script", "cells", "cell"], ["script"], a, fd⟩
/-- _law_draw : 0=hand 1=many 2=cell 3=digit 4=number -/
def b30 : List S := [(.ife (.and (.op .eq (.ev (.rd (.s (.v 0) (.k 2)))) (.ev (.kc (.int 0)))) (.op .lt (.ev (.rd (.s (.v 0) (.k 1)))) (.ev (.bf .len [(.pk (.s (.v 0) (.k 0)))])))) [(.set 2 (.rd (.s (.s (.v 0) (.k 0)) (.s (.v 0) (.k 1))))),
   (.put2 (.v 0) (.k 1) (.op .add (.ev (.rd (.s (.v 0) (.k 1)))) (.ev (.kc (.int 1))))),
   (.put2 (.v 0) (.k 3) (.op .mod (.ev (.bf .int [(.ev (.op .add (.ev (.op .add (.ev (.op .mul (.ev (.rd (.s (.v 0) (.k 3)))) (.ev (.kc (.int 40692))))) (.ev (.op .mul (.pk (.v 2)) (.ev (.kc (.int 9))))))) (.ev (.kc (.int 61)))))])) (.ev (.kc (.int 2147483549))))),
   (.put2 (.v 0) (.k 2) (.ife (.op .ge (.pk (.v 2)) (.ev (.op .pow (.ev (.kc (.int 10))) (.ev (.kc (.int 18)))))) (.rd (.v 2)) (.kc (.int 0))))] []),
   (.ife (.op .gt (.ev (.rd (.s (.v 0) (.k 2)))) (.ev (.kc (.int 0)))) [(.set 3 (.op .mod (.ev (.bf .int [(.pk (.s (.v 0) (.k 2)))])) (.pk (.v 1)))),
   (.put2 (.v 0) (.k 2) (.op .fdiv (.ev (.rd (.s (.v 0) (.k 2)))) (.pk (.v 1)))),
   (.ret (.rd (.v 3)))] []),
   (.put2 (.v 0) (.k 4) (.op .add (.ev (.rd (.s (.v 0) (.k 4)))) (.ev (.kc (.int 1))))),
   (.set 4 (.op .mod (.ev (.bf .int [(.ev (.op .mul (.ev (.bf .int [(.ev (.op .add (.ev (.rd (.s (.v 0) (.k 3)))) (.ev (.op .mul (.ev (.kc (.int 7687))) (.pk (.s (.v 0) (.k 4)))))))])) (.ev (.kc (.int 48271)))))])) (.ev (.kc (.int 2147483647))))),
   (.set 4 (.op .mod (.ev (.bf .int [(.ev (.op .mul (.pk (.v 4)) (.ev (.op .add (.ev (.op .fdiv (.pk (.v 4)) (.ev (.kc (.int 1409))))) (.ev (.kc (.int 69621)))))))])) (.ev (.kc (.int 2147483399))))),
   (.set 4 (.op .mod (.ev (.bf .int [(.ev (.op .mul (.pk (.v 4)) (.ev (.op .add (.ev (.op .fdiv (.pk (.v 4)) (.ev (.kc (.int 2081))))) (.ev (.kc (.int 40014)))))))])) (.ev (.kc (.int 2147483629))))),
   (.ret (.op .mod (.ev (.bf .int [(.ev (.op .fdiv (.pk (.v 4)) (.ev (.kc (.int 16)))))])) (.pk (.v 1))))]
def d30 : Fd := ⟨2, 3, [2, 3, 4], b30⟩
def x30 (a : Addr) (fd : FuncData) : Fx := ⟨"_law_draw", "_law_draw", (topS 48), ["hand", "many", "cell", "digit", "number"], ["hand", "many"], a, fd⟩
/-- _law_least : 0=many 1=pairs 2=under 3=at 4=turn 5=low 6=high 7=lot -/
def b31 : List S := [(.set 2 (.lc [3] (.r1 (.pk (.v 0))) (.nm 3) [] (.dk1 (.v 3) (.bl true)))),
   (.for_ (.r1 (.pk (.v 0))) (.nm 4) [(.for_ (.c (.rd (.v 1))) (.tp [(.nm 5), (.nm 6)]) [(.expr (.mthC .update (.s (.v 2) (.v 6)) [(.s (.v 2) (.v 5))]))])]),
   (.for_ (.r1 (.pk (.v 0))) (.nm 4) [(.for_ (.r1 (.pk (.v 0))) (.nm 3) [(.for_ (.c (.bf .lst [(.pk (.s (.v 2) (.v 3)))])) (.nm 5) [(.expr (.mthC .update (.s (.v 2) (.v 3)) [(.s (.v 2) (.v 5))]))])])]),
   (.ret (.bf .tup [(.ev (.lc [7] (.c (.shr 2)) (.nm 7) [] (.bf .tup [(.ev (.bf .sorted [(.pk (.v 7))]))])))]))]
def d31 : Fd := ⟨2, 6, [2, 4, 5, 6, 3], b31⟩
def x31 (a : Addr) (fd : FuncData) : Fx := ⟨"_law_least", "_law_least", (topS 50), ["many", "pairs", "under", "at", "turn", "low", "high", "lot"], ["many", "pairs"], a, fd⟩
/-- _law_told : 0=hand 1=most 2=many 3=pairs 4=order 5=pool 6=turn 7=low 8=high -/
def b32 : List S := [(.set 2 (.sh (.op .add (.ev (.kc (.int 1))) (.ev (.call 30 [(.ln 0), (.ev (.rd (.v 1)))]))))),
   (.setT (.tp [(.nm 3), (.nm 4), (.nm 5)]) (.tup [(.lst []), (.lst []), (.lrg (.pk (.v 2)))])),
   (.for_ (.r1 (.ev (.ife (.op .gt (.pk (.v 2)) (.ev (.kc (.int 1)))) (.call 30 [(.ln 0), (.ev (.sh (.op .mul (.ev (.kc (.int 3))) (.pk (.v 2)))))]) (.kc (.int 0))))) (.nm 6) [(.set 7 (.sh (.call 30 [(.ln 0), (.ev (.op .sub (.pk (.v 2)) (.ev (.kc (.int 1)))))]))),
   (.expr (.mth .append 3 [(.tup [(.rd (.v 7)), (.op .add (.ev (.op .add (.pk (.v 7)) (.ev (.kc (.int 1))))) (.ev (.call 30 [(.ln 0), (.ev (.op .sub (.ev (.op .sub (.pk (.v 2)) (.pk (.v 7)))) (.ev (.kc (.int 1)))))])))])]))]),
   (.whl (.op .gt (.ev (.bf .len [(.pk (.v 5))])) (.ev (.kc (.int 0)))) [(.expr (.mth .append 4 [(.mth .popAt 5 [(.call 30 [(.ln 0), (.ev (.bf .len [(.pk (.v 5))]))])])]))]),
   (.ret (.tup [(.rd (.v 2)), (.call 31 [(.ev (.rd (.v 2))), (.ev (.sh (.lc [7, 8] (.c (.shr 3)) (.tp [(.nm 7), (.nm 8)]) [] (.tup [(.rd (.s (.v 4) (.v 7))), (.rd (.s (.v 4) (.v 8)))]))))])]))]
def d32 : Fd := ⟨2, 7, [2, 3, 4, 5, 6, 7], b32⟩
def x32 (a : Addr) (fd : FuncData) : Fx := ⟨"_law_told", "_law_told", (topS 55), ["hand", "most", "many", "pairs", "order", "pool", "turn", "low", "high"], ["hand", "most"], a, fd⟩
/-- _law_behind : 0=one 1=other 2=at -/
def b33 : List S := [(.ret (.bf .tup [(.ev (.lc [2] (.c (.rd (.v 0))) (.nm 2) [] (.rd (.s (.v 1) (.v 2)))))]))]
def d33 : Fd := ⟨2, 1, [], b33⟩
def x33 (a : Addr) (fd : FuncData) : Fx := ⟨"_law_behind", "_law_behind", (topS 59), ["one", "other", "at"], ["one", "other"], a, fd⟩
/-- _law_right : 0=space 1=every 2=one 3=mine 4=at 5=other 6=its -/
def b34 : List S := [(.for_ (.c (.rd (.v 1))) (.nm 2) [(.set 3 (.sh (.call 24 [(.ev (.rd (.v 0))), (.ev (.rd (.v 2)))]))),
   (.ife (.or (.op .ne (.ev (.call 23 [(.ev (.rd (.v 0))), (.ev (.rd (.v 3)))])) (.pk (.v 2))) (.not (.bf .all [(.ev (.lc [4] (.r1 (.ev (.bf .len [(.pk (.v 2))]))) (.nm 4) [] (.op .inn (.ev (.rd (.s (.v 2) (.v 4)))) (.pk (.v 3)))))]))) [(.ret (.kc (.bl false)))] []),
   (.for_ (.c (.rd (.v 1))) (.nm 5) [(.set 6 (.sh (.call 24 [(.ev (.rd (.v 0))), (.ev (.rd (.v 5)))]))),
   (.ife (.op .ne (.ev (.call 27 [(.ev (.rd (.v 0))), (.ev (.rd (.v 2))), (.ev (.rd (.v 5)))])) (.ev (.bf .all [(.ev (.lc [4] (.c (.rd (.v 6))) (.nm 4) [] (.op .inn (.pk (.v 4)) (.pk (.v 3)))))]))) [(.ret (.kc (.bl false)))] []),
   (.ife (.and (.call 27 [(.ev (.rd (.v 0))), (.ev (.rd (.v 2))), (.ev (.rd (.v 5)))]) (.op .ne (.ev (.call 33 [(.ev (.rd (.v 2))), (.ev (.rd (.v 5)))])) (.pk (.v 5)))) [(.ret (.kc (.bl false)))] [])])]),
   (.ret (.op .eq (.ev (.lset (.ev (.lc [2] (.c (.rd (.v 1))) (.nm 2) [] (.call 24 [(.ev (.rd (.v 0))), (.ev (.rd (.v 2)))]))))) (.ev (.bf .len [(.pk (.v 1))]))))]
def d34 : Fd := ⟨2, 5, [2, 3, 5, 6], b34⟩
def x34 (a : Addr) (fd : FuncData) : Fx := ⟨"_law_right", "_law_right", (topS 60), ["space", "every", "one", "mine", "at", "other", "its"], ["space", "every"], a, fd⟩
/-- law : 0=script 1=hand 2=lap 3=many 4=least 5=space 6=every 7=size 8=others 9=other 10=both 11=due 12=one 13=at 14=its 15=line_here -/
def b35 : List S := [(.set 1 (.call 29 [(.ev (.rd (.v 0)))])),
   (.for_ (.r1 (.ev (.kc (.int 2)))) (.nm 2) [(.setT (.tp [(.nm 3), (.nm 4)]) (.sh (.call 32 [(.ln 1), (.ev (.kc (.int 4)))]))),
   (.set 5 (.sh (.sh (.make 0 [(.rd (.v 3)), (.rd (.v 4))])))),
   (.set 6 (.sh (.call 20 [(.ev (.rd (.v 5)))]))),
   (.ife (.or (.not (.call 34 [(.ev (.rd (.v 5))), (.ev (.rd (.v 6)))])) (.op .ne (.ev (.call 20 [(.ev (.sh (.call 12 [(.ev (.rd (.v 5)))])))])) (.ev (.call 25 [(.ev (.rd (.v 5)))])))) [(.ret (.kc (.bl false)))] []),
   (.ife (.or (.op .ne (.ev (.call 25 [(.ev (.sh (.call 12 [(.ev (.rd (.v 5)))])))])) (.pk (.v 6))) (.op .ne (.ev (.call 28 [(.ev (.rd (.v 5)))])) (.ev (.bf .len [(.pk (.v 6))])))) [(.ret (.kc (.bl false)))] []),
   (.setT (.tp [(.nm 7), (.nm 8)]) (.sh (.call 32 [(.ln 1), (.ev (.kc (.int 2)))]))),
   (.set 9 (.sh (.sh (.make 0 [(.rd (.v 7)), (.rd (.v 8))])))),
   (.set 10 (.sh (.call 11 [(.ev (.rd (.v 5))), (.ev (.rd (.v 9)))]))),
   (.set 11 (.lst [])),
   (.for_ (.c (.rd (.v 6))) (.nm 12) [(.expr (.mth .extend 11 [(.lc [14] (.c (.call 20 [(.ev (.rd (.v 9)))])) (.nm 14) [] (.op .add (.pk (.v 12)) (.ev (.bf .tup [(.ev (.lc [13] (.c (.rd (.v 14))) (.nm 13) [] (.op .add (.pk (.v 3)) (.pk (.v 13)))))]))))]))]),
   (.ife (.or (.op .ne (.ev (.call 20 [(.ev (.rd (.v 10)))])) (.ev (.bf .sorted [(.pk (.v 11))]))) (.op .ne (.ev (.call 28 [(.ev (.rd (.v 10)))])) (.ev (.op .mul (.ev (.bf .len [(.pk (.v 6))])) (.ev (.call 28 [(.ev (.rd (.v 9)))])))))) [(.ret (.kc (.bl false)))] [])]),
   (.set 15 (.sh (.sh (.make 0 [(.kc (.int 4)), (.tup [(.tup [(.kc (.int 0))]), (.tup [(.kc (.int 0)), (.kc (.int 1))]), (.tup [(.kc (.int 0)), (.kc (.int 1)), (.kc (.int 2))]), (.tup [(.kc (.int 0)), (.kc (.int 1)), (.kc (.int 2)), (.kc (.int 3))])])])))),
   (.ret (.and (.op .eq (.ev (.call 28 [(.ev (.rd (.v 15)))])) (.ev (.kc (.int 8)))) (.op .eq (.ev (.call 28 [(.ev (.sh (.sh (.make 0 [(.kc (.int 3)), (.tup [(.tup [(.kc (.int 0))]), (.tup [(.kc (.int 1))]), (.tup [(.kc (.int 2))])])]))))])) (.ev (.kc (.int 1))))))]
def d35 : Fd := ⟨1, 15, [1, 2, 3, 4, 5, 6, 7, 8, 9, 10, 11, 12, 15], b35⟩
def x35 (a : Addr) (fd : FuncData) : Fx := ⟨"law", "law", (topS 61), ["script", "hand", "lap", "many", "least", "space", "every", "size", "others", "other", "both", "due", "one", "at", "its", "line_here"], ["script"], a, fd⟩
/-- Space.__init__ : 0=self 1=places 2=least 3=place 4=lot 5=other 6=one -/
def b36 : List S := [(.ife (.not (.call 1 [(.ev (.rd (.v 1))), (.ev (.kc (.int 0))), (.ev (.gl 0))])) [.nv] []),
   (.ife (.not (.call 2 [(.ev (.rd (.v 2))), (.ev (.rd (.v 1))), (.ev (.rd (.v 1)))])) [.nv] []),
   (.for_ (.en (.rd (.v 2))) (.tp [(.nm 3), (.nm 4)]) [(.ife (.or (.not (.call 3 [(.ev (.rd (.v 1))), (.ev (.rd (.v 4)))])) (.op .nin (.pk (.v 3)) (.pk (.v 4)))) [.nv] [])]),
   (.for_ (.en (.rd (.v 2))) (.tp [(.nm 3), (.nm 4)]) [(.ife (.not (.bf .all [(.ev (.lc2 [5, 6] [6] (.c (.rd (.v 4))) (.nm 5) [] (.c (.rd (.s (.v 2) (.v 5)))) (.nm 6) [] (.op .inn (.pk (.v 6)) (.pk (.v 4)))))])) [.nv] [])]),
   (.fld 0 "places" (.rd (.v 1))),
   (.fld 0 "least" (.rd (.v 2)))]
def d36 : Fd := ⟨3, 4, [3, 4], b36⟩
def x36 (a : Addr) (fd : FuncData) : Fx := ⟨"__init__", "Space.__init__", (clsM (topS 14) 0), ["self", "places", "least", "place", "lot", "other", "one"], ["self", "places", "least"], a, fd⟩
def fs : List Fd := [d0, d1, d2, d3, d4, d5, d6, d7, d8, d9, d10, d11, d12, d13, d14, d15, d16, d17, d18, d19, d20, d21, d22, d23, d24, d25, d26, d27, d28, d29, d30, d31, d32, d33, d34, d35, d36]
def FT : List (Str × Nat) := [(("is_integer" : Str), 1), (("is_within" : Str), 3), (("is_tuple" : Str), 3), (("is_lot" : Str), 2), (("check_lot" : Str), 2), (("space_by" : Str), 1), (("is_below" : Str), 3), (("above_of" : Str), 2), (("is_told" : Str), 1), (("check_size" : Str), 1), (("sum_by" : Str), 2), (("together" : Str), 2), (("turned" : Str), 1), (("check_told" : Str), 1), (("least_of" : Str), 2), (("greatest_of" : Str), 2), (("is_map" : Str), 3), (("keeps" : Str), 3), (("is_beneath" : Str), 3), (("is_hull" : Str), 2), (("hulls" : Str), 1), (("hulls_of" : Str), 1), (("hull_by" : Str), 2), (("hull_for" : Str), 2), (("kept_by" : Str), 2), (("kernels" : Str), 1), (("kernel_by" : Str), 2), (("lies_beneath" : Str), 3), (("many_hulls" : Str), 1), (("_law_hand" : Str), 1), (("_law_draw" : Str), 2), (("_law_least" : Str), 2), (("_law_told" : Str), 2), (("_law_behind" : Str), 2), (("_law_right" : Str), 2), (("law" : Str), 1)]
def CT : List (Str × Nat) := [(("Space" : Str), 3)]
def CN : List Str := ["MOST_PLACES"]
def BL : List Str := ["len", "abs", "int", "list", "tuple", "sorted", "all", "isinstance", "range", "enumerate", "bool", "set", "zip"]
def con : Nat → Int := fun i => [12].getD i 0
def ini : Nat → Nat := fun i => [36].getD i 0
def tb : Tb := ⟨fun c f => match c with
  | 0 => [("places" : Str), ("least" : Str)].contains f
  | _ => false⟩
theorem c0 (a : Addr) (fd : FuncData) : fxB FT CT CN BL (x0 a fd) d0 = true := by kernel_rfl
theorem bd0 : BindP (x0 0 default).x (x0 0 default).q (x0 0 default).st (x0 0 default).ps := fun _ _ _ _ _ _ us hl => match us, hl with | [_], _ => rfl
theorem c1 (a : Addr) (fd : FuncData) : fxB FT CT CN BL (x1 a fd) d1 = true := by kernel_rfl
theorem bd1 : BindP (x1 0 default).x (x1 0 default).q (x1 0 default).st (x1 0 default).ps := fun _ _ _ _ _ _ us hl => match us, hl with | [_, _, _], _ => rfl
theorem c2 (a : Addr) (fd : FuncData) : fxB FT CT CN BL (x2 a fd) d2 = true := by kernel_rfl
theorem bd2 : BindP (x2 0 default).x (x2 0 default).q (x2 0 default).st (x2 0 default).ps := fun _ _ _ _ _ _ us hl => match us, hl with | [_, _, _], _ => rfl
theorem c3 (a : Addr) (fd : FuncData) : fxB FT CT CN BL (x3 a fd) d3 = true := by kernel_rfl
theorem bd3 : BindP (x3 0 default).x (x3 0 default).q (x3 0 default).st (x3 0 default).ps := fun _ _ _ _ _ _ us hl => match us, hl with | [_, _], _ => rfl
theorem c4 (a : Addr) (fd : FuncData) : fxB FT CT CN BL (x4 a fd) d4 = true := by kernel_rfl
theorem bd4 : BindP (x4 0 default).x (x4 0 default).q (x4 0 default).st (x4 0 default).ps := fun _ _ _ _ _ _ us hl => match us, hl with | [_, _], _ => rfl
theorem c5 (a : Addr) (fd : FuncData) : fxB FT CT CN BL (x5 a fd) d5 = true := by kernel_rfl
theorem bd5 : BindP (x5 0 default).x (x5 0 default).q (x5 0 default).st (x5 0 default).ps := fun _ _ _ _ _ _ us hl => match us, hl with | [_], _ => rfl
theorem c6 (a : Addr) (fd : FuncData) : fxB FT CT CN BL (x6 a fd) d6 = true := by kernel_rfl
theorem bd6 : BindP (x6 0 default).x (x6 0 default).q (x6 0 default).st (x6 0 default).ps := fun _ _ _ _ _ _ us hl => match us, hl with | [_, _, _], _ => rfl
theorem c7 (a : Addr) (fd : FuncData) : fxB FT CT CN BL (x7 a fd) d7 = true := by kernel_rfl
theorem bd7 : BindP (x7 0 default).x (x7 0 default).q (x7 0 default).st (x7 0 default).ps := fun _ _ _ _ _ _ us hl => match us, hl with | [_, _], _ => rfl
theorem c8 (a : Addr) (fd : FuncData) : fxB FT CT CN BL (x8 a fd) d8 = true := by kernel_rfl
theorem bd8 : BindP (x8 0 default).x (x8 0 default).q (x8 0 default).st (x8 0 default).ps := fun _ _ _ _ _ _ us hl => match us, hl with | [_], _ => rfl
theorem c9 (a : Addr) (fd : FuncData) : fxB FT CT CN BL (x9 a fd) d9 = true := by kernel_rfl
theorem bd9 : BindP (x9 0 default).x (x9 0 default).q (x9 0 default).st (x9 0 default).ps := fun _ _ _ _ _ _ us hl => match us, hl with | [_], _ => rfl
theorem c10 (a : Addr) (fd : FuncData) : fxB FT CT CN BL (x10 a fd) d10 = true := by kernel_rfl
theorem bd10 : BindP (x10 0 default).x (x10 0 default).q (x10 0 default).st (x10 0 default).ps := fun _ _ _ _ _ _ us hl => match us, hl with | [_, _], _ => rfl
theorem c11 (a : Addr) (fd : FuncData) : fxB FT CT CN BL (x11 a fd) d11 = true := by kernel_rfl
theorem bd11 : BindP (x11 0 default).x (x11 0 default).q (x11 0 default).st (x11 0 default).ps := fun _ _ _ _ _ _ us hl => match us, hl with | [_, _], _ => rfl
theorem c12 (a : Addr) (fd : FuncData) : fxB FT CT CN BL (x12 a fd) d12 = true := by kernel_rfl
theorem bd12 : BindP (x12 0 default).x (x12 0 default).q (x12 0 default).st (x12 0 default).ps := fun _ _ _ _ _ _ us hl => match us, hl with | [_], _ => rfl
theorem c13 (a : Addr) (fd : FuncData) : fxB FT CT CN BL (x13 a fd) d13 = true := by kernel_rfl
theorem bd13 : BindP (x13 0 default).x (x13 0 default).q (x13 0 default).st (x13 0 default).ps := fun _ _ _ _ _ _ us hl => match us, hl with | [_], _ => rfl
theorem c14 (a : Addr) (fd : FuncData) : fxB FT CT CN BL (x14 a fd) d14 = true := by kernel_rfl
theorem bd14 : BindP (x14 0 default).x (x14 0 default).q (x14 0 default).st (x14 0 default).ps := fun _ _ _ _ _ _ us hl => match us, hl with | [_, _], _ => rfl
theorem c15 (a : Addr) (fd : FuncData) : fxB FT CT CN BL (x15 a fd) d15 = true := by kernel_rfl
theorem bd15 : BindP (x15 0 default).x (x15 0 default).q (x15 0 default).st (x15 0 default).ps := fun _ _ _ _ _ _ us hl => match us, hl with | [_, _], _ => rfl
theorem c16 (a : Addr) (fd : FuncData) : fxB FT CT CN BL (x16 a fd) d16 = true := by kernel_rfl
theorem bd16 : BindP (x16 0 default).x (x16 0 default).q (x16 0 default).st (x16 0 default).ps := fun _ _ _ _ _ _ us hl => match us, hl with | [_, _, _], _ => rfl
theorem c17 (a : Addr) (fd : FuncData) : fxB FT CT CN BL (x17 a fd) d17 = true := by kernel_rfl
theorem bd17 : BindP (x17 0 default).x (x17 0 default).q (x17 0 default).st (x17 0 default).ps := fun _ _ _ _ _ _ us hl => match us, hl with | [_, _, _], _ => rfl
theorem c18 (a : Addr) (fd : FuncData) : fxB FT CT CN BL (x18 a fd) d18 = true := by kernel_rfl
theorem bd18 : BindP (x18 0 default).x (x18 0 default).q (x18 0 default).st (x18 0 default).ps := fun _ _ _ _ _ _ us hl => match us, hl with | [_, _, _], _ => rfl
theorem c19 (a : Addr) (fd : FuncData) : fxB FT CT CN BL (x19 a fd) d19 = true := by kernel_rfl
theorem bd19 : BindP (x19 0 default).x (x19 0 default).q (x19 0 default).st (x19 0 default).ps := fun _ _ _ _ _ _ us hl => match us, hl with | [_, _], _ => rfl
theorem c20 (a : Addr) (fd : FuncData) : fxB FT CT CN BL (x20 a fd) d20 = true := by kernel_rfl
theorem bd20 : BindP (x20 0 default).x (x20 0 default).q (x20 0 default).st (x20 0 default).ps := fun _ _ _ _ _ _ us hl => match us, hl with | [_], _ => rfl
theorem c21 (a : Addr) (fd : FuncData) : fxB FT CT CN BL (x21 a fd) d21 = true := by kernel_rfl
theorem bd21 : BindP (x21 0 default).x (x21 0 default).q (x21 0 default).st (x21 0 default).ps := fun _ _ _ _ _ _ us hl => match us, hl with | [_], _ => rfl
theorem c22 (a : Addr) (fd : FuncData) : fxB FT CT CN BL (x22 a fd) d22 = true := by kernel_rfl
theorem bd22 : BindP (x22 0 default).x (x22 0 default).q (x22 0 default).st (x22 0 default).ps := fun _ _ _ _ _ _ us hl => match us, hl with | [_, _], _ => rfl
theorem c23 (a : Addr) (fd : FuncData) : fxB FT CT CN BL (x23 a fd) d23 = true := by kernel_rfl
theorem bd23 : BindP (x23 0 default).x (x23 0 default).q (x23 0 default).st (x23 0 default).ps := fun _ _ _ _ _ _ us hl => match us, hl with | [_, _], _ => rfl
theorem c24 (a : Addr) (fd : FuncData) : fxB FT CT CN BL (x24 a fd) d24 = true := by kernel_rfl
theorem bd24 : BindP (x24 0 default).x (x24 0 default).q (x24 0 default).st (x24 0 default).ps := fun _ _ _ _ _ _ us hl => match us, hl with | [_, _], _ => rfl
theorem c25 (a : Addr) (fd : FuncData) : fxB FT CT CN BL (x25 a fd) d25 = true := by kernel_rfl
theorem bd25 : BindP (x25 0 default).x (x25 0 default).q (x25 0 default).st (x25 0 default).ps := fun _ _ _ _ _ _ us hl => match us, hl with | [_], _ => rfl
theorem c26 (a : Addr) (fd : FuncData) : fxB FT CT CN BL (x26 a fd) d26 = true := by kernel_rfl
theorem bd26 : BindP (x26 0 default).x (x26 0 default).q (x26 0 default).st (x26 0 default).ps := fun _ _ _ _ _ _ us hl => match us, hl with | [_, _], _ => rfl
theorem c27 (a : Addr) (fd : FuncData) : fxB FT CT CN BL (x27 a fd) d27 = true := by kernel_rfl
theorem bd27 : BindP (x27 0 default).x (x27 0 default).q (x27 0 default).st (x27 0 default).ps := fun _ _ _ _ _ _ us hl => match us, hl with | [_, _, _], _ => rfl
theorem c28 (a : Addr) (fd : FuncData) : fxB FT CT CN BL (x28 a fd) d28 = true := by kernel_rfl
theorem bd28 : BindP (x28 0 default).x (x28 0 default).q (x28 0 default).st (x28 0 default).ps := fun _ _ _ _ _ _ us hl => match us, hl with | [_], _ => rfl
theorem c29 (a : Addr) (fd : FuncData) : fxB FT CT CN BL (x29 a fd) d29 = true := by kernel_rfl
theorem bd29 : BindP (x29 0 default).x (x29 0 default).q (x29 0 default).st (x29 0 default).ps := fun _ _ _ _ _ _ us hl => match us, hl with | [_], _ => rfl
theorem c30 (a : Addr) (fd : FuncData) : fxB FT CT CN BL (x30 a fd) d30 = true := by kernel_rfl
theorem bd30 : BindP (x30 0 default).x (x30 0 default).q (x30 0 default).st (x30 0 default).ps := fun _ _ _ _ _ _ us hl => match us, hl with | [_, _], _ => rfl
theorem c31 (a : Addr) (fd : FuncData) : fxB FT CT CN BL (x31 a fd) d31 = true := by kernel_rfl
theorem bd31 : BindP (x31 0 default).x (x31 0 default).q (x31 0 default).st (x31 0 default).ps := fun _ _ _ _ _ _ us hl => match us, hl with | [_, _], _ => rfl
theorem c32 (a : Addr) (fd : FuncData) : fxB FT CT CN BL (x32 a fd) d32 = true := by kernel_rfl
theorem bd32 : BindP (x32 0 default).x (x32 0 default).q (x32 0 default).st (x32 0 default).ps := fun _ _ _ _ _ _ us hl => match us, hl with | [_, _], _ => rfl
theorem c33 (a : Addr) (fd : FuncData) : fxB FT CT CN BL (x33 a fd) d33 = true := by kernel_rfl
theorem bd33 : BindP (x33 0 default).x (x33 0 default).q (x33 0 default).st (x33 0 default).ps := fun _ _ _ _ _ _ us hl => match us, hl with | [_, _], _ => rfl
theorem c34 (a : Addr) (fd : FuncData) : fxB FT CT CN BL (x34 a fd) d34 = true := by kernel_rfl
theorem bd34 : BindP (x34 0 default).x (x34 0 default).q (x34 0 default).st (x34 0 default).ps := fun _ _ _ _ _ _ us hl => match us, hl with | [_, _], _ => rfl
theorem c35 (a : Addr) (fd : FuncData) : fxB FT CT CN BL (x35 a fd) d35 = true := by kernel_rfl
theorem bd35 : BindP (x35 0 default).x (x35 0 default).q (x35 0 default).st (x35 0 default).ps := fun _ _ _ _ _ _ us hl => match us, hl with | [_], _ => rfl
theorem c36 (a : Addr) (fd : FuncData) : fxB FT CT CN BL (x36 a fd) d36 = true := by kernel_rfl
theorem bd36 : BindP (x36 0 default).x (x36 0 default).q (x36 0 default).st (x36 0 default).ps := fun _ _ _ _ _ _ us hl => match us, hl with | [_, _, _], _ => rfl
def pg : Pg := ⟨tb, I0, con, ini, fs⟩
theorem p0 {l : Nat} {ds : List D} : evP pg (l + 1) 0 ds = evBody [] 1 0 (evSs (pg.gv l) b0) ds := evP_eq (d := d0) rfl
theorem p1 {l : Nat} {ds : List D} : evP pg (l + 1) 1 ds = evBody [] 3 0 (evSs (pg.gv l) b1) ds := evP_eq (d := d1) rfl
theorem p2 {l : Nat} {ds : List D} : evP pg (l + 1) 2 ds = evBody [] 3 0 (evSs (pg.gv l) b2) ds := evP_eq (d := d2) rfl
theorem p3 {l : Nat} {ds : List D} : evP pg (l + 1) 3 ds = evBody [] 2 1 (evSs (pg.gv l) b3) ds := evP_eq (d := d3) rfl
theorem p4 {l : Nat} {ds : List D} : evP pg (l + 1) 4 ds = evBody [] 2 0 (evSs (pg.gv l) b4) ds := evP_eq (d := d4) rfl
theorem p5 {l : Nat} {ds : List D} : evP pg (l + 1) 5 ds = evBody [] 1 1 (evSs (pg.gv l) b5) ds := evP_eq (d := d5) rfl
theorem p6 {l : Nat} {ds : List D} : evP pg (l + 1) 6 ds = evBody [] 3 0 (evSs (pg.gv l) b6) ds := evP_eq (d := d6) rfl
theorem p7 {l : Nat} {ds : List D} : evP pg (l + 1) 7 ds = evBody [] 2 1 (evSs (pg.gv l) b7) ds := evP_eq (d := d7) rfl
theorem p8 {l : Nat} {ds : List D} : evP pg (l + 1) 8 ds = evBody [] 1 1 (evSs (pg.gv l) b8) ds := evP_eq (d := d8) rfl
theorem p9 {l : Nat} {ds : List D} : evP pg (l + 1) 9 ds = evBody [] 1 0 (evSs (pg.gv l) b9) ds := evP_eq (d := d9) rfl
theorem p10 {l : Nat} {ds : List D} : evP pg (l + 1) 10 ds = evBody [2] 2 3 (evSs (pg.gv l) b10) ds := evP_eq (d := d10) rfl
theorem p11 {l : Nat} {ds : List D} : evP pg (l + 1) 11 ds = evBody [] 2 0 (evSs (pg.gv l) b11) ds := evP_eq (d := d11) rfl
theorem p12 {l : Nat} {ds : List D} : evP pg (l + 1) 12 ds = evBody [] 1 1 (evSs (pg.gv l) b12) ds := evP_eq (d := d12) rfl
theorem p13 {l : Nat} {ds : List D} : evP pg (l + 1) 13 ds = evBody [] 1 0 (evSs (pg.gv l) b13) ds := evP_eq (d := d13) rfl
theorem p14 {l : Nat} {ds : List D} : evP pg (l + 1) 14 ds = evBody [2] 2 3 (evSs (pg.gv l) b14) ds := evP_eq (d := d14) rfl
theorem p15 {l : Nat} {ds : List D} : evP pg (l + 1) 15 ds = evBody [2] 2 3 (evSs (pg.gv l) b15) ds := evP_eq (d := d15) rfl
theorem p16 {l : Nat} {ds : List D} : evP pg (l + 1) 16 ds = evBody [] 3 1 (evSs (pg.gv l) b16) ds := evP_eq (d := d16) rfl
theorem p17 {l : Nat} {ds : List D} : evP pg (l + 1) 17 ds = evBody [3, 4] 3 3 (evSs (pg.gv l) b17) ds := evP_eq (d := d17) rfl
theorem p18 {l : Nat} {ds : List D} : evP pg (l + 1) 18 ds = evBody [] 3 2 (evSs (pg.gv l) b18) ds := evP_eq (d := d18) rfl
theorem p19 {l : Nat} {ds : List D} : evP pg (l + 1) 19 ds = evBody [] 2 2 (evSs (pg.gv l) b19) ds := evP_eq (d := d19) rfl
theorem p20 {l : Nat} {ds : List D} : evP pg (l + 1) 20 ds = evBody [] 1 0 (evSs (pg.gv l) b20) ds := evP_eq (d := d20) rfl
theorem p21 {l : Nat} {ds : List D} : evP pg (l + 1) 21 ds = evBody [1, 2, 3, 4, 5] 1 5 (evSs (pg.gv l) b21) ds := evP_eq (d := d21) rfl
theorem p22 {l : Nat} {ds : List D} : evP pg (l + 1) 22 ds = evBody [2, 3, 4] 2 4 (evSs (pg.gv l) b22) ds := evP_eq (d := d22) rfl
theorem p23 {l : Nat} {ds : List D} : evP pg (l + 1) 23 ds = evBody [] 2 0 (evSs (pg.gv l) b23) ds := evP_eq (d := d23) rfl
theorem p24 {l : Nat} {ds : List D} : evP pg (l + 1) 24 ds = evBody [] 2 2 (evSs (pg.gv l) b24) ds := evP_eq (d := d24) rfl
theorem p25 {l : Nat} {ds : List D} : evP pg (l + 1) 25 ds = evBody [1, 2, 3, 4, 5] 1 5 (evSs (pg.gv l) b25) ds := evP_eq (d := d25) rfl
theorem p26 {l : Nat} {ds : List D} : evP pg (l + 1) 26 ds = evBody [2, 3, 4] 2 4 (evSs (pg.gv l) b26) ds := evP_eq (d := d26) rfl
theorem p27 {l : Nat} {ds : List D} : evP pg (l + 1) 27 ds = evBody [] 3 0 (evSs (pg.gv l) b27) ds := evP_eq (d := d27) rfl
theorem p28 {l : Nat} {ds : List D} : evP pg (l + 1) 28 ds = evBody [] 1 0 (evSs (pg.gv l) b28) ds := evP_eq (d := d28) rfl
theorem p29 {l : Nat} {ds : List D} : evP pg (l + 1) 29 ds = evBody [1] 1 2 (evSs (pg.gv l) b29) ds := evP_eq (d := d29) rfl
theorem p30 {l : Nat} {ds : List D} : evP pg (l + 1) 30 ds = evBody [2, 3, 4] 2 3 (evSs (pg.gv l) b30) ds := evP_eq (d := d30) rfl
theorem p31 {l : Nat} {ds : List D} : evP pg (l + 1) 31 ds = evBody [2, 4, 5, 6, 3] 2 6 (evSs (pg.gv l) b31) ds := evP_eq (d := d31) rfl
theorem p32 {l : Nat} {ds : List D} : evP pg (l + 1) 32 ds = evBody [2, 3, 4, 5, 6, 7] 2 7 (evSs (pg.gv l) b32) ds := evP_eq (d := d32) rfl
theorem p33 {l : Nat} {ds : List D} : evP pg (l + 1) 33 ds = evBody [] 2 1 (evSs (pg.gv l) b33) ds := evP_eq (d := d33) rfl
theorem p34 {l : Nat} {ds : List D} : evP pg (l + 1) 34 ds = evBody [2, 3, 5, 6] 2 5 (evSs (pg.gv l) b34) ds := evP_eq (d := d34) rfl
theorem p35 {l : Nat} {ds : List D} : evP pg (l + 1) 35 ds = evBody [1, 2, 3, 4, 5, 6, 7, 8, 9, 10, 11, 12, 15] 1 15 (evSs (pg.gv l) b35) ds := evP_eq (d := d35) rfl
theorem p36 {l : Nat} {ds : List D} : evP pg (l + 1) 36 ds = evBody [3, 4] 3 4 (evSs (pg.gv l) b36) ds := evP_eq (d := d36) rfl
theorem asm {P : Program} {w : World} {K : PySem.W.Frag} {h : Heap} {mg : Str → Option Value} {fa : Addr} (L : Nat) (X : K.In h) (G : h.Ns mainGlobals mg) (hfa : mg "law" = some (.ref fa))
    (e0 : TopE K "is_integer" (x0 0 default).st (x0 0 default).ps)
    (e1 : TopE K "is_within" (x1 0 default).st (x1 0 default).ps)
    (e2 : TopE K "is_tuple" (x2 0 default).st (x2 0 default).ps)
    (e3 : TopE K "is_lot" (x3 0 default).st (x3 0 default).ps)
    (e4 : TopE K "check_lot" (x4 0 default).st (x4 0 default).ps)
    (e5 : TopE K "space_by" (x5 0 default).st (x5 0 default).ps)
    (e6 : TopE K "is_below" (x6 0 default).st (x6 0 default).ps)
    (e7 : TopE K "above_of" (x7 0 default).st (x7 0 default).ps)
    (e8 : TopE K "is_told" (x8 0 default).st (x8 0 default).ps)
    (e9 : TopE K "check_size" (x9 0 default).st (x9 0 default).ps)
    (e10 : TopE K "sum_by" (x10 0 default).st (x10 0 default).ps)
    (e11 : TopE K "together" (x11 0 default).st (x11 0 default).ps)
    (e12 : TopE K "turned" (x12 0 default).st (x12 0 default).ps)
    (e13 : TopE K "check_told" (x13 0 default).st (x13 0 default).ps)
    (e14 : TopE K "least_of" (x14 0 default).st (x14 0 default).ps)
    (e15 : TopE K "greatest_of" (x15 0 default).st (x15 0 default).ps)
    (e16 : TopE K "is_map" (x16 0 default).st (x16 0 default).ps)
    (e17 : TopE K "keeps" (x17 0 default).st (x17 0 default).ps)
    (e18 : TopE K "is_beneath" (x18 0 default).st (x18 0 default).ps)
    (e19 : TopE K "is_hull" (x19 0 default).st (x19 0 default).ps)
    (e20 : TopE K "hulls" (x20 0 default).st (x20 0 default).ps)
    (e21 : TopE K "hulls_of" (x21 0 default).st (x21 0 default).ps)
    (e22 : TopE K "hull_by" (x22 0 default).st (x22 0 default).ps)
    (e23 : TopE K "hull_for" (x23 0 default).st (x23 0 default).ps)
    (e24 : TopE K "kept_by" (x24 0 default).st (x24 0 default).ps)
    (e25 : TopE K "kernels" (x25 0 default).st (x25 0 default).ps)
    (e26 : TopE K "kernel_by" (x26 0 default).st (x26 0 default).ps)
    (e27 : TopE K "lies_beneath" (x27 0 default).st (x27 0 default).ps)
    (e28 : TopE K "many_hulls" (x28 0 default).st (x28 0 default).ps)
    (e29 : TopE K "_law_hand" (x29 0 default).st (x29 0 default).ps)
    (e30 : TopE K "_law_draw" (x30 0 default).st (x30 0 default).ps)
    (e31 : TopE K "_law_least" (x31 0 default).st (x31 0 default).ps)
    (e32 : TopE K "_law_told" (x32 0 default).st (x32 0 default).ps)
    (e33 : TopE K "_law_behind" (x33 0 default).st (x33 0 default).ps)
    (e34 : TopE K "_law_right" (x34 0 default).st (x34 0 default).ps)
    (e35 : TopE K "law" (x35 0 default).st (x35 0 default).ps)
    (s0 : ClsE K "Space" (x36 0 default).q (x36 0 default).st (x36 0 default).ps ["places", "least"])
    (k0 : ConE K "MOST_PLACES" 12)
    (bl : BltE K BL)
    : ∃ fd : FuncData, (∀ (s : Shared) (v : Value), BindsTo s fd ⟨[v], []⟩ [("script", v)]) ∧ ∀ base : Heap, K.In base → base.Ns mainGlobals mg → FnOk P w K mg base (L2.CX P w) (2 * L) fa fd ["script"] (spL K (evP pg L 35)) := by
  obtain ⟨a0, g0, n0, f0, b0, z0⟩ := e0
  obtain ⟨a1, g1, n1, f1, b1, z1⟩ := e1
  obtain ⟨a2, g2, n2, f2, b2, z2⟩ := e2
  obtain ⟨a3, g3, n3, f3, b3, z3⟩ := e3
  obtain ⟨a4, g4, n4, f4, b4, z4⟩ := e4
  obtain ⟨a5, g5, n5, f5, b5, z5⟩ := e5
  obtain ⟨a6, g6, n6, f6, b6, z6⟩ := e6
  obtain ⟨a7, g7, n7, f7, b7, z7⟩ := e7
  obtain ⟨a8, g8, n8, f8, b8, z8⟩ := e8
  obtain ⟨a9, g9, n9, f9, b9, z9⟩ := e9
  obtain ⟨a10, g10, n10, f10, b10, z10⟩ := e10
  obtain ⟨a11, g11, n11, f11, b11, z11⟩ := e11
  obtain ⟨a12, g12, n12, f12, b12, z12⟩ := e12
  obtain ⟨a13, g13, n13, f13, b13, z13⟩ := e13
  obtain ⟨a14, g14, n14, f14, b14, z14⟩ := e14
  obtain ⟨a15, g15, n15, f15, b15, z15⟩ := e15
  obtain ⟨a16, g16, n16, f16, b16, z16⟩ := e16
  obtain ⟨a17, g17, n17, f17, b17, z17⟩ := e17
  obtain ⟨a18, g18, n18, f18, b18, z18⟩ := e18
  obtain ⟨a19, g19, n19, f19, b19, z19⟩ := e19
  obtain ⟨a20, g20, n20, f20, b20, z20⟩ := e20
  obtain ⟨a21, g21, n21, f21, b21, z21⟩ := e21
  obtain ⟨a22, g22, n22, f22, b22, z22⟩ := e22
  obtain ⟨a23, g23, n23, f23, b23, z23⟩ := e23
  obtain ⟨a24, g24, n24, f24, b24, z24⟩ := e24
  obtain ⟨a25, g25, n25, f25, b25, z25⟩ := e25
  obtain ⟨a26, g26, n26, f26, b26, z26⟩ := e26
  obtain ⟨a27, g27, n27, f27, b27, z27⟩ := e27
  obtain ⟨a28, g28, n28, f28, b28, z28⟩ := e28
  obtain ⟨a29, g29, n29, f29, b29, z29⟩ := e29
  obtain ⟨a30, g30, n30, f30, b30, z30⟩ := e30
  obtain ⟨a31, g31, n31, f31, b31, z31⟩ := e31
  obtain ⟨a32, g32, n32, f32, b32, z32⟩ := e32
  obtain ⟨a33, g33, n33, f33, b33, z33⟩ := e33
  obtain ⟨a34, g34, n34, f34, b34, z34⟩ := e34
  obtain ⟨a35, g35, n35, f35, b35, z35⟩ := e35
  obtain ⟨C0, a36, g36, m0, M0, f36, b36, cl0, na0⟩ := s0
  obtain ⟨t0, k0⟩ := k0
  have ea : fa = a35 := by
    have q := hfa.symm.trans (PySem.W.mg_of X G n35)
    cases q
    rfl
  rw [ea]
  have ok : PgOk w P K mg ⟨K, fun i => [C0].getD i 0, []⟩ pg FT CT CN BL ([x0 a0 g0, x1 a1 g1, x2 a2 g2, x3 a3 g3, x4 a4 g4, x5 a5 g5, x6 a6 g6, x7 a7 g7, x8 a8 g8, x9 a9 g9, x10 a10 g10, x11 a11 g11, x12 a12 g12, x13 a13 g13, x14 a14 g14, x15 a15 g15, x16 a16 g16, x17 a17 g17, x18 a18 g18, x19 a19 g19, x20 a20 g20, x21 a21 g21, x22 a22 g22, x23 a23 g23, x24 a24 g24, x25 a25 g25, x26 a26 g26, x27 a27 g27, x28 a28 g28, x29 a29 g29, x30 a30 g30, x31 a31 g31, x32 a32 g32, x33 a33 g33, x34 a34 g34, x35 a35 g35] ++ [x36 a36 g36]) := pg_mk (Bl := BL) rfl
    ⟨fun c f hf => ?tb⟩ (isOk0 _) (fun x hx => PySem.W.mg_none_of X G (bltE_mem bl x hx)) ?co
    (.cons (c0 _ _) (.cons (c1 _ _) (.cons (c2 _ _) (.cons (c3 _ _) (.cons (c4 _ _) (.cons (c5 _ _) (.cons (c6 _ _) (.cons (c7 _ _) (.cons (c8 _ _) (.cons (c9 _ _) (.cons (c10 _ _) (.cons (c11 _ _) (.cons (c12 _ _) (.cons (c13 _ _) (.cons (c14 _ _) (.cons (c15 _ _) (.cons (c16 _ _) (.cons (c17 _ _) (.cons (c18 _ _) (.cons (c19 _ _) (.cons (c20 _ _) (.cons (c21 _ _) (.cons (c22 _ _) (.cons (c23 _ _) (.cons (c24 _ _) (.cons (c25 _ _) (.cons (c26 _ _) (.cons (c27 _ _) (.cons (c28 _ _) (.cons (c29 _ _) (.cons (c30 _ _) (.cons (c31 _ _) (.cons (c32 _ _) (.cons (c33 _ _) (.cons (c34 _ _) (.cons (c35 _ _) (.cons (c36 _ _) .nil)))))))))))))))))))))))))))))))))))))
    ⟨⟨f0, b0⟩, ⟨f1, b1⟩, ⟨f2, b2⟩, ⟨f3, b3⟩, ⟨f4, b4⟩, ⟨f5, b5⟩, ⟨f6, b6⟩, ⟨f7, b7⟩, ⟨f8, b8⟩, ⟨f9, b9⟩, ⟨f10, b10⟩, ⟨f11, b11⟩, ⟨f12, b12⟩, ⟨f13, b13⟩, ⟨f14, b14⟩, ⟨f15, b15⟩, ⟨f16, b16⟩, ⟨f17, b17⟩, ⟨f18, b18⟩, ⟨f19, b19⟩, ⟨f20, b20⟩, ⟨f21, b21⟩, ⟨f22, b22⟩, ⟨f23, b23⟩, ⟨f24, b24⟩, ⟨f25, b25⟩, ⟨f26, b26⟩, ⟨f27, b27⟩, ⟨f28, b28⟩, ⟨f29, b29⟩, ⟨f30, b30⟩, ⟨f31, b31⟩, ⟨f32, b32⟩, ⟨f33, b33⟩, ⟨f34, b34⟩, ⟨f35, b35⟩, ⟨f36, b36⟩, trivial⟩
    (.cons ⟨PySem.W.mg_of X G n0, rfl⟩ (.cons ⟨PySem.W.mg_of X G n1, rfl⟩ (.cons ⟨PySem.W.mg_of X G n2, rfl⟩ (.cons ⟨PySem.W.mg_of X G n3, rfl⟩ (.cons ⟨PySem.W.mg_of X G n4, rfl⟩ (.cons ⟨PySem.W.mg_of X G n5, rfl⟩ (.cons ⟨PySem.W.mg_of X G n6, rfl⟩ (.cons ⟨PySem.W.mg_of X G n7, rfl⟩ (.cons ⟨PySem.W.mg_of X G n8, rfl⟩ (.cons ⟨PySem.W.mg_of X G n9, rfl⟩ (.cons ⟨PySem.W.mg_of X G n10, rfl⟩ (.cons ⟨PySem.W.mg_of X G n11, rfl⟩ (.cons ⟨PySem.W.mg_of X G n12, rfl⟩ (.cons ⟨PySem.W.mg_of X G n13, rfl⟩ (.cons ⟨PySem.W.mg_of X G n14, rfl⟩ (.cons ⟨PySem.W.mg_of X G n15, rfl⟩ (.cons ⟨PySem.W.mg_of X G n16, rfl⟩ (.cons ⟨PySem.W.mg_of X G n17, rfl⟩ (.cons ⟨PySem.W.mg_of X G n18, rfl⟩ (.cons ⟨PySem.W.mg_of X G n19, rfl⟩ (.cons ⟨PySem.W.mg_of X G n20, rfl⟩ (.cons ⟨PySem.W.mg_of X G n21, rfl⟩ (.cons ⟨PySem.W.mg_of X G n22, rfl⟩ (.cons ⟨PySem.W.mg_of X G n23, rfl⟩ (.cons ⟨PySem.W.mg_of X G n24, rfl⟩ (.cons ⟨PySem.W.mg_of X G n25, rfl⟩ (.cons ⟨PySem.W.mg_of X G n26, rfl⟩ (.cons ⟨PySem.W.mg_of X G n27, rfl⟩ (.cons ⟨PySem.W.mg_of X G n28, rfl⟩ (.cons ⟨PySem.W.mg_of X G n29, rfl⟩ (.cons ⟨PySem.W.mg_of X G n30, rfl⟩ (.cons ⟨PySem.W.mg_of X G n31, rfl⟩ (.cons ⟨PySem.W.mg_of X G n32, rfl⟩ (.cons ⟨PySem.W.mg_of X G n33, rfl⟩ (.cons ⟨PySem.W.mg_of X G n34, rfl⟩ (.cons ⟨PySem.W.mg_of X G n35, rfl⟩ .nil)))))))))))))))))))))))))))))))))))) ?ko
  case tb =>
    match c, hf with
    | 0, hf => exact ⟨cl0, na0 f (List.elem_iff.mp hf)⟩
    | n + 1, hf => cases hf
  case co =>
    intro i x hx
    match i, hx with
    | 0, hx => cases hx; exact ⟨_, PySem.W.mg_of X G k0, ⟨_, rfl⟩⟩
    | n + 1, hx => cases hx
  case ko =>
    intro i x n hx
    match i, hx with
    | 0, hx => cases hx; exact ⟨PySem.W.mg_of X G m0, x36 a36 g36, rfl, M0, rfl⟩
    | n + 1, hx => cases hx
  exact ⟨g35, fun s v => z35 s [v] rfl, fun base _ _ => FnOk.imp (sp' := spL K (evP pg L 35)) (pg_ok ok L 35 (x35 a35 g35) rfl) fun vs H Q E h => (show spL K (evP pg L 35) vs H Q E from h) _⟩
end Bp.K04

namespace Bp.K04
open PySem PySem.Spec PyProof.Rows L2 Bp
def spc (n : Nat) (L : List (List Nat)) : D := .ins false 0 ["places", "least"] [nI n, tII L]
@[simp] theorem fz_spc (n : Nat) (L : List (List Nat)) : (spc n L).fz = true := by simp [spc, D.fz]
@[simp] theorem fld_places (n : Nat) (L : List (List Nat)) : fldD tb (spc n L) "places" = some (nI n) := rfl
@[simp] theorem fld_least (n : Nat) (L : List (List Nat)) : fldD tb (spc n L) "least" = some (tII L) := rfl
@[simp] theorem sh_spc (n : Nat) (L : List (List Nat)) : (spc n L).sh = spc n L := sh_fz _ (fz_spc n L)
@[simp] theorem gv_T (l : Nat) : (pg.gv l).T = tb := rfl
@[simp] theorem gv_I (l : Nat) : (pg.gv l).I = I0 := rfl
@[simp] theorem gv_cf (l : Nat) : (pg.gv l).cf = evP pg l := rfl
@[simp] theorem con0 : con 0 = 12 := rfl
@[simp] theorem gv_con (l : Nat) : (pg.gv l).con = con := rfl
@[simp] theorem gv_ini (l : Nat) : (pg.gv l).ini = ini := rfl
@[simp] theorem isi_int_int (i : Int) : isiS I0 .int [.int i] = some (.bl true) := rfl
@[simp] theorem isi_bl_int (i : Int) : isiS I0 .bl [.int i] = some (.bl false) := rfl
@[simp] theorem isi_int_bl (i : Bool) : isiS I0 .int [.bl i] = some (.bl true) := rfl
@[simp] theorem isi_bl_bl (i : Bool) : isiS I0 .bl [.bl i] = some (.bl true) := rfl
@[simp] theorem isi_tup_tup (xs : List D) : isiS I0 .tup [.tup xs] = some (.bl true) := rfl
@[simp] theorem e_is_integer_i (l : Nat) (i : Int) : evP pg (l + 1) 0 [.int i] = .ok (.bl true) [some (.int i)] := by
  rw [p0]
  refine evBody_eq ?_
  unfold b0
  simp
@[simp] theorem e_is_integer_b (l : Nat) (b : Bool) : evP pg (l + 1) 0 [.bl b] = .ok (.bl false) [some (.bl b)] := by
  rw [p0]
  refine evBody_eq ?_
  unfold b0
  simp
@[simp] theorem e_is_within_i (l : Nat) (i a b : Int) : evP pg (l + 2) 1 [.int i, .int a, .int b] = .ok (.bl (decide (a ≤ i) && decide (i ≤ b))) [some (.int i), some (.int a), some (.int b)] := by
  rw [p1]
  refine evBody_eq ?_
  unfold b1
  simp
@[simp] theorem e_is_within_b (l : Nat) (i : Bool) (a b : Int) : evP pg (l + 2) 1 [.bl i, .int a, .int b] = .ok (.bl false) [some (.bl i), some (.int a), some (.int b)] := by
  rw [p1]
  refine evBody_eq ?_
  unfold b1
  simp
@[simp] theorem e_is_tuple_t (l : Nat) (xs : List D) (h : fzs xs = true) (a b : Int) : evP pg (l + 1) 2 [.tup xs, .int a, .int b] = .ok (.bl (decide (a ≤ (xs.length : Int)) && decide ((xs.length : Int) ≤ b))) [some (.tup xs), some (.int a), some (.int b)] := by
  rw [p2]
  refine evBody_eq ?_
  unfold b2
  simp [h]
@[simp] theorem is_within_n (l x : Nat) (a b : Int) : evP pg (l + 2) 1 [nI x, .int a, .int b] = .ok (.bl (decide (a ≤ (x : Int)) && decide ((x : Int) ≤ b))) [some (nI x), some (.int a), some (.int b)] := e_is_within_i l x a b
@[simp] theorem is_tuple_l (l : Nat) (xs : List Nat) (a : Int) (n : Nat) : evP pg (l + 1) 2 [tI xs, .int a, nI n] = .ok (.bl (decide (a ≤ (xs.length : Int)) && decide (xs.length ≤ n))) [some (tI xs), some (.int a), some (nI n)] := by
  have := e_is_tuple_t l (xs.map nI) (fzs_nI xs) a n
  rw [List.length_map] at this
  rw [show (decide (xs.length ≤ n)) = decide ((xs.length : Int) ≤ (n : Int)) from decide_eq_decide.mpr Int.ofNat_le.symm]
  exact this
@[simp] theorem is_tuple_L (l : Nat) (L : List (List Nat)) (a b : Nat) : evP pg (l + 1) 2 [tII L, nI a, nI b] = .ok (.bl (decide (a ≤ L.length) && decide (L.length ≤ b))) [some (tII L), some (nI a), some (nI b)] := by
  have := e_is_tuple_t l (L.map tI) (fzs_tI L) a b
  rw [List.length_map] at this
  rw [show (decide (L.length ≤ b)) = decide ((L.length : Int) ≤ (b : Int)) from decide_eq_decide.mpr Int.ofNat_le.symm, show (decide (a ≤ L.length)) = decide ((a : Int) ≤ (L.length : Int)) from decide_eq_decide.mpr Int.ofNat_le.symm]
  exact this
theorem IsLot.len {n : Nat} {l : List Nat} (h : IsLot n l) : l.length ≤ n := nodup_len_n (h.1.imp fun h => Nat.ne_of_lt h) h.2
theorem big {n : Nat} (hn : n ≤ 12) : n ≤ 4096 := by omega
theorem is_below_sp {l n : Nat} {L : List (List Nat)} (s : Sp n L) {x y : Nat} (hy : y < n) : evP pg (l + 1) 6 [spc n L, nI x, nI y] = .ok (.bl (bel L x y)) [some (spc n L), some (nI x), some (nI y)] := by
  rw [p6]
  refine evBody_eq ?_
  unfold b6
  have hs := sub_sp s hy
  simp -implicitDefEqProofs [-List.getD_eq_getElem?_getD, hs, bel]
theorem lots_len {n : Nat} (hn : n ≤ 12) {ks : List (List Nat)} (hd : ks.Nodup) (h : ∀ x ∈ ks, IsLot n x) : ks.length ≤ 4096 := by
  have pw : 2 ^ n ≤ 2 ^ 12 := Nat.pow_le_pow_right (by omega) hn
  have := nodup_len_le hd fun x hx => mem_lotsU.mpr (h x hx)
  rw [length_lotsU] at this
  omega
/-- of numbers -/
def lotB (n : Nat) (l : List Nat) : Bool := decide (l.length ≤ n) && l.all (fun x => decide (x < n)) && decide (l = asc n fun x => decide (x ∈ l))
theorem within_lt {x n : Nat} : (decide (0 ≤ (x : Int)) && decide ((x : Int) ≤ (n : Int) - 1)) = decide (x < n) := by
  have h : (0 : Int) ≤ (x : Int) := Int.natCast_nonneg x
  rw [decide_eq_true h, Bool.true_and]
  exact decide_eq_decide.mpr (by omega)
theorem is_lot_n {n : Nat} (hn : n ≤ 12) (k : Nat) (l : List Nat) : evP pg (k + 3) 3 [nI n, tI l] = .ok (.bl (lotB n l)) [some (nI n), some (tI l)] := by
  rw [p3]
  refine evBody_eq ?_
  unfold b3
  simp -implicitDefEqProofs [-List.getD_eq_getElem?_getD]
  by_cases h1 : l.length ≤ n
  · rw [if_pos h1]
    refine wp_lc nI (fun _ => true) (fun x => .bl (decide (x < n))) l (.of (by omega)) ?_
    simp -implicitDefEqProofs [-List.getD_eq_getElem?_getD]
    refine ⟨fun x hx => ?_, ?_⟩
    · unfold LcAt
      simp -implicitDefEqProofs [-List.getD_eq_getElem?_getD]
      omega
    · by_cases h2 : ∀ x ∈ l, x < n
      · rw [if_pos h2]
        have hd : (insKs (fun x => x) l []).Nodup := nodup_insKs (List.nodup_nil)
        have hm : ∀ x, x ∈ insKs (fun x => x) l [] ↔ x ∈ l := fun x => by rw [mem_insKs]; simp
        have hso := sorted_dN (o := true) (n := n) hd (fun x hx => h2 x ((hm x).mp hx)) (by omega)
        rw [asc_congr (q := fun x => decide (x ∈ l)) fun x _ => decide_eq_decide.mpr (hm x)] at hso
        refine wp_dc nI (fun _ => true) (fun x => x) l (.of (by omega)) ?_
        simp -implicitDefEqProofs [-List.getD_eq_getElem?_getD, hso, lotB, h1]
        refine ⟨fun x hx => ?_, ?_⟩
        · unfold DcAt
          simp -implicitDefEqProofs [-List.getD_eq_getElem?_getD, tru]
        · exact fun q x hx => h2 x hx
      · rw [if_neg h2]
        have : (l.all fun x => decide (x < n)) = false := by
          rw [List.all_eq_false]
          obtain ⟨x, hx⟩ := Classical.not_forall.mp h2
          obtain ⟨hx, hy⟩ := Classical.not_imp.mp hx
          exact ⟨x, hx, by simpa using hy⟩
        unfold lotB
        rw [this]
        simp
  · rw [if_neg h1]
    simp -implicitDefEqProofs [-List.getD_eq_getElem?_getD, lotB, h1]
theorem lotB_iff {n : Nat} {l : List Nat} : lotB n l = true ↔ IsLot n l := by
  unfold lotB
  simp only [Bool.and_eq_true, decide_eq_true_eq, List.all_eq_true]
  constructor
  · rintro ⟨⟨h1, h2⟩, h3⟩
    exact ⟨by rw [h3]; exact asc_srt, h2⟩
  · intro h
    exact ⟨⟨IsLot.len h, h.2⟩, (asc_self h.1 h.2).symm⟩
@[simp] theorem eqD_iN {a b : Nat} : eqD (.int (a : Int)) (nI b) = decide (a = b) := eqD_nI a b
theorem is_told_sp {k n : Nat} {L : List (List Nat)} (hL : L.length = n) (hn : n ≤ 12) : evP pg (k + 1) 8 [spc n L] = .ok (.bl (decide (cntD L = n))) [some (spc n L)] := by
  rw [p8]
  refine evBody_eq ?_
  unfold b8
  simp -implicitDefEqProofs [-List.getD_eq_getElem?_getD]
  refine wp_dct tI (fun _ => true) (fun l => l) L (.of (by omega)) ?_
  simp -implicitDefEqProofs [-List.getD_eq_getElem?_getD]
  refine ⟨fun l hl => ?_, by rfl⟩
  unfold DcAt
  simp -implicitDefEqProofs [-List.getD_eq_getElem?_getD, tru]
theorem enD_tI (L : List (List Nat)) : enD (L.map tI) = (List.range L.length).map fun i => D.tup [nI i, tI (L.getD i [])] := by
  unfold enD
  refine List.ext_getElem (by simp) fun i h1 h2 => ?_
  rw [List.length_mapIdx, List.length_map] at h1
  simp [List.getD_eq_getElem?_getD, h1, nI]
theorem init_sp {k n : Nat} {L : List (List Nat)} (s : Sp n L) (hn : n ≤ 12) : ∃ ps, evP pg (k + 4) 36 [.ins true 0 [] [], nI n, tII L] = .ok .non (some (.ins true 0 ["places", "least"] [nI n, tII L]) :: ps) := by
  refine ⟨[some (nI n), some (tII L)], ?_⟩
  rw [p36]
  refine evBody_eq ?_
  unfold b36
  have hlen := s.len
  have hn' : (n : Int) ≤ 12 := by omega
  simp -implicitDefEqProofs [-List.getD_eq_getElem?_getD, hn', hlen, enD_tI]
  refine wp_for (fun i => D.tup [nI i, tI (L.getD i [])]) (fun _ e => ∃ a b, e = [some (.ins true 0 [] []), some (nI n), some (tII L), a, b, none, none]) (List.range n) ?_ ⟨_, _, rfl⟩ ?_
  · rintro p i q e hp ⟨a, b, rfl⟩
    have hi : i < n := List.mem_range.mp (by rw [hp]; simp)
    have hl := is_lot_n hn k (L.getD i [])
    rw [lotB_iff.mpr ⟨s.srt i, s.rng i⟩] at hl
    have hr := s.rfl i hi
    simp -implicitDefEqProofs [-List.getD_eq_getElem?_getD, hl, hr]
  · rintro e ⟨a, b, rfl⟩
    simp -implicitDefEqProofs [-List.getD_eq_getElem?_getD, enD_tI, hlen]
    refine wp_for (fun i => D.tup [nI i, tI (L.getD i [])]) (fun _ e => ∃ a b, e = [some (.ins true 0 [] []), some (nI n), some (tII L), a, b, none, none]) (List.range n) ?_ ⟨_, _, rfl⟩ ?_
    · rintro p i q e hp ⟨a, b, rfl⟩
      have hi : i < n := List.mem_range.mp (by rw [hp]; simp)
      simp -implicitDefEqProofs [-List.getD_eq_getElem?_getD]
      refine wp_lc2 nI (fun _ => true) nI (fun x => L.getD x []) (fun _ _ => true) (fun _ z => .bl (decide (z ∈ L.getD i []))) (L.getD i []) 12 ⟨by have := row_len s i; omega⟩ (fun x _ => by have := row_len s x; omega) ?_
      simp -implicitDefEqProofs [-List.getD_eq_getElem?_getD]
      refine ⟨fun x hx => ?_, ?_⟩
      · have hs := sub_sp s (s.rng _ _ hx)
        simp -implicitDefEqProofs [-List.getD_eq_getElem?_getD, hs]
        intro z hz
        unfold LcAt
        simp -implicitDefEqProofs [-List.getD_eq_getElem?_getD]
      · have e : (List.flatMap (fun x => List.map (fun z => D.bl (decide (z ∈ L.getD i []))) (L.getD x [])) (L.getD i [])) = ((L.getD i []).flatMap fun x => L.getD x []).map fun z => D.bl (decide (z ∈ L.getD i [])) := by rw [List.map_flatMap]
        rw [e]
        simp -implicitDefEqProofs [-List.getD_eq_getElem?_getD]
        intro x hx z hz
        exact s.trs _ _ _ hz hx
    · rintro e ⟨a, b, rfl⟩
      simp -implicitDefEqProofs [-List.getD_eq_getElem?_getD]
      decide
@[simp] theorem ini0 : ini 0 = 36 := rfl
theorem sh_ins (n : Nat) (L : List (List Nat)) : (D.ins true 0 ["places", "least"] [nI n, tII L]).sh = spc n L := by
  have a := sh_tII L
  have b := sh_nI n
  unfold spc
  simp only [D.sh, shs, a, b]
end Bp.K04

namespace Bp.K04
open PySem PySem.Spec PyProof.Rows L2 Bp
theorem draw_i (k : Nat) (h : Hd) {j : Int} (h0 : 0 < j) (h1 : j ≤ 4096) : ∃ r h', 0 ≤ r ∧ r < j ∧ evP pg (k + 1) 30 [hd h, .int j] = .ok (.int r) [some (hd h'), some (.int j)] := by
  have key : wp (evP pg (k + 1) 30 [hd h, .int j]) fun d e => ∃ r h', 0 ≤ r ∧ r < j ∧ d = .int r ∧ e = [some (hd h'), some (.int j)] := by
    rw [p30]
    refine wp_body ?_
    unfold b30
    rw [evSs_cs, wp_seq]
    refine wp_mono (K := fun c e' => c = .nx ∧ ∃ h' x2, e' = [some (hd h'), some (.int j), x2, none, none]) ?_ ?_
    · by_cases e1 : h.b = 0
      · by_cases e2 : h.a < (h.cs.length : Int)
        · obtain ⟨c, hc⟩ := hd_cell h.ha e2
          have m1 : mulOk h.c 40692 = true := mulOk_r (by decide) (by decide)
          have m2 : mulOk c 9 = true := mulOk_r (by decide) (by decide)
          by_cases e3 : (1000000000000000000 : Int) ≤ c
          · simp -implicitDefEqProofs [-List.getD_eq_getElem?_getD, e1, e2, hc, st1 (h := h) (x := h.a + 1) (by have := h.ha; omega), pow1018, m1, m2, e3]
            exact ⟨_, rfl⟩
          · simp -implicitDefEqProofs [-List.getD_eq_getElem?_getD, e1, e2, hc, st1 (h := h) (x := h.a + 1) (by have := h.ha; omega), pow1018, m1, m2, e3]
            exact ⟨_, rfl⟩
        · simp -implicitDefEqProofs [-List.getD_eq_getElem?_getD, e1, e2]
          exact ⟨h, rfl⟩
      · simp -implicitDefEqProofs [-List.getD_eq_getElem?_getD, e1]
        exact ⟨h, rfl⟩
    · rintro c e' ⟨rfl, h', x2, rfl⟩
      dsimp only
      have j1 : j ≠ 0 := by omega
      have j2 : j.natAbs < 1073741824 := by omega
      by_cases e1 : 0 < h'.b
      · simp -implicitDefEqProofs [-List.getD_eq_getElem?_getD, e1, j1, j2]
        obtain ⟨a, b⟩ := fmod_lt h'.b h0
        exact ⟨_, a, b, rfl, _, rfl⟩
      · have m1 : mulOk 7687 (h'.d + 1) = true := mulOk_l (by decide) (by decide)
        have m2 : ∀ x, mulOk x 48271 = true := fun x => mulOk_r (by decide) (by decide)
        have m3 : ∀ x y, mulOk (Int.fmod x 2147483647) y = true := fun x y => mulOk_m (by decide) (by decide)
        have m4 : ∀ x y, mulOk (Int.fmod x 2147483399) y = true := fun x y => mulOk_m (by decide) (by decide)
        have m5 : ∀ x y, mulOk (Int.fmod x 2147483629) y = true := fun x y => mulOk_m (by decide) (by decide)
        simp -implicitDefEqProofs [-List.getD_eq_getElem?_getD, e1, j1, j2, m1, m2, m3, m4, m5]
        exact ⟨_, (fmod_lt _ h0).1, (fmod_lt _ h0).2, rfl, _, rfl⟩
  obtain ⟨d, e, h1, r, h', a, b, rfl, rfl⟩ := wp_ex key
  exact ⟨r, h', a, b, h1⟩
theorem draw_n (k : Nat) (h : Hd) {m : Nat} (h0 : 0 < m) (h1 : m ≤ 4096) : ∃ r h', r < m ∧ evP pg (k + 1) 30 [hd h, nI m] = .ok (nI r) [some (hd h'), some (nI m)] := by
  obtain ⟨r, h', a, b, e⟩ := draw_i k h (j := (m : Int)) (by omega) (by omega)
  obtain ⟨n, rfl⟩ := Int.eq_ofNat_of_zero_le a
  exact ⟨n, h', by omega, e⟩
theorem draw_k (k : Nat) (h : Hd) {j : Int} (h0 : 0 < j) (h1 : j ≤ 4096) : ∃ (r : Nat) (h' : Hd), (r : Int) < j ∧ evP pg (k + 1) 30 [hd h, .int j] = .ok (nI r) [some (hd h'), some (.int j)] := by
  obtain ⟨r, h', a, b, e⟩ := draw_i k h h0 h1
  obtain ⟨n, rfl⟩ := Int.eq_ofNat_of_zero_le a
  exact ⟨n, h', by omega, e⟩
theorem hand_ok (k : Nat) {ns : List Int} (hl : ns.length ≤ 63) {d : D} (hd' : d = .scr (ns.map D.int) ∨ d = .lst false (ns.map D.int)) : ∃ h, evP pg (k + 1) 29 [d] = .ok (hd h) [some d] := by
  have key : wp (evP pg (k + 1) 29 [d]) fun r e => (∃ h, r = hd h) ∧ e = [some d] := by
    rw [p29]
    refine wp_body ?_
    unfold b29
    simp -implicitDefEqProofs [-List.getD_eq_getElem?_getD]
    obtain ⟨ms, hm, hs⟩ := sliH_any (ns := ns) (j := 63) hd'
    refine wp_lc D.int (fun _ => true) (fun x => .int (if x < 0 then -x else x)) ms (.of (by omega)) ?_
    simp -implicitDefEqProofs [-List.getD_eq_getElem?_getD, hs]
    refine ⟨fun x hx => ?_, ?_⟩
    · unfold LcAt
      simp -implicitDefEqProofs [-List.getD_eq_getElem?_getD]
    · rw [show (List.map (fun x : Int => D.int (if x < 0 then -x else x)) ms) = (ms.map fun x : Int => if x < 0 then -x else x).map D.int from by rw [List.map_map]; rfl]
      have m1 : ∀ x, mulOk 13 x = true := fun x => mulOk_l (by decide) (by decide)
      generalize (ms.map fun x : Int => if x < 0 then -x else x) = m2
      simp -implicitDefEqProofs [-List.getD_eq_getElem?_getD, m1]
      exact ⟨⟨_, 0, by decide, 0, _, 0⟩, rfl⟩
  obtain ⟨r, e, h1, ⟨h', rfl⟩, rfl⟩ := wp_ex key
  exact ⟨h', h1⟩
end Bp.K04

namespace Bp.K04
open PySem PySem.Spec PyProof.Rows L2 Bp
theorem Ok.rowlen {n : Nat} {U : List (List Nat)} (o : Ok n U) (y : Nat) : (U.getD y []).length ≤ n := nodup_len_n (o.nd y) fun x hx => o.rng y x hx
theorem law_least_sp {k n : Nat} (hn : n ≤ 12) {ps : List (Nat × Nat)} (hp : ∀ p ∈ ps, p.1 < n ∧ p.2 < n) : evP pg (k + 1) 31 [nI n, .lst false (ps.map pI)] = .ok (tII (lleast n ps)) [some (nI n), some (.lst false (ps.map pI))] := by
  have o1 := ok_lone (ps := ps) fun p h => (hp p h).2
  have sm : ∀ {U : List (List Nat)}, Ok n U → ∀ x y, Small ((U.getD x []).length + (U.getD y []).length) := fun o x y => ⟨by have := Ok.rowlen o x; have := Ok.rowlen o y; omega⟩
  rw [p31]
  refine evBody_eq ?_
  unfold b31
  simp -implicitDefEqProofs [-List.getD_eq_getElem?_getD]
  refine wp_lc nI (fun _ => true) (fun x => dN true [x]) (List.range n) (.rng hn) ?_
  simp -implicitDefEqProofs [-List.getD_eq_getElem?_getD, wp_rngS (big hn)]
  refine ⟨fun x hx => ?_, ?_⟩
  · unfold LcAt
    simp -implicitDefEqProofs [-List.getD_eq_getElem?_getD]
    rfl
  · rw [show D.lst true (List.map (fun x => dN true [x]) (List.range n)) = lU true (least0 n) from by unfold lU least0; rw [List.map_map]; rfl]
    refine wp_rangeFor (fun t e => (Ok n ((List.range t).foldl (fun U _ => ps.foldl lpair U) (least0 n))) ∧ ∃ a b c, e = [some (nI n), some (.lst false (ps.map pI)), some (lU true ((List.range t).foldl (fun U _ => ps.foldl lpair U) (least0 n))), none, a, b, c, none]) ?_ ⟨ok0, _, _, _, rfl⟩ ?_
    · rintro t e ht ⟨o, a, b, c, rfl⟩
      rw [List.range_succ, List.foldl_append, List.foldl_cons, List.foldl_nil]
      generalize ((List.range t).foldl (fun U _ => ps.foldl lpair U) (least0 n)) = U0 at o
      simp -implicitDefEqProofs [-List.getD_eq_getElem?_getD, fz_lP]
      refine wp_foldFor pI lpair (fun U e => Ok n U ∧ ∃ b c, e = [some (nI n), some (.lst false (ps.map pI)), some (lU true U), none, some (nI t), b, c, none]) ps U0 _ ?_ ⟨o, _, _, rfl⟩ ?_
      · rintro p U e hpp ⟨o, b, c, rfl⟩
        have h1 : p.1 < U.length := by rw [o.len]; exact (hp p hpp).1
        have h2 : p.2 < U.length := by rw [o.len]; exact (hp p hpp).2
        unfold pI
        simp -implicitDefEqProofs [-List.getD_eq_getElem?_getD, -wp_mthC]
        refine wp_updU (U := U) (high := p.2) (low := p.1) rfl rfl rfl h2 h1 (sm o _ _) ?_
        simp -implicitDefEqProofs [-List.getD_eq_getElem?_getD]
        exact ⟨o.ins (hp p hpp).2, rfl⟩
      · rintro e ⟨o, b, c, rfl⟩
        exact ⟨o, _, _, _, rfl⟩
    · rintro e ⟨o, a, b, c, rfl⟩
      rw [show ((List.range n).foldl (fun U _ => ps.foldl lpair U) (least0 n)) = lone n ps from rfl] at o ⊢
      simp -implicitDefEqProofs [-List.getD_eq_getElem?_getD, wp_rngS (big hn)]
      refine wp_rangeFor (fun t e => (Mid n (lone n ps) ((List.range t).foldl (fun U _ => lturn n U) (lone n ps))) ∧ ∃ a' a b c, e = [some (nI n), some (.lst false (ps.map pI)), some (lU true ((List.range t).foldl (fun U _ => lturn n U) (lone n ps))), a', a, b, c, none]) ?_ ⟨(Mid.turns o 0).1, _, _, _, _, rfl⟩ ?_
      · rintro t e ht ⟨o, a', a, b, c, rfl⟩
        rw [List.range_succ, List.foldl_append, List.foldl_cons, List.foldl_nil]
        generalize ((List.range t).foldl (fun U _ => lturn n U) (lone n ps)) = U1 at o
        simp -implicitDefEqProofs [-List.getD_eq_getElem?_getD, wp_rngS (big hn)]
        refine wp_foldFor nI Bp.lat (fun U e => Mid n (lone n ps) U ∧ ∃ a b c, e = [some (nI n), some (.lst false (ps.map pI)), some (lU true U), a, some (nI t), b, c, none]) (List.range n) U1 _ ?_ ⟨o, _, _, _, rfl⟩ ?_
        · rintro y U e hy ⟨m, a, b, c, rfl⟩
          have hy' := List.mem_range.mp hy
          have hyl : y < U.length := by rw [m.ok.len]; exact hy'
          simp -implicitDefEqProofs [-List.getD_eq_getElem?_getD, sub_lU hyl, lstD_dN]
          refine wp_foldFor nI (fun U low => ins1 U low y) (fun U' e => (Mid n (lone n ps) U' ∧ Gr U U') ∧ ∃ b c, e = [some (nI n), some (.lst false (ps.map pI)), some (lU true U'), some (nI y), some (nI t), b, c, none]) (U.getD y []) U _ ?_ ⟨⟨m, fun _ _ h => h⟩, _, _, rfl⟩ ?_
          · rintro x U' e hx ⟨⟨m', g⟩, b, c, rfl⟩
            have h2 : y < U'.length := by rw [m'.ok.len]; exact hy'
            have h1 : x < U'.length := by rw [m'.ok.len]; exact m.ok.rng _ _ hx
            simp -implicitDefEqProofs [-List.getD_eq_getElem?_getD, -wp_mthC]
            refine wp_updU (U := U') (high := y) (low := x) rfl rfl rfl h2 h1 (sm m'.ok _ _) ?_
            obtain ⟨m2, g2⟩ := m'.ins hy' (g _ _ hx)
            simp -implicitDefEqProofs [-List.getD_eq_getElem?_getD]
            exact ⟨m2, g.trans g2⟩
          · rintro e ⟨⟨m', g⟩, b, c, rfl⟩
            exact ⟨m', _, _, _, rfl⟩
        · rintro e ⟨m, a, b, c, rfl⟩
          exact ⟨m, _, _, _, _, rfl⟩
      · rintro e ⟨m, a', a, b, c, rfl⟩
        rw [show ((List.range n).foldl (fun U _ => lturn n U) (lone n ps)) = lend n (lone n ps) from rfl] at m ⊢
        simp -implicitDefEqProofs [-List.getD_eq_getElem?_getD]
        refine wp_lc (dN false) (fun _ => true) (fun row => tI (asc n fun x => decide (x ∈ row))) (lend n (lone n ps)) (.of (by rw [m.ok.len]; omega)) ?_
        simp -implicitDefEqProofs [-List.getD_eq_getElem?_getD, sh_lU, seqO_lU]
        refine ⟨fun row hrow => ?_, ?_⟩
        · unfold LcAt
          obtain ⟨i, hi, rfl⟩ := List.getElem_of_mem hrow
          have e1 : (lend n (lone n ps)).getD i [] = (lend n (lone n ps))[i] := by rw [List.getD_eq_getElem?_getD, List.getElem?_eq_getElem hi]; rfl
          have nd := m.ok.nd i
          have rg := m.ok.rng i
          rw [e1] at nd rg
          simp -implicitDefEqProofs [-List.getD_eq_getElem?_getD, sorted_dN (o := false) (n := n) nd rg (by omega)]
        · rw [show (List.map (fun row => tI (asc n fun x => decide (x ∈ row))) (lend n (lone n ps))) = (lleast n ps).map tI from by unfold lleast; rw [List.map_map]; rfl]
          simp -implicitDefEqProofs [-List.getD_eq_getElem?_getD]
end Bp.K04

namespace Bp.K04
open PySem PySem.Spec PyProof.Rows L2 Bp
/-- told: no two places of one lot -/
structure Tp (n : Nat) (L : List (List Nat)) : Prop where
  s : Sp n L
  a : Anti L
  hn : n ≤ 12
theorem Tp.cnt {n : Nat} {L : List (List Nat)} (t : Tp n L) : cntD L = n := by
  unfold cntD
  rw [insKs_nodup (ks := []) (by simpa using anti_nodup t.s t.a), List.nil_append, t.s.len]
theorem check_told_sp {k n : Nat} {L : List (List Nat)} (t : Tp n L) : evP pg (k + 2) 13 [spc n L] = .ok .non [some (spc n L)] := by
  rw [p13]
  refine evBody_eq ?_
  unfold b13
  have := is_told_sp (k := k) t.s.len t.hn
  rw [t.cnt] at this
  simp -implicitDefEqProofs [-List.getD_eq_getElem?_getD, this]
theorem check_lot_sp {k n : Nat} {L : List (List Nat)} (t : Tp n L) {lot : List Nat} (hl : IsLot n lot) : evP pg (k + 4) 4 [spc n L, tI lot] = .ok .non [some (spc n L), some (tI lot)] := by
  rw [p4]
  refine evBody_eq ?_
  unfold b4
  have := is_lot_n t.hn k lot
  rw [lotB_iff.mpr hl] at this
  simp -implicitDefEqProofs [-List.getD_eq_getElem?_getD, this]
theorem above_of_sp {k n : Nat} {L : List (List Nat)} (s : Sp n L) (hn : n ≤ 12) {x : Nat} : evP pg (k + 1) 7 [spc n L, nI x] = .ok (tI (asc n fun y => bel L x y)) [some (spc n L), some (nI x)] := by
  rw [p7]
  refine evBody_eq ?_
  unfold b7
  simp -implicitDefEqProofs [-List.getD_eq_getElem?_getD]
  refine wp_lc nI (fun y => bel L x y) nI (List.range n) (.rng hn) ?_
  simp -implicitDefEqProofs [-List.getD_eq_getElem?_getD, wp_rngS (big hn)]
  refine ⟨fun y hy => ?_, by rfl⟩
  unfold LcAt
  simp -implicitDefEqProofs [-List.getD_eq_getElem?_getD, sub_sp s hy, bel]
def lI (r : List Nat) : D := .lst false (r.map nI)
theorem fzs_lI (R : List (List Nat)) : fzs (R.map lI) = true := fzs_all fun d hd => by
  obtain ⟨r, _, rfl⟩ := List.mem_map.mp hd
  exact fz_lN
theorem seqO_lI' (R : List (List Nat)) : seqO (.lst false (R.map lI)) = some (R.map lI) := if_pos (fzs_lI R)
theorem sortedD_self {o : Bool} {r : List Nat} (hs : r.Pairwise (· < ·)) (hl : r.length ≤ 16777216) : sortedD (.lst o (r.map nI)) = some (.lst true (r.map nI)) := by
  show sortL _ = _
  rw [sortL_nI hl, sort_nI (m := r) (hs.imp fun h => Nat.ne_of_lt h) (hs.imp fun h => Nat.ne_of_lt h) (hs.imp fun h => Nat.le_of_lt h) fun x => Iff.rfl]
theorem row_srt {n : Nat} {M : List (List Nat)} (s : Sp n M) {r : List Nat} (hr : r ∈ M) : r.Pairwise (· < ·) ∧ r.length ≤ n := by
  obtain ⟨i, hi, rfl⟩ := List.getElem_of_mem hr
  have e : M.getD i [] = M[i] := by rw [List.getD_eq_getElem?_getD, List.getElem?_eq_getElem hi]; rfl
  rw [← e]
  exact ⟨s.srt i, row_len s i⟩
theorem space_by_sp {k n : Nat} {M : List (List Nat)} (s : Sp n M) (hn : n ≤ 12) : evP pg (k + 5) 5 [.lst false (M.map lI)] = .ok (spc n M) [some (.lst false (M.map lI))] := by
  obtain ⟨ps, hi⟩ := init_sp (k := k) s hn
  have hl := s.len
  rw [p5]
  refine evBody_eq ?_
  unfold b5
  simp -implicitDefEqProofs [-List.getD_eq_getElem?_getD]
  refine wp_lc lI (fun _ => true) tI M (.of (by omega)) ?_
  simp -implicitDefEqProofs [-List.getD_eq_getElem?_getD, seqO_lI']
  have hf : (D.lst false (M.map lI)).fz = true := by simp [D.fz, fzs_lI]
  refine ⟨hf, fun r hr => ?_, ?_⟩
  · unfold LcAt
    obtain ⟨h1, h2⟩ := row_srt s hr
    simp -implicitDefEqProofs [-List.getD_eq_getElem?_getD]
    unfold lI
    simp -implicitDefEqProofs [-List.getD_eq_getElem?_getD, sortedD_self h1 (by omega)]
  · have e : (D.int (M.length : Int)) = nI n := by rw [hl]; rfl
    rw [e, hi]
    simp -implicitDefEqProofs [-List.getD_eq_getElem?_getD, sh_ins]
theorem sh_rows {R : List (List Nat)} : (D.lst true (R.map fun r => D.lst true (r.map nI))).sh = .lst false (R.map lI) := by
  show D.lst false (shs _) = _
  rw [shs_map]
  congr 1
  exact List.map_congr_left fun r _ => sh_lN
theorem turned_sp {k n : Nat} {L : List (List Nat)} (s : Sp n L) (hn : n ≤ 12) : evP pg (k + 6) 12 [spc n L] = .ok (spc n (opL n L)) [some (spc n L)] := by
  rw [p12]
  refine evBody_eq ?_
  unfold b12
  simp -implicitDefEqProofs [-List.getD_eq_getElem?_getD]
  refine wp_lc nI (fun _ => true) (fun x => .lst true ((asc n fun y => bel L x y).map nI)) (List.range n) (.rng hn) ?_
  simp -implicitDefEqProofs [-List.getD_eq_getElem?_getD, wp_rngS (big hn)]
  refine ⟨fun x hx => ?_, ?_⟩
  · unfold LcAt
    simp -implicitDefEqProofs [-List.getD_eq_getElem?_getD, above_of_sp (k := k + 4) s hn]
  · rw [show ((List.range n).map fun x => D.lst true ((asc n fun y => bel L x y).map nI)) = (opL n L).map fun r => D.lst true (r.map nI) from by unfold opL; rw [List.map_map]; rfl, sh_rows, space_by_sp (k := k) (sp_op s) hn]
    simp -implicitDefEqProofs [-List.getD_eq_getElem?_getD]
end Bp.K04

namespace Bp.K04
open PySem PySem.Spec PyProof.Rows L2 Bp
theorem sum_by_sp {k n m : Nat} {L M : List (List Nat)} (s : Sp n L) (t : Sp m M) (h : n + m ≤ 12) : evP pg (k + 6) 10 [spc n L, spc m M] = .ok (spc (n + m) (sumL n L M)) [some (spc n L), some (spc m M)] := by
  rw [p10]
  refine evBody_eq ?_
  unfold b10
  have hl := s.len
  have hm := t.len
  simp -implicitDefEqProofs [-List.getD_eq_getElem?_getD]
  refine wp_lc tI (fun _ => true) (fun r => .lst true (r.map nI)) L (.of (by omega)) ?_
  simp -implicitDefEqProofs [-List.getD_eq_getElem?_getD]
  refine ⟨fun r hr => ?_, ?_⟩
  · unfold LcAt
    simp -implicitDefEqProofs [-List.getD_eq_getElem?_getD]
  · rw [sh_rows]
    refine wp_lc tI (fun _ => true) (fun r => lI (shf n r)) M (.of (by omega)) ?_
    simp -implicitDefEqProofs [-List.getD_eq_getElem?_getD]
    refine ⟨fun r hr => ?_, ?_⟩
    · unfold LcAt
      obtain ⟨_, h2⟩ := row_srt t hr
      simp -implicitDefEqProofs [-List.getD_eq_getElem?_getD]
      refine wp_lc nI (fun _ => true) (fun x => nI (x + n)) r (.of (by omega)) ?_
      simp -implicitDefEqProofs [-List.getD_eq_getElem?_getD]
      refine ⟨fun x hx => ?_, ?_⟩
      · unfold LcAt
        simp -implicitDefEqProofs [-List.getD_eq_getElem?_getD, addN_N]
      · rw [show (r.map fun x => nI (x + n)) = (shf n r).map nI from by unfold shf; rw [List.map_map]; rfl]
        unfold lI
        simp -implicitDefEqProofs [-List.getD_eq_getElem?_getD]
    · rw [show (M.map fun r => lI (shf n r)) = (M.map (shf n)).map lI from by rw [List.map_map]; rfl, add_lst (fzs_lI _) (fzs_lI _) (by simp only [List.length_map]; omega), onO_some, ← List.map_append,
        show (D.lst true ((L ++ M.map (shf n)).map lI)).sh = .lst false ((sumL n L M).map lI) from sh_lst true (fzs_lI _), space_by_sp (k := k) (sp_sum s t) h]
      simp -implicitDefEqProofs [-List.getD_eq_getElem?_getD]
theorem together_sp {k n m : Nat} {L M : List (List Nat)} (s : Sp n L) (t : Sp m M) (h : n + m ≤ 12) : evP pg (k + 7) 11 [spc n L, spc m M] = .ok (spc (n + m) (sumL n L M)) [some (spc n L), some (spc m M)] := by
  have hc : evP pg (k + 6) 9 [nI (n + m)] = .ok .non [some (nI (n + m))] := by
    rw [p9]
    refine evBody_eq ?_
    unfold b9
    have : ¬ (12 : Int) < ((n + m : Nat) : Int) := by omega
    simp -implicitDefEqProofs [-List.getD_eq_getElem?_getD]
    omega
  rw [p11]
  refine evBody_eq ?_
  unfold b11
  simp -implicitDefEqProofs [-List.getD_eq_getElem?_getD, addN_N, hc, sum_by_sp (k := k) s t h]
/-! ### hulls -/
def oD (o : Option Nat) : D := match o with
  | some x => nI x
  | none => .non
def hD (o : Option (List Nat)) : D := match o with
  | some x => tI x
  | none => .non
theorem fz_oD (o : Option Nat) : (oD o).fz = true := by cases o <;> rfl
theorem fz_hD (o : Option (List Nat)) : (hD o).fz = true := by
  cases o with
  | none => rfl
  | some f => exact fz_tI f
theorem least_of_sp {k n : Nat} {L : List (List Nat)} (s : Sp n L) (hn : n ≤ 12) {lot : List Nat} (hr : ∀ x ∈ lot, x < n) (hs : lot.length ≤ 12) : evP pg (k + 2) 14 [spc n L, .lst false (lot.map nI)] = .ok (oD (leastOf L lot)) [some (spc n L), some (.lst false (lot.map nI))] := by
  rw [p14]
  refine evBody_eq ?_
  unfold b14
  simp -implicitDefEqProofs [-List.getD_eq_getElem?_getD]
  refine wp_lc nI (fun one => lot.all fun other => bel L one other) nI lot (.of (by omega)) ?_
  unfold leastOf
  generalize (lot.filter fun one => lot.all fun other => bel L one other) = FL
  simp -implicitDefEqProofs [-List.getD_eq_getElem?_getD]
  refine ⟨fun x hx => ?_, ?_⟩
  · unfold LcAt
    simp -implicitDefEqProofs [-List.getD_eq_getElem?_getD]
    refine wp_lc nI (fun _ => true) (fun other => .bl (bel L x other)) lot (.of (by omega)) ?_
    simp -implicitDefEqProofs [-List.getD_eq_getElem?_getD]
    intro y hy
    unfold LcAt
    simp -implicitDefEqProofs [-List.getD_eq_getElem?_getD, is_below_sp s (hr y hy)]
  · cases FL with
    | nil => simp -implicitDefEqProofs [-List.getD_eq_getElem?_getD, oD]
    | cons x l => simp -implicitDefEqProofs [-List.getD_eq_getElem?_getD, oD, sub_h0]
theorem great_of_sp {k n : Nat} {L : List (List Nat)} (s : Sp n L) (hn : n ≤ 12) {lot : List Nat} (hr : ∀ x ∈ lot, x < n) (hs : lot.length ≤ 12) : evP pg (k + 2) 15 [spc n L, .lst false (lot.map nI)] = .ok (oD (greatOf L lot)) [some (spc n L), some (.lst false (lot.map nI))] := by
  rw [p15]
  refine evBody_eq ?_
  unfold b15
  simp -implicitDefEqProofs [-List.getD_eq_getElem?_getD]
  refine wp_lc nI (fun one => lot.all fun other => bel L other one) nI lot (.of (by omega)) ?_
  unfold greatOf
  generalize (lot.filter fun one => lot.all fun other => bel L other one) = FL
  simp -implicitDefEqProofs [-List.getD_eq_getElem?_getD]
  refine ⟨fun x hx => ?_, ?_⟩
  · unfold LcAt
    simp -implicitDefEqProofs [-List.getD_eq_getElem?_getD]
    refine wp_lc nI (fun _ => true) (fun other => .bl (bel L other x)) lot (.of (by omega)) ?_
    simp -implicitDefEqProofs [-List.getD_eq_getElem?_getD]
    intro y hy
    unfold LcAt
    simp -implicitDefEqProofs [-List.getD_eq_getElem?_getD, is_below_sp s (hr x hx)]
  · cases FL with
    | nil => simp -implicitDefEqProofs [-List.getD_eq_getElem?_getD, oD]
    | cons x l => simp -implicitDefEqProofs [-List.getD_eq_getElem?_getD, oD, sub_h0]
end Bp.K04

namespace Bp.K04
open PySem PySem.Spec PyProof.Rows L2 Bp
theorem allSome_none {f : Nat → Option Nat} {n k : Nat} (hk : k < n) (h : f k = none) : allSome ((List.range n).map f) = none := by
  cases q : allSome ((List.range n).map f) with
  | none => rfl
  | some r =>
    have := congrArg (fun l => l[k]?) (allSome_iff.mp q)
    simp [hk, h] at this
    cases e : r[k]? <;> rw [e] at this <;> cases this
theorem allSome_snoc {f : Nat → Option Nat} {k x : Nat} {r : List Nat} (h : allSome ((List.range k).map f) = some r) (hx : f k = some x) : allSome ((List.range (k + 1)).map f) = some (r ++ [x]) := by
  rw [allSome_iff] at h ⊢
  rw [List.range_succ, List.map_append, h, List.map_append]
  simp [hx]
theorem isN_oD {o : Option Nat} : isD (oD o) .non = some o.isNone := by cases o <;> rfl
theorem isN_hD {o : Option (List Nat)} : isD (hD o) .non = some o.isNone := by cases o <;> rfl
theorem hull_by_sp {k n : Nat} {L : List (List Nat)} (s : Sp n L) (hn : n ≤ 12) {lot : List Nat} (hl : IsLot n lot) : evP pg (k + 3) 22 [spc n L, tI lot] = .ok (hD (hullBy n L lot)) [some (spc n L), some (tI lot)] := by
  have ll := IsLot.len hl
  rw [p22]
  refine evBody_eq ?_
  unfold b22
  simp -implicitDefEqProofs [-List.getD_eq_getElem?_getD, wp_rngS (big hn)]
  refine wp_rangeFor (fun k e => ∃ r a b, r.length = k ∧ allSome ((List.range k).map (hullAt L lot)) = some r ∧ e = [some (spc n L), some (tI lot), some (.lst true (r.map nI)), a, b, none]) ?_ ⟨[], _, _, rfl, rfl, rfl⟩ ?_
  · rintro p e hp ⟨r, a, b, hr, hs, rfl⟩
    simp -implicitDefEqProofs [-List.getD_eq_getElem?_getD]
    refine wp_lc nI (fun one => bel L p one) nI lot (.of (by omega)) ?_
    simp -implicitDefEqProofs [-List.getD_eq_getElem?_getD]
    refine ⟨fun x hx => ?_, ?_⟩
    · unfold LcAt
      simp -implicitDefEqProofs [-List.getD_eq_getElem?_getD, is_below_sp s (hl.2 x hx)]
    · have lo := least_of_sp (k := k) s hn (lot := lot.filter fun one => bel L p one) (fun x hx => hl.2 x (List.mem_filter.mp hx).1) (by have := List.length_filter_le (fun one => bel L p one) lot; omega)
      rw [lo]
      change wp (R.ok (oD (hullAt L lot p)) _) _
      cases q : hullAt L lot p with
      | none =>
        simp -implicitDefEqProofs [-List.getD_eq_getElem?_getD, oD, sh_fz _ (fz_oD none), hullBy, allSome_none hp q, hD]
      | some x =>
        simp -implicitDefEqProofs [-List.getD_eq_getElem?_getD, oD]
        rw [mO_app ⟨by rw [List.length_map]; omega⟩, onO_some]
        exact ⟨r ++ [x], by simp [hr], allSome_snoc hs q, by rw [List.map_append]; rfl⟩
  · rintro e ⟨r, a, b, hr, hs, rfl⟩
    simp -implicitDefEqProofs [-List.getD_eq_getElem?_getD, hullBy, hs, hD]
theorem kernel_by_sp {k n : Nat} {L : List (List Nat)} (s : Sp n L) (hn : n ≤ 12) {lot : List Nat} (hl : IsLot n lot) : evP pg (k + 3) 26 [spc n L, tI lot] = .ok (hD (kernBy n L lot)) [some (spc n L), some (tI lot)] := by
  have ll := IsLot.len hl
  rw [p26]
  refine evBody_eq ?_
  unfold b26
  simp -implicitDefEqProofs [-List.getD_eq_getElem?_getD, wp_rngS (big hn)]
  refine wp_rangeFor (fun k e => ∃ r a b, r.length = k ∧ allSome ((List.range k).map fun x => greatOf L (lot.filter fun one => bel L one x)) = some r ∧ e = [some (spc n L), some (tI lot), some (.lst true (r.map nI)), a, b, none]) ?_ ⟨[], _, _, rfl, rfl, rfl⟩ ?_
  · rintro p e hp ⟨r, a, b, hr, hs, rfl⟩
    simp -implicitDefEqProofs [-List.getD_eq_getElem?_getD]
    refine wp_lc nI (fun one => bel L one p) nI lot (.of (by omega)) ?_
    simp -implicitDefEqProofs [-List.getD_eq_getElem?_getD]
    refine ⟨fun x hx => ?_, ?_⟩
    · unfold LcAt
      simp -implicitDefEqProofs [-List.getD_eq_getElem?_getD, is_below_sp s hp]
    · have lo := great_of_sp (k := k) s hn (lot := lot.filter fun one => bel L one p) (fun x hx => hl.2 x (List.mem_filter.mp hx).1) (by have := List.length_filter_le (fun one => bel L one p) lot; omega)
      rw [lo]
      cases q : greatOf L (lot.filter fun one => bel L one p) with
      | none =>
        simp -implicitDefEqProofs [-List.getD_eq_getElem?_getD, oD, sh_fz _ (fz_oD none), kernBy, allSome_none (f := fun x => greatOf L (lot.filter fun one => bel L one x)) hp q, hD]
      | some x =>
        simp -implicitDefEqProofs [-List.getD_eq_getElem?_getD, oD]
        rw [mO_app ⟨by rw [List.length_map]; omega⟩, onO_some]
        exact ⟨r ++ [x], by simp [hr], allSome_snoc (f := fun x => greatOf L (lot.filter fun one => bel L one x)) hs q, by rw [List.map_append]; rfl⟩
  · rintro e ⟨r, a, b, hr, hs, rfl⟩
    simp -implicitDefEqProofs [-List.getD_eq_getElem?_getD, kernBy, hs, hD]
theorem fm_flat {f : List Nat → Option (List Nat)} : ∀ l : List (List Nat), (l.flatMap fun x => match f x with | some y => [tI y] | none => []) = (l.filterMap f).map tI
  | [] => rfl
  | x :: l => by
    rw [List.flatMap_cons, fm_flat l]
    cases q : f x with
    | none => rw [List.filterMap_cons_none q]; rfl
    | some y => rw [List.filterMap_cons_some q]; rfl
theorem lotsU_le {n : Nat} (hn : n ≤ 12) : (lotsU n).length ≤ 4096 := by
  rw [length_lotsU]
  have : 2 ^ n ≤ 2 ^ 12 := Nat.pow_le_pow_right (by omega) hn
  omega
theorem hulls_of_sp {k n : Nat} {L : List (List Nat)} (s : Sp n L) (hn : n ≤ 12) : evP pg (k + 4) 21 [spc n L] = .ok (.lst true (((hullsF n L).mergeSort leT).map tI)) [some (spc n L)] := by
  have ll : ∀ k, k ≤ n → (lotsU k).length ≤ 4096 := fun k hk => lotsU_le (by omega)
  rw [p21]
  refine evBody_eq ?_
  unfold b21
  have e0 : (D.lst true [D.tup []]).sh = .lst false ((lotsU 0).map tI) := rfl
  simp -implicitDefEqProofs [-List.getD_eq_getElem?_getD, wp_rngS (big hn), setL, e0]
  refine wp_rangeFor (fun k e => ∃ b, e = [some (spc n L), some (.lst false ((lotsU k).map tI)), some (.lst true []), b, none, none]) ?_ ⟨none, rfl⟩ ?_
  · rintro k e hk ⟨b, rfl⟩
    have l1 := ll k (by omega)
    simp -implicitDefEqProofs [-List.getD_eq_getElem?_getD]
    refine wp_lc tI (fun _ => true) (fun l => tI (l ++ [k])) (lotsU k) (.of (by omega)) ?_
    simp -implicitDefEqProofs [-List.getD_eq_getElem?_getD]
    refine ⟨fun l hl => ?_, ?_⟩
    · unfold LcAt
      have := IsLot.len (mem_lotsU.mp hl)
      simp -implicitDefEqProofs [-List.getD_eq_getElem?_getD, add_t1 (l := l) (x := k) (by omega)]
    · have e : (List.map (fun l => tI (l ++ [k])) (lotsU k)) = ((lotsU k).map fun l => l ++ [k]).map tI := by rw [List.map_map]; rfl
      rw [e, add_lst (fzs_tI _) (fzs_tI _) (by simp only [List.length_map]; omega), onO_some, ← List.map_append, ← lotsU_succ]
      simp -implicitDefEqProofs [-List.getD_eq_getElem?_getD]
  · rintro e ⟨b, rfl⟩
    have := ll n (Nat.le_refl n)
    simp -implicitDefEqProofs [-List.getD_eq_getElem?_getD]
    refine wp_growFor tI (fun lot => match hullBy n L lot with | some y => [tI y] | none => []) (fun acc e => ∃ a c, e = [some (spc n L), some (.lst false ((lotsU n).map tI)), some (.lst true acc), b, a, c]) (lotsU n) [] 1 (fun x _ => by split <;> simp) ⟨by rw [List.length_nil]; omega⟩ ?_ ⟨_, _, rfl⟩ ?_
    · rintro lot acc e hlot hS ⟨a, c, rfl⟩
      have hl := mem_lotsU.mp hlot
      simp -implicitDefEqProofs [-List.getD_eq_getElem?_getD, hull_by_sp (k := k) s hn hl, sh_fz _ (fz_hD _), fz_hD, isN_hD]
      cases q : hullBy n L lot with
      | none => simp -implicitDefEqProofs [-List.getD_eq_getElem?_getD]
      | some f =>
        simp -implicitDefEqProofs [-List.getD_eq_getElem?_getD, hD]
        rw [mO_app hS, onO_some]
    · rintro e ⟨a, c, rfl⟩
      have fl : (hullsF n L).length ≤ 4096 := by
        unfold hullsF
        have := List.length_filterMap_le (hullBy n L) (lotsU n)
        omega
      rw [List.nil_append, fm_flat]
      simp -implicitDefEqProofs [-List.getD_eq_getElem?_getD, show (lotsU n).filterMap (hullBy n L) = hullsF n L from rfl, sortedL_tI (o := true) (l := hullsF n L) (by omega)]
end Bp.K04

namespace Bp.K04
open PySem PySem.Spec PyProof.Rows L2 Bp
theorem wp_itZip {a b : List Nat} {e : Env} {K : ItR → Env → Prop} : wp (itZip [tI a, tI b] e) K = K ⟨[tI a, tI b], (a.zip b).map pI⟩ e := by
  have ha : seqO (tI a) = some (a.map nI) := if_pos (fzs_nI a)
  have hb : seqO (tI b) = some (b.map nI) := if_pos (fzs_nI b)
  have : itZip [tI a, tI b] e = .ok ⟨[tI a, tI b], zipD (a.map nI) (b.map nI)⟩ e := by
    show (match seqO (tI a), seqO (tI b) with | some xs, some ys => _ | _, _ => _) = _
    rw [ha, hb]
    exact if_pos rfl
  rw [this, zip_nI, wp_ok]
def wrT (o : Option (List Nat)) : List D := match o with
  | some y => [tI y]
  | none => []
theorem wrT_len (o : Option (List Nat)) : (wrT o).length ≤ 1 := by cases o <;> simp [wrT]
theorem wrT_flat {f : List Nat → Option (List Nat)} : ∀ l : List (List Nat), (l.flatMap fun x => wrT (f x)) = (l.filterMap f).map tI
  | [] => rfl
  | x :: l => by
    rw [List.flatMap_cons, wrT_flat l]
    cases q : f x with
    | none => rw [List.filterMap_cons_none q]; rfl
    | some y => rw [List.filterMap_cons_some q]; rfl
theorem hulls_sp {k n : Nat} {L : List (List Nat)} (t : Tp n L) : evP pg (k + 5) 20 [spc n L] = .ok (.lst true (((hullsF n L).mergeSort leT).map tI)) [some (spc n L)] := by
  rw [p20]
  refine evBody_eq ?_
  unfold b20
  simp -implicitDefEqProofs [-List.getD_eq_getElem?_getD, check_told_sp (k := k + 2) t, hulls_of_sp (k := k) t.s t.hn]
theorem kernels_sp {k n : Nat} {L : List (List Nat)} (t : Tp n L) : evP pg (k + 4) 25 [spc n L] = .ok (.lst true (((kernsF n L).mergeSort leT).map tI)) [some (spc n L)] := by
  have hn := t.hn
  have s := t.s
  have ll : ∀ k, k ≤ n → (lotsU k).length ≤ 4096 := fun k hk => lotsU_le (by omega)
  rw [p25]
  refine evBody_eq ?_
  unfold b25
  have e0 : (D.lst true [D.tup []]).sh = .lst false ((lotsU 0).map tI) := rfl
  simp -implicitDefEqProofs [-List.getD_eq_getElem?_getD, check_told_sp (k := k + 1) t, wp_rngS (big hn), setL, e0]
  refine wp_rangeFor (fun k e => ∃ b, e = [some (spc n L), some (.lst false ((lotsU k).map tI)), some (.lst true []), b, none, none]) ?_ ⟨none, rfl⟩ ?_
  · rintro k e hk ⟨b, rfl⟩
    have l1 := ll k (by omega)
    simp -implicitDefEqProofs [-List.getD_eq_getElem?_getD]
    refine wp_lc tI (fun _ => true) (fun l => tI (l ++ [k])) (lotsU k) (.of (by omega)) ?_
    simp -implicitDefEqProofs [-List.getD_eq_getElem?_getD]
    refine ⟨fun l hl => ?_, ?_⟩
    · unfold LcAt
      have := IsLot.len (mem_lotsU.mp hl)
      simp -implicitDefEqProofs [-List.getD_eq_getElem?_getD, add_t1 (l := l) (x := k) (by omega)]
    · have e : (List.map (fun l => tI (l ++ [k])) (lotsU k)) = ((lotsU k).map fun l => l ++ [k]).map tI := by rw [List.map_map]; rfl
      rw [e, add_lst (fzs_tI _) (fzs_tI _) (by simp only [List.length_map]; omega), onO_some, ← List.map_append, ← lotsU_succ]
      simp -implicitDefEqProofs [-List.getD_eq_getElem?_getD]
  · rintro e ⟨b, rfl⟩
    have := ll n (Nat.le_refl n)
    simp -implicitDefEqProofs [-List.getD_eq_getElem?_getD]
    refine wp_growFor tI (fun lot => wrT (kernBy n L lot)) (fun acc e => ∃ a c, e = [some (spc n L), some (.lst false ((lotsU n).map tI)), some (.lst true acc), b, a, c]) (lotsU n) [] 1 (fun x _ => wrT_len _) ⟨by rw [List.length_nil]; omega⟩ ?_ ⟨_, _, rfl⟩ ?_
    · rintro lot acc e hlot hS ⟨a, c, rfl⟩
      have hl := mem_lotsU.mp hlot
      simp -implicitDefEqProofs [-List.getD_eq_getElem?_getD, kernel_by_sp (k := k) s hn hl, sh_fz _ (fz_hD _), fz_hD, isN_hD]
      cases q : kernBy n L lot with
      | none => simp -implicitDefEqProofs [-List.getD_eq_getElem?_getD, wrT]
      | some f =>
        simp -implicitDefEqProofs [-List.getD_eq_getElem?_getD, hD, wrT]
        rw [mO_app hS, onO_some]
    · rintro e ⟨a, c, rfl⟩
      have fl : (kernsF n L).length ≤ 4096 := by
        unfold kernsF
        have := List.length_filterMap_le (kernBy n L) (lotsU n)
        omega
      rw [List.nil_append, wrT_flat]
      simp -implicitDefEqProofs [-List.getD_eq_getElem?_getD, show (lotsU n).filterMap (kernBy n L) = kernsF n L from rfl, sortedL_tI (o := true) (l := kernsF n L) (by omega)]
theorem hull_for_sp {k n : Nat} {L : List (List Nat)} (t : Tp n L) {lot : List Nat} (hl : IsLot n lot) : evP pg (k + 5) 23 [spc n L, tI lot] = .ok (hD (hullBy n L lot)) [some (spc n L), some (tI lot)] := by
  rw [p23]
  refine evBody_eq ?_
  unfold b23
  simp -implicitDefEqProofs [-List.getD_eq_getElem?_getD, check_told_sp (k := k + 2) t, check_lot_sp (k := k) t hl, hull_by_sp (k := k + 1) t.s t.hn hl]
theorem keeps_hull {k n : Nat} {L : List (List Nat)} {f : List Nat} (s : Sp n L) (hn : n ≤ 12) (hf : f.length = n) (hr : ∀ x, x < n → f.getD x 0 < n) (hm : ∀ x y, y < n → bel L x y = true → bel L (f.getD x 0) (f.getD y 0) = true) : evP pg (k + 2) 17 [spc n L, spc n L, tI f] = .ok (.bl true) [some (spc n L), some (spc n L), some (tI f)] := by
  rw [p17]
  refine evBody_eq ?_
  unfold b17
  have hlen := s.len
  simp -implicitDefEqProofs [-List.getD_eq_getElem?_getD, enD_tI, hlen]
  refine wp_for (fun i => D.tup [nI i, tI (L.getD i [])]) (fun _ e => ∃ a b, e = [some (spc n L), some (spc n L), some (tI f), a, b, none]) (List.range n) ?_ ⟨_, _, rfl⟩ ?_
  · rintro p i q e hp ⟨a, b, rfl⟩
    have hi : i < n := List.mem_range.mp (by rw [hp]; simp)
    have hb := sub_tN (F := f) (i := i) (by omega)
    simp -implicitDefEqProofs [-List.getD_eq_getElem?_getD]
    refine wp_lc nI (fun _ => true) (fun x => .bl (bel L (f.getD x 0) (f.getD i 0))) (L.getD i []) (.of (by have := row_len s i; omega)) ?_
    simp -implicitDefEqProofs [-List.getD_eq_getElem?_getD]
    refine ⟨fun x hx => ?_, ?_⟩
    · unfold LcAt
      have hx' := s.rng _ _ hx
      have ha := sub_tN (F := f) (i := x) (by omega)
      simp -implicitDefEqProofs [-List.getD_eq_getElem?_getD, ha, hb, is_below_sp s (hr i hi)]
    · exact fun x hx => hm x i hi (bel_iff.mpr hx)
  · rintro e ⟨a, b, rfl⟩
    simp -implicitDefEqProofs [-List.getD_eq_getElem?_getD]
/-- what the code's own test of a hull asks -/
structure Hl (n : Nat) (L : List (List Nat)) (f : List Nat) : Prop where
  len : f.length = n
  rng : ∀ x, x < n → f.getD x 0 < n
  mono : ∀ x y, y < n → bel L x y = true → bel L (f.getD x 0) (f.getD y 0) = true
  up : ∀ x, x < n → bel L x (f.getD x 0) = true
  twice : ∀ x, x < n → f.getD (f.getD x 0) 0 = f.getD x 0
theorem Hl.of {n : Nat} {L : List (List Nat)} {lot f : List Nat} (s : Sp n L) (a : Anti L) (hl : IsLot n lot) (h : HullOf n L lot f) : Hl n L f where
  len := h.len
  rng := fun x hx => hl.2 _ (h.mem hx)
  mono := fun x y hy hb => h.mono s hy hb
  up := fun x hx => h.up hx
  twice := fun x hx => h.twice s a hl hx
theorem Hl.all_lt {n : Nat} {L : List (List Nat)} {f : List Nat} (h : Hl n L f) : ∀ x ∈ f, x < n := fun x hx => by
  obtain ⟨i, hi, rfl⟩ := List.getElem_of_mem hx
  have := h.rng i (by rw [← h.len]; exact hi)
  rwa [List.getD_eq_getElem?_getD, List.getElem?_eq_getElem hi] at this
theorem is_map_hull {k n : Nat} {L : List (List Nat)} {f : List Nat} (s : Sp n L) (hn : n ≤ 12) (h : Hl n L f) : evP pg (k + 3) 16 [spc n L, spc n L, tI f] = .ok (.bl true) [some (spc n L), some (spc n L), some (tI f)] := by
  rw [p16]
  refine evBody_eq ?_
  unfold b16
  have hl := h.len
  have ht := e_is_tuple_t (k + 1) (f.map nI) (fzs_nI f) n n
  have ht' : evP pg (k + 2) 2 [tI f, nI n, nI n] = .ok (.bl true) [some (tI f), some (nI n), some (nI n)] := by
    rw [List.length_map, hl, decide_eq_true (Int.le_refl _)] at ht
    exact ht
  simp -implicitDefEqProofs [-List.getD_eq_getElem?_getD, ht']
  refine wp_lc nI (fun _ => true) (fun x => .bl (decide (x < n))) f (.of (by omega)) ?_
  simp -implicitDefEqProofs [-List.getD_eq_getElem?_getD]
  refine ⟨fun x hx => ?_, ?_⟩
  · unfold LcAt
    simp -implicitDefEqProofs [-List.getD_eq_getElem?_getD]
    omega
  · refine ⟨h.all_lt, ?_⟩
    simp -implicitDefEqProofs [-List.getD_eq_getElem?_getD, keeps_hull (k := k) s hn h.len h.rng h.mono]
theorem is_hull_sp {k n : Nat} {L : List (List Nat)} {f : List Nat} (s : Sp n L) (hn : n ≤ 12) (h : Hl n L f) : evP pg (k + 4) 19 [spc n L, tI f] = .ok (.bl true) [some (spc n L), some (tI f)] := by
  rw [p19]
  refine evBody_eq ?_
  unfold b19
  have hl := h.len
  simp -implicitDefEqProofs [-List.getD_eq_getElem?_getD, is_map_hull (k := k) s hn h, enD_nI, hl]
  refine wp_lc (fun i => D.tup [nI i, nI (f.getD i 0)]) (fun _ => true) (fun i => .bl (bel L i (f.getD i 0) && decide (f.getD (f.getD i 0) 0 = f.getD i 0))) (List.range n) (.rng hn) ?_
  simp -implicitDefEqProofs [-List.getD_eq_getElem?_getD]
  refine ⟨by rw [enD_nI, hl], fun i hi => ?_, ?_⟩
  · unfold LcAt
    have hb := sub_tN (F := f) (i := f.getD i 0) (by have := h.rng i hi; omega)
    simp -implicitDefEqProofs [-List.getD_eq_getElem?_getD, is_below_sp s (h.rng i hi), hb, h.up i hi, h.twice i hi]
  · exact fun i hi => ⟨h.up i hi, h.twice i hi⟩
theorem kept_by_sp {k n : Nat} {L : List (List Nat)} (t : Tp n L) {lot f : List Nat} (hl : IsLot n lot) (h : HullOf n L lot f) : evP pg (k + 5) 24 [spc n L, tI f] = .ok (tI lot) [some (spc n L), some (tI f)] := by
  rw [p24]
  refine evBody_eq ?_
  unfold b24
  have hf := h.len
  have hk := h.kept t.s t.a hl
  unfold asc at hk
  simp -implicitDefEqProofs [-List.getD_eq_getElem?_getD, check_told_sp (k := k + 2) t, is_hull_sp (k := k) t.s t.hn (Hl.of t.s t.a hl h)]
  refine wp_lc (fun i => D.tup [nI i, nI (f.getD i 0)]) (fun i => decide (i = f.getD i 0)) nI (List.range n) (.rng t.hn) ?_
  simp -implicitDefEqProofs [-List.getD_eq_getElem?_getD, enD_nI, hf]
  refine ⟨fun i hi => ?_, ?_⟩
  · unfold LcAt
    simp -implicitDefEqProofs [-List.getD_eq_getElem?_getD]
  · rw [hk]
theorem is_beneath_sp {k n : Nat} {L : List (List Nat)} (s : Sp n L) (hn : n ≤ 12) {f g : List Nat} (hf : f.length = n) (hg : Hl n L g) : evP pg (k + 2) 18 [spc n L, tI f, tI g] = .ok (.bl ((f.zip g).all fun p => bel L p.1 p.2)) [some (spc n L), some (tI f), some (tI g)] := by
  rw [p18]
  refine evBody_eq ?_
  unfold b18
  have hl : (f.zip g).length ≤ 12 := by rw [List.length_zip]; omega
  simp -implicitDefEqProofs [-List.getD_eq_getElem?_getD]
  refine wp_lc pI (fun _ => true) (fun p => .bl (bel L p.1 p.2)) (f.zip g) (.of (by omega)) ?_
  simp -implicitDefEqProofs [-List.getD_eq_getElem?_getD, wp_itZip]
  intro a b hab
  unfold LcAt
  have hb := hg.all_lt _ (List.of_mem_zip hab).2
  unfold pI
  simp -implicitDefEqProofs [-List.getD_eq_getElem?_getD, is_below_sp s hb]
theorem lies_beneath_sp {k n : Nat} {L : List (List Nat)} (t : Tp n L) {f g : List Nat} (hf : Hl n L f) (hg : Hl n L g) : evP pg (k + 5) 27 [spc n L, tI f, tI g] = .ok (.bl ((f.zip g).all fun p => bel L p.1 p.2)) [some (spc n L), some (tI f), some (tI g)] := by
  rw [p27]
  refine evBody_eq ?_
  unfold b27
  simp -implicitDefEqProofs [-List.getD_eq_getElem?_getD, check_told_sp (k := k + 2) t, is_hull_sp (k := k) t.s t.hn hf, is_hull_sp (k := k) t.s t.hn hg, is_beneath_sp (k := k + 2) t.s t.hn hf.len hg]
theorem many_hulls_sp {k n : Nat} {L : List (List Nat)} (t : Tp n L) (hn : n ≤ 10) : evP pg (k + 5) 28 [spc n L] = .ok (nI (hullsF n L).length) [some (spc n L)] := by
  rw [p28]
  refine evBody_eq ?_
  unfold b28
  have : ¬ (10 : Int) < (n : Int) := by omega
  simp -implicitDefEqProofs [-List.getD_eq_getElem?_getD, check_told_sp (k := k + 2) t, hulls_of_sp (k := k) t.s t.hn, this]
  rfl
theorem law_behind_sp {k n : Nat} {f g : List Nat} (hn : n ≤ 12) (hf : f.length = n) (hg : g.length = n) (h : ∀ x ∈ f, x < n) : evP pg (k + 1) 33 [tI f, tI g] = .ok (tI (f.map fun x => g.getD x 0)) [some (tI f), some (tI g)] := by
  rw [p33]
  refine evBody_eq ?_
  unfold b33
  simp -implicitDefEqProofs [-List.getD_eq_getElem?_getD]
  refine wp_lc nI (fun _ => true) (fun x => nI (g.getD x 0)) f (.of (by omega)) ?_
  simp -implicitDefEqProofs [-List.getD_eq_getElem?_getD]
  refine ⟨fun x hx => ?_, ?_⟩
  · unfold LcAt
    have hb := sub_tN (F := g) (i := x) (by have := h x hx; omega)
    simp -implicitDefEqProofs [-List.getD_eq_getElem?_getD, hb]
  · rw [show (f.map fun x => nI (g.getD x 0)) = (f.map fun x => g.getD x 0).map nI from by rw [List.map_map]; rfl, tupD_nI, onO_some]
end Bp.K04

namespace Bp.K04
open PySem PySem.Spec PyProof.Rows L2 Bp
theorem lrg_n {n : Nat} (hn : n ≤ 12) : lrgS [nI n] = some (.lst true ((List.range n).map nI)) := by
  have h1 : rngOk (n : Int) = true := rngOk_nat (by omega)
  have h2 : decide ((n : Int) ≤ 16777216) = true := decide_eq_true (by omega)
  simp only [lrgS, nI, h1, h2, Bool.and_self, if_true, Int.toNat_natCast, rng_nI]
theorem erase_map {f : Nat → D} : ∀ (xs : List Nat) (i : Nat), (xs.map f).eraseIdx i = (xs.eraseIdx i).map f
  | [], _ => rfl
  | _ :: _, 0 => rfl
  | x :: xs, i + 1 => by rw [List.map_cons, List.eraseIdx_cons_succ, List.eraseIdx_cons_succ, List.map_cons, erase_map xs i]
theorem mO_popN {xs : List Nat} {i : Nat} (h : i < xs.length) (h2 : xs.length ≤ 4096) : Mth.mO .popAt (.lst true (xs.map nI)) [nI i] = some (.lst true ((xs.eraseIdx i).map nI), nI (xs.getD i 0)) := by
  have e : ixN (xs.map nI).length (i : Int) = some i := ixN_nat (by rw [List.length_map]; exact h)
  have r : rngOk (i : Int) = true := rngOk_nat (by omega)
  have g : (xs.map nI)[i]? = some (nI (xs.getD i 0)) := by
    rw [List.getElem?_map, List.getElem?_eq_getElem h, List.getD_eq_getElem?_getD, List.getElem?_eq_getElem h]
    rfl
  show Mth.mO .popAt (.lst true (xs.map nI)) [.int (i : Int)] = _
  simp only [Mth.mO, mPopAt, r, if_true, e, g, erase_map]
theorem perm_pop : ∀ {xs : List Nat} {i : Nat}, i < xs.length → (xs.getD i 0 :: xs.eraseIdx i).Perm xs
  | x :: xs, 0, _ => .refl _
  | x :: xs, i + 1, h => by
    rw [List.eraseIdx_cons_succ, List.getD_cons_succ]
    exact (List.Perm.swap _ _ _).trans ((perm_pop (xs := xs) (i := i) (by simpa using h)).cons x)
theorem mul_3n {n : Nat} : mulD (.int 3) (nI n) = some (.int (3 * (n : Int))) := by
  show (if mulOk 3 (n : Int) = true then some (D.int (3 * (n : Int))) else none) = _
  rw [if_pos (mulOk_l (by decide) (by decide))]
theorem told_sp (k : Nat) (h : Hd) {m : Int} (m0 : 0 < m) (m4 : m ≤ 4) : ∃ n L h', Tp n L ∧ (n : Int) ≤ m ∧ evP pg (k + 2) 32 [hd h, .int m] = .ok (.tup [nI n, tII L]) [some (hd h'), some (.int m)] := by
  have key : wp (evP pg (k + 2) 32 [hd h, .int m]) fun d e => ∃ n L h', Tp n L ∧ (n : Int) ≤ m ∧ d = .tup [nI n, tII L] ∧ e = [some (hd h'), some (.int m)] := by
    obtain ⟨r, h1, hr, e1⟩ := draw_k k h (j := m) (by omega) (by omega)
    rw [p32]
    refine wp_body ?_
    unfold b32
    rw [evSs_cs, wp_seq]
    refine wp_mono (K := fun c e' => c = .nx ∧ e' = [some (hd h1), some (.int m), some (nI (r + 1)), none, none, none, none, none, none]) ?_ ?_
    · have q : D.int (1 + (r : Int)) = nI (r + 1) := by unfold nI; congr 1; omega
      simp -implicitDefEqProofs [-List.getD_eq_getElem?_getD, e1, addI_N, q]
    rintro c e' ⟨rfl, rfl⟩
    dsimp only
    generalize hn : r + 1 = n
    have n0 : 0 < n := by omega
    have nm : (n : Int) ≤ m := by omega
    have n12 : n ≤ 12 := by omega
    rw [evSs_cs, wp_seq]
    refine wp_mono (K := fun c e' => c = .nx ∧ e' = [some (hd h1), some (.int m), some (nI n), some (.lst true []), some (.lst true []), some (.lst true ((List.range n).map nI)), none, none, none]) ?_ ?_
    · simp -implicitDefEqProofs [-List.getD_eq_getElem?_getD, lrg_n n12]
    rintro c e' ⟨rfl, rfl⟩
    dsimp only
    rw [evSs_cs, wp_seq]
    refine wp_mono (K := fun c e' => c = .nx ∧ ∃ (ps : List (Nat × Nat)) (h : Hd) (a b : Option D), (∀ p ∈ ps, p.1 < p.2 ∧ p.2 < n) ∧ ps.length ≤ 12 ∧ e' = [some (hd h), some (.int m), some (nI n), some (.lst true (ps.map pI)), some (.lst true []), some (.lst true ((List.range n).map nI)), a, b, none]) ?_ ?_
    · by_cases h0 : 1 < n
      · obtain ⟨r2, h2, hr2, e2⟩ := draw_k k h1 (j := 3 * (n : Int)) (by omega) (by omega)
        have h0' : (1 : Int) < n := by omega
        simp -implicitDefEqProofs [-List.getD_eq_getElem?_getD, h0', mul_3n, e2, wp_rngS (n := r2) (show r2 ≤ 4096 by omega)]
        refine wp_rangeFor (fun t e => ∃ (ps : List (Nat × Nat)) (h : Hd) (a b : Option D), (∀ p ∈ ps, p.1 < p.2 ∧ p.2 < n) ∧ ps.length ≤ t ∧ e = [some (hd h), some (.int m), some (nI n), some (.lst true (ps.map pI)), some (.lst true []), some (.lst true ((List.range n).map nI)), a, b, none]) ?_ ⟨[], h2, none, none, fun _ h => (nomatch h), Nat.le_refl _, rfl⟩ ?_
        · rintro t e ht ⟨ps, h3, a, b, hp, hl, rfl⟩
          obtain ⟨lo, h4, hlo, e3⟩ := draw_k k h3 (j := (n : Int) - 1) (by omega) (by omega)
          obtain ⟨d, h5, hd', e4⟩ := draw_k k h4 (j := (n : Int) - lo - 1) (by omega) (by omega)
          have q : D.tup [nI lo, .int ((lo : Int) + 1 + (d : Int))] = pI (lo, lo + 1 + d) := by unfold pI nI; congr 2
          simp -implicitDefEqProofs [-List.getD_eq_getElem?_getD, e3, e4, subNN, addN_I, addI_N, q]
          rw [mO_app ⟨by rw [List.length_map]; omega⟩, onO_some]
          refine ⟨ps ++ [(lo, lo + 1 + d)], fun a b hab => ?_, by rw [List.length_append]; simp only [List.length_cons, List.length_nil]; omega, ⟨_, rfl⟩, by rw [List.map_append]; rfl⟩
          rcases List.mem_append.mp hab with q | q
          · exact hp _ q
          · rw [List.mem_singleton] at q
            cases q
            omega
        · rintro e ⟨ps, h3, a, b, hp, hl, rfl⟩
          refine ⟨rfl, ps, fun a b q => hp (a, b) q, by omega, h3, a, b, rfl⟩
      · have h0' : ¬ (1 : Int) < n := by omega
        simp -implicitDefEqProofs [-List.getD_eq_getElem?_getD, h0', wp_rng0]
        exact ⟨[], fun _ _ h => (nomatch h), Nat.zero_le _, ⟨h1, rfl⟩, rfl⟩
    rintro c e' ⟨rfl, ps, h2, a, b, hp, pl, rfl⟩
    dsimp only
    rw [evSs_cs, wp_seq]
    refine wp_mono (K := fun c e' => c = .nx ∧ ∃ (ord : List Nat) (h : Hd), ord.Perm (List.range n) ∧ e' = [some (hd h), some (.int m), some (nI n), some (.lst true (ps.map pI)), some (.lst true (ord.map nI)), some (.lst true []), a, b, none]) ?_ ?_
    · simp -implicitDefEqProofs [-List.getD_eq_getElem?_getD]
      refine wp_while (fun j e => ∃ (ord pool : List Nat) (h : Hd), (ord ++ pool).Perm (List.range n) ∧ j = pool.length ∧ e = [some (hd h), some (.int m), some (nI n), some (.lst true (ps.map pI)), some (.lst true (ord.map nI)), some (.lst true (pool.map nI)), a, b, none]) n ?_ ⟨[], List.range n, h2, by simp, by simp, rfl⟩
      rintro j e ⟨ord, pool, h3, hpm, rfl, rfl⟩
      have pl := hpm.length_eq
      rw [List.length_append, List.length_range] at pl
      by_cases h0 : 0 < pool.length
      · obtain ⟨i, h4, hi, e3⟩ := draw_k k h3 (j := (pool.length : Int)) (by omega) (by omega)
        have hi' : i < pool.length := by omega
        simp -implicitDefEqProofs [-List.getD_eq_getElem?_getD, h0, e3, mO_popN hi' (by omega)]
        rw [mO_app ⟨by rw [List.length_map]; omega⟩, onO_some]
        refine ⟨pool.length - 1, by omega, ord ++ [pool.getD i 0], pool.eraseIdx i, ?_, ?_, ⟨h4, rfl⟩, by rw [List.map_append]; rfl, rfl⟩
        · refine List.Perm.trans ?_ hpm
          rw [List.append_assoc]
          exact List.Perm.append_left _ (perm_pop hi')
        · rw [List.length_eraseIdx, if_pos hi']
      · have : pool = [] := List.length_eq_zero_iff.mp (by omega)
        subst this
        simp -implicitDefEqProofs [-List.getD_eq_getElem?_getD]
        exact ⟨ord, by simpa using hpm, ⟨h3, rfl⟩, rfl⟩
    rintro c e' ⟨rfl, ord, h3, hpm, rfl⟩
    dsimp only
    have ol : ord.length = n := by rw [hpm.length_eq, List.length_range]
    have od : ord.Nodup := hpm.nodup_iff.mpr List.nodup_range
    have olt : ∀ x ∈ ord, x < n := fun x hx => List.mem_range.mp (hpm.mem_iff.mp hx)
    have og : ∀ i, i < n → ord.getD i 0 < n := fun i hi => by
      rw [List.getD_eq_getElem?_getD, List.getElem?_eq_getElem (by omega)]
      exact olt _ (List.getElem_mem _)
    simp -implicitDefEqProofs [-List.getD_eq_getElem?_getD]
    refine wp_lc pI (fun _ => true) (fun p => pI (ord.getD p.1 0, ord.getD p.2 0)) ps (.of (by omega)) ?_
    simp -implicitDefEqProofs [-List.getD_eq_getElem?_getD]
    refine ⟨fun x y hxy => ?_, ?_⟩
    · unfold LcAt
      have hb := hp _ hxy
      have s1 := sub_lN (o := true) (F := ord) (i := x) (by dsimp only at hb; omega)
      have s2 := sub_lN (o := true) (F := ord) (i := y) (by dsimp only at hb; omega)
      unfold pI
      simp -implicitDefEqProofs [-List.getD_eq_getElem?_getD, s1, s2]
    · rw [show (ps.map fun p => pI (ord.getD p.1 0, ord.getD p.2 0)) = (ps.map fun p => (ord.getD p.1 0, ord.getD p.2 0)).map pI from by rw [List.map_map]; rfl]
      have hq : ∀ p ∈ ps.map (fun p => (ord.getD p.1 0, ord.getD p.2 0)), p.1 < n ∧ p.2 < n := fun p hpp => by
        obtain ⟨q, hq, rfl⟩ := List.mem_map.mp hpp
        have := hp q hq
        exact ⟨og _ (by omega), og _ (by omega)⟩
      have e5 := law_least_sp (k := k) (n := n) n12 hq
      simp -implicitDefEqProofs [-List.getD_eq_getElem?_getD, -List.map_map, e5]
      exact ⟨n, _, ⟨sp_least fun p hpp => (hq p hpp).2, anti_told od olt fun p hpp => ⟨(hp p hpp).1, by have := (hp p hpp).2; omega⟩, n12⟩, nm, ⟨rfl, rfl⟩, _, rfl⟩
  obtain ⟨d, e, h1, n, L, h', a, b, rfl, rfl⟩ := wp_ex key
  exact ⟨n, L, h', a, b, h1⟩
end Bp.K04

namespace Bp.K04
open PySem PySem.Spec PyProof.Rows L2 Bp
theorem getD_get {f : List Nat} {i : Nat} (h : i < f.length) : f.getD i 0 = f[i] := by
  rw [List.getD_eq_getElem?_getD, List.getElem?_eq_getElem h]
  rfl
theorem zip_all {n : Nat} {L : List (List Nat)} {f g : List Nat} (hf : f.length = n) (hg : g.length = n) : ((f.zip g).all fun p => bel L p.1 p.2) = true ↔ ∀ x, x < n → bel L (f.getD x 0) (g.getD x 0) = true := by
  rw [List.all_eq_true]
  constructor
  · intro h x hx
    have := h (f[x]'(by omega), g[x]'(by omega)) (List.mem_iff_getElem.mpr ⟨x, by rw [List.length_zip]; omega, List.getElem_zip⟩)
    rw [getD_get (by omega), getD_get (by omega)]
    exact this
  · intro h p hp
    obtain ⟨i, hi, rfl⟩ := List.mem_iff_getElem.mp hp
    rw [List.length_zip] at hi
    have := h i (by omega)
    rw [getD_get (by omega), getD_get (by omega)] at this
    rw [List.getElem_zip]
    exact this
theorem map_self {n : Nat} {f g : List Nat} (hf : f.length = n) (hg : g.length = n) (h : ∀ x, x < n → g.getD (f.getD x 0) 0 = g.getD x 0) : (f.map fun x => g.getD x 0) = g := by
  refine List.ext_getElem (by rw [List.length_map]; omega) fun i h1 h2 => ?_
  have := h i (by omega)
  rw [getD_get (f := f) (by omega)] at this
  rw [List.getElem_map, this, getD_get]
def keptF (n : Nat) (f : List Nat) : List Nat := asc n fun x => decide (x = f.getD x 0)
theorem cnt_nodup {L : List (List Nat)} (h : L.Nodup) : cntD L = L.length := by
  unfold cntD
  rw [insKs_nodup (ks := []) (by simpa using h), List.nil_append]
theorem eqI_N {a b : Nat} : eqD (nI a) (.int (b : Int)) = decide (a = b) := eqD_nI a b
theorem law_right_sp {k n : Nat} {L : List (List Nat)} (t : Tp n L) {E : List (List Nat)} (hE : ∀ f ∈ E, f ∈ hullsF n L) (nd : E.Nodup) (hl : E.length < 64) : evP pg (k + 6) 34 [spc n L, .lst false (E.map tI)] = .ok (.bl true) [some (spc n L), some (.lst false (E.map tI))] := by
  have s := t.s
  have a := t.a
  have n12 := t.hn
  rw [p34]
  refine evBody_eq ?_
  unfold b34
  simp -implicitDefEqProofs [-List.getD_eq_getElem?_getD]
  refine wp_for tI (fun _ e => ∃ a b c d, e = [some (spc n L), some (.lst false (E.map tI)), a, b, none, c, d]) E ?_ ⟨none, none, none, none, rfl⟩ ?_
  · rintro p f q e hp ⟨a1, a2, a3, a4, rfl⟩
    have hf : f ∈ E := by rw [hp]; simp
    obtain ⟨lot, hlot, H⟩ := mem_hullsF.mp (hE f hf)
    have hy := hullBy_iff.mpr H
    have fl := H.len
    simp -implicitDefEqProofs [-List.getD_eq_getElem?_getD, kept_by_sp (k := k) t hlot H, hull_for_sp (k := k) t hlot, hy, hD]
    refine wp_lc nI (fun _ => true) (fun i => .bl (decide (f.getD i 0 ∈ lot))) (List.range n) (.rng n12) ?_
    simp -implicitDefEqProofs [-List.getD_eq_getElem?_getD, wp_rngI (n := n) (big n12), fl]
    refine ⟨fun i hi => ?_, ?_⟩
    · unfold LcAt
      have hb := sub_tN (F := f) (i := i) (by omega)
      simp -implicitDefEqProofs [-List.getD_eq_getElem?_getD, hb]
    · have : ∀ x, x < n → f.getD x 0 ∈ lot := fun x hx => H.mem hx
      refine ⟨this, ?_⟩
      refine wp_for tI (fun _ e => ∃ c d, e = [some (spc n L), some (.lst false (E.map tI)), some (tI f), some (tI lot), none, c, d]) E ?_ ⟨_, _, rfl⟩ ?_
      · rintro p' g q' e hp' ⟨c, d, rfl⟩
        have hg : g ∈ E := by rw [hp']; simp
        obtain ⟨lot', hlot', H'⟩ := mem_hullsF.mp (hE g hg)
        have gl := H'.len
        have h1 := zip_all (L := L) fl gl
        have h2 := H.beneath s a hlot hlot' H'
        have lb := lies_beneath_sp (k := k) t (Hl.of s a hlot H) (Hl.of s a hlot' H')
        have be := law_behind_sp (k := k + 4) n12 fl gl (Hl.of s a hlot H).all_lt
        have ms : ((f.zip g).all fun p => bel L p.1 p.2) = true → (f.map fun x => g.getD x 0) = g := fun q => map_self fl gl fun x hx => H.behind s a hlot H' (h1.mp q) hx
        generalize hb : ((f.zip g).all fun p => bel L p.1 p.2) = b at *
        simp -implicitDefEqProofs [-List.getD_eq_getElem?_getD, kept_by_sp (k := k) t hlot' H', lb]
        refine wp_lc nI (fun _ => true) (fun x => .bl (decide (x ∈ lot))) lot' (.of (by have := IsLot.len hlot'; omega)) ?_
        simp -implicitDefEqProofs [-List.getD_eq_getElem?_getD]
        refine ⟨fun x hx => ?_, ?_⟩
        · unfold LcAt
          simp -implicitDefEqProofs [-List.getD_eq_getElem?_getD]
        · cases b with
          | true =>
            have h3 := h2.mp (h1.mp rfl)
            simp -implicitDefEqProofs [-List.getD_eq_getElem?_getD, h3, be, ms rfl, lb]
            exact h3
          | false =>
            have h3 : ¬ ∀ x ∈ lot', x ∈ lot := fun q => nomatch h1.mpr (h2.mpr q)
            have h4 : ∃ x, x ∈ lot' ∧ ¬ x ∈ lot := by simpa using h3
            simp -implicitDefEqProofs [-List.getD_eq_getElem?_getD, h3, lb]
            exact h4
      · rintro e ⟨c, d, rfl⟩
        simp -implicitDefEqProofs [-List.getD_eq_getElem?_getD]
  · rintro e ⟨a1, a2, a3, a4, rfl⟩
    simp -implicitDefEqProofs [-List.getD_eq_getElem?_getD]
    refine wp_lc tI (fun _ => true) (fun f => tI (keptF n f)) E (.of (by omega)) ?_
    simp -implicitDefEqProofs [-List.getD_eq_getElem?_getD]
    refine ⟨fun f hf => ?_, ?_⟩
    · unfold LcAt
      obtain ⟨lot, hlot, H⟩ := mem_hullsF.mp (hE f hf)
      have hk := H.kept s a hlot
      simp -implicitDefEqProofs [-List.getD_eq_getElem?_getD, kept_by_sp (k := k) t hlot H]
      unfold keptF
      rw [hk]
    · rw [show (E.map fun f => tI (keptF n f)) = (E.map (keptF n)).map tI from by rw [List.map_map]; rfl, lset_lT (by rw [List.length_map]; omega), onO_some, cnt_nodup]
      · rw [List.length_map]
        simp -implicitDefEqProofs [-List.getD_eq_getElem?_getD, eqI_N]
      · refine List.pairwise_map.mpr (nd.imp_of_mem fun {x y} hx hy ne e => ne ?_)
        obtain ⟨l1, i1, H1⟩ := mem_hullsF.mp (hE x hx)
        obtain ⟨l2, i2, H2⟩ := mem_hullsF.mp (hE y hy)
        unfold keptF at e
        rw [H1.kept s a i1, H2.kept s a i2] at e
        subst e
        exact Option.some.inj ((hullBy_iff.mpr H1).symm.trans (hullBy_iff.mpr H2))
end Bp.K04

namespace Bp.K04
open PySem PySem.Spec PyProof.Rows L2 Bp
theorem wp_rng2 {e : Env} {K : ItR → Env → Prop} : wp (rng1 [.int 2] e) K = K ⟨[], (List.range 2).map nI⟩ e := wp_rngS (n := 2) (by decide)
def L4 : List (List Nat) := [[0], [0, 1], [0, 1, 2], [0, 1, 2, 3]]
def L3 : List (List Nat) := [[0], [1], [2]]
theorem sp4 : Sp 4 L4 := sp_of (by decide)
theorem sp3 : Sp 3 L3 := sp_of (by decide)
theorem anti_of {n : Nat} {L : List (List Nat)} (s : Sp n L) (h : ((List.range n).all fun x => (List.range n).all fun y => !(bel L x y && bel L y x) || decide (x = y)) = true) : Anti L := fun x y h1 h2 => by
  have hx := s.rng _ _ (bel_iff.mp h1)
  have hy := s.rng _ _ (bel_iff.mp h2)
  have := List.all_eq_true.mp (List.all_eq_true.mp h x (List.mem_range.mpr hx)) y (List.mem_range.mpr hy)
  rw [h1, h2] at this
  simpa using this
theorem tp4 : Tp 4 L4 := ⟨sp4, anti_of sp4 (by decide), by decide⟩
theorem tp3 : Tp 3 L3 := ⟨sp3, anti_of sp3 (by decide), by decide⟩
theorem hl4 : (hullsF 4 L4).length = 8 := by decide
theorem hl3 : (hullsF 3 L3).length = 1 := by decide
theorem fm_congr {f g : List Nat → Option (List Nat)} (h : ∀ x, f x = g x) (l : List (List Nat)) : l.filterMap f = l.filterMap g := by rw [show f = g from funext h]
theorem hulls_op {n : Nat} {L : List (List Nat)} (s : Sp n L) : hullsF n (opL n L) = kernsF n L := by
  unfold hullsF kernsF
  exact fm_congr (fun x => hull_op s x) _
theorem kerns_op {n : Nat} {L : List (List Nat)} (s : Sp n L) : kernsF n (opL n L) = hullsF n L := by
  unfold hullsF kernsF
  exact fm_congr (fun x => kern_op s x) _
theorem Tp.op {n : Nat} {L : List (List Nat)} (t : Tp n L) : Tp n (opL n L) := ⟨sp_op t.s, anti_op t.s t.a, t.hn⟩
theorem Tp.sum {n m : Nat} {L M : List (List Nat)} (t : Tp n L) (u : Tp m M) (h : n + m ≤ 12) : Tp (n + m) (sumL n L M) := ⟨sp_sum t.s u.s, anti_sum t.s u.s t.a u.a, h⟩
theorem hulls_le {n : Nat} {L : List (List Nat)} : (hullsF n L).length ≤ 2 ^ n := by
  unfold hullsF
  rw [← length_lotsU n]
  exact List.length_filterMap_le _ _
theorem add_shf {n : Nat} {f g : List Nat} (h : f.length + g.length ≤ 16777216) : addD (tI f) (tI (shf n g)) = some (tI (f ++ shf n g)) := add_tI (by unfold shf; rw [List.length_map]; exact h)
theorem flat_pairs (n : Nat) (A B : List (List Nat)) : (A.flatMap fun f => B.map fun g => tI (f ++ shf n g)) = (pairsH n A B).map tI := by
  have e : (fun f => B.map fun g => tI (f ++ shf n g)) = fun f => (B.map fun g => f ++ shf n g).map tI := funext fun f => by rw [List.map_map]; rfl
  rw [e]
  unfold pairsH
  rw [List.map_flatMap]
theorem mulD_ok {i j : Int} (h : mulOk i j = true) : mulD (.int i) (.int j) = some (.int (i * j)) := by
  show (if mulOk i j = true then some (D.int (i * j)) else none) = _
  rw [if_pos h]
theorem mul_ok {i : Int} (h0 : 0 ≤ i) (h : i < 64) (j : Int) : mulOk i j = true := mulOk_l (Int.lt_of_lt_of_le (show -two64 < 0 by decide) h0) (Int.lt_trans h (by decide))
theorem mul_len {a b : Nat} (h : a < 64) : mulD (.int (a : Int)) (nI b) = some (nI (a * b)) := by
  unfold nI
  rw [mulD_ok (mul_ok (Int.natCast_nonneg _) (by omega) _), Int.natCast_mul]
theorem law_ok (ns : List Int) (hl : ns.length ≤ 63) (k : Nat) {d : D} (hd' : d = .scr (ns.map D.int) ∨ d = .lst false (ns.map D.int)) : ∃ e, evP pg (k + 8) 35 [d] = .ok (.bl true) e := by
  have key : wp (evP pg (k + 8) 35 [d]) fun v e => v = .bl true := by
    obtain ⟨h0, q0⟩ := hand_ok (k + 6) hl hd'
    have fs : d.fz = true := by
      rcases hd' with rfl | rfl <;> simp [D.fz]
    obtain ⟨p4, i4⟩ := init_sp (k := k + 3) sp4 (by decide)
    obtain ⟨p3, i3⟩ := init_sp (k := k + 3) sp3 (by decide)
    have j4 : evP pg (k + 7) 36 [.ins true 0 [] [], .int 4, .tup [.tup [.int 0], .tup [.int 0, .int 1], .tup [.int 0, .int 1, .int 2], .tup [.int 0, .int 1, .int 2, .int 3]]] = .ok .non (some (.ins true 0 ["places", "least"] [nI 4, tII L4]) :: p4) := i4
    have j3 : evP pg (k + 7) 36 [.ins true 0 [] [], .int 3, .tup [.tup [.int 0], .tup [.int 1], .tup [.int 2]]] = .ok .non (some (.ins true 0 ["places", "least"] [nI 3, tII L3]) :: p3) := i3
    have m4 : evP pg (k + 7) 28 [spc 4 L4] = .ok (.int 8) [some (spc 4 L4)] := by
      have := many_hulls_sp (k := k + 2) tp4 (by decide)
      rw [hl4] at this
      exact this
    have m3 : evP pg (k + 7) 28 [spc 3 L3] = .ok (.int 1) [some (spc 3 L3)] := by
      have := many_hulls_sp (k := k + 2) tp3 (by decide)
      rw [hl3] at this
      exact this
    generalize d = d0 at *
    rw [p35]
    refine wp_body ?_
    unfold b35
    simp -implicitDefEqProofs [-List.getD_eq_getElem?_getD, q0, wp_rng2, fs]
    refine wp_rangeFor (fun _ e => ∃ h a2 a3 a4 a5 a6 a7 a8 a9 a10 a11 a12, e = [some d0, some (hd h), a2, a3, a4, a5, a6, a7, a8, a9, a10, a11, a12, none, none, none]) ?_ ⟨h0, none, none, none, none, none, none, none, none, none, none, none, rfl⟩ ?_
    · rintro x e hx ⟨h, a2, a3, a4, a5, a6, a7, a8, a9, a10, a11, a12, rfl⟩
      obtain ⟨n, L, h1, t, hn, e1⟩ := told_sp (k + 5) h (m := 4) (by decide) (by decide)
      obtain ⟨m, M, h2, u, hm, e2⟩ := told_sp (k + 5) h1 (m := 2) (by decide) (by decide)
      have hn4 : n ≤ 4 := by omega
      have hm2 : m ≤ 2 := by omega
      obtain ⟨ps, e3⟩ := init_sp (k := k + 3) t.s t.hn
      obtain ⟨ps2, e4⟩ := init_sp (k := k + 3) u.s u.hn
      have w := t.sum u (by omega)
      have e5 : (D.tup [nI n, tII L]).sh = .tup [nI n, tII L] := by
        have a := sh_tII L
        have b := sh_nI n
        simp only [D.sh, shs, a, b]
      have e6 : (D.tup [nI m, tII M]).sh = .tup [nI m, tII M] := by
        have a := sh_tII M
        have b := sh_nI m
        simp only [D.sh, shs, a, b]
      have ln : (hullsF n L).length ≤ 16 := Nat.le_trans hulls_le (Nat.pow_le_pow_right (n := 2) (by decide) hn4)
      have lm : (hullsF m M).length ≤ 4 := Nat.le_trans hulls_le (Nat.pow_le_pow_right (n := 2) (by decide) hm2)
      have h20 := hulls_sp (k := k + 2) t
      have h20o := hulls_sp (k := k + 2) t.op
      have h25 := kernels_sp (k := k + 3) t
      have h25o := kernels_sp (k := k + 3) t.op
      rw [hulls_op t.s] at h20o
      rw [kerns_op t.s] at h25o
      have h12 := turned_sp (k := k + 1) t.s t.hn
      have h28 := many_hulls_sp (k := k + 2) t (by omega)
      have h20m := hulls_sp (k := k + 2) u
      have h28m := many_hulls_sp (k := k + 2) u (by omega)
      have h11 := together_sp (k := k) t.s u.s (by omega)
      have h20w := hulls_sp (k := k + 2) w
      have h28w := many_hulls_sp (k := k + 2) w (by omega)
      have pA := List.mergeSort_perm (hullsF n L) leT
      have pB := List.mergeSort_perm (hullsF m M) leT
      have lA := pA.length_eq
      have lB := pB.length_eq
      have h42 := law_right_sp (k := k + 1) t (E := (hullsF n L).mergeSort leT) (fun f hf => pA.mem_iff.mp hf) (pA.nodup_iff.mpr (nodup_hullsF t.s t.a)) (by omega)
      have pP := pairsH_perm t.s u.s t.a u.a pA pB
      have sP := lo_leT.ext pP
      have lP := pP.length_eq
      rw [pairsH_len] at lP
      have memA : ∀ f ∈ (hullsF n L).mergeSort leT, f.length = n := fun f hf => by
        obtain ⟨_, _, H⟩ := mem_hullsF.mp (pA.mem_iff.mp hf)
        exact H.len
      have memB : ∀ f ∈ (hullsF m M).mergeSort leT, f.length = m := fun f hf => by
        obtain ⟨_, _, H⟩ := mem_hullsF.mp (pB.mem_iff.mp hf)
        exact H.len
      rw [sP] at h20w
      rw [lP, lA, lB] at h28w
      generalize (hullsF n L).mergeSort leT = A at *
      generalize (hullsF m M).mergeSort leT = B at *
      simp -implicitDefEqProofs [-List.getD_eq_getElem?_getD, e1, e5, e3, sh_ins, h20, h42, h12, h20o, h25, h25o, h28, lA, e2, e6, e4, h11]
      refine ⟨by rw [eqI_N]; simp, ?_⟩
      refine wp_growFor tI (fun f => B.map fun g => tI (f ++ shf n g)) (fun acc e => ∃ b, e = [some d0, some (hd h2), some (nI x), some (nI n), some (tII L), some (spc n L), some (.lst false (A.map tI)), some (nI m), some (tII M), some (spc m M), some (spc (n + m) (sumL n L M)), some (.lst true acc), b, none, none, none]) A [] 4 (fun f _ => by rw [List.length_map]; omega) ⟨by rw [List.length_nil]; omega⟩ ?_ ⟨_, rfl⟩ ?_
      · rintro f acc e hf hS ⟨b, rfl⟩
        have lf := memA f hf
        simp -implicitDefEqProofs [-List.getD_eq_getElem?_getD]
        refine wp_lc tI (fun _ => true) (fun g => tI (f ++ shf n g)) B (.of (by omega)) ?_
        simp -implicitDefEqProofs [-List.getD_eq_getElem?_getD, h20m]
        refine ⟨fun g hg => ?_, ?_⟩
        · unfold LcAt
          have lg := memB g hg
          simp -implicitDefEqProofs [-List.getD_eq_getElem?_getD]
          refine wp_lc nI (fun _ => true) (fun x => nI (n + x)) g (.of (by omega)) ?_
          simp -implicitDefEqProofs [-List.getD_eq_getElem?_getD]
          refine ⟨fun x hx => ?_, ?_⟩
          · unfold LcAt
            simp -implicitDefEqProofs [-List.getD_eq_getElem?_getD, addN_N]
          · rw [show (g.map fun x => nI (n + x)) = (shf n g).map nI from by unfold shf; rw [List.map_map]; exact List.map_congr_left fun x _ => congrArg nI (Nat.add_comm n x)]
            simp -implicitDefEqProofs [-List.getD_eq_getElem?_getD, add_shf (n := n) (f := f) (g := g) (by omega)]
        · have hz : fzs (B.map fun g => tI (f ++ shf n g)) = true := fzs_all fun d hd => by
            obtain ⟨g, _, rfl⟩ := List.mem_map.mp hd
            exact fz_tI _
          have hs : Small (acc.length + (B.map fun g => tI (f ++ shf n g)).length) := by
            have := hS.le
            rw [List.length_map]
            exact ⟨by omega⟩
          rw [mO_ext hz hs, onO_some]
      · rintro e ⟨b, rfl⟩
        have ep := flat_pairs n A B
        have lp : (pairsH n A B).length ≤ 16777216 := by
          rw [pairsH_len]
          exact Nat.le_trans (Nat.mul_le_mul (show A.length ≤ 16 by omega) (show B.length ≤ 4 by omega)) (by decide)
        have mu : mulD (.int (A.length : Int)) (nI (hullsF m M).length) = some (nI ((hullsF n L).length * (hullsF m M).length)) := by
          rw [mul_len (show A.length < 64 by omega), lA]
        rw [List.nil_append, ep]
        simp -implicitDefEqProofs [-List.getD_eq_getElem?_getD, h20w, sortedL_tI (o := true) (l := pairsH n A B) lp, h28w, h28m, mu]
        exact ⟨h2, rfl⟩
    · rintro e ⟨h, a2, a3, a4, a5, a6, a7, a8, a9, a10, a11, a12, rfl⟩
      simp -implicitDefEqProofs [-List.getD_eq_getElem?_getD, j4, j3, m4, m3, sh_ins]
  obtain ⟨d, e, h1, rfl⟩ := wp_ex key
  exact ⟨e, h1⟩
end Bp.K04

namespace Bp.K04
open PySem PySem.Spec PyProof.Rows L2 Bp
theorem law_val (ns : List Int) (hl : ns.length ≤ 63) (d : D) (hd : d = .scr (ns.map D.int) ∨ d = .lst false (ns.map D.int)) : ∃ e, evP pg 14 35 [d] = .ok (.bl true) e := Bp.K04.law_ok ns hl 6 hd
end Bp.K04

namespace Bp.K04
open PySem PySem.Spec PyProof.Rows L2 Bp
theorem spv {K : PySem.W.Frag} {H : Hp} {a : Addr} {ns : List Int} (hl : ns.length ≤ 63) (hs : SqL K H a (ns.map V.int)) : spL K (evP pg 14 35) [.ref a] H (fun v _ => v = .bl true) fun _ _ _ => False := fun cA =>
  law_sp (k := ⟨K, cA, []⟩) (fun p hp => nomatch hp) hs fun d hd => law_val ns hl d hd
end Bp.K04
open PySem PySem.W PyProof.Rows
open Bp in
set_option maxHeartbeats 0 in
theorem PySem.Challenge.cw_beatplaces_k45_whole_hulls_kernels_turne_holds : PySem.Challenge.rw_beatplaces_k45_whole_hulls_kernels_turne.Holds := by
  w_on; o_law; k_head; (case hw => w_witness2)
  k_fill
  refine L2.walk_of (l := PySem.Challenge.rw_beatplaces_k45_whole_hulls_kernels_turne) (n := 63) (k := 28) (x := "script") (CX := fun w => L2.CX PySem.Challenge.rw_beatplaces_k45_whole_hulls_kernels_turne.prog w) (sp := fun w => Bp.spL _ (Bp.evP Bp.K04.pg 14 35)) rfl (by decide) rfl ⟨rfl, by decide, by decide⟩ (fun w h Y => PySem.W.kIn_of Y) ?F (fun _ _ a ns hl ho hS => Bp.K04.spv hl hS) (fun _ _ _ _ _ ⟨_, _, _, _, _, _, _, _, _, _, _, _, h⟩ => h)
  case F =>
    intro w mg fa h KX G hmg
    refine' Bp.K04.asm 14 KX G hmg ?e0 ?e1 ?e2 ?e3 ?e4 ?e5 ?e6 ?e7 ?e8 ?e9 ?e10 ?e11 ?e12 ?e13 ?e14 ?e15 ?e16 ?e17 ?e18 ?e19 ?e20 ?e21 ?e22 ?e23 ?e24 ?e25 ?e26 ?e27 ?e28 ?e29 ?e30 ?e31 ?e32 ?e33 ?e34 ?e35 ?s0 ?k0 ?bl
    (case e0 => refine' topE_mk K04.bd0 ?n ?l ?c ?k; (case n => k_is); (case l => k_is); (case c => k_is); (case k => k_is))
    (case e1 => refine' topE_mk K04.bd1 ?n ?l ?c ?k; (case n => k_is); (case l => k_is); (case c => k_is); (case k => k_is))
    (case e2 => refine' topE_mk K04.bd2 ?n ?l ?c ?k; (case n => k_is); (case l => k_is); (case c => k_is); (case k => k_is))
    (case e3 => refine' topE_mk K04.bd3 ?n ?l ?c ?k; (case n => k_is); (case l => k_is); (case c => k_is); (case k => k_is))
    (case e4 => refine' topE_mk K04.bd4 ?n ?l ?c ?k; (case n => k_is); (case l => k_is); (case c => k_is); (case k => k_is))
    (case e5 => refine' topE_mk K04.bd5 ?n ?l ?c ?k; (case n => k_is); (case l => k_is); (case c => k_is); (case k => k_is))
    (case e6 => refine' topE_mk K04.bd6 ?n ?l ?c ?k; (case n => k_is); (case l => k_is); (case c => k_is); (case k => k_is))
    (case e7 => refine' topE_mk K04.bd7 ?n ?l ?c ?k; (case n => k_is); (case l => k_is); (case c => k_is); (case k => k_is))
    (case e8 => refine' topE_mk K04.bd8 ?n ?l ?c ?k; (case n => k_is); (case l => k_is); (case c => k_is); (case k => k_is))
    (case e9 => refine' topE_mk K04.bd9 ?n ?l ?c ?k; (case n => k_is); (case l => k_is); (case c => k_is); (case k => k_is))
    (case e10 => refine' topE_mk K04.bd10 ?n ?l ?c ?k; (case n => k_is); (case l => k_is); (case c => k_is); (case k => k_is))
    (case e11 => refine' topE_mk K04.bd11 ?n ?l ?c ?k; (case n => k_is); (case l => k_is); (case c => k_is); (case k => k_is))
    (case e12 => refine' topE_mk K04.bd12 ?n ?l ?c ?k; (case n => k_is); (case l => k_is); (case c => k_is); (case k => k_is))
    (case e13 => refine' topE_mk K04.bd13 ?n ?l ?c ?k; (case n => k_is); (case l => k_is); (case c => k_is); (case k => k_is))
    (case e14 => refine' topE_mk K04.bd14 ?n ?l ?c ?k; (case n => k_is); (case l => k_is); (case c => k_is); (case k => k_is))
    (case e15 => refine' topE_mk K04.bd15 ?n ?l ?c ?k; (case n => k_is); (case l => k_is); (case c => k_is); (case k => k_is))
    (case e16 => refine' topE_mk K04.bd16 ?n ?l ?c ?k; (case n => k_is); (case l => k_is); (case c => k_is); (case k => k_is))
    (case e17 => refine' topE_mk K04.bd17 ?n ?l ?c ?k; (case n => k_is); (case l => k_is); (case c => k_is); (case k => k_is))
    (case e18 => refine' topE_mk K04.bd18 ?n ?l ?c ?k; (case n => k_is); (case l => k_is); (case c => k_is); (case k => k_is))
    (case e19 => refine' topE_mk K04.bd19 ?n ?l ?c ?k; (case n => k_is); (case l => k_is); (case c => k_is); (case k => k_is))
    (case e20 => refine' topE_mk K04.bd20 ?n ?l ?c ?k; (case n => k_is); (case l => k_is); (case c => k_is); (case k => k_is))
    (case e21 => refine' topE_mk K04.bd21 ?n ?l ?c ?k; (case n => k_is); (case l => k_is); (case c => k_is); (case k => k_is))
    (case e22 => refine' topE_mk K04.bd22 ?n ?l ?c ?k; (case n => k_is); (case l => k_is); (case c => k_is); (case k => k_is))
    (case e23 => refine' topE_mk K04.bd23 ?n ?l ?c ?k; (case n => k_is); (case l => k_is); (case c => k_is); (case k => k_is))
    (case e24 => refine' topE_mk K04.bd24 ?n ?l ?c ?k; (case n => k_is); (case l => k_is); (case c => k_is); (case k => k_is))
    (case e25 => refine' topE_mk K04.bd25 ?n ?l ?c ?k; (case n => k_is); (case l => k_is); (case c => k_is); (case k => k_is))
    (case e26 => refine' topE_mk K04.bd26 ?n ?l ?c ?k; (case n => k_is); (case l => k_is); (case c => k_is); (case k => k_is))
    (case e27 => refine' topE_mk K04.bd27 ?n ?l ?c ?k; (case n => k_is); (case l => k_is); (case c => k_is); (case k => k_is))
    (case e28 => refine' topE_mk K04.bd28 ?n ?l ?c ?k; (case n => k_is); (case l => k_is); (case c => k_is); (case k => k_is))
    (case e29 => refine' topE_mk K04.bd29 ?n ?l ?c ?k; (case n => k_is); (case l => k_is); (case c => k_is); (case k => k_is))
    (case e30 => refine' topE_mk K04.bd30 ?n ?l ?c ?k; (case n => k_is); (case l => k_is); (case c => k_is); (case k => k_is))
    (case e31 => refine' topE_mk K04.bd31 ?n ?l ?c ?k; (case n => k_is); (case l => k_is); (case c => k_is); (case k => k_is))
    (case e32 => refine' topE_mk K04.bd32 ?n ?l ?c ?k; (case n => k_is); (case l => k_is); (case c => k_is); (case k => k_is))
    (case e33 => refine' topE_mk K04.bd33 ?n ?l ?c ?k; (case n => k_is); (case l => k_is); (case c => k_is); (case k => k_is))
    (case e34 => refine' topE_mk K04.bd34 ?n ?l ?c ?k; (case n => k_is); (case l => k_is); (case c => k_is); (case k => k_is))
    (case e35 => refine' topE_mk K04.bd35 ?n ?l ?c ?k; (case n => k_is); (case l => k_is); (case c => k_is); (case k => k_is))
    (case s0 => refine' clsE_mk K04.bd36 ?n ?mi ?isf ?l ?c ?k ?mk ?kc ?pg ?hd ?po ?sa (AllL.mem ⟨?na0, ?na1, trivial⟩); (case n => k_is); (case mi => k_is); (case isf => k_is); (case l => k_is); (case c => k_is); (case k => k_is); (case mk => k_is); (case kc => k_is); (case pg => k_is); (case hd => k_is); (case po => k_is); (case sa => k_is); (case na0 => (show PySem.W.findIn _ _ _ = _); k_is); (case na1 => (show PySem.W.findIn _ _ _ = _); k_is))
    (case k0 => exact ⟨_, by k_is⟩)
    (case bl => refine' ⟨?z0, ?z1, ?z2, ?z3, ?z4, ?z5, ?z6, ?z7, ?z8, ?z9, ?z10, ?z11, ?z12, trivial⟩; (case z0 => k_is); (case z1 => k_is); (case z2 => k_is); (case z3 => k_is); (case z4 => k_is); (case z5 => k_is); (case z6 => k_is); (case z7 => k_is); (case z8 => k_is); (case z9 => k_is); (case z10 => k_is); (case z11 => k_is); (case z12 => k_is))

