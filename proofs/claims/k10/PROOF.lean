import PyProof.Rows.All
import Wide.All
import OpenK.AllK
import Wide.FinOn
import HandS.ForMost
import HandS.ForExc
import HandS.Flow
import HandS.IsInst
import HandS.Wide
import HandS.More
import HandS.SortInts
import HandS.Defaults
import HandS.TryMany
import HandS.Style
import HandS.Deep
import HandS.TupLen
import HandS.Conv
import HandS.CallSlots
import HandS.MakeKwOnly
import HandS.Walk
import HandS.Zip
import HandS.TryOnly
import HandS.Small
import HandS.DictComp
import OpenK.KOps
import OpenK.KMeth
import KE.DataMinMax
import HandS.ListItems
import HandS.Iter
import KE.KDictLaws
import PySem.Challenge.RW_ringnumber_k10_whole_numbers_by_going_th
set_option Elab.async false
set_option linter.all false
set_option autoImplicit false
set_option maxRecDepth 100000
set_option maxHeartbeats 2000000
/-! V0: values as data D, how a heap tells them, what a frame's slots hold, readings whose meaning is a plain function. -/
namespace DV
open PySem L2

/-- data -/
inductive D where
  | non | bl (b : Bool) | int (i : Int) | str (x : Str)
  | lst (xs : List D) | tup (xs : List D) | scr (ns : List Int)
  | dct (kds : List (Key × D)) | dtt (kds : List (List Key × D))
  | obj (c : Nat) (fs : List (Str × D))
  | tag (v : V) (d : D)
instance : Inhabited D := ⟨.non⟩
/-- without the tag -/
def D.un : D → D
  | .tag _ d => d.un
  | d => d

/-- the written part, the classes by number -/
structure Γ where
  K : PySem.W.Frag
  cls : Nat → Addr

mutual
inductive Rep (g : Γ) (F : Hp) : V → D → Prop
  | non : Rep g F .non .non
  | bl (b : Bool) : Rep g F (.bl b) (.bl b)
  | int (i : Int) : Rep g F (.int i) (.int i)
  | str (x : Str) : Rep g F (.str x) (.str x)
  | lst {a : Addr} {vs : List V} {ds : List D} (h : F a = some (.lst vs)) (r : Reps g F vs ds) : Rep g F (.ref a) (.lst ds)
  | scr {a : Addr} {ns : List Int} (h : SqL g.K F a (ns.map V.int)) : Rep g F (.ref a) (.scr ns)
  | tup {a : Addr} {vs : List V} {ds : List D} (h : F a = some (.tup vs)) (r : Reps g F vs ds) : Rep g F (.ref a) (.tup ds)
  | dct {a : Addr} {kvs : List (Key × V)} {kds : List (Key × D)} {o : Obj} (h : F a = some (.frz o (.dK kvs))) (e : kvs.map (·.1) = kds.map (·.1)) (r : Reps g F (kvs.map (·.2)) (kds.map (·.2))) : Rep g F (.ref a) (.dct kds)
  | dtt {a : Addr} {kvs : List (List Key × V)} {kds : List (List Key × D)} {o : Obj} (h : F a = some (.frz o (.dT kvs))) (e : kvs.map (·.1) = kds.map (·.1)) (r : Reps g F (kvs.map (·.2)) (kds.map (·.2))) : Rep g F (.ref a) (.dtt kds)
  | obj {a dx : Addr} {c : Nat} {fs : List (Str × V)} {fds : List (Str × D)} (h : F a = some (.ins (g.cls c) dx fs)) (e : fs.map (·.1) = fds.map (·.1)) (r : Reps g F (fs.map (·.2)) (fds.map (·.2))) : Rep g F (.ref a) (.obj c fds)
  | tag {v : V} {d : D} (r : Rep g F v d) : Rep g F v (.tag v d)
inductive Reps (g : Γ) (F : Hp) : List V → List D → Prop
  | nil : Reps g F [] []
  | cons {v : V} {d : D} {vs : List V} {ds : List D} (h : Rep g F v d) (r : Reps g F vs ds) : Reps g F (v :: vs) (d :: ds)
end

def isDict : HO → Bool
  | .dK _ => true
  | .dT _ => true
  | _ => false
abbrev Up (F F' : Hp) : Prop := Same F F'
theorem Up.of {F F' : Hp} (h : Same F F') : Up F F' := h

mutual
theorem Rep.up {g : Γ} {F F' : Hp} (u : Up F F') : ∀ {v : V} {d : D}, Rep g F v d → Rep g F' v d
  | _, _, .non => .non
  | _, _, .bl b => .bl b
  | _, _, .int i => .int i
  | _, _, .str x => .str x
  | _, _, .lst h r => .lst (u _ _ h) (r.up u)
  | _, _, .scr h => .scr (Same.seq u h)
  | _, _, .tup h r => .tup (u _ _ h) (r.up u)
  | _, _, .dct h e r => .dct (u _ _ h) e (r.up u)
  | _, _, .dtt h e r => .dtt (u _ _ h) e (r.up u)
  | _, _, .obj h e r => .obj (u _ _ h) e (r.up u)
  | _, _, .tag r => .tag (r.up u)
theorem Reps.up {g : Γ} {F F' : Hp} (u : Up F F') : ∀ {vs : List V} {ds : List D}, Reps g F vs ds → Reps g F' vs ds
  | _, _, .nil => .nil
  | _, _, .cons h r => .cons (h.up u) (r.up u)
end
theorem Rep.mono {g : Γ} {F F' : Hp} {v : V} {d : D} (r : Rep g F v d) (h : Same F F') : Rep g F' v d := r.up (.of h)
theorem Reps.mono {g : Γ} {F F' : Hp} {v : List V} {d : List D} (r : Reps g F v d) (h : Same F F') : Reps g F' v d := r.up (.of h)
theorem Reps.length {g : Γ} {F : Hp} : ∀ {vs : List V} {ds : List D}, Reps g F vs ds → vs.length = ds.length
  | _, _, .nil => rfl
  | _, _, .cons _ r => congrArg (· + 1) r.length
theorem Reps.get {g : Γ} {F : Hp} : ∀ {vs : List V} {ds : List D} {i : Nat} {d : D}, Reps g F vs ds → ds[i]? = some d → ∃ v, vs[i]? = some v ∧ Rep g F v d
  | _, _, _, _, .nil, e => by simp at e
  | _, _, 0, _, .cons h _, e => by simp at e; subst e; exact ⟨_, rfl, h⟩
  | _, _, i + 1, _, .cons _ r, e => r.get (i := i) (by simpa using e)
theorem Reps.get' {g : Γ} {F : Hp} : ∀ {vs : List V} {ds : List D} {i : Nat} {v : V}, Reps g F vs ds → vs[i]? = some v → ∃ d, ds[i]? = some d ∧ Rep g F v d
  | _, _, _, _, .nil, e => by simp at e
  | _, _, 0, _, .cons h _, e => by simp at e; subst e; exact ⟨_, rfl, h⟩
  | _, _, i + 1, _, .cons _ r, e => r.get' (i := i) (by simpa using e)
theorem Reps.app {g : Γ} {F : Hp} : ∀ {vs ws : List V} {ds es : List D}, Reps g F vs ds → Reps g F ws es → Reps g F (vs ++ ws) (ds ++ es)
  | _, _, _, _, .nil, q => q
  | _, _, _, _, .cons h r, q => .cons h (r.app q)
theorem Reps.one {g : Γ} {F : Hp} {v : V} {d : D} (h : Rep g F v d) : Reps g F [v] [d] := .cons h .nil
theorem Reps.set {g : Γ} {F : Hp} {v : V} {d : D} (q : Rep g F v d) : ∀ {vs : List V} {ds : List D} (i : Nat), Reps g F vs ds → Reps g F (vs.set i v) (ds.set i d)
  | _, _, _, .nil => .nil
  | _, _, 0, .cons _ r => .cons q r
  | _, _, i + 1, .cons h r => .cons h (r.set q i)
theorem Reps.take {g : Γ} {F : Hp} : ∀ {vs : List V} {ds : List D} (n : Nat), Reps g F vs ds → Reps g F (vs.take n) (ds.take n)
  | _, _, 0, _ => .nil
  | _, _, _ + 1, .nil => .nil
  | _, _, n + 1, .cons h r => .cons h (r.take n)
theorem Reps.drop {g : Γ} {F : Hp} : ∀ {vs : List V} {ds : List D} (n : Nat), Reps g F vs ds → Reps g F (vs.drop n) (ds.drop n)
  | _, _, 0, r => r
  | _, _, _ + 1, .nil => .nil
  | _, _, n + 1, .cons _ r => r.drop n
theorem Reps.reverse {g : Γ} {F : Hp} : ∀ {vs : List V} {ds : List D}, Reps g F vs ds → Reps g F vs.reverse ds.reverse
  | _, _, .nil => .nil
  | _, _, .cons h r => by rw [List.reverse_cons, List.reverse_cons]; exact r.reverse.app (.one h)
theorem Reps.erase {g : Γ} {F : Hp} : ∀ {vs : List V} {ds : List D} (i : Nat), Reps g F vs ds → Reps g F (vs.eraseIdx i) (ds.eraseIdx i)
  | _, _, _, .nil => .nil
  | _, _, 0, .cons _ r => r
  | _, _, i + 1, .cons h r => .cons h (r.erase i)
theorem Rep.un {g : Γ} {F : Hp} {v : V} : ∀ {d : D}, Rep g F v d → Rep g F v d.un
  | .tag _ d, .tag r => r.un
  | .non, r => r
  | .bl _, r => r
  | .int _, r => r
  | .str _, r => r
  | .lst _, r => r
  | .tup _, r => r
  | .scr _, r => r
  | .dct _, r => r
  | .dtt _, r => r
  | .obj _ _, r => r

/-! ### what a slot holds -/
/-- the content of an owned object -/
inductive Ct where
  | l (ds : List D) | d (kds : List (Key × D)) | t (kds : List (List Key × D)) | o (c : Nat) (fs : List (Str × D))
def Ct.toD : Ct → D
  | .l ds => .lst ds
  | .d k => .dct k
  | .t k => .dtt k
  | .o c f => .obj c f
/-- a slot: nothing that is known, frozen data, an owned object (handed in as the k-th argument, or one's own) -/
inductive S where
  | no | fz (d : D) | own (org : Option Nat) (c : Ct)
instance : Inhabited S := ⟨.no⟩
def S.isOwn : S → Bool
  | .own _ _ => true
  | _ => false
abbrev Env := List S
def CtR (g : Γ) (F H : Hp) (a : Addr) : Ct → Prop
  | .l ds => ∃ vs, H a = some (.lst vs) ∧ Reps g F vs ds
  | .d kds => ∃ kvs : List (Key × V), H a = some (.dK kvs) ∧ kvs.map (·.1) = kds.map (·.1) ∧ Reps g F (kvs.map (·.2)) (kds.map (·.2))
  | .t kds => ∃ kvs : List (List Key × V), H a = some (.dT kvs) ∧ kvs.map (·.1) = kds.map (·.1) ∧ Reps g F (kvs.map (·.2)) (kds.map (·.2))
  | .o c fds => ∃ dx fs, H a = some (.ins (g.cls c) dx fs) ∧ fs.map (·.1) = fds.map (·.1) ∧ Reps g F (fs.map (·.2)) (fds.map (·.2))
def SlotR (g : Γ) (B F : Hp) (A : Nat → V) (H : Hp) (v : Option V) : S → Prop
  | .no => True
  | .fz d => ∃ x, v = some x ∧ Rep g F x d
  | .own org c => ∃ a, v = some (.ref a) ∧ (∀ k, org = some k → A k = .ref a) ∧ CtR g F H a c ∧ B a = none ∧ F a = none
theorem CtR.there {g : Γ} {F H : Hp} {a : Addr} {c : Ct} (h : CtR g F H a c) : ∃ o, H a = some o := by
  cases c with
  | l ds => obtain ⟨_, e, _⟩ := h; exact ⟨_, e⟩
  | d ds => obtain ⟨_, e, _⟩ := h; exact ⟨_, e⟩
  | t ds => obtain ⟨_, e, _⟩ := h; exact ⟨_, e⟩
  | o c ds => obtain ⟨_, _, e, _⟩ := h; exact ⟨_, e⟩
theorem CtR.up {g : Γ} {F F' H H' : Hp} {a : Addr} {c : Ct} (h : CtR g F H a c) (u : Up F F') (e : H' a = H a) : CtR g F' H' a c := by
  cases c with
  | l ds => obtain ⟨_, h, r⟩ := h; exact ⟨_, e.trans h, r.up u⟩
  | d ds => obtain ⟨_, h, k, r⟩ := h; exact ⟨_, e.trans h, k, r.up u⟩
  | t ds => obtain ⟨_, h, k, r⟩ := h; exact ⟨_, e.trans h, k, r.up u⟩
  | o c ds => obtain ⟨_, _, h, k, r⟩ := h; exact ⟨_, _, e.trans h, k, r.up u⟩
/-- the object as it is frozen: a dict is locked -/
def lk (c : Ct) (od : Obj) (o : HO) : HO := match c with
  | .d _ => .frz od o
  | .t _ => .frz od o
  | _ => o
/-- an owned object becomes frozen data -/
theorem CtR.rep {g : Γ} {F F' H : Hp} {a : Addr} {c : Ct} {od : Obj} {o : HO} (h : CtR g F H a c) (ho : H a = some o) (s : Same F F') (e : F' a = some (lk c od o)) : Rep g F' (.ref a) c.toD := by
  cases c with
  | l ds => obtain ⟨_, h, r⟩ := h; rw [ho] at h; cases h; exact .lst e (r.mono s)
  | d ds => obtain ⟨_, h, k, r⟩ := h; rw [ho] at h; cases h; exact .dct e k (r.mono s)
  | t ds => obtain ⟨_, h, k, r⟩ := h; rw [ho] at h; cases h; exact .dtt e k (r.mono s)
  | o c ds => obtain ⟨_, _, h, k, r⟩ := h; rw [ho] at h; cases h; exact .obj e k (r.mono s)
theorem upd_self {H : Hp} {a : Addr} {o : HO} (h : H a = some o) : upd H a o = H := funext fun b => by
  by_cases hb : b = a
  · subst hb; rw [upd_same, h]
  · rw [upd_ne hb]
/-- how a reading goes on with a value that is frozen -/
def Lk (c : Ct) (a : Addr) (H : Hp) (Q : Hp → Prop) : Prop := Q H ∨ ∃ u, H a = some u ∧ Mut (some u) ∧ ∀ od, Q (upd H a (.frz od u))
theorem CtR.lk {g : Γ} {F H : Hp} {a : Addr} {c : Ct} {o : HO} {Q : Hp → Prop} (h : CtR g F H a c) (ho : H a = some o) (q : ∀ od, Q (upd H a (DV.lk c od o))) : Lk c a H Q := by
  cases c with
  | l ds => have := q default; rw [show DV.lk (.l ds) default o = o from rfl, upd_self ho] at this; exact .inl this
  | o k ds => have := q default; rw [show DV.lk (.o k ds) default o = o from rfl, upd_self ho] at this; exact .inl this
  | d ds => obtain ⟨_, h, _⟩ := h; rw [ho] at h; cases h; exact .inr ⟨_, ho, trivial, q⟩
  | t ds => obtain ⟨_, h, _⟩ := h; rw [ho] at h; cases h; exact .inr ⟨_, ho, trivial, q⟩

/-- the state: B is left alone, F frozen -/
structure SI (g : Γ) (B F : Hp) (A : Nat → V) (H : Hp) (σ : St) (env : Env) : Prop where
  b : Same B H
  f : Same F H
  len : env.length = σ.length
  sl : ∀ (i : Nat) (s : S), env[i]? = some s → SlotR g B F A H ((σ[i]?).join) s
  dj : ∀ (i j : Nat) (s t : S) (a : Addr), env[i]? = some s → env[j]? = some t → s.isOwn = true → t.isOwn = true → σ[i]? = some (some (V.ref a)) → σ[j]? = some (some (V.ref a)) → i = j
/-- what is frozen grows, by new objects and by one's own -/
def Ext (B F F' : Hp) : Prop := Same F F' ∧ ∀ a, B a ≠ none → F a = none → F' a = none
theorem Ext.refl (B F : Hp) : Ext B F F := ⟨Same.refl F, fun _ _ h => h⟩
theorem Ext.trans {B F F1 F2 : Hp} (a : Ext B F F1) (b : Ext B F1 F2) : Ext B F F2 := ⟨a.1.trans b.1, fun x h e => b.2 x h (a.2 x h e)⟩
/-- only new objects -/
structure All (F H F' H' : Hp) : Prop where
  f : Same F F'
  h : Same H H'
  fh : Same F' H'
  n : ∀ a o, F' a = some o → F a = some o ∨ H a = none
theorem All.refl {F H : Hp} (h : Same F H) : All F H F H := ⟨Same.refl F, Same.refl H, h, fun _ _ e => .inl e⟩
theorem All.trans {F H F1 H1 F2 H2 : Hp} (a : All F H F1 H1) (b : All F1 H1 F2 H2) : All F H F2 H2 :=
  ⟨a.f.trans b.f, a.h.trans b.h, b.fh, fun x o e => by
    rcases b.n x o e with e1 | e1
    · rcases a.n x o e1 with e2 | e2
      · exact .inl e2
      · exact .inr e2
    · exact .inr (a.h.free e1)⟩
theorem same_upd {F : Hp} {p : Addr} {o : HO} (h : F p = none) : Same F (upd F p o) := fun b u e => by rw [upd_ne (ne_of_none e h)]; exact e
theorem same_upd2 {F H : Hp} {p : Addr} {o : HO} (h : Same F H) : Same (L2.upd F p o) (L2.upd H p o) := fun b u e => by
  by_cases hb : b = p
  · subst hb; rw [upd_same] at e ⊢; exact e
  · rw [upd_ne hb] at e ⊢; exact h b u e
theorem All.new {F H : Hp} {p : Addr} {o : HO} (h : Same F H) (hp : H p = none) : All F H (upd F p o) (upd H p o) :=
  ⟨same_upd (h.free hp), same_upd hp, same_upd2 h, fun a u e => by
    by_cases ha : a = p
    · subst ha; exact .inr hp
    · rw [upd_ne ha] at e; exact .inl e⟩
/-- a new object that is not frozen -/
theorem All.newO {F H : Hp} {p : Addr} {o : HO} (h : Same F H) (hp : H p = none) : All F H F (upd H p o) :=
  ⟨Same.refl F, same_upd hp, h.trans (same_upd hp), fun a u e => .inl e⟩

section
variable {g : Γ} {B F F' : Hp} {A : Nat → V} {H H' : Hp} {σ : St} {env : Env}
theorem All.ext (h : All F H F' H') (b : Same B H) : Ext B F F' := ⟨h.f, fun a hb hf => by
  cases e : F' a with
  | none => rfl
  | some o =>
    rcases h.n a o e with e1 | e1
    · rw [hf] at e1; cases e1
    · exact absurd (b.free e1) hb⟩
theorem SI.all (I : SI g B F A H σ env) (h : All F H F' H') : SI g B F' A H' σ env := by
  refine ⟨I.b.trans h.h, h.fh, I.len, fun i s e => ?_, I.dj⟩
  have q := I.sl i s e
  cases s with
  | no => trivial
  | fz d => obtain ⟨x, e1, r⟩ := q; exact ⟨x, e1, r.mono h.f⟩
  | own org c =>
    obtain ⟨a, e1, ho, c1, b1, f1⟩ := q
    obtain ⟨o, ha⟩ := c1.there
    refine ⟨a, e1, ho, c1.up (.of h.f) ?_, b1, ?_⟩
    · rw [ha]; exact h.h a o ha
    · cases e2 : F' a with
      | none => rfl
      | some u =>
        rcases h.n a u e2 with e3 | e3
        · rw [f1] at e3; cases e3
        · rw [ha] at e3; cases e3
theorem SI.fz (I : SI g B F A H σ env) {i : Nat} {d : D} (e : env[i]? = some (.fz d)) : ∃ v, σ[i]? = some (some v) ∧ Rep g F v d := by
  obtain ⟨x, e1, r⟩ := I.sl i _ e
  refine ⟨x, ?_, r⟩
  cases q : σ[i]? with
  | none => rw [q] at e1; cases e1
  | some y => rw [q] at e1; exact congrArg some e1
theorem SI.own (I : SI g B F A H σ env) {i : Nat} {org : Option Nat} {c : Ct} (e : env[i]? = some (.own org c)) : ∃ a, σ[i]? = some (some (.ref a)) ∧ (∀ k, org = some k → A k = .ref a) ∧ CtR g F H a c ∧ B a = none ∧ F a = none := by
  obtain ⟨a, e1, r⟩ := I.sl i _ e
  refine ⟨a, ?_, r⟩
  cases q : σ[i]? with
  | none => rw [q] at e1; cases e1
  | some y => rw [q] at e1; exact congrArg some e1
/-- a slot is given frozen data -/
theorem SI.setF (I : SI g B F A H σ env) {v : V} {d : D} (r : Rep g F v d) (i : Nat) : SI g B F A H (σ.set i (some v)) (env.set i (.fz d)) := by
  refine ⟨I.b, I.f, by simpa using I.len, fun j s e => ?_, fun j k s t a e1 e2 o1 o2 s1 s2 => ?_⟩
  · by_cases hj : i = j
    · subst hj
      have hi : i < env.length := by
        have := List.getElem?_eq_some_iff.mp e
        simpa using this.1
      rw [List.getElem?_set_self hi] at e
      cases e
      rw [List.getElem?_set_self (by rw [← I.len]; exact hi)]
      exact ⟨v, rfl, r⟩
    · rw [List.getElem?_set_ne hj] at e ⊢
      exact I.sl j s e
  · have key : ∀ {j : Nat} {s : S}, (env.set i (.fz d))[j]? = some s → s.isOwn = true → i ≠ j ∧ env[j]? = some s := fun {j s} e o => by
      by_cases hj : i = j
      · subst hj
        have hi : i < env.length := by
          have := List.getElem?_eq_some_iff.mp e
          simpa using this.1
        rw [List.getElem?_set_self hi] at e
        cases e; cases o
      · rw [List.getElem?_set_ne hj] at e
        exact ⟨hj, e⟩
    obtain ⟨n1, q1⟩ := key e1 o1
    obtain ⟨n2, q2⟩ := key e2 o2
    rw [List.getElem?_set_ne n1] at s1
    rw [List.getElem?_set_ne n2] at s2
    exact I.dj j k s t a q1 q2 o1 o2 s1 s2
/-- a slot is forgotten, the value in it whatever -/
theorem SI.setN (I : SI g B F A H σ env) (v : Option V) (i : Nat) : SI g B F A H (σ.set i v) (env.set i .no) := by
  refine ⟨I.b, I.f, by simpa using I.len, fun j s e => ?_, fun j k s t a e1 e2 o1 o2 s1 s2 => ?_⟩
  · by_cases hj : i = j
    · subst hj
      have hi : i < env.length := by
        have := List.getElem?_eq_some_iff.mp e
        simpa using this.1
      rw [List.getElem?_set_self hi] at e
      cases e
      trivial
    · rw [List.getElem?_set_ne hj] at e ⊢
      exact I.sl j s e
  · have key : ∀ {j : Nat} {s : S}, (env.set i .no)[j]? = some s → s.isOwn = true → i ≠ j ∧ env[j]? = some s := fun {j s} e o => by
      by_cases hj : i = j
      · subst hj
        have hi : i < env.length := by
          have := List.getElem?_eq_some_iff.mp e
          simpa using this.1
        rw [List.getElem?_set_self hi] at e
        cases e; cases o
      · rw [List.getElem?_set_ne hj] at e
        exact ⟨hj, e⟩
    obtain ⟨n1, q1⟩ := key e1 o1
    obtain ⟨n2, q2⟩ := key e2 o2
    rw [List.getElem?_set_ne n1] at s1
    rw [List.getElem?_set_ne n2] at s2
    exact I.dj j k s t a q1 q2 o1 o2 s1 s2
theorem SI.forget (I : SI g B F A H σ env) (i : Nat) : SI g B F A H σ (env.set i .no) := by
  refine ⟨I.b, I.f, by simpa using I.len, fun j s e => ?_, fun j k s t a e1 e2 o1 o2 s1 s2 => ?_⟩
  · by_cases hj : i = j
    · subst hj
      have hi : i < env.length := by
        have := List.getElem?_eq_some_iff.mp e
        simpa using this.1
      rw [List.getElem?_set_self hi] at e
      cases e
      trivial
    · rw [List.getElem?_set_ne hj] at e
      exact I.sl j s e
  · have key : ∀ {j : Nat} {s : S}, (env.set i .no)[j]? = some s → s.isOwn = true → env[j]? = some s := fun {j s} e o => by
      by_cases hj : i = j
      · subst hj
        have hi : i < env.length := by
          have := List.getElem?_eq_some_iff.mp e
          simpa using this.1
        rw [List.getElem?_set_self hi] at e
        cases e; cases o
      · rw [List.getElem?_set_ne hj] at e
        exact e
    exact I.dj j k s t a (key e1 o1) (key e2 o2) o1 o2 s1 s2
/-- an object at a, no slot's own -/
def Apart (σ : St) (env : Env) (a : Addr) : Prop := ∀ (i : Nat) (s : S), env[i]? = some s → s.isOwn = true → σ[i]? ≠ some (some (.ref a))
theorem SI.apart_new (I : SI g B F A H σ env) {p : Addr} (hp : H p = none) : Apart σ env p := fun i s e o q => by
  cases s with
  | no => cases o
  | fz d => cases o
  | own org c =>
    obtain ⟨a, e1, _, c1, _⟩ := I.own e
    rw [e1] at q; cases q
    obtain ⟨u, hu⟩ := c1.there
    rw [hp] at hu; cases hu
/-- a slot is given an owned object -/
theorem SI.setO (I : SI g B F A H σ env) {p : Addr} {c : Ct} (hc : CtR g F H p c) (hb : B p = none) (hf : F p = none) (ap : Apart σ env p) (i : Nat) : SI g B F A H (σ.set i (some (.ref p))) (env.set i (.own none c)) := by
  have key : ∀ {j : Nat} {s : S}, (env.set i (.own none c))[j]? = some s → (i = j ∧ s = .own none c ∧ i < env.length) ∨ (i ≠ j ∧ env[j]? = some s) := fun {j s} e => by
    by_cases hj : i = j
    · subst hj
      have hi : i < env.length := by
        have := List.getElem?_eq_some_iff.mp e
        simpa using this.1
      rw [List.getElem?_set_self hi] at e
      cases e; exact .inl ⟨rfl, rfl, hi⟩
    · rw [List.getElem?_set_ne hj] at e
      exact .inr ⟨hj, e⟩
  refine ⟨I.b, I.f, by simpa using I.len, fun j s e => ?_, fun j k s t a e1 e2 o1 o2 s1 s2 => ?_⟩
  · rcases key e with ⟨rfl, rfl, hi⟩ | ⟨hj, e⟩
    · rw [List.getElem?_set_self (by rw [← I.len]; exact hi)]
      exact ⟨p, rfl, (fun k h => by cases h), hc, hb, hf⟩
    · rw [List.getElem?_set_ne hj]
      exact I.sl j s e
  · rcases key e1 with ⟨rfl, rfl, hi⟩ | ⟨hj, q1⟩
    · rcases key e2 with ⟨rfl, rfl, _⟩ | ⟨hk, q2⟩
      · rfl
      · rw [List.getElem?_set_self (by rw [← I.len]; exact hi)] at s1
        cases s1
        rw [List.getElem?_set_ne hk] at s2
        exact absurd s2 (ap k t q2 o2)
    · rw [List.getElem?_set_ne hj] at s1
      rcases key e2 with ⟨rfl, rfl, hi⟩ | ⟨hk, q2⟩
      · rw [List.getElem?_set_self (by rw [← I.len]; exact hi)] at s2
        cases s2
        exact absurd s1 (ap j s q1 o1)
      · rw [List.getElem?_set_ne hk] at s2
        exact I.dj j k s t a q1 q2 o1 o2 s1 s2
/-- the owned object of a slot is changed -/
theorem SI.write (I : SI g B F A H σ env) {i : Nat} {org : Option Nat} {c c' : Ct} {a : Addr} {o : HO} (e : env[i]? = some (.own org c)) (ea : σ[i]? = some (some (.ref a))) (hc : CtR g F (upd H a o) a c') :
    SI g B F A (upd H a o) σ (env.set i (.own org c')) := by
  obtain ⟨a', e1, ho, c1, b1, f1⟩ := I.own e
  have ea' : a' = a := by rw [ea] at e1; cases e1; rfl
  subst ea'
  have hi : i < env.length := (List.getElem?_eq_some_iff.mp e).1
  have key : ∀ {j : Nat} {s : S}, (env.set i (.own org c'))[j]? = some s → (i = j ∧ s = .own org c') ∨ (i ≠ j ∧ env[j]? = some s) := fun {j s} e => by
    by_cases hj : i = j
    · subst hj
      rw [List.getElem?_set_self hi] at e
      cases e; exact .inl ⟨rfl, rfl⟩
    · rw [List.getElem?_set_ne hj] at e
      exact .inr ⟨hj, e⟩
  have sB : Same B (upd H a' o) := fun x u q => by rw [upd_ne (ne_of_none q b1)]; exact I.b x u q
  have sF : Same F (upd H a' o) := fun x u q => by rw [upd_ne (ne_of_none q f1)]; exact I.f x u q
  refine ⟨sB, sF, by simpa using I.len, fun j s q => ?_, fun j k s t x e1' e2 o1 o2 s1 s2 => ?_⟩
  · rcases key q with ⟨rfl, rfl⟩ | ⟨hj, q⟩
    · rw [ea]; exact ⟨a', rfl, ho, hc, b1, f1⟩
    · have z := I.sl j s q
      cases s with
      | no => trivial
      | fz d => exact z
      | own og ct =>
        obtain ⟨y, ey, hy, cy, by', fy⟩ := I.own q
        rw [ey]
        refine ⟨y, rfl, hy, cy.up (.of (Same.refl F)) (upd_ne fun z => hj ?_), by', fy⟩
        rw [z] at ey
        exact I.dj i j _ _ a' e q rfl rfl ea ey
  · have back : ∀ {j : Nat} {s : S}, (env.set i (.own org c'))[j]? = some s → s.isOwn = true → ∃ s', env[j]? = some s' ∧ s'.isOwn = true := fun {j s} q o => by
      rcases key q with ⟨rfl, _⟩ | ⟨_, q⟩
      · exact ⟨_, e, rfl⟩
      · exact ⟨_, q, o⟩
    obtain ⟨s', q1, p1⟩ := back e1' o1
    obtain ⟨t', q2, p2⟩ := back e2 o2
    exact I.dj j k s' t' x q1 q2 p1 p2 s1 s2
/-- an object at a that no other slot owns is frozen -/
theorem SI.freezeAt (I : SI g B F A H σ env) {a : Addr} {c : Ct} {o : HO} {env' : Env} (cr : CtR g F H a c) (ha : H a = some o) (b1 : B a = none) (f1 : F a = none) (hl : env'.length = env.length)
    (hs : ∀ (j : Nat) (s : S), env'[j]? = some s → (σ[j]? = some (some (.ref a)) ∧ s = .fz c.toD) ∨ (env[j]? = some s ∧ (s.isOwn = true → σ[j]? ≠ some (some (.ref a))))) (od : Obj) :
    Ext B F (upd F a (lk c od o)) ∧ SI g B (upd F a (lk c od o)) A (upd H a (lk c od o)) σ env' ∧ Rep g (upd F a (lk c od o)) (.ref a) c.toD := by
  have s1 : Same F (upd F a (lk c od o)) := same_upd f1
  have r : Rep g (upd F a (lk c od o)) (.ref a) c.toD := cr.rep ha s1 upd_same
  refine ⟨⟨s1, fun x hx hf => ?_⟩, ⟨fun x u q => ?_, fun x u q => ?_, hl.trans I.len, fun j s q => ?_, fun j k s t x e1' e2 o1 o2 s1 s2 => ?_⟩, r⟩
  · rw [upd_ne (fun z => hx (by rw [z]; exact b1))]; exact hf
  · rw [upd_ne (ne_of_none q b1)]; exact I.b x u q
  · by_cases hx : x = a
    · subst hx; rw [upd_same] at q ⊢; exact q
    · rw [upd_ne hx] at q ⊢; exact I.f x u q
  · rcases hs j s q with ⟨ej, rfl⟩ | ⟨q, hn⟩
    · rw [ej]; exact ⟨_, rfl, r⟩
    · have z := I.sl j s q
      cases s with
      | no => trivial
      | fz d => obtain ⟨x, e1, r1⟩ := z; exact ⟨x, e1, r1.mono s1⟩
      | own og ct =>
        obtain ⟨y, ey, hy, cy, by', fy⟩ := I.own q
        have ny : y ≠ a := fun z => hn rfl (by rw [ey, z])
        rw [ey]
        exact ⟨y, rfl, hy, cy.up (.of s1) (upd_ne ny), by', by rw [upd_ne ny]; exact fy⟩
  · have back : ∀ {j : Nat} {s : S}, env'[j]? = some s → s.isOwn = true → env[j]? = some s := fun {j s} q o => by
      rcases hs j s q with ⟨_, rfl⟩ | ⟨q, _⟩
      · cases o
      · exact q
    exact I.dj j k s t x (back e1' o1) (back e2 o2) o1 o2 s1 s2
/-- an owned object is frozen -/
theorem SI.freeze (I : SI g B F A H σ env) {i : Nat} {org : Option Nat} {c : Ct} (e : env[i]? = some (.own org c)) :
    ∃ a o, σ[i]? = some (some (.ref a)) ∧ H a = some o ∧ CtR g F H a c ∧ ∀ od, Ext B F (upd F a (lk c od o)) ∧ SI g B (upd F a (lk c od o)) A (upd H a (lk c od o)) σ (env.set i (.fz c.toD)) ∧ Rep g (upd F a (lk c od o)) (.ref a) c.toD := by
  obtain ⟨a, ea, ho, c1, b1, f1⟩ := I.own e
  obtain ⟨o, ha⟩ := c1.there
  have hi : i < env.length := (List.getElem?_eq_some_iff.mp e).1
  refine ⟨a, o, ea, ha, c1, fun od => I.freezeAt c1 ha b1 f1 (by simp) (fun j s q => ?_) od⟩
  by_cases hj : i = j
  · subst hj
    rw [List.getElem?_set_self hi] at q
    cases q; exact .inl ⟨ea, rfl⟩
  · rw [List.getElem?_set_ne hj] at q
    exact .inr ⟨q, fun ho z => hj (I.dj i j _ _ a e q rfl ho ea z)⟩
end

/-! ### results -/
structure Exn where
  c : Nat
  fs : List (Str × D)
inductive Res (α : Type) where
  | ok (a : α) (e : Env) | ex (x : Exn) (e : Env) | no
def Res.bind {α β : Type} (r : Res α) (k : α → Env → Res β) : Res β :=
  match r with
  | .ok a e => k a e
  | .ex x e => .ex x e
  | .no => .no
@[simp] theorem Res.bind_ok {α β : Type} (a : α) (e : Env) (k : α → Env → Res β) : (Res.ok a e).bind k = k a e := rfl
@[simp] theorem Res.bind_ex {α β : Type} (x : Exn) (e : Env) (k : α → Env → Res β) : (Res.ex x e).bind k = .ex x e := rfl
@[simp] theorem Res.bind_no {α β : Type} (k : α → Env → Res β) : (Res.no : Res α).bind k = .no := rfl
def lift {α : Type} (o : Option α) (e : Env) : Res α :=
  match o with
  | some a => .ok a e
  | none => .no
@[simp] theorem lift_some {α : Type} (a : α) (e : Env) : lift (some a) e = .ok a e := rfl
@[simp] theorem lift_none {α : Type} (e : Env) : lift (none : Option α) e = .no := rfl

/-- how an exception lies -/
def ExAt (g : Γ) (F H : Hp) (x : Exn) (dx : Option Addr) : Prop := ∃ (d : Addr) (fs : List (Str × V)), dx = some d ∧ H d = some (.xd fs) ∧ fs.map (·.1) = x.fs.map (·.1) ∧ Reps g F (fs.map (·.2)) (x.fs.map (·.2))
/-- what is wanted of an exception -/
def ExW (g : Γ) (W : WX) (B F : Hp) (A : Nat → V) (σ : St) (x : Exn) (e : Env) : Prop :=
  ∀ F' H' dx, Ext B F F' → SI g B F' A H' σ e → ExAt g F' H' x dx → W (.ref (g.cls x.c)) dx σ H'
theorem ExW.mono {g : Γ} {W : WX} {B F F' : Hp} {A : Nat → V} {σ : St} {x : Exn} {e : Env} (h : ExW g W B F A σ x e) (m : Ext B F F') : ExW g W B F' A σ x e :=
  fun F2 H2 dx m2 I a => h F2 H2 dx (m.trans m2) I a

/-- a result as it is wanted -/
def Want {α : Type} (g : Γ) (W : WX) (B F : Hp) (A : Nat → V) (σ : St) (P : α → Env → Prop) : Res α → Prop
  | .ok a e => P a e
  | .ex x e => ExW g W B F A σ x e
  | .no => False
theorem Want.bind {α β : Type} {g : Γ} {W : WX} {B F : Hp} {A : Nat → V} {σ : St} {P : β → Env → Prop} {r : Res α} {k : α → Env → Res β} (h : Want g W B F A σ P (r.bind k)) : Want g W B F A σ (fun a e => Want g W B F A σ P (k a e)) r := by
  cases r with
  | ok a e => exact h
  | ex x e => exact h
  | no => exact h
theorem Want.imp {α : Type} {g : Γ} {W : WX} {B F : Hp} {A : Nat → V} {σ : St} {P P' : α → Env → Prop} {r : Res α} (h : Want g W B F A σ P r) (k : ∀ a e, P a e → P' a e) : Want g W B F A σ P' r := by
  cases r with
  | ok a e => exact k a e h
  | ex x e => exact h
  | no => exact h
/-- more is frozen -/
theorem Want.up {α : Type} {g : Γ} {W : WX} {B F F' : Hp} {A : Nat → V} {σ : St} {P P' : α → Env → Prop} {r : Res α} (h : Want g W B F A σ P r) (m : Ext B F F') (k : ∀ a e, P a e → P' a e) : Want g W B F' A σ P' r := by
  cases r with
  | ok a e => exact k a e h
  | ex x e => exact ExW.mono (show ExW g W B F A σ x e from h) m
  | no => exact h
theorem Want.lift {α : Type} {g : Γ} {W : WX} {B F : Hp} {A : Nat → V} {σ : St} {P : α → Env → Prop} {o : Option α} {e : Env} (h : Want g W B F A σ P (lift o e)) : ∃ a, o = some a ∧ P a e := by
  cases o with
  | none => exact h.elim
  | some a => exact ⟨a, rfl, h⟩

def FinD (g : Γ) (B F : Hp) (A : Nat → V) (σ : St) (Q : VK) (d : D) (e : Env) : Prop := ∀ v F' H', Ext B F F' → SI g B F' A H' σ e → Rep g F' v d → Q v H'
def FinO (g : Γ) (B F : Hp) (A : Nat → V) (σ : St) (Q : VK) (d : S) (e : Env) : Prop := ∀ v F' H', Ext B F F' → SI g B F' A H' σ e → SlotR g B F' A H' (some v) d → (∀ a, v = .ref a → d.isOwn = true → Apart σ e a) → Q v H'
def FinT (g : Γ) (B F : Hp) (A : Nat → V) (σ : St) (Q : Bool → Hp → Prop) (b : Bool) (e : Env) : Prop := ∀ F' H', Ext B F F' → SI g B F' A H' σ e → Q b H'
def FinL (g : Γ) (B F : Hp) (A : Nat → V) (σ : St) (Q : List V → Hp → Prop) (ds : List D) (e : Env) : Prop := ∀ vs F' H', Ext B F F' → SI g B F' A H' σ e → Reps g F' vs ds → Q vs H'
section
variable {g : Γ} {B F F' : Hp} {A : Nat → V} {σ : St} {e : Env}
theorem FinD.up {Q : VK} {d : D} (h : FinD g B F A σ Q d e) (m : Ext B F F') : FinD g B F' A σ Q d e := fun v F2 H2 m2 => h v F2 H2 (m.trans m2)
theorem FinO.up {Q : VK} {d : S} (h : FinO g B F A σ Q d e) (m : Ext B F F') : FinO g B F' A σ Q d e := fun v F2 H2 m2 => h v F2 H2 (m.trans m2)
theorem FinT.up {Q : Bool → Hp → Prop} {d : Bool} (h : FinT g B F A σ Q d e) (m : Ext B F F') : FinT g B F' A σ Q d e := fun F2 H2 m2 => h F2 H2 (m.trans m2)
theorem FinL.up {Q : List V → Hp → Prop} {d : List D} (h : FinL g B F A σ Q d e) (m : Ext B F F') : FinL g B F' A σ Q d e := fun v F2 H2 m2 => h v F2 H2 (m.trans m2)
end
/-- an expression's reading: frozen data comes out -/
def tD (g : Γ) (W : WX) (f : Env → Res D) : TE := fun σ H Q => ∃ B F A env, SI g B F A H σ env ∧ Want g W B F A σ (FinD g B F A σ Q) (f env)
/-- .. a slot's content comes out -/
def tO (g : Γ) (W : WX) (f : Env → Res S) : TE := fun σ H Q => ∃ B F A env, SI g B F A H σ env ∧ Want g W B F A σ (FinO g B F A σ Q) (f env)
def tT (g : Γ) (W : WX) (f : Env → Res Bool) : TT := fun σ H Q => ∃ B F A env, SI g B F A H σ env ∧ Want g W B F A σ (FinT g B F A σ Q) (f env)
def tDA (g : Γ) (W : WX) (f : Env → Res (List D)) : TA := fun σ H Q => ∃ B F A env, SI g B F A H σ env ∧ Want g W B F A σ (FinL g B F A σ Q) (f env)

/-- the flow of a statement -/
inductive Fl where
  | nx | rt (s : S) | bk | ct
def FlW (g : Γ) (B F : Hp) (A : Nat → V) (D : Ends) (f : Fl) (e : Env) : Prop :=
  ∀ F' H' σ', Ext B F F' → SI g B F' A H' σ' e → match f with
    | .nx => D.nx σ' H'
    | .bk => D.bk σ' H'
    | .ct => D.ct σ' H'
    | .rt s => ∀ v, SlotR g B F' A H' (some v) s → (∀ a, v = .ref a → s.isOwn = true → Apart σ' e a) → D.rt v H'
/-- what is wanted of an exception, whatever the slots -/
def ExWs (g : Γ) (W : WX) (B F : Hp) (A : Nat → V) (x : Exn) (e : Env) : Prop :=
  ∀ F' H' σ' dx, Ext B F F' → SI g B F' A H' σ' e → ExAt g F' H' x dx → W (.ref (g.cls x.c)) dx σ' H'
def WantS (g : Γ) (W : WX) (B F : Hp) (A : Nat → V) (D : Ends) : Res Fl → Prop
  | .ok f e => FlW g B F A D f e
  | .ex x e => ExWs g W B F A x e
  | .no => False
def tS (g : Γ) (W : WX) (f : Env → Res Fl) : TS := fun D σ H => ∃ B F A env, SI g B F A H σ env ∧ WantS g W B F A D (f env)

/-! ### the judgements -/
abbrev GE (c : Nat → Addr) (X : Cx) (W : WX) (e : Expr) (f : Env → Res D) : Prop := PE X e (tD ⟨X.K, c⟩ W f)
abbrev GO (c : Nat → Addr) (X : Cx) (W : WX) (e : Expr) (f : Env → Res S) : Prop := PE X e (tO ⟨X.K, c⟩ W f)
abbrev GT (c : Nat → Addr) (X : Cx) (W : WX) (e : Expr) (f : Env → Res Bool) : Prop := PT X e (tT ⟨X.K, c⟩ W f)
abbrev GW (c : Nat → Addr) (X : Cx) (W : WX) (e : Expr) (f : Env → Res Bool) : Prop := PW X e (tT ⟨X.K, c⟩ W f)
abbrev GA (c : Nat → Addr) (X : Cx) (W : WX) (es : List Expr) (f : Env → Res (List D)) : Prop := PA X es (tDA ⟨X.K, c⟩ W f)
abbrev GS (c : Nat → Addr) (X : Cx) (W : WX) (st : Stmt) (f : Env → Res Fl) : Prop := PS X st (tS ⟨X.K, c⟩ W f)
abbrev GSs (c : Nat → Addr) (X : Cx) (W : WX) (st : List Stmt) (f : Env → Res Fl) : Prop := PSs X st (tS ⟨X.K, c⟩ W f)

theorem PE.of {X : Cx} {e : Expr} {t t' : TE} (h : PE X e t) (k : ∀ σ H Q, t' σ H Q → t σ H Q) : PE X e t' := ⟨fun pins s σ H Q I q => h.run pins s σ H Q I (k σ H Q q)⟩
/-- .. the value is locked where that is asked -/
theorem PE.lkd {X : Cx} {e : Expr} {t : TE} (h : PE X e t) : PE X e (fun σ H Q => t σ H fun v H1 => Q v H1 ∨ ∃ d u, H1 d = some u ∧ Mut (some u) ∧ ∀ od, Q v (upd H1 d (.frz od u))) := ⟨fun pins s σ H Q I q =>
  thn (h.run pins s σ H _ I q) fun u s1 ⟨v, H1, I1, r, q⟩ => by
    rcases q with q | ⟨d, w, hd, mu, q⟩
    · exact ⟨v, H1, I1, r, q⟩
    · obtain ⟨od, I2⟩ := I1.lock hd mu
      exact ⟨v, _, I2, r, q od⟩⟩
theorem PT.of {X : Cx} {e : Expr} {t t' : TT} (h : PT X e t) (k : ∀ σ H Q, t' σ H Q → t σ H Q) : PT X e t' := ⟨fun pins s σ H Q I q => h.run pins s σ H Q I (k σ H Q q)⟩
theorem PW.of {X : Cx} {e : Expr} {t t' : TT} (h : PW X e t) (k : ∀ σ H Q, t' σ H Q → t σ H Q) : PW X e t' := ⟨fun w pins s σ H Q I q => h.run w pins s σ H Q I (k σ H Q q)⟩
theorem PA.of {X : Cx} {e : List Expr} {t t' : TA} (h : PA X e t) (k : ∀ σ H Q, t' σ H Q → t σ H Q) : PA X e t' := ⟨fun p pins s σ H Q I q => h.run p pins s σ H Q I (k σ H Q q)⟩
theorem PS.of {X : Cx} {e : Stmt} {t t' : TS} (h : PS X e t) (k : ∀ D σ H, t' D σ H → t D σ H) : PS X e t' := ⟨fun pins s σ H D I q => h.run pins s σ H D I (k D σ H q)⟩
theorem PSs.of {X : Cx} {e : List Stmt} {t t' : TS} (h : PSs X e t) (k : ∀ D σ H, t' D σ H → t D σ H) : PSs X e t' := ⟨fun pins s σ H D I q => h.run pins s σ H D I (k D σ H q)⟩
end DV

set_option Elab.async false
set_option linter.all false
set_option autoImplicit false
set_option maxRecDepth 100000
set_option maxHeartbeats 2000000
/-! V1: expressions. -/
namespace DV
open PySem L2

section
variable {g : Γ} {W : WX} {B F F1 : Hp} {A : Nat → V} {H H1 : Hp} {σ : St} {env e1 : Env}
theorem runD {β : Type} {P : β → Env → Prop} {fa : Env → Res D} {k : D → Env → Res β} {R : VK} (m : Ext B F F1) (I : SI g B F1 A H1 σ e1) (w : Want g W B F A σ P ((fa e1).bind k))
    (h : ∀ d e v F2 H2, Ext B F F2 → Same F1 F2 → SI g B F2 A H2 σ e → Rep g F2 v d → Want g W B F A σ P (k d e) → R v H2) : tD g W fa σ H1 R :=
  ⟨B, F1, A, e1, I, w.bind.up m fun d e wk v F2 H2 m2 I2 r => h d e v F2 H2 (m.trans m2) m2.1 I2 r wk⟩
theorem runT {β : Type} {P : β → Env → Prop} {fa : Env → Res Bool} {k : Bool → Env → Res β} {R : Bool → Hp → Prop} (m : Ext B F F1) (I : SI g B F1 A H1 σ e1) (w : Want g W B F A σ P ((fa e1).bind k))
    (h : ∀ b e F2 H2, Ext B F F2 → Same F1 F2 → SI g B F2 A H2 σ e → Want g W B F A σ P (k b e) → R b H2) : tT g W fa σ H1 R :=
  ⟨B, F1, A, e1, I, w.bind.up m fun d e wk F2 H2 m2 I2 => h d e F2 H2 (m.trans m2) m2.1 I2 wk⟩
theorem runL {β : Type} {P : β → Env → Prop} {fa : Env → Res (List D)} {k : List D → Env → Res β} {R : List V → Hp → Prop} (m : Ext B F F1) (I : SI g B F1 A H1 σ e1) (w : Want g W B F A σ P ((fa e1).bind k))
    (h : ∀ d e v F2 H2, Ext B F F2 → Same F1 F2 → SI g B F2 A H2 σ e → Reps g F2 v d → Want g W B F A σ P (k d e) → R v H2) : tDA g W fa σ H1 R :=
  ⟨B, F1, A, e1, I, w.bind.up m fun d e wk v F2 H2 m2 I2 r => h d e v F2 H2 (m.trans m2) m2.1 I2 r wk⟩
/-- the last part -/
theorem endD {fa : Env → Res D} {Q : VK} (m : Ext B F F1) (I : SI g B F1 A H1 σ e1) (w : Want g W B F A σ (FinD g B F A σ Q) (fa e1)) : tD g W fa σ H1 Q := ⟨B, F1, A, e1, I, w.up m fun _ _ h => h.up m⟩
theorem endT {fa : Env → Res Bool} {Q : Bool → Hp → Prop} (m : Ext B F F1) (I : SI g B F1 A H1 σ e1) (w : Want g W B F A σ (FinT g B F A σ Q) (fa e1)) : tT g W fa σ H1 Q := ⟨B, F1, A, e1, I, w.up m fun _ _ h => h.up m⟩
theorem endL {fa : Env → Res (List D)} {Q : List V → Hp → Prop} (m : Ext B F F1) (I : SI g B F1 A H1 σ e1) (w : Want g W B F A σ (FinL g B F A σ Q) (fa e1)) : tDA g W fa σ H1 Q := ⟨B, F1, A, e1, I, w.up m fun _ _ h => h.up m⟩
end

/-! ### sound rules of values -/
/-- how a rule's answer is handed on -/
def Hands (g : Γ) (F H : Hp) (d : D) (Q : VK) : Prop := ∀ v F' H', All F H F' H' → Rep g F' v d → Q v H'
theorem Hands.here {g : Γ} {F H : Hp} {d : D} {Q : VK} {v : V} (h : Hands g F H d Q) (s : Same F H) (r : Rep g F v d) : Q v H := h v F H (.refl s) r
def Sound2 (g : Γ) (r : R2) (o : D → D → Option D) : Prop := ∀ F H x y dx dy d Q, Same F H → Rep g F x dx → Rep g F y dy → o dx dy = some d → Hands g F H d Q → r x y H Q
def Sound1 (g : Γ) (r : V → Hp → VK → Prop) (o : D → Option D) : Prop := ∀ F H x dx d Q, Same F H → Rep g F x dx → o dx = some d → Hands g F H d Q → r x H Q
def SoundC (g : Γ) (r : List V → Hp → VK → Prop) (o : List D → Option D) : Prop := ∀ F H xs ds d Q, Same F H → Reps g F xs ds → o ds = some d → Hands g F H d Q → r xs H Q
/-- .. of a test -/
def SoundB (g : Γ) (r : R2) (o : D → D → Option Bool) : Prop := ∀ F H x y dx dy b Q, Same F H → Rep g F x dx → Rep g F y dy → o dx dy = some b → (∀ F' H', All F H F' H' → Q (.bl b) H') → r x y H Q
theorem SoundB.two {g : Γ} {r : R2} {o : D → D → Option Bool} (h : SoundB g r o) : Sound2 g r (fun x y => (o x y).map .bl) := fun F H x y dx dy d Q s rx ry e q => by
  have e : (o dx dy).map D.bl = some d := e
  cases q1 : o dx dy with
  | none => rw [q1] at e; cases e
  | some b =>
    rw [q1] at e; cases e
    exact h F H x y dx dy b Q s rx ry q1 fun F' H' a => q _ F' H' a (.bl b)

section
variable {c : Nat → Addr} {X : Cx} {W : WX} {a b a1 b1 c1 : Expr} {fa fb fc : Env → Res D} {ft : Env → Res Bool} {pos : Pos}

def dC (d : D) : Env → Res D := fun e => .ok d e
theorem ge_int {i j pos} : GE c X W (.Constant (.int i) j pos) (dC (.int i)) := PE.of pe_int fun σ H Q ⟨B, F, A, e, I, w⟩ => w _ F H (.refl B F) I (.int i)
theorem ge_bl {b j pos} : GE c X W (.Constant (.bool b) j pos) (dC (.bl b)) := PE.of pe_bl fun σ H Q ⟨B, F, A, e, I, w⟩ => w _ F H (.refl B F) I (.bl b)
theorem ge_non {j pos} : GE c X W (.Constant .none j pos) (dC .non) := PE.of pe_non fun σ H Q ⟨B, F, A, e, I, w⟩ => w _ F H (.refl B F) I .non
theorem ge_str {x j pos} : GE c X W (.Constant (.str x) j pos) (dC (.str x)) := PE.of pe_str fun σ H Q ⟨B, F, A, e, I, w⟩ => w _ F H (.refl B F) I (.str x)
/-- a module's constant -/
theorem ge_glob {x : Str} {v : V} {u : Value} {d : D} (h : PE X (.Name x pos) (tC v)) (r : ∀ F, Rep ⟨X.K, c⟩ F v d) : GE c X W (.Name x pos) (dC d) := PE.of h fun σ H Q ⟨B, F, A, e, I, w⟩ => w _ F H (.refl B F) I (r F)

/-- a name: frozen data, or an owned object that is frozen here -/
def dV (i : Nat) : Env → Res D := fun e => match e[i]? with
  | some (.fz d) => .ok d e
  | some (.own _ ct) => .ok ct.toD (e.set i (.fz ct.toD))
  | _ => .no
theorem sem_var {g : Γ} {i : Nat} : ∀ σ H Q, tD g W (dV i) σ H Q → tVar i σ H fun v H1 => Q v H1 ∨ ∃ d u, H1 d = some u ∧ Mut (some u) ∧ ∀ od, Q v (upd H1 d (.frz od u)) := fun σ H Q ⟨B, F, A, e, I, w⟩ => by
  cases q : e[i]? with
  | none => simp only [dV, q] at w; exact w.elim
  | some s =>
    cases s with
    | no => simp only [dV, q] at w; exact w.elim
    | fz d =>
      simp only [dV, q] at w
      obtain ⟨v, e1, r⟩ := I.fz q
      exact ⟨v, e1, .inl (w v F H (.refl B F) I r)⟩
    | own org ct =>
      simp only [dV, q] at w
      obtain ⟨a, o, e1, ha, cr, fz⟩ := I.freeze q
      refine ⟨_, e1, ?_⟩
      rcases cr.lk (Q := fun H1 => Q (.ref a) H1) ha (fun od => let ⟨m, I2, r⟩ := fz od; w _ _ _ m I2 r) with h | ⟨u, h1, h2, h3⟩
      · exact .inl h
      · exact .inr ⟨a, u, h1, h2, h3⟩
theorem ge_v (i : Nat) {x : Str} (hN : X.N[i]? = some x := by rfl) (hv : Vis X.env.scope x := by first | exact Or.inl rfl | exact Or.inr (Or.inl rfl) | exact Or.inr (Or.inr rfl)) (hd : (x == ("__debug__" : Str)) = false := by decide)
    (hcd : (x == ("__classdict__" : Str)) = false := by decide) : GE c X W (.Name x pos) (dV i) := PE.of (PE.lkd (pe_var hN hv hd hcd)) sem_var

/-- two operands, one operation -/
def d2 (o : D → D → Option D) (fa fb : Env → Res D) : Env → Res D := fun e => (fa e).bind fun x e => (fb e).bind fun y e => lift (o x y) e
theorem sem_op {g : Γ} {r : R2} {o : D → D → Option D} (hs : Sound2 g r o) : ∀ σ H Q, tD g W (d2 o fa fb) σ H Q → tOp r (tD g W fa) (tD g W fb) σ H Q := fun σ H Q ⟨B, F, A, e, I, w⟩ => by
  refine runD (.refl B F) I w fun x e1 v F1 H1 m1 _ I1 r1 w1 => ?_
  refine runD m1 I1 w1 fun y e2 u F2 H2 m2 s2 I2 r2 w2 => ?_
  obtain ⟨d, hd, w3⟩ := w2.lift
  exact hs F2 H2 v u x y d Q I2.f (r1.mono s2) r2 hd fun z F3 H3 al r3 => w3 z F3 H3 (m2.trans (al.ext I2.b)) (I2.all al) r3
theorem ge_op {op : Operator} {r : R2} {o : D → D → Option D} (ho : OpR X (binaryOp op) r) (hs : Sound2 ⟨X.K, c⟩ r o) (ha : GE c X W a fa) (hb : GE c X W b fb) : GE c X W (.BinOp a op b pos) (d2 o fa fb) := PE.of (pe_op ho ha hb) (sem_op hs)
def d1 (o : D → Option D) (fa : Env → Res D) : Env → Res D := fun e => (fa e).bind fun x e => lift (o x) e
theorem ge_un {op : UnaryOp} {r : V → Hp → VK → Prop} {o : D → Option D} (ho : UnR X (unaryOp op) r) (hs : Sound1 ⟨X.K, c⟩ r o) (ha : GE c X W a fa) : GE c X W (.UnaryOp op a pos) (d1 o fa) := PE.of (pe_un ho ha) fun σ H Q ⟨B, F, A, e, I, w⟩ => by
  refine runD (.refl B F) I w fun x e1 v F1 H1 m1 _ I1 r1 w1 => ?_
  obtain ⟨d, hd, w3⟩ := w1.lift
  exact hs F1 H1 v x d Q I1.f r1 hd fun z F3 H3 al r3 => w3 z F3 H3 (m1.trans (al.ext I1.b)) (I1.all al) r3

/-! ### comparisons: as values, as tests -/
def b2 (o : D → D → Option Bool) (fa fb : Env → Res D) : Env → Res Bool := fun e => (fa e).bind fun x e => (fb e).bind fun y e => lift (o x y) e
def dB (ft : Env → Res Bool) : Env → Res D := fun e => (ft e).bind fun b e => .ok (.bl b) e
theorem sem_cmp {g : Γ} {r : R2} {o : D → D → Option Bool} (hs : SoundB g r o) : ∀ σ H Q, tT g W (b2 o fa fb) σ H Q → tTest (tOp r (tD g W fa) (tD g W fb)) σ H Q := fun σ H Q ⟨B, F, A, e, I, w⟩ => by
  refine runD (.refl B F) I w fun x e1 v F1 H1 m1 _ I1 r1 w1 => ?_
  refine runD m1 I1 w1 fun y e2 u F2 H2 m2 s2 I2 r2 w2 => ?_
  obtain ⟨d, hd, w3⟩ := w2.lift
  exact hs F2 H2 v u x y d _ I2.f (r1.mono s2) r2 hd fun F3 H3 al => ⟨d, rfl, w3 F3 H3 (m2.trans (al.ext I2.b)) (I2.all al)⟩
theorem gt_cmp {op : CmpOp} {r : R2} {o : D → D → Option Bool} (ho : OpR X (compareOp op) r) (hs : SoundB ⟨X.K, c⟩ r o) (ha : GE c X W a fa) (hb : GE c X W b fb) (hm : behindInMarks op b = false := by first | exact nomark _ | rfl) :
    GT c X W (.Compare a [op] [b] pos) (b2 o fa fb) := PT.of (pt_cmpR ho ha hb hm) (sem_cmp hs)
theorem sem_cmpV {g : Γ} {r : R2} {o : D → D → Option Bool} (hs : SoundB g r o) : ∀ σ H Q, tD g W (dB (b2 o fa fb)) σ H Q → tOp r (tD g W fa) (tD g W fb) σ H Q := fun σ H Q ⟨B, F, A, e, I, w⟩ => by
  have w' : Want ‹Γ› W B F A σ (FinD ‹Γ› B F A σ Q) ((fa e).bind fun x e => (fb e).bind fun y e => (lift (o x y) e).bind fun b e => .ok (.bl b) e) := by
    revert w
    simp only [dB, b2]
    cases fa e with
    | ok x e1 =>
      simp only [Res.bind_ok]
      cases fb e1 with
      | ok y e2 => exact id
      | ex x e2 => exact id
      | no => exact id
    | ex x e1 => exact id
    | no => exact id
  refine runD (.refl B F) I w' fun x e1 v F1 H1 m1 _ I1 r1 w1 => ?_
  refine runD m1 I1 w1 fun y e2 u F2 H2 m2 s2 I2 r2 w2 => ?_
  cases hd : o x y with
  | none => rw [hd] at w2; exact w2.elim
  | some d =>
    rw [hd] at w2
    exact hs F2 H2 v u x y d _ I2.f (r1.mono s2) r2 hd fun F3 H3 al => w2 _ F3 H3 (m2.trans (al.ext I2.b)) (I2.all al) (.bl d)
theorem ge_cmp {op : CmpOp} {r : R2} {o : D → D → Option Bool} (ho : OpR X (compareOp op) r) (hs : SoundB ⟨X.K, c⟩ r o) (ha : GE c X W a fa) (hb : GE c X W b fb) (hm : behindInMarks op b = false := by first | exact nomark _ | rfl) :
    GE c X W (.Compare a [op] [b] pos) (dB (b2 o fa fb)) := PE.of (pe_cmpR ho ha hb hm) (sem_cmpV hs)
/-- a op1 b op2 c -/
def bCh (o o' : D → D → Option Bool) (fa fb fc : Env → Res D) : Env → Res Bool := fun e => (fa e).bind fun x e => (fb e).bind fun y e => (lift (o x y) e).bind fun k e => if k = true then (fc e).bind fun z e => lift (o' y z) e else .ok false e
theorem sem_ch {g : Γ} {r r' : R2} {o o' : D → D → Option Bool} (hs : SoundB g r o) (hs' : SoundB g r' o') : ∀ σ H Q, tT g W (bCh o o' fa fb fc) σ H Q → tTest (tChain r r' (tD g W fa) (tD g W fb) (tD g W fc)) σ H Q := fun σ H Q ⟨B, F, A, e, I, w⟩ => by
  refine runD (.refl B F) I w fun x e1 v F1 H1 m1 _ I1 r1 w1 => ?_
  refine runD m1 I1 w1 fun y e2 u F2 H2 m2 s2 I2 r2 w2 => ?_
  cases hd : o x y with
  | none => rw [hd] at w2; exact w2.elim
  | some d =>
    rw [hd] at w2
    refine hs F2 H2 v u x y d _ I2.f (r1.mono s2) r2 hd fun F3 H3 al => ⟨d, rfl, ?_⟩
    have w2' : Want g W B F A σ (FinT g B F A σ Q) (if d = true then (fc e2).bind fun z e => lift (o' y z) e else .ok false e2) := w2
    cases d with
    | false =>
      rw [if_neg Bool.false_ne_true] at w2' ⊢
      exact ⟨false, rfl, w2' F3 H3 (m2.trans (al.ext I2.b)) (I2.all al)⟩
    | true =>
      rw [if_pos rfl] at w2' ⊢
      refine runD (m2.trans (al.ext I2.b)) (I2.all al) w2' fun z e3 u3 F4 H4 m4 s4 I4 r4 w4 => ?_
      obtain ⟨d', hd', w5⟩ := w4.lift
      exact hs' F4 H4 u u3 y z d' _ I4.f ((r2.mono al.f).mono s4) r4 hd' fun F5 H5 al5 => ⟨d', rfl, w5 F5 H5 (m4.trans (al5.ext I4.b)) (I4.all al5)⟩
theorem gt_chain {op op' : CmpOp} {r r' : R2} {o o' : D → D → Option Bool} (ho : OpR X (compareOp op) r) (ho' : OpR X (compareOp op') r') (hs : SoundB ⟨X.K, c⟩ r o) (hs' : SoundB ⟨X.K, c⟩ r' o') (ha : GE c X W a fa) (hb : GE c X W b fb) (hc : GE c X W c1 fc)
    (hm : lastMarks [op, op'] [b, c1] = false := by with_unfolding_all rfl) : GT c X W (.Compare a [op, op'] [b, c1] pos) (bCh o o' fa fb fc) := PT.of (pt_chain ho ho' ha hb hc hm) (sem_ch hs hs')
theorem sem_chV {g : Γ} {r r' : R2} {o o' : D → D → Option Bool} (hs : SoundB g r o) (hs' : SoundB g r' o') : ∀ σ H Q, tD g W (dB (bCh o o' fa fb fc)) σ H Q → tChain r r' (tD g W fa) (tD g W fb) (tD g W fc) σ H Q := fun σ H Q ⟨B, F, A, e, I, w⟩ => by
  have w' : Want g W B F A σ (FinT g B F A σ fun b H' => Q (.bl b) H') (bCh o o' fa fb fc e) := by
    refine (Want.bind w).imp fun b e1 q F' H' m I' => ?_
    exact q (.bl b) F' H' m I' (.bl b)
  have q := sem_ch hs hs' σ H _ ⟨B, F, A, e, I, w'⟩
  refine runD (.refl B F) I w' fun x e1 v F1 H1 m1 _ I1 r1 w1 => ?_
  refine runD m1 I1 w1 fun y e2 u F2 H2 m2 s2 I2 r2 w2 => ?_
  cases hd : o x y with
  | none => rw [hd] at w2; exact w2.elim
  | some d =>
    rw [hd] at w2
    refine hs F2 H2 v u x y d _ I2.f (r1.mono s2) r2 hd fun F3 H3 al => ⟨d, rfl, ?_⟩
    have w2' : Want g W B F A σ (FinT g B F A σ fun b H' => Q (.bl b) H') (if d = true then (fc e2).bind fun z e => lift (o' y z) e else .ok false e2) := w2
    cases d with
    | false =>
      rw [if_neg Bool.false_ne_true] at w2' ⊢
      exact w2' F3 H3 (m2.trans (al.ext I2.b)) (I2.all al)
    | true =>
      rw [if_pos rfl] at w2' ⊢
      refine runD (m2.trans (al.ext I2.b)) (I2.all al) w2' fun z e3 u3 F4 H4 m4 s4 I4 r4 w4 => ?_
      obtain ⟨d', hd', w5⟩ := w4.lift
      exact hs' F4 H4 u u3 y z d' _ I4.f ((r2.mono al.f).mono s4) r4 hd' fun F5 H5 al5 => w5 F5 H5 (m4.trans (al5.ext I4.b)) (I4.all al5)
theorem ge_chain {op op' : CmpOp} {r r' : R2} {o o' : D → D → Option Bool} (ho : OpR X (compareOp op) r) (ho' : OpR X (compareOp op') r') (hs : SoundB ⟨X.K, c⟩ r o) (hs' : SoundB ⟨X.K, c⟩ r' o') (ha : GE c X W a fa) (hb : GE c X W b fb) (hc : GE c X W c1 fc)
    (hm : lastMarks [op, op'] [b, c1] = false := by with_unfolding_all rfl) : GE c X W (.Compare a [op, op'] [b, c1] pos) (dB (bCh o o' fa fb fc)) := PE.of (pe_chain ho ho' ha hb hc hm) (sem_chV hs hs')

/-! ### truth -/
def truD (d : D) : Option Bool := match d.un with
  | .non => some false
  | .bl b => some b
  | .int i => some (i != 0)
  | .str x => if x.length ≤ 1000000 then some ((x.length : Int) != 0) else none
  | .lst xs => some (!xs.isEmpty)
  | .tup xs => some (!xs.isEmpty)
  | _ => none
theorem isEmpty_of {g : Γ} {F : Hp} {vs : List V} {ds : List D} (r : Reps g F vs ds) : vs.isEmpty = ds.isEmpty := by
  cases r <;> rfl
theorem tru_sound {K : PySem.W.Frag} {F H : Hp} {v : V} {d : D} {k : Bool} (s : Same F H) (r : Rep ⟨K, c⟩ F v d) (h : truD d = some k) : TruV K v H k := by
  unfold truD at h
  have r' := r.un
  generalize d.un = d' at h r'
  cases r' with
  | non => exact (Option.some.inj h).symm
  | bl b => exact (Option.some.inj h).symm
  | int i => exact (Option.some.inj h).symm
  | str x =>
    simp only at h
    split at h
    · rename_i hl
      exact ⟨by rw [sizeLine_eq]; omega, (Option.some.inj h).symm⟩
    · cases h
  | lst q r2 => exact .inl ⟨_, .of (s _ _ q), by rw [isEmpty_of r2]; exact (Option.some.inj h).symm⟩
  | tup q r2 => exact .inr (.inl ⟨_, .of (s _ _ q), by rw [isEmpty_of r2]; exact (Option.some.inj h).symm⟩)
  | _ => cases h
/-- an expression's truth -/
def bTr (fa : Env → Res D) : Env → Res Bool := fun e => (fa e).bind fun x e => lift (truD x) e
theorem gt_tr (ha : GE c X W a fa) (he : ∀ whole, isTrue a X.env whole = (do let v ← whole; standAt a.pos; holding [v] (truthy v)) := by intro _; rfl) : GT c X W a (bTr fa) := PT.of (pt_truth ha he) fun σ H Q ⟨B, F, A, e, I, w⟩ => by
  refine runD (.refl B F) I w fun x e1 v F1 H1 m1 _ I1 r1 w1 => ?_
  obtain ⟨d, hd, w3⟩ := w1.lift
  exact ⟨d, tru_sound I1.f r1 hd, w3 F1 H1 m1 I1⟩
/-- a bool, as a test -/
def boolD (d : D) : Option Bool := match d.un with
  | .bl b => some b
  | _ => none
def bVal (fa : Env → Res D) : Env → Res Bool := fun e => (fa e).bind fun x e => lift (boolD x) e
theorem bool_sound {g : Γ} {F : Hp} {v : V} {d : D} {k : Bool} (r : Rep g F v d) (h : boolD d = some k) : v = .bl k := by
  unfold boolD at h
  have r' := r.un
  generalize d.un = d' at h r'
  cases r' with
  | bl b => cases h; rfl
  | _ => cases h
theorem gt_not (ha : GT c X W a ft) : GT c X W (.UnaryOp .Not a pos) (fun e => (ft e).bind fun b e => .ok (!b) e) := PT.of (pt_not ha) fun σ H Q ⟨B, F, A, e, I, w⟩ => by
  refine runT (.refl B F) I w fun b e1 F1 H1 m1 _ I1 w1 => ?_
  exact w1 F1 H1 m1 I1
def bAnd (f u : Env → Res Bool) : Env → Res Bool := fun e => (f e).bind fun b e => if b = true then u e else .ok false e
def bOr (f u : Env → Res Bool) : Env → Res Bool := fun e => (f e).bind fun b e => if b = true then .ok true e else u e
def bNot (f : Env → Res Bool) : Env → Res Bool := fun e => (f e).bind fun b e => .ok (!b) e
variable {fu : Env → Res Bool} {rest : List Expr}
theorem gw_and1 (ha : GT c X W a ft) : GW c X W (.BoolOp .And [a] pos) ft := pw_and1 ha
theorem gw_or1 (ha : GT c X W a ft) : GW c X W (.BoolOp .Or [a] pos) ft := pw_or1 ha
theorem gw_and (ha : GT c X W a ft) (hb : GW c X W (.BoolOp .And (b :: rest) pos) fu) : GW c X W (.BoolOp .And (a :: b :: rest) pos) (bAnd ft fu) := PW.of (pw_and ha hb) fun σ H Q ⟨B, F, A, e, I, w⟩ => by
  refine runT (.refl B F) I w fun k e1 F1 H1 m1 _ I1 w1 => ?_
  cases k with
  | true => rw [if_pos rfl] at w1 ⊢; exact endT m1 I1 w1
  | false => rw [if_neg Bool.false_ne_true] at w1 ⊢; exact w1 F1 H1 m1 I1
theorem gw_or (ha : GT c X W a ft) (hb : GW c X W (.BoolOp .Or (b :: rest) pos) fu) : GW c X W (.BoolOp .Or (a :: b :: rest) pos) (bOr ft fu) := PW.of (pw_or ha hb) fun σ H Q ⟨B, F, A, e, I, w⟩ => by
  refine runT (.refl B F) I w fun k e1 F1 H1 m1 _ I1 w1 => ?_
  cases k with
  | false => rw [if_neg Bool.false_ne_true] at w1 ⊢; exact endT m1 I1 w1
  | true => rw [if_pos rfl] at w1 ⊢; exact w1 F1 H1 m1 I1
theorem gt_w {e : Expr} (h : GW c X W e ft) : GT c X W e ft := h.pt
theorem gt_nt (ha : GT c X W a ft) : GT c X W (.UnaryOp .Not a pos) (bNot ft) := gt_not ha
/-- and, or as values: any operands, by truth -/
def dAnd (f u : Env → Res D) : Env → Res D := fun e => (f e).bind fun x e => (lift (truD x) e).bind fun k e => if k = true then u e else .ok x e
def dOr (f u : Env → Res D) : Env → Res D := fun e => (f e).bind fun x e => (lift (truD x) e).bind fun k e => if k = true then .ok x e else u e
theorem ge_one {op} (h : GE c X W a fa) : GE c X W (.BoolOp op [a] pos) fa := pe_one h
theorem ge_and (ha : GE c X W a fa) (hb : GE c X W (.BoolOp .And (b :: rest) pos) fb) : GE c X W (.BoolOp .And (a :: b :: rest) pos) (dAnd fa fb) := PE.of (pe_andT ha hb) fun σ H Q ⟨B, F, A, e, I, w⟩ => by
  refine runD (.refl B F) I w fun x e1 v F1 H1 m1 _ I1 r1 w1 => ?_
  cases q : truD x with
  | none => rw [q] at w1; exact w1.elim
  | some k =>
    rw [q] at w1
    refine ⟨k, tru_sound I1.f r1 q, ?_⟩
    have w2 : Want ⟨X.K, c⟩ W B F A σ (FinD ⟨X.K, c⟩ B F A σ Q) (if k = true then fb e1 else .ok x e1) := w1
    cases k with
    | true => rw [if_pos rfl] at w2 ⊢; exact endD m1 I1 w2
    | false => rw [if_neg Bool.false_ne_true] at w2 ⊢; exact w2 v F1 H1 m1 I1 r1
theorem ge_or (ha : GE c X W a fa) (hb : GE c X W (.BoolOp .Or (b :: rest) pos) fb) : GE c X W (.BoolOp .Or (a :: b :: rest) pos) (dOr fa fb) := PE.of (pe_orT ha hb) fun σ H Q ⟨B, F, A, e, I, w⟩ => by
  refine runD (.refl B F) I w fun x e1 v F1 H1 m1 _ I1 r1 w1 => ?_
  cases q : truD x with
  | none => rw [q] at w1; exact w1.elim
  | some k =>
    rw [q] at w1
    refine ⟨k, tru_sound I1.f r1 q, ?_⟩
    have w2 : Want ⟨X.K, c⟩ W B F A σ (FinD ⟨X.K, c⟩ B F A σ Q) (if k = true then .ok x e1 else fb e1) := w1
    cases k with
    | true => rw [if_pos rfl] at w2 ⊢; exact w2 v F1 H1 m1 I1 r1
    | false => rw [if_neg Bool.false_ne_true] at w2 ⊢; exact endD m1 I1 w2
def dNot (f : Env → Res D) : Env → Res D := fun e => (f e).bind fun x e => lift ((truD x).map fun k => .bl (!k)) e
theorem ge_not (ha : GE c X W a fa) : GE c X W (.UnaryOp .Not a pos) (dNot fa) := PE.of (pe_notT ha) fun σ H Q ⟨B, F, A, e, I, w⟩ => by
  refine runD (.refl B F) I w fun x e1 v F1 H1 m1 _ I1 r1 w1 => ?_
  obtain ⟨d, hd, w3⟩ := w1.lift
  cases q : truD x with
  | none => rw [q] at hd; cases hd
  | some k =>
    rw [q] at hd; cases hd
    exact ⟨k, tru_sound I1.f r1 q, w3 _ F1 H1 m1 I1 (.bl _)⟩
/-- a if t else b -/
def dIf (ft : Env → Res Bool) (fa fb : Env → Res D) : Env → Res D := fun e => (ft e).bind fun k e => if k = true then fa e else fb e
theorem ge_if {t : Expr} (ht : GT c X W t ft) (ha : GE c X W a fa) (hb : GE c X W b fb) : GE c X W (.IfExp t a b pos) (dIf ft fa fb) := PE.of (pe_ifExp ht ha hb) fun σ H Q ⟨B, F, A, e, I, w⟩ => by
  refine runT (.refl B F) I w fun k e1 F1 H1 m1 _ I1 w1 => ?_
  cases k with
  | true => rw [if_pos rfl] at w1 ⊢; exact endD m1 I1 w1
  | false => rw [if_neg Bool.false_ne_true] at w1 ⊢; exact endD m1 I1 w1

/-! ### arguments, displays -/
variable {es : List Expr} {fl : Env → Res (List D)}
def dNil : Env → Res (List D) := fun e => .ok [] e
def dCons (f : Env → Res D) (u : Env → Res (List D)) : Env → Res (List D) := fun e => (f e).bind fun x e => (u e).bind fun xs e => .ok (x :: xs) e
theorem ga_nil : GA c X W [] dNil := PA.of pa_nil fun σ H Q ⟨B, F, A, e, I, w⟩ => w [] F H (.refl B F) I .nil
theorem ga_cons (ha : GE c X W a fa) (hr : GA c X W es fl) (hs : starEach (a :: es) X.env = (false, eval a X.env) :: starEach es X.env := by rfl) : GA c X W (a :: es) (dCons fa fl) := PA.of (pa_cons ha hr hs) fun σ H Q ⟨B, F, A, e, I, w⟩ => by
  refine runD (.refl B F) I w fun x e1 v F1 H1 m1 _ I1 r1 w1 => ?_
  refine runL m1 I1 w1 fun xs e2 vs F2 H2 m2 s2 I2 r2 w2 => ?_
  exact w2 (v :: vs) F2 H2 m2 I2 (.cons (r1.mono s2) r2)
def dTup (u : Env → Res (List D)) : Env → Res D := fun e => (u e).bind fun xs e => if xs.length ≤ 1000000 then .ok (.tup xs) e else .no
def dLst (u : Env → Res (List D)) : Env → Res D := fun e => (u e).bind fun xs e => if xs.length ≤ 1000000 then .ok (.lst xs) e else .no
theorem ge_tup {x1} (h : GA c X W es fl) : GE c X W (.Tuple es x1 pos) (dTup fl) := PE.of (pe_tup h) fun σ H Q ⟨B, F, A, e, I, w⟩ => by
  refine runL (.refl B F) I w fun xs e1 vs F1 H1 m1 _ I1 r1 w1 => ?_
  split at w1
  · rename_i hl
    refine ⟨by rw [r1.length, sizeLine_eq]; omega, fun p hp => ?_⟩
    have al := All.new (o := .tup vs) I1.f hp
    exact w1 _ _ _ (m1.trans (al.ext I1.b)) (I1.all al) (.tup upd_same (r1.mono al.f))
  · exact w1.elim
theorem ge_lst (h : GA c X W es fl) : GE c X W (.List es pos) (dLst fl) := PE.of (pe_lst h) fun σ H Q ⟨B, F, A, e, I, w⟩ => by
  refine runL (.refl B F) I w fun xs e1 vs F1 H1 m1 _ I1 r1 w1 => ?_
  split at w1
  · rename_i hl
    refine ⟨by rw [r1.length, sizeLine_eq]; omega, fun p hp => ?_⟩
    have al := All.new (o := .lst vs) I1.f hp
    exact w1 _ _ _ (m1.trans (al.ext I1.b)) (I1.all al) (.lst upd_same (r1.mono al.f))
  · exact w1.elim
/-- .. owned -/
def oLst (u : Env → Res (List D)) : Env → Res S := fun e => (u e).bind fun xs e => if xs.length ≤ 1000000 then .ok (.own none (.l xs)) e else .no
theorem go_lst (h : GA c X W es fl) : GO c X W (.List es pos) (oLst fl) := PE.of (pe_lst h) fun σ H Q ⟨B, F, A, e, I, w⟩ => by
  refine runL (.refl B F) I w fun xs e1 vs F1 H1 m1 _ I1 r1 w1 => ?_
  split at w1
  · rename_i hl
    refine ⟨by rw [r1.length, sizeLine_eq]; omega, fun p hp => ?_⟩
    have al := All.newO (o := .lst vs) I1.f hp
    refine w1 _ _ _ m1 (I1.all al) ⟨p, rfl, (fun k h => by cases h), ⟨vs, upd_same, r1⟩, I1.b.free hp, I1.f.free hp⟩ fun a ea _ => ?_
    cases ea
    exact I1.apart_new hp
  · exact w1.elim
/-- frozen data as a slot's content -/
def oF (f : Env → Res D) : Env → Res S := fun e => (f e).bind fun d e => .ok (.fz d) e
theorem go_f (h : GE c X W a fa) : GO c X W a (oF fa) := PE.of h fun σ H Q ⟨B, F, A, e, I, w⟩ => by
  refine runD (.refl B F) I w fun x e1 v F1 H1 m1 _ I1 r1 w1 => ?_
  exact w1 v F1 H1 m1 I1 ⟨v, rfl, r1⟩ fun a ea h => by cases h
/-- an owned result, frozen -/
def S.toD : S → Option D
  | .no => none
  | .fz d => some d
  | .own _ ct => some ct.toD
def dF (f : Env → Res S) : Env → Res D := fun e => (f e).bind fun s e => match s with
  | .fz d => .ok d e
  | .own none ct => .ok ct.toD e
  | _ => .no
theorem freeze_new {g : Γ} {B F : Hp} {A : Nat → V} {H : Hp} {σ : St} {e : Env} {a : Addr} {ct : Ct} (I : SI g B F A H σ e) (h : CtR g F H a ct) (b : B a = none) (f : F a = none) (ap : Apart σ e a) :
    ∃ o, H a = some o ∧ ∀ od, Ext B F (upd F a (lk ct od o)) ∧ SI g B (upd F a (lk ct od o)) A (upd H a (lk ct od o)) σ e ∧ Rep g (upd F a (lk ct od o)) (.ref a) ct.toD := by
  obtain ⟨o, ha⟩ := h.there
  exact ⟨o, ha, fun od => I.freezeAt h ha b f rfl (fun j s q => .inr ⟨q, fun ho => ap j s q ho⟩) od⟩
theorem runO {g : Γ} {B F F1 : Hp} {A : Nat → V} {H1 : Hp} {σ : St} {e1 : Env} {β : Type} {P : β → Env → Prop} {fo : Env → Res S} {k : S → Env → Res β} {R : VK} (m : Ext B F F1) (I : SI g B F1 A H1 σ e1) (w : Want g W B F A σ P ((fo e1).bind k))
    (h : ∀ d e v F2 H2, Ext B F F2 → Same F1 F2 → SI g B F2 A H2 σ e → SlotR g B F2 A H2 (some v) d → (∀ a, v = .ref a → d.isOwn = true → Apart σ e a) → Want g W B F A σ P (k d e) → R v H2) : tO g W fo σ H1 R :=
  ⟨B, F1, A, e1, I, w.bind.up m fun d e wk v F2 H2 m2 I2 r ap => h d e v F2 H2 (m.trans m2) m2.1 I2 r ap wk⟩
theorem ge_o {fo : Env → Res S} (h : GO c X W a fo) : GE c X W a (dF fo) := PE.of (PE.lkd h) fun σ H Q ⟨B, F, A, e, I, w⟩ => by
  refine runO (.refl B F) I w fun s e1 v F1 H1 m1 _ I1 r1 ap w1 => ?_
  cases s with
  | no => exact w1.elim
  | fz d =>
    obtain ⟨x, ex, r⟩ := r1
    cases ex
    exact .inl (w1 v F1 H1 m1 I1 r)
  | own org ct =>
    obtain ⟨p, ep, ho, hc, hb, hf⟩ := r1
    cases ep
    cases org with
    | some k => exact w1.elim
    | none =>
      obtain ⟨o, ha, fz⟩ := freeze_new I1 hc hb hf (ap p rfl rfl)
      rcases hc.lk (Q := fun H2 => Q (.ref p) H2) ha (fun od => let ⟨m2, I2, r2⟩ := fz od; w1 _ _ _ (m1.trans m2) I2 r2) with h | ⟨u, h1, h2, h3⟩
      · exact .inl h
      · exact .inr ⟨p, u, h1, h2, h3⟩
end
end DV

set_option Elab.async false
set_option linter.all false
set_option autoImplicit false
set_option maxRecDepth 100000
set_option maxHeartbeats 2000000
/-! V2: operators, comparisons, subscripts as functions of data. -/
namespace DV
open PySem L2 PyProof.Rows

/-! ### dicts -/
section
variable {κ : Type} [DecidableEq κ]
def lookD {β : Type} (kds : List (κ × β)) (k : κ) : Option β := (kds.find? fun kv => decide (kv.1 = k)).map (·.2)
def hasD {β : Type} (kds : List (κ × β)) (k : κ) : Bool := (lookD kds k).isSome
def putD {β : Type} (kds : List (κ × β)) (k : κ) (v : β) : List (κ × β) :=
  if (kds.any fun kv => decide (kv.1 = k)) = true then kds.map (fun kv => if kv.1 = k then (kv.1, v) else kv) else kds ++ [(k, v)]
def dropD {β : Type} (kds : List (κ × β)) (k : κ) : List (κ × β) := kds.filter fun kv => decide (kv.1 ≠ k)
/-- a dict's pairs as data -/
structure KR (g : Γ) (F : Hp) (kvs : List (κ × V)) (kds : List (κ × D)) : Prop where
  e : kvs.map (·.1) = kds.map (·.1)
  r : Reps g F (kvs.map (·.2)) (kds.map (·.2))
variable {g : Γ} {F F' : Hp}
theorem KR.nil : KR g F ([] : List (κ × V)) [] := ⟨rfl, .nil⟩
theorem KR.cons {p : κ × V} {q : κ × D} {ps : List (κ × V)} {qs : List (κ × D)} (e : p.1 = q.1) (r : Rep g F p.2 q.2) (h : KR g F ps qs) : KR g F (p :: ps) (q :: qs) := ⟨by rw [List.map_cons, List.map_cons, e, h.e], .cons r h.r⟩
theorem KR.uncons {p : κ × V} {q : κ × D} {ps : List (κ × V)} {qs : List (κ × D)} (h : KR g F (p :: ps) (q :: qs)) : p.1 = q.1 ∧ Rep g F p.2 q.2 ∧ KR g F ps qs := by
  obtain ⟨e, r⟩ := h
  rw [List.map_cons, List.map_cons] at e r
  injection e with e1 e2
  cases r with
  | cons h r => exact ⟨e1, h, e2, r⟩
theorem KR.ind {P : List (κ × V) → List (κ × D) → Prop} (h0 : P [] []) (h1 : ∀ p q ps qs, p.1 = q.1 → Rep g F p.2 q.2 → KR g F ps qs → P ps qs → P (p :: ps) (q :: qs)) : ∀ {kvs : List (κ × V)} {kds : List (κ × D)}, KR g F kvs kds → P kvs kds
  | [], [], _ => h0
  | [], q :: qs, h => by have e := h.e; simp at e
  | p :: ps, [], h => by have e := h.e; simp at e
  | p :: ps, q :: qs, h => h1 p q ps qs h.uncons.1 h.uncons.2.1 h.uncons.2.2 (KR.ind h0 h1 h.uncons.2.2)
theorem KR.mono {kvs : List (κ × V)} {kds : List (κ × D)} (h : KR g F kvs kds) (s : Same F F') : KR g F' kvs kds := ⟨h.e, h.r.mono s⟩
theorem KR.length {kvs : List (κ × V)} {kds : List (κ × D)} (h : KR g F kvs kds) : kvs.length = kds.length := by simpa using congrArg List.length h.e
theorem KR.app {kvs ps : List (κ × V)} {kds qs : List (κ × D)} (h : KR g F kvs kds) (h' : KR g F ps qs) : KR g F (kvs ++ ps) (kds ++ qs) := ⟨by rw [List.map_append, List.map_append, h.e, h'.e], by rw [List.map_append, List.map_append]; exact h.r.app h'.r⟩
theorem KR.look (k : κ) {kvs : List (κ × V)} {kds : List (κ × D)} (h : KR g F kvs kds) : (valV kvs k = none ∧ lookD kds k = none) ∨ ∃ v d, valV kvs k = some v ∧ lookD kds k = some d ∧ Rep g F v d := by
  refine KR.ind (P := fun kvs kds => (valV kvs k = none ∧ lookD kds k = none) ∨ ∃ v d, valV kvs k = some v ∧ lookD kds k = some d ∧ Rep g F v d) (.inl ⟨rfl, rfl⟩) (fun p q ps qs e r _ ih => ?_) h
  by_cases hk : p.1 = k
  · refine .inr ⟨p.2, q.2, valV_pos hk, ?_, r⟩
    simp [lookD, List.find?_cons, e.symm.trans hk]
  · rw [valV_neg hk]
    have : lookD (q :: qs) k = lookD qs k := by simp [lookD, List.find?_cons, show ¬ q.1 = k from fun z => hk (e.trans z)]
    rw [this]
    exact ih
theorem KR.any (k : κ) {kvs : List (κ × V)} {kds : List (κ × D)} (h : KR g F kvs kds) : (kvs.any fun kv => decide (kv.1 = k)) = (kds.any fun kv => decide (kv.1 = k)) :=
  KR.ind (P := fun kvs kds => (kvs.any fun kv => decide (kv.1 = k)) = (kds.any fun kv => decide (kv.1 = k))) rfl (fun p q ps qs e r _ ih => by rw [List.any_cons, List.any_cons, ih, e]) h
theorem KR.put (k : κ) {v : V} {d : D} (r : Rep g F v d) {kvs : List (κ × V)} {kds : List (κ × D)} (h : KR g F kvs kds) : KR g F (putK kvs k v) (putD kds k d) := by
  unfold putK putD
  rw [h.any k]
  split
  · refine KR.ind (P := fun kvs kds => KR g F (kvs.map fun kv => if kv.1 = k then (kv.1, v) else kv) (kds.map fun kv => if kv.1 = k then (kv.1, d) else kv)) .nil (fun p q ps qs e r' _ ih => ?_) h
    rw [List.map_cons, List.map_cons]
    by_cases hk : p.1 = k
    · rw [if_pos hk, if_pos (e.symm.trans hk)]; exact .cons e r ih
    · rw [if_neg hk, if_neg fun z => hk (e.trans z)]; exact .cons e r' ih
  · exact h.app (.cons rfl r .nil)
theorem KR.drop (k : κ) {kvs : List (κ × V)} {kds : List (κ × D)} (h : KR g F kvs kds) : KR g F (dropK kvs k) (dropD kds k) := by
  refine KR.ind (P := fun kvs kds => KR g F (dropK kvs k) (dropD kds k)) .nil (fun p q ps qs e r' _ ih => ?_) h
  unfold dropK dropD
  by_cases hk : p.1 = k
  · rw [List.filter_cons_of_neg (by simp [hk]), List.filter_cons_of_neg (by simp [e.symm.trans hk])]; exact ih
  · rw [List.filter_cons_of_pos (by simp [hk]), List.filter_cons_of_pos (by simp; exact fun z => hk (e.trans z))]; exact .cons e r' ih
end

/-! ### data of the library -/
mutual
def toPy : D → Option PyData
  | .non => some .none
  | .bl b => some (.bool b)
  | .int i => some (.int i)
  | .str x => some (.str x)
  | .lst xs => (toPys xs).map .list
  | .tup xs => (toPys xs).map .tuple
  | .tag _ d => toPy d
  | .scr _ | .dct _ | .dtt _ | .obj _ _ => none
def toPys : List D → Option (List PyData)
  | [] => some []
  | x :: xs => match toPy x, toPys xs with
    | some p, some ps => some (p :: ps)
    | _, _ => none
end
section
variable {g : Γ} {F H : Hp}
mutual
theorem toPy_dp (s : Same F H) : ∀ {v : V} {d : D} {p : PyData}, Rep g F v d → toPy d = some p → Dp g.K H v p
  | _, _, _, .non, e => by simp only [toPy, Option.some.injEq] at e; subst e; exact .non
  | _, _, _, .bl b, e => by simp only [toPy, Option.some.injEq] at e; subst e; exact .bl b
  | _, _, _, .int i, e => by simp only [toPy, Option.some.injEq] at e; subst e; exact .int i
  | _, _, _, .str x, e => by simp only [toPy, Option.some.injEq] at e; subst e; exact .str x
  | _, _, _, .lst h r, e => by
    simp only [toPy, Option.map_eq_some_iff] at e
    obtain ⟨ps, e1, rfl⟩ := e
    exact .lst (.of (s _ _ h)) (toPys_dp s r e1)
  | _, _, _, .tup h r, e => by
    simp only [toPy, Option.map_eq_some_iff] at e
    obtain ⟨ps, e1, rfl⟩ := e
    exact .tup (.of (s _ _ h)) (toPys_dp s r e1)
  | _, _, _, .scr _, e => by simp only [toPy] at e; cases e
  | _, _, _, .dct _ _ _, e => by simp only [toPy] at e; cases e
  | _, _, _, .dtt _ _ _, e => by simp only [toPy] at e; cases e
  | _, _, _, .obj _ _ _, e => by simp only [toPy] at e; cases e
  | _, _, _, .tag r, e => by simp only [toPy] at e; exact toPy_dp s r e
theorem toPys_dp (s : Same F H) : ∀ {vs : List V} {ds : List D} {ps : List PyData}, Reps g F vs ds → toPys ds = some ps → DpAll g.K H vs ps
  | _, _, _, .nil, e => by simp only [toPys, Option.some.injEq] at e; subst e; exact .nil
  | _, _, _, .cons (d := d) (ds := ds) h r, e => by
    simp only [toPys] at e
    cases e1 : toPy d with
    | none => rw [e1] at e; cases e
    | some p =>
      cases e2 : toPys ds with
      | none => rw [e1, e2] at e; cases e
      | some ps =>
        rw [e1, e2] at e; cases e
        exact .cons (toPy_dp s h e1) (toPys_dp s r e2)
end
end

/-! ### == -/
/-- two data that == tells apart without a look at their signs -/
def easy : PyData → PyData → Bool
  | .str _, .str _ | .str _, .int _ | .int _, .str _ | .str _, .bool _ | .bool _, .str _ | .str _, .none | .none, .str _ => true
  | _, _ => false
def eqD (x y : D) : Option Bool := match toPy x, toPy y with
  | some p, some q => if (easy p q || (SeqAt.shaped p && SeqAt.shaped q)) = true then some (PyData.eqv p q) else none
  | _, _ => none
def neD (x y : D) : Option Bool := (eqD x y).map not
def rEqA (K : PySem.W.Frag) : R2 := fun x y H Q => rEq x y H Q ∨ rEqD K x y H Q
def rNeA (K : PySem.W.Frag) : R2 := fun x y H Q => rNe x y H Q ∨ rNeD K x y H Q
section
variable {X : Cx}
theorem op_eqA (hu : X.A.units + 64 < cLine) : OpR X (compareOp .Eq) (rEqA X.K) := OpR.or op_eq (op_eqD hu)
theorem op_neA (hu : X.A.units + 64 < cLine) : OpR X (compareOp .NotEq) (rNeA X.K) := OpR.or op_ne (op_neD hu)
end
theorem easy_scal {K : PySem.W.Frag} {H : Hp} {x y : V} {p q : PyData} (dx : Dp K H x p) (dy : Dp K H y q) (h : easy p q = true) : scal x y = true ∧ decide (x = y) = PyData.eqv p q := by
  cases dx <;> cases dy <;> first
    | (exfalso; simp [easy] at h; done)
    | exact ⟨rfl, by simp only [PyData.eqv]; rw [dec_str]⟩
    | exact ⟨rfl, by simp only [PyData.eqv]; exact decide_eq_false (fun z => nomatch z)⟩
theorem snd_eq {g : Γ} : SoundB g (rEqA g.K) eqD := fun F H x y dx dy b Q s rx ry e q => by
  unfold eqD at e
  cases e1 : toPy dx with
  | none => rw [e1] at e; cases e
  | some p =>
    cases e2 : toPy dy with
    | none => rw [e1, e2] at e; cases e
    | some p2 =>
      rw [e1, e2] at e
      simp only at e
      split at e
      · rename_i hc
        cases e
        have d1 := toPy_dp s rx e1
        have d2 := toPy_dp s ry e2
        cases he : easy p p2 with
        | true =>
          obtain ⟨a1, a2⟩ := easy_scal d1 d2 he
          exact .inl ⟨a1, by rw [a2]; exact q F H (.refl s)⟩
        | false =>
          rw [he, Bool.false_or, Bool.and_eq_true] at hc
          exact .inr ⟨p, p2, d1, d2, hc.1, hc.2, q F H (.refl s)⟩
      · cases e
theorem snd_ne {g : Γ} : SoundB g (rNeA g.K) neD := fun F H x y dx dy b Q s rx ry e q => by
  unfold neD eqD at e
  cases e1 : toPy dx with
  | none => rw [e1] at e; cases e
  | some p =>
    cases e2 : toPy dy with
    | none => rw [e1, e2] at e; cases e
    | some p2 =>
      rw [e1, e2] at e
      simp only at e
      split at e
      · rename_i hc
        cases e
        have d1 := toPy_dp s rx e1
        have d2 := toPy_dp s ry e2
        cases he : easy p p2 with
        | true =>
          obtain ⟨a1, a2⟩ := easy_scal d1 d2 he
          exact .inl ⟨a1, by rw [a2]; exact q F H (.refl s)⟩
        | false =>
          rw [he, Bool.false_or, Bool.and_eq_true] at hc
          exact .inr ⟨p, p2, d1, d2, hc.1, hc.2, q F H (.refl s)⟩
      · cases e

/-! ### numbers, texts, lists: + - * // % ** -/
def addD (x y : D) : Option D := match x.un, y.un with
  | .int i, .int j => some (.int (i + j))
  | .int i, .bl k => some (.int (i + b2i k))
  | .str a, .str b => if a.length + b.length ≤ 1000000 then some (.str (a ++ b)) else none
  | .lst a, .lst b => if a.length + b.length ≤ 1000000 then some (.lst (a ++ b)) else none
  | .tup a, .tup b => if a.length + b.length ≤ 1000000 ∧ a ≠ [] ∧ b ≠ [] then some (.tup (a ++ b)) else none
  | _, _ => none
def rAddA (K : PySem.W.Frag) : R2 := fun x y H Q => rI0 (fun i j => .int (i + j)) x y H Q ∨ (∃ i k, x = .int i ∧ y = .bl k ∧ Q (.int (i + b2i k)) H) ∨ (∃ i j, x = .str i ∧ y = .str j ∧ i.length + j.length ≤ sizeLine ∧ Q (.str (i ++ j)) H) ∨ rCat x y H Q ∨ rCatT K x y H Q
theorem op_addA {X : Cx} : OpR X (binaryOp .Add) (rAddA X.K) := OpR.or op_add (OpR.or op_add_ib (OpR.or op_add_str (OpR.or op_cat op_catT)))
theorem snd_add {g : Γ} : Sound2 g (rAddA g.K) addD := fun F H x y dx dy d Q s rx ry e q => by
  unfold addD at e
  have rx' := rx.un
  have ry' := ry.un
  generalize dx.un = a at e rx'
  generalize dy.un = b at e ry'
  cases rx' with
  | int i =>
    cases ry' with
    | int j => cases e; exact .inl ⟨i, j, rfl, rfl, q.here s (.int _)⟩
    | bl k => cases e; exact .inr (.inl ⟨i, k, rfl, rfl, q.here s (.int _)⟩)
    | _ => cases e
  | str i =>
    cases ry' with
    | str j =>
      simp only at e
      split at e
      · rename_i hl
        cases e; exact .inr (.inr (.inl ⟨i, j, rfl, rfl, by rw [sizeLine_eq]; omega, q.here s (.str _)⟩))
      · cases e
    | _ => cases e
  | lst h r =>
    cases ry' with
    | lst h2 r2 =>
      simp only at e
      split at e
      · rename_i hl
        cases e
        refine .inr (.inr (.inr (.inl ⟨_, _, _, _, rfl, rfl, s _ _ h, s _ _ h2, by rw [r.length, r2.length, sizeLine_eq]; omega, fun p hp => ?_⟩)))
        exact q _ _ _ (All.new s hp) (.lst upd_same ((r.app r2).mono (All.new s hp).f))
      · cases e
    | _ => cases e
  | tup h r =>
    cases ry' with
    | tup h2 r2 =>
      simp only at e
      split at e
      · rename_i hl
        cases e
        have n1 : ∀ {vs : List V} {ds : List D}, Reps g F vs ds → ds ≠ [] → vs ≠ [] := fun {vs ds} r n z => by subst z; cases r; exact n rfl
        refine .inr (.inr (.inr (.inr ⟨_, _, _, _, rfl, rfl, .of (s _ _ h), .of (s _ _ h2), n1 r hl.2.1, by rw [r.length, r2.length, sizeLine_eq]; omega, fun z => absurd z (n1 r2 hl.2.2), fun _ p hp => ?_⟩)))
        exact q _ _ _ (All.new s hp) (.tup upd_same ((r.app r2).mono (All.new s hp).f))
      · cases e
    | _ => cases e
  | _ => cases e
def intD (d : D) : Option Int := match d.un with
  | .int i => some i
  | _ => none
theorem int_sound {g : Γ} {F : Hp} {v : V} {d : D} {i : Int} (r : Rep g F v d) (h : intD d = some i) : v = .int i := by
  unfold intD at h
  have r' := r.un
  generalize d.un = d' at h r'
  cases r' with
  | int b => cases h; rfl
  | _ => cases h
def i2 (o : Int → Int → Option D) (x y : D) : Option D := (intD x).bind fun i => (intD y).bind fun j => o i j
theorem i2_some {o : Int → Int → Option D} {x y d : D} (h : i2 o x y = some d) : ∃ i j, intD x = some i ∧ intD y = some j ∧ o i j = some d := by
  unfold i2 at h
  cases e1 : intD x with
  | none => rw [e1] at h; cases h
  | some i =>
    cases e2 : intD y with
    | none => rw [e1, e2] at h; cases h
    | some j => rw [e1, e2] at h; exact ⟨i, j, rfl, rfl, h⟩
def subD : D → D → Option D := i2 fun i j => some (.int (i - j))
theorem snd_sub {g : Γ} : Sound2 g (rI0 fun i j => .int (i - j)) subD := fun F H x y dx dy d Q s rx ry e q => by
  obtain ⟨i, j, e1, e2, e3⟩ := i2_some e
  cases e3
  exact ⟨i, j, int_sound rx e1, int_sound ry e2, q.here s (.int _)⟩
def fdivD : D → D → Option D := i2 fun i j => if 0 < j ∧ j < 2 ^ 62 then some (.int (i / j)) else none
theorem snd_fdiv {g : Γ} : Sound2 g (rI CDivW fun i j => .int (i / j)) fdivD := fun F H x y dx dy d Q s rx ry e q => by
  obtain ⟨i, j, e1, e2, e3⟩ := i2_some e
  split at e3
  · rename_i hc
    cases e3
    exact ⟨i, j, int_sound rx e1, int_sound ry e2, wide_div (b := 62) hc.1 (by omega) (by decide) (by decide), q.here s (.int _)⟩
  · cases e3
def modD : D → D → Option D := i2 fun i j => if 0 < j then some (.int (i % j)) else none
theorem snd_mod {g : Γ} : Sound2 g (rI (fun _ j => 0 < j) fun i j => .int (i % j)) modD := fun F H x y dx dy d Q s rx ry e q => by
  obtain ⟨i, j, e1, e2, e3⟩ := i2_some e
  split at e3
  · rename_i hc
    cases e3
    exact ⟨i, j, int_sound rx e1, int_sound ry e2, hc, q.here s (.int _)⟩
  · cases e3
def powD : D → D → Option D := i2 fun i j => if 0 ≤ j ∧ j ≤ 1000 ∧ i.natAbs < 2 ^ 64 then some (.int (i ^ j.toNat)) else none
theorem snd_pow {g : Γ} : Sound2 g (rI CPow fun i j => .int (i ^ j.toNat)) powD := fun F H x y dx dy d Q s rx ry e q => by
  obtain ⟨i, j, e1, e2, e3⟩ := i2_some e
  split at e3
  · rename_i hc
    cases e3
    exact ⟨i, j, int_sound rx e1, int_sound ry e2, ⟨hc.1, by omega, hc.2.2⟩, q.here s (.int _)⟩
  · cases e3
def mulD (x y : D) : Option D := match x.un, y.un with
  | .int i, .int j => if (-(2 ^ 64) < i ∧ i < 2 ^ 64) ∨ (-(2 ^ 64) < j ∧ j < 2 ^ 64) then some (.int (i * j)) else none
  | .lst ds, .int k => if -1000000 ≤ k ∧ k ≤ 1000000 ∧ ds.length * k.toNat ≤ 1000000 then some (.lst (List.replicate k.toNat ds).flatten) else none
  | _, _ => none
def rMulA : R2 := fun x y H Q => rI CMul (fun i j => .int (i * j)) x y H Q ∨ rRep x y H Q
theorem op_mulA {X : Cx} : OpR X (binaryOp .Mult) rMulA := OpR.or op_mul op_rep
theorem Reps.repl {g : Γ} {F : Hp} {vs : List V} {ds : List D} (r : Reps g F vs ds) : ∀ n : Nat, Reps g F (List.replicate n vs).flatten (List.replicate n ds).flatten
  | 0 => .nil
  | n + 1 => by
    rw [List.replicate_succ, List.replicate_succ, List.flatten_cons, List.flatten_cons]
    exact r.app (r.repl n)
/-- lists that are no locked thing -/
theorem rd_lst {F H : Hp} {a : Addr} {xs : List V} (s : Same F H) (h : F a = some (.lst xs)) : H a = some (.lst xs) := s _ _ h
theorem snd_mul {g : Γ} : Sound2 g rMulA mulD := fun F H x y dx dy d Q s rx ry e q => by
  unfold mulD at e
  have rx' := rx.un
  have ry' := ry.un
  generalize dx.un = a at e rx'
  generalize dy.un = b at e ry'
  cases rx' with
  | int i =>
    cases ry' with
    | int j =>
      simp only at e
      split at e
      · rename_i hc
        cases e
        exact .inl ⟨i, j, rfl, rfl, hc, q.here s (.int _)⟩
      · cases e
    | _ => cases e
  | lst h r =>
    cases ry' with
    | int k =>
      simp only at e
      split at e
      · rename_i hc
        cases e
        refine .inr ⟨_, k, _, rfl, rfl, s _ _ h, by omega, by omega, by rw [r.length, sizeLine_eq]; omega, fun p hp => ?_⟩
        exact q _ _ _ (All.new s hp) (.lst upd_same ((r.repl k.toNat).mono (All.new s hp).f))
      · cases e
    | _ => cases e
  | _ => cases e
def negD (x : D) : Option D := (intD x).map fun i => .int (-i)
theorem snd_neg {g : Γ} : Sound1 g (rU fun i => .int (-i)) negD := fun F H x dx d Q s rx e q => by
  unfold negD at e
  cases e1 : intD dx with
  | none => rw [e1] at e; cases e
  | some i => rw [e1] at e; cases e; exact ⟨i, int_sound rx e1, q.here s (.int _)⟩
/-! ### < <= > >= -/
def ordI (p : Int → Int → Bool) (x y : D) : Option Bool := (intD x).bind fun i => (intD y).bind fun j => some (p i j)
theorem ordI_some {p : Int → Int → Bool} {x y : D} {b : Bool} (h : ordI p x y = some b) : ∃ i j, intD x = some i ∧ intD y = some j ∧ b = p i j := by
  unfold ordI at h
  cases e1 : intD x with
  | none => rw [e1] at h; cases h
  | some i =>
    cases e2 : intD y with
    | none => rw [e1, e2] at h; cases h
    | some j => rw [e1, e2] at h; exact ⟨i, j, rfl, rfl, (Option.some.inj h).symm⟩
theorem snd_ord {g : Γ} {p : Int → Int → Bool} : SoundB g (rI0 fun i j => .bl (p i j)) (ordI p) := fun F H x y dx dy b Q s rx ry e q => by
  obtain ⟨i, j, e1, e2, e3⟩ := ordI_some e
  subst e3
  exact ⟨i, j, int_sound rx e1, int_sound ry e2, q F H (.refl s)⟩
def ltD : D → D → Option Bool := ordI fun i j => decide (i < j)
def leD : D → D → Option Bool := ordI fun i j => decide (i ≤ j)
def gtD : D → D → Option Bool := ordI fun i j => decide (j < i)
def geD : D → D → Option Bool := ordI fun i j => decide (j ≤ i)
/-! ### is None -/
def isNonD : D → Bool
  | .non => true
  | .tag _ d => isNonD d
  | _ => false
theorem isNon_sound {g : Γ} {F : Hp} : ∀ {v : V} {d : D}, Rep g F v d → decide (v = .non) = isNonD d
  | v, .tag _ d, .tag r => (show decide (v = .non) = isNonD d from isNon_sound (d := d) r)
  | _, _, .non => rfl
  | _, _, .bl _ => rfl
  | _, _, .int _ => rfl
  | _, _, .str _ => rfl
  | _, _, .lst _ _ => rfl
  | _, _, .tup _ _ => rfl
  | _, _, .scr _ => rfl
  | _, _, .dct _ _ _ => rfl
  | _, _, .dtt _ _ _ => rfl
  | _, _, .obj _ _ _ => rfl
def isD (x y : D) : Option Bool := match y.un with
  | .non => some (isNonD x)
  | _ => none
def isNotD (x y : D) : Option Bool := match y.un with
  | .non => some (!isNonD x)
  | _ => none
theorem snd_isN {g : Γ} : SoundB g (fun x y H Q => y = .non ∧ Q (.bl (decide (x = .non))) H) isD := fun F H x y dx dy b Q s rx ry e q => by
  unfold isD at e
  have ry' := ry.un
  generalize dy.un = z at e ry'
  cases ry' with
  | non => cases e; exact ⟨rfl, by rw [isNon_sound rx]; exact q F H (.refl s)⟩
  | _ => cases e
theorem snd_isNotN {g : Γ} : SoundB g (fun x y H Q => y = .non ∧ Q (.bl (!decide (x = .non))) H) isNotD := fun F H x y dx dy b Q s rx ry e q => by
  unfold isNotD at e
  have ry' := ry.un
  generalize dy.un = z at e ry'
  cases ry' with
  | non => cases e; exact ⟨rfl, by rw [isNon_sound rx]; exact q F H (.refl s)⟩
  | _ => cases e
end DV

set_option Elab.async false
set_option linter.all false
set_option autoImplicit false
set_option maxRecDepth 100000
set_option maxHeartbeats 2000000
/-! V3: reading containers: subscripts, in, len, built-in calls. -/
namespace DV
open PySem L2
open PyProof.Rows hiding St

/-- an object as it stands: frozen or owned -/
inductive View (g : Γ) (F H : Hp) : V → D → Prop
  | non : View g F H .non .non
  | bl (b : Bool) : View g F H (.bl b) (.bl b)
  | int (i : Int) : View g F H (.int i) (.int i)
  | str (x : Str) : View g F H (.str x) (.str x)
  | lst {a : Addr} {vs : List V} {ds : List D} (h : H a = some (.lst vs)) (r : Reps g F vs ds) : View g F H (.ref a) (.lst ds)
  | tup {a : Addr} {vs : List V} {ds : List D} (h : F a = some (.tup vs)) (r : Reps g F vs ds) : View g F H (.ref a) (.tup ds)
  | scr {a : Addr} {ns : List Int} (h : SqL g.K H a (ns.map V.int)) : View g F H (.ref a) (.scr ns)
  | dct {a : Addr} {kvs : List (Key × V)} {kds : List (Key × D)} (h : Rd H a (.dK kvs)) (r : KR g F kvs kds) : View g F H (.ref a) (.dct kds)
  | dtt {a : Addr} {kvs : List (List Key × V)} {kds : List (List Key × D)} (h : Rd H a (.dT kvs)) (r : KR g F kvs kds) : View g F H (.ref a) (.dtt kds)
  | obj {a dx : Addr} {c : Nat} {fs : List (Str × V)} {fds : List (Str × D)} (h : H a = some (.ins (g.cls c) dx fs)) (r : KR g F fs fds) : View g F H (.ref a) (.obj c fds)
section
variable {g : Γ} {F F' H H' : Hp}
theorem Rep.view (s : Same F H) : ∀ {v : V} {d : D}, Rep g F v d → View g F H v d.un
  | _, _, .non => .non
  | _, _, .bl b => .bl b
  | _, _, .int i => .int i
  | _, _, .str x => .str x
  | _, _, .lst h r => .lst (s _ _ h) r
  | _, _, .tup h r => .tup h r
  | _, _, .scr h => .scr (Same.seq s h)
  | _, _, .dct h e r => .dct (.inr ⟨_, s _ _ h⟩) ⟨e, r⟩
  | _, _, .dtt h e r => .dtt (.inr ⟨_, s _ _ h⟩) ⟨e, r⟩
  | _, _, .obj h e r => .obj (s _ _ h) ⟨e, r⟩
  | v, .tag _ d, .tag r => (show View g F H v d.un from r.view s)
theorem CtR.view {a : Addr} {c : Ct} (h : CtR g F H a c) : View g F H (.ref a) c.toD := by
  cases c with
  | l ds => obtain ⟨_, h, r⟩ := h; exact .lst h r
  | d ds => obtain ⟨_, h, k, r⟩ := h; exact .dct (.inl h) ⟨k, r⟩
  | t ds => obtain ⟨_, h, k, r⟩ := h; exact .dtt (.inl h) ⟨k, r⟩
  | o c ds => obtain ⟨_, _, h, k, r⟩ := h; exact .obj h ⟨k, r⟩
end
/-- what a slot shows -/
def view (e : Env) (i : Nat) : Option D := match e[i]? with
  | some (.fz d) => some d.un
  | some (.own _ c) => some c.toD
  | _ => none
theorem SI.view {g : Γ} {B F : Hp} {A : Nat → V} {H : Hp} {σ : St} {e : Env} (I : SI g B F A H σ e) {i : Nat} {d : D} (h : view e i = some d) : ∃ v, σ[i]? = some (some v) ∧ View g F H v d := by
  unfold DV.view at h
  cases q : e[i]? with
  | none => rw [q] at h; cases h
  | some s =>
    rw [q] at h
    cases s with
    | no => cases h
    | fz d => cases h; obtain ⟨v, e1, r⟩ := I.fz q; exact ⟨v, e1, r.view I.f⟩
    | own og c => cases h; obtain ⟨a, e1, _, c1, _⟩ := I.own q; exact ⟨_, e1, c1.view⟩

/-! ### sound rules over what is viewed -/
def SV1 (g : Γ) (r : V → Hp → VK → Prop) (o : D → Option D) : Prop := ∀ F H x dx d Q, Same F H → View g F H x dx → o dx = some d → Hands g F H d Q → r x H Q
def SVC (g : Γ) (r : List V → Hp → VK → Prop) (o : D → Option D) : Prop := ∀ F H x dx d Q, Same F H → View g F H x dx → o dx = some d → Hands g F H d Q → r [x] H Q
def SV2 (g : Γ) (r : R2) (o : D → D → Option D) : Prop := ∀ F H x y dx dy d Q, Same F H → View g F H x dx → View g F H y dy → o dx dy = some d → Hands g F H d Q → r x y H Q
/-- .. owned new lists and dicts -/
def SVO (g : Γ) (r : List V → Hp → VK → Prop) (o : D → Option Ct) : Prop := ∀ F H x dx c Q, Same F H → View g F H x dx → o dx = some c → (∀ p H', H p = none → Same H H' → (∀ a, a ≠ p → H' a = H a) → CtR g F H' p c → Q (.ref p) H') → r [x] H Q

def d2v (o : D → D → Option D) (fa fb : Env → Res D) : Env → Res D := fun e => (fa e).bind fun x e => (fb e).bind fun y e => lift (o x.un y.un) e
def d2s (o : D → D → Option D) (i : Nat) (fb : Env → Res D) : Env → Res D := fun e => (lift (view e i) e).bind fun _ e => (fb e).bind fun y e => lift ((view e i).bind fun x => o x y.un) e
def d1v (o : D → Option D) (fa : Env → Res D) : Env → Res D := fun e => (fa e).bind fun x e => lift (o x.un) e
def d1s (o : D → Option D) (i : Nat) : Env → Res D := fun e => lift ((view e i).bind o) e

section
variable {g : Γ} {W : WX} {fa fb : Env → Res D}
theorem sem_2v {r : R2} {o : D → D → Option D} (hs : SV2 g r o) : ∀ σ H Q, tD g W (d2v o fa fb) σ H Q → tOp r (tD g W fa) (tD g W fb) σ H Q := fun σ H Q ⟨B, F, A, e, I, w⟩ => by
  refine runD (.refl B F) I w fun x e1 v F1 H1 m1 _ I1 r1 w1 => ?_
  refine runD m1 I1 w1 fun y e2 u F2 H2 m2 s2 I2 r2 w2 => ?_
  obtain ⟨d, hd, w3⟩ := w2.lift
  exact hs F2 H2 v u x.un y.un d Q I2.f ((r1.mono s2).view I2.f) (r2.view I2.f) hd fun z F3 H3 al r3 => w3 z F3 H3 (m2.trans (al.ext I2.b)) (I2.all al) r3
/-- a name's value does not change while the other part is reckoned: σ stays -/
theorem sem_2s {r : R2} {o : D → D → Option D} {i : Nat} (hs : SV2 g r o) : ∀ σ H Q, tD g W (d2s o i fb) σ H Q → tOp r (tVar i) (tD g W fb) σ H Q := fun σ H Q ⟨B, F, A, e, I, w⟩ => by
  obtain ⟨x0, hx0, w0⟩ := (Want.bind w).lift
  obtain ⟨v, hv, _⟩ := I.view hx0
  refine ⟨v, hv, ?_⟩
  refine runD (.refl B F) I w0 fun y e2 u F2 H2 m2 s2 I2 r2 w2 => ?_
  obtain ⟨d, hd, w3⟩ := w2.lift
  obtain ⟨x, hx, hd⟩ := Option.bind_eq_some_iff.mp hd
  obtain ⟨v', ev, vw⟩ := I2.view hx
  have ee : v = v' := by rw [hv] at ev; cases ev; rfl
  subst ee
  exact hs F2 H2 v u x y.un d Q I2.f vw (r2.view I2.f) hd fun z F3 H3 al r3 => w3 z F3 H3 (m2.trans (al.ext I2.b)) (I2.all al) r3
end

/-! ### keys -/
def keyD (d : D) : Option Key := match d with
  | .int i => some (.inl i)
  | .str x => some (.inr x)
  | _ => none
def keysD : List D → Option (List Key)
  | [] => some []
  | d :: ds => match keyD d.un, keysD ds with
    | some k, some ks => some (k :: ks)
    | _, _ => none
theorem keyD_sound {g : Γ} {F H : Hp} {v : V} {d : D} {k : Key} (r : View g F H v d) (h : keyD d = some k) : v = kV k := by
  unfold keyD at h
  cases r with
  | int i => cases h; rfl
  | str i => cases h; rfl
  | _ => cases h
theorem keysD_sound {g : Γ} {F H : Hp} (s : Same F H) : ∀ {vs : List V} {ds : List D} {ks : List Key}, Reps g F vs ds → keysD ds = some ks → vs = ks.map kV
  | _, _, _, .nil, h => by cases h; rfl
  | _, _, _, .cons (d := d) (ds := ds) q r, h => by
    simp only [keysD] at h
    cases e1 : keyD d.un with
    | none => rw [e1] at h; cases h
    | some k =>
      cases e2 : keysD ds with
      | none => rw [e1, e2] at h; cases h
      | some ks =>
        rw [e1, e2] at h; cases h
        rw [List.map_cons, keyD_sound (q.view s) e1, keysD_sound s r e2]

/-! ### a[i] -/
theorem reps_at {g : Γ} {F : Hp} {vs : List V} {ds : List D} (r : Reps g F vs ds) {i : Int} {d : D} (h : atI ds i = some d) : ∃ v, atI vs i = some v ∧ Rep g F v d := by
  unfold atI at h ⊢
  rw [r.length]
  obtain ⟨j, h1, h2⟩ := Option.bind_eq_some_iff.mp h
  obtain ⟨v, h3, h4⟩ := r.get h2
  exact ⟨v, by rw [h1]; exact h3, h4⟩
def rIxD : R2 := fun x y H Q => ∃ a v, x = .ref a ∧ DGet H a y (some v) ∧ Q v H
theorem ix_dct {X : Cx} (hu : X.A.units + 1 < cLine) : IxR X rIxD := by
  intro value slice pins s σ H x y v u Q I rx ry h hs
  obtain ⟨a, w, rfl, g, q⟩ := h
  cases rx
  have hT := dict_typeIs I g
  unfold subscriptTail
  refine wpAny_bind ?_
  rw [getitemInPython_of_ne hT.not_modules]
  refine wpAny_bind (wpAny_specialOf hT PySem.F.slot_dict_getitem.lookup ?_)
  have fin : wpAny (model X.prog X.w) X.A (subscripted slice false (.ref a) u) (fun r s₃ => wpAny (model X.prog X.w) X.A (letTemporaryGo value (.ref a) r >>= fun _ => pure r) (EP X pins σ Q) X.xe s₃) X.xe s := by
    rw [hs]
    exact wpAny_operating (thn (d_getItem hu I g ry fun w' s3 I3 rw' => (⟨w, H, I3, rw', q⟩ : EP X pins σ Q w' s3)) fun r s₃ h₃ => wpAny_bind (wpAny_letTemporaryGo (wpAny_pure h₃)))
  first
    | exact wpAny_pure (wpAny_bind fin)
    | exact wpAny_bind (wpAny_pure (wpAny_bind fin))
    | exact wpAny_bind fin
def ixD (x y : D) : Option D := match x with
  | .lst ds => (intD y).bind fun i => atI ds i
  | .tup ds => (intD y).bind fun i => atI ds i
  | .scr ns => (intD y).bind fun i => (atI ns i).map .int
  | .str z => if z.length ≤ 1000000 then (intD y).bind fun i => (atI z.cps.toList i).map fun c => .str ⟨#[c]⟩ else none
  | .dct kds => (keyD y).bind fun k => lookD kds k
  | .dtt kds => match y with
    | .tup ks => (keysD ks).bind fun k => lookD kds k
    | _ => none
  | _ => none
def rIxA (K : PySem.W.Frag) : R2 := fun x y H Q => rIxL K x y H Q ∨ rIxT K x y H Q ∨ rIxS x y H Q ∨ rIxD x y H Q
theorem ix_all {X : Cx} (hu : X.A.units + 1 < cLine) : IxR X (rIxA X.K) := IxR.or ix_list (IxR.or ix_tup (IxR.or ix_str (ix_dct hu)))
theorem view_int {g : Γ} {F H : Hp} {v : V} {d : D} {i : Int} (r : View g F H v d) (h : intD d = some i) : v = .int i := by
  unfold intD at h
  cases r with
  | int b => cases h; rfl
  | _ => cases h
theorem snd_ix {g : Γ} : SV2 g (rIxA g.K) ixD := fun F H x y dx dy d Q s rx ry e q => by
  unfold ixD at e
  cases rx with
  | lst h r =>
    obtain ⟨i, e1, e2⟩ := Option.bind_eq_some_iff.mp e
    obtain ⟨v, e3, r3⟩ := reps_at r e2
    exact .inl ⟨_, _, i, v, rfl, view_int ry e1, .of h, e3, q.here s r3⟩
  | tup h r =>
    obtain ⟨i, e1, e2⟩ := Option.bind_eq_some_iff.mp e
    obtain ⟨v, e3, r3⟩ := reps_at r e2
    exact .inr (.inl ⟨_, _, i, v, rfl, view_int ry e1, .of (s _ _ h), e3, q.here s r3⟩)
  | @scr a ns h =>
    obtain ⟨i, e1, e2⟩ := Option.bind_eq_some_iff.mp e
    obtain ⟨n, e3, e4⟩ := Option.map_eq_some_iff.mp e2
    subst e4
    refine .inl ⟨_, ns.map V.int, i, .int n, rfl, view_int ry e1, h, ?_, q.here s (.int n)⟩
    unfold atI at e3 ⊢
    obtain ⟨j, h1, h2⟩ := Option.bind_eq_some_iff.mp e3
    rw [List.length_map, h1]
    simp [h2]
  | str z =>
    simp only at e
    split at e
    · rename_i hl
      obtain ⟨i, e1, e2⟩ := Option.bind_eq_some_iff.mp e
      obtain ⟨n, e3, e4⟩ := Option.map_eq_some_iff.mp e2
      subst e4
      exact .inr (.inr (.inl ⟨z, i, n, rfl, view_int ry e1, by rw [sizeLine_eq]; omega, e3, q.here s (.str _)⟩))
    · cases e
  | dct h r =>
    obtain ⟨k, e1, e2⟩ := Option.bind_eq_some_iff.mp e
    rcases r.look k with ⟨_, z⟩ | ⟨v, d', z1, z2, z3⟩
    · rw [z] at e2; cases e2
    · rw [z2] at e2; cases e2
      exact .inr (.inr (.inr ⟨_, v, rfl, .inl ⟨_, k, h, keyD_sound ry e1, z1.symm⟩, q.here s z3⟩))
  | dtt h r =>
    cases ry with
    | tup h2 r2 =>
      obtain ⟨k, e1, e2⟩ := Option.bind_eq_some_iff.mp e
      rcases r.look k with ⟨_, z⟩ | ⟨v, d', z1, z2, z3⟩
      · rw [z] at e2; cases e2
      · rw [z2] at e2; cases e2
        exact .inr (.inr (.inr ⟨_, v, rfl, .inr ⟨_, k, _, h, rfl, by rw [s _ _ h2, keysD_sound s r2 e1], z1.symm⟩, q.here s z3⟩))
    | _ => cases e
  | _ => cases e
section
variable {c : Nat → Addr} {X : Cx} {W : WX} {a b : Expr} {fa fb : Env → Res D} {pos : Pos}
theorem ge_ix (hu : X.A.units + 1 < cLine) (ha : GE c X W a fa) (hb : GE c X W b fb) (hs : PlainIx b := by exact fun _ _ => rfl) : GE c X W (.Subscript a b pos) (d2v ixD fa fb) := PE.of (pe_ix (ix_all hu) ha hb hs) (sem_2v snd_ix)
/-- the name in slot i, read where it stands -/
theorem ge_ixs (i : Nat) (hu : X.A.units + 1 < cLine) (ha : PE X a (tVar i)) (hb : GE c X W b fb) (hs : PlainIx b := by exact fun _ _ => rfl) : GE c X W (.Subscript a b pos) (d2s ixD i fb) := PE.of (pe_ix (ix_all hu) ha hb hs) (sem_2s snd_ix)
end
end DV

set_option Elab.async false
set_option linter.all false
set_option autoImplicit false
set_option maxRecDepth 100000
set_option maxHeartbeats 2000000
/-! V4: in, len, built-in functions and types. -/
namespace DV
open PySem L2
open PyProof.Rows hiding St

/-! ### in -/
def SVB (g : Γ) (r : R2) (o : D → D → Option Bool) : Prop := ∀ F H x y dx dy b Q, Same F H → View g F H x dx → View g F H y dy → o dx dy = some b → (∀ F' H', All F H F' H' → Q (.bl b) H') → r x y H Q
def b2v (o : D → D → Option Bool) (fa fb : Env → Res D) : Env → Res Bool := fun e => (fa e).bind fun x e => (fb e).bind fun y e => lift (o x.un y.un) e
/-- the right one a name's slot -/
def b2r (o : D → D → Option Bool) (fa : Env → Res D) (i : Nat) : Env → Res Bool := fun e => (fa e).bind fun x e => lift ((view e i).bind fun y => o x.un y) e
section
variable {g : Γ} {W : WX} {fa fb : Env → Res D}
theorem sem_b2v {r : R2} {o : D → D → Option Bool} (hs : SVB g r o) : ∀ σ H Q, tT g W (b2v o fa fb) σ H Q → tTest (tOp r (tD g W fa) (tD g W fb)) σ H Q := fun σ H Q ⟨B, F, A, e, I, w⟩ => by
  refine runD (.refl B F) I w fun x e1 v F1 H1 m1 _ I1 r1 w1 => ?_
  refine runD m1 I1 w1 fun y e2 u F2 H2 m2 s2 I2 r2 w2 => ?_
  obtain ⟨d, hd, w3⟩ := w2.lift
  exact hs F2 H2 v u x.un y.un d _ I2.f ((r1.mono s2).view I2.f) (r2.view I2.f) hd fun F3 H3 al => ⟨d, rfl, w3 F3 H3 (m2.trans (al.ext I2.b)) (I2.all al)⟩
theorem sem_b2r {r : R2} {o : D → D → Option Bool} {i : Nat} (hs : SVB g r o) : ∀ σ H Q, tT g W (b2r o fa i) σ H Q → tTest (tOp r (tD g W fa) (tVar i)) σ H Q := fun σ H Q ⟨B, F, A, e, I, w⟩ => by
  refine runD (.refl B F) I w fun x e1 v F1 H1 m1 _ I1 r1 w1 => ?_
  obtain ⟨d, hd, w3⟩ := w1.lift
  obtain ⟨y, hy, hd⟩ := Option.bind_eq_some_iff.mp hd
  obtain ⟨u, ev, vw⟩ := I1.view hy
  exact ⟨u, ev, hs F1 H1 v u x.un y d _ I1.f (r1.view I1.f) vw hd fun F3 H3 al => ⟨d, rfl, w3 F3 H3 (m1.trans (al.ext I1.b)) (I1.all al)⟩⟩
theorem dB_T {Q : VK} {f : Env → Res Bool} {B F : Hp} {A : Nat → V} {σ : L2.St} {e : Env} (w : Want g W B F A σ (FinD g B F A σ Q) (dB f e)) : Want g W B F A σ (FinT g B F A σ fun b H' => Q (.bl b) H') (f e) :=
  (Want.bind w).imp fun b e1 q F' H' m I' => q (.bl b) F' H' m I' (.bl b)
theorem tTest_out {t : TE} {σ : L2.St} {H : Hp} {Q : VK} (h : tTest t σ H fun b H' => Q (.bl b) H') (mono : ∀ (Q Q' : VK), (∀ v H', Q v H' → Q' v H') → t σ H Q → t σ H Q') : t σ H Q :=
  mono _ _ (fun v H' ⟨k, e, q⟩ => by subst e; exact q) h
theorem tD_mono {f : Env → Res D} {σ : L2.St} {H : Hp} {Q Q' : VK} (h : ∀ v H', Q v H' → Q' v H') : tD g W f σ H Q → tD g W f σ H Q' := fun ⟨B, F, A, e, I, w⟩ =>
  ⟨B, F, A, e, I, w.imp fun _ _ q v F' H' m I' r => h _ _ (q v F' H' m I' r)⟩
def Mono2 (r : R2) : Prop := ∀ x y H (Q Q' : VK), (∀ v H', Q v H' → Q' v H') → r x y H Q → r x y H Q'
theorem tOp_mono {r : R2} (hr : Mono2 r) {σ : L2.St} {H : Hp} (Q Q' : VK) (h : ∀ v H', Q v H' → Q' v H') : tOp r (tD g W fa) (tD g W fb) σ H Q → tOp r (tD g W fa) (tD g W fb) σ H Q' :=
  tD_mono fun _ _ q => tD_mono (fun _ _ q => hr _ _ _ _ _ h q) q
theorem tOpV_mono {r : R2} {i : Nat} (hr : Mono2 r) {σ : L2.St} {H : Hp} (Q Q' : VK) (h : ∀ v H', Q v H' → Q' v H') : tOp r (tD g W fa) (tVar i) σ H Q → tOp r (tD g W fa) (tVar i) σ H Q' :=
  tD_mono fun _ _ ⟨v, e, q⟩ => ⟨v, e, hr _ _ _ _ _ h q⟩
end
theorem Mono2.or {r r' : R2} (h : Mono2 r) (h' : Mono2 r') : Mono2 (fun x y H Q => r x y H Q ∨ r' x y H Q) := fun x y H Q Q' k q => q.elim (fun q => .inl (h x y H Q Q' k q)) fun q => .inr (h' x y H Q Q' k q)

def flatP : PyData → Bool
  | .none | .bool _ | .int _ | .str _ => true
  | _ => false
theorem flat_dp {K : PySem.W.Frag} {H : Hp} {x : V} {p : PyData} (d : Dp K H x p) (h : flatP p = true) : flatV x = true := by
  cases d <;> first | rfl | (simp [flatP] at h; done)
theorem flat_eqv {K : PySem.W.Frag} {H : Hp} {x y : V} {p q : PyData} (d : Dp K H x p) (d' : Dp K H y q) (h : flatP p = true) (h' : flatP q = true) : eqV x y = PyData.eqv p q := by
  cases d <;> first | (simp [flatP] at h; done) | (cases d' <;> first | (simp [flatP] at h'; done) | simp only [eqV, PyData.eqv])
theorem flats_dp {K : PySem.W.Frag} {H : Hp} : ∀ {xs : List V} {ps : List PyData}, DpAll K H xs ps → ps.all flatP = true → xs.all flatV = true
  | _, _, .nil, _ => rfl
  | _, _, .cons d r, h => by
    rw [List.all_cons, Bool.and_eq_true] at h ⊢
    exact ⟨flat_dp d h.1, flats_dp r h.2⟩
theorem flats_in {K : PySem.W.Frag} {H : Hp} {x : V} {p : PyData} (d : Dp K H x p) (hp : flatP p = true) : ∀ {xs : List V} {ps : List PyData}, DpAll K H xs ps → ps.all flatP = true → inV x xs = ps.any fun z => PyData.eqv z p
  | _, _, .nil, _ => rfl
  | _, _, .cons d1 r, h => by
    rw [List.all_cons, Bool.and_eq_true] at h
    unfold inV
    rw [List.any_cons, List.any_cons, flat_eqv d1 d h.1 hp]
    exact congrArg _ (flats_in d hp r h.2)
def inL (x : D) (ds : List D) (isL : Bool) : Option Bool := match toPy x, toPys ds with
  | some p, some ps => if (flatP p && ps.all flatP || (isL && SeqAt.shaped p && SeqAt.shaped (.list ps))) = true then some (ps.any fun z => PyData.eqv z p) else none
  | _, _ => none
def inD (x y : D) : Option Bool := match y with
  | .lst ds => inL x ds true
  | .tup ds => inL x ds false
  | .str z => match x with
    | .str a => match a.cps.toList with
      | [c] => some (decide (c ∈ z.cps.toList))
      | _ => none
    | _ => none
  | .dct kds => (keyD x).map fun k => hasD kds k
  | .dtt kds => match x with
    | .tup ks => (keysD ks).map fun k => hasD kds k
    | _ => none
  | _ => none
def notInD (x y : D) : Option Bool := (inD x y).map not
def rInK : R2 := fun x y H Q => ∃ a o, y = .ref a ∧ DGet H a x o ∧ Q (.bl o.isSome) H
def rNotInK : R2 := fun x y H Q => ∃ a o, y = .ref a ∧ DGet H a x o ∧ Q (.bl (!o.isSome)) H
def rInS : R2 := fun x y H Q => ∃ (c : Nat) (z : Str), x = .str ⟨#[c]⟩ ∧ y = .str z ∧ Q (.bl (decide (c ∈ z.cps.toList))) H
def rNotInS' : R2 := fun x y H Q => ∃ (c : Nat) (z : Str), x = .str ⟨#[c]⟩ ∧ y = .str z ∧ Q (.bl (!decide (c ∈ z.cps.toList))) H
section
variable {X : Cx}
theorem op_inK (hu : X.A.units + 1 < cLine) : OpR X (compareOp .In) rInK := by
  intro pins s σ H x y v u Q I rx ry h
  obtain ⟨a, o, rfl, g, q⟩ := h
  cases ry
  exact d_in hu I g rx fun s3 I3 => ⟨.bl o.isSome, H, I3, rfl, q⟩
theorem op_notInK (hu : X.A.units + 1 < cLine) : OpR X (compareOp .NotIn) rNotInK := by
  intro pins s σ H x y v u Q I rx ry h
  obtain ⟨a, o, rfl, g, q⟩ := h
  cases ry
  exact d_notIn hu I g rx fun s3 I3 => ⟨.bl (!o.isSome), H, I3, rfl, q⟩
end
def rInA (K : PySem.W.Frag) : R2 := fun x y H Q => rIn K false x y H Q ∨ rInD K x y H Q ∨ rInS x y H Q ∨ rInK x y H Q
def rNotInA (K : PySem.W.Frag) : R2 := fun x y H Q => rIn K true x y H Q ∨ rNotInD K x y H Q ∨ rNotInS' x y H Q ∨ rNotInK x y H Q
theorem op_inA {X : Cx} (hu : X.A.units + 65 < cLine) : OpR X (compareOp .In) (rInA X.K) := OpR.or op_in_seq (OpR.or (op_inD hu) (OpR.or op_in_sign (op_inK (by omega))))
theorem op_notInA {X : Cx} (hu : X.A.units + 65 < cLine) : OpR X (compareOp .NotIn) (rNotInA X.K) := OpR.or op_notIn_seq (OpR.or (op_notInD hu) (OpR.or op_notIn_sign (op_notInK (by omega))))
theorem mono_inA {K : PySem.W.Frag} : Mono2 (rInA K) := fun x y H Q Q' k q => by
  rcases q with ⟨p, xs, a, b, c, d, q⟩ | ⟨d, ds, a, b, c, e, q⟩ | ⟨c, z, a, b, q⟩ | ⟨a, o, b, c, q⟩
  · exact .inl ⟨p, xs, a, b, c, d, k _ _ q⟩
  · exact .inr (.inl ⟨d, ds, a, b, c, e, k _ _ q⟩)
  · exact .inr (.inr (.inl ⟨c, z, a, b, k _ _ q⟩))
  · exact .inr (.inr (.inr ⟨a, o, b, c, k _ _ q⟩))
theorem mono_notInA {K : PySem.W.Frag} : Mono2 (rNotInA K) := fun x y H Q Q' k q => by
  rcases q with ⟨p, xs, a, b, c, d, q⟩ | ⟨d, ds, a, b, c, e, q⟩ | ⟨c, z, a, b, q⟩ | ⟨a, o, b, c, q⟩
  · exact .inl ⟨p, xs, a, b, c, d, k _ _ q⟩
  · exact .inr (.inl ⟨d, ds, a, b, c, e, k _ _ q⟩)
  · exact .inr (.inr (.inl ⟨c, z, a, b, k _ _ q⟩))
  · exact .inr (.inr (.inr ⟨a, o, b, c, k _ _ q⟩))
/-- what in asks, by the way it goes -/
theorem in_case {g : Γ} {F H : Hp} {x y : V} {dx dy : D} {b : Bool} (s : Same F H) (rx : View g F H x dx) (ry : View g F H y dy) (e : inD dx dy = some b) :
    (∃ p xs, y = .ref p ∧ (SqL g.K H p xs ∨ SqT g.K H p xs) ∧ flatV x = true ∧ xs.all flatV = true ∧ b = inV x xs) ∨
    (∃ d ds, Dp g.K H x d ∧ Dp g.K H y (.list ds) ∧ SeqAt.shaped d = true ∧ SeqAt.shaped (.list ds) = true ∧ b = ds.any fun z => PyData.eqv z d) ∨
    (∃ (c : Nat) (z : Str), x = .str ⟨#[c]⟩ ∧ y = .str z ∧ b = decide (c ∈ z.cps.toList)) ∨ ∃ a o, y = .ref a ∧ DGet H a x o ∧ b = o.isSome := by
  have dpx : ∀ {p : PyData}, toPy dx = some p → Dp g.K H x p := fun {p} h => by
    cases rx with
    | non => simp only [toPy, Option.some.injEq] at h; subst h; exact .non
    | bl b => simp only [toPy, Option.some.injEq] at h; subst h; exact .bl b
    | int i => simp only [toPy, Option.some.injEq] at h; subst h; exact .int i
    | str z => simp only [toPy, Option.some.injEq] at h; subst h; exact .str z
    | lst q r => simp only [toPy, Option.map_eq_some_iff] at h; obtain ⟨ps, e1, rfl⟩ := h; exact .lst (.of q) (toPys_dp s r e1)
    | tup q r => simp only [toPy, Option.map_eq_some_iff] at h; obtain ⟨ps, e1, rfl⟩ := h; exact .tup (.of (s _ _ q)) (toPys_dp s r e1)
    | _ => simp only [toPy] at h; cases h
  cases ry with
  | lst h r =>
    simp only [inD, inL] at e
    split at e
    · rename_i p ps e1 e2
      split at e
      · rename_i hc
        cases e
        cases hf : (flatP p && ps.all flatP) with
        | true =>
          rw [Bool.and_eq_true] at hf
          have d1 := dpx e1
          have d2 := toPys_dp s r e2
          exact .inl ⟨_, _, rfl, .inl (.of h), flat_dp d1 hf.1, flats_dp d2 hf.2, (flats_in d1 hf.1 d2 hf.2).symm⟩
        | false =>
          rw [hf, Bool.false_or, Bool.true_and, Bool.and_eq_true] at hc
          exact .inr (.inl ⟨p, ps, dpx e1, .lst (.of h) (toPys_dp s r e2), hc.1, hc.2, rfl⟩)
      · cases e
    · cases e
  | tup h r =>
    simp only [inD, inL] at e
    split at e
    · rename_i p ps e1 e2
      split at e
      · rename_i hc
        cases e
        rw [Bool.false_and, Bool.false_and, Bool.or_false, Bool.and_eq_true] at hc
        have d1 := dpx e1
        have d2 := toPys_dp s r e2
        exact .inl ⟨_, _, rfl, .inr (.of (s _ _ h)), flat_dp d1 hc.1, flats_dp d2 hc.2, (flats_in d1 hc.1 d2 hc.2).symm⟩
      · cases e
    · cases e
  | str z =>
    cases rx with
    | str a =>
      simp only [inD] at e
      split at e
      · rename_i c hc
        cases e
        have ea : a = ⟨#[c]⟩ := by
          obtain ⟨⟨l⟩⟩ := a
          have hc : l = [c] := hc
          rw [hc]
        subst ea
        exact .inr (.inr (.inl ⟨c, z, rfl, rfl, rfl⟩))
      · cases e
    | _ => cases e
  | dct h r =>
    simp only [inD] at e
    obtain ⟨k, e1, e2⟩ := Option.map_eq_some_iff.mp e
    subst e2
    refine .inr (.inr (.inr ⟨_, valV _ k, rfl, .inl ⟨_, k, h, keyD_sound rx e1, rfl⟩, ?_⟩))
    unfold hasD
    rcases r.look k with ⟨z1, z2⟩ | ⟨v, d', z1, z2, _⟩
    · rw [z1, z2]; rfl
    · rw [z1, z2]; rfl
  | dtt h r =>
    cases rx with
    | tup h2 r2 =>
      simp only [inD] at e
      obtain ⟨k, e1, e2⟩ := Option.map_eq_some_iff.mp e
      subst e2
      refine .inr (.inr (.inr ⟨_, valV _ k, rfl, .inr ⟨_, k, _, h, rfl, by rw [s _ _ h2, keysD_sound s r2 e1], rfl⟩, ?_⟩))
      unfold hasD
      rcases r.look k with ⟨z1, z2⟩ | ⟨v, d', z1, z2, _⟩
      · rw [z1, z2]; rfl
      · rw [z1, z2]; rfl
    | _ => cases e
  | _ => cases e
theorem snd_in {g : Γ} : SVB g (rInA g.K) inD := fun F H x y dx dy b Q s rx ry e q => by
  rcases in_case s rx ry e with ⟨p, xs, a1, a2, a3, a4, rfl⟩ | ⟨d, ds, a1, a2, a3, a4, rfl⟩ | ⟨c, z, a1, a2, rfl⟩ | ⟨a, o, a1, a2, rfl⟩
  · exact .inl ⟨p, xs, a1, a2, a3, a4, q F H (.refl s)⟩
  · exact .inr (.inl ⟨d, ds, a1, a2, a3, a4, q F H (.refl s)⟩)
  · exact .inr (.inr (.inl ⟨c, z, a1, a2, q F H (.refl s)⟩))
  · exact .inr (.inr (.inr ⟨a, o, a1, a2, q F H (.refl s)⟩))
theorem snd_notIn {g : Γ} : SVB g (rNotInA g.K) notInD := fun F H x y dx dy b Q s rx ry e q => by
  obtain ⟨b', e2, rfl⟩ := Option.map_eq_some_iff.mp (show (inD dx dy).map not = some b from e)
  rcases in_case s rx ry e2 with ⟨p, xs, a1, a2, a3, a4, rfl⟩ | ⟨d, ds, a1, a2, a3, a4, rfl⟩ | ⟨c, z, a1, a2, rfl⟩ | ⟨a, o, a1, a2, rfl⟩
  · exact .inl ⟨p, xs, a1, a2, a3, a4, q F H (.refl s)⟩
  · exact .inr (.inl ⟨d, ds, a1, a2, a3, a4, q F H (.refl s)⟩)
  · exact .inr (.inr (.inl ⟨c, z, a1, a2, q F H (.refl s)⟩))
  · exact .inr (.inr (.inr ⟨a, o, a1, a2, q F H (.refl s)⟩))
section
variable {c : Nat → Addr} {X : Cx} {W : WX} {a b : Expr} {fa fb : Env → Res D} {pos : Pos}
theorem gt_in (hu : X.A.units + 65 < cLine) (ha : GE c X W a fa) (hb : GE c X W b fb) (hm : behindInMarks .In b = false := by rfl) : GT c X W (.Compare a [.In] [b] pos) (b2v inD fa fb) := PT.of (pt_cmpR (op_inA hu) ha hb hm) (sem_b2v snd_in)
theorem gt_notIn (hu : X.A.units + 65 < cLine) (ha : GE c X W a fa) (hb : GE c X W b fb) (hm : behindInMarks .NotIn b = false := by rfl) : GT c X W (.Compare a [.NotIn] [b] pos) (b2v notInD fa fb) := PT.of (pt_cmpR (op_notInA hu) ha hb hm) (sem_b2v snd_notIn)
theorem gt_inS (i : Nat) (hu : X.A.units + 65 < cLine) (ha : GE c X W a fa) (hb : PE X b (tVar i)) (hm : behindInMarks .In b = false := by rfl) : GT c X W (.Compare a [.In] [b] pos) (b2r inD fa i) := PT.of (pt_cmpR (op_inA hu) ha hb hm) (sem_b2r snd_in)
theorem gt_notInS (i : Nat) (hu : X.A.units + 65 < cLine) (ha : GE c X W a fa) (hb : PE X b (tVar i)) (hm : behindInMarks .NotIn b = false := by rfl) : GT c X W (.Compare a [.NotIn] [b] pos) (b2r notInD fa i) := PT.of (pt_cmpR (op_notInA hu) ha hb hm) (sem_b2r snd_notIn)
theorem ge_in (hu : X.A.units + 65 < cLine) (ha : GE c X W a fa) (hb : GE c X W b fb) (hm : behindInMarks .In b = false := by rfl) : GE c X W (.Compare a [.In] [b] pos) (dB (b2v inD fa fb)) :=
  PE.of (pe_cmpR (op_inA hu) ha hb hm) fun σ H Q ⟨B, F, A, e, I, w⟩ => tTest_out (sem_b2v snd_in σ H _ ⟨B, F, A, e, I, dB_T w⟩) (tOp_mono mono_inA)
theorem ge_notIn (hu : X.A.units + 65 < cLine) (ha : GE c X W a fa) (hb : GE c X W b fb) (hm : behindInMarks .NotIn b = false := by rfl) : GE c X W (.Compare a [.NotIn] [b] pos) (dB (b2v notInD fa fb)) :=
  PE.of (pe_cmpR (op_notInA hu) ha hb hm) fun σ H Q ⟨B, F, A, e, I, w⟩ => tTest_out (sem_b2v snd_notIn σ H _ ⟨B, F, A, e, I, dB_T w⟩) (tOp_mono mono_notInA)
theorem ge_inS (i : Nat) (hu : X.A.units + 65 < cLine) (ha : GE c X W a fa) (hb : PE X b (tVar i)) (hm : behindInMarks .In b = false := by rfl) : GE c X W (.Compare a [.In] [b] pos) (dB (b2r inD fa i)) :=
  PE.of (pe_cmpR (op_inA hu) ha hb hm) fun σ H Q ⟨B, F, A, e, I, w⟩ => tTest_out (sem_b2r snd_in σ H _ ⟨B, F, A, e, I, dB_T w⟩) (tOpV_mono mono_inA)
theorem ge_notInS (i : Nat) (hu : X.A.units + 65 < cLine) (ha : GE c X W a fa) (hb : PE X b (tVar i)) (hm : behindInMarks .NotIn b = false := by rfl) : GE c X W (.Compare a [.NotIn] [b] pos) (dB (b2r notInD fa i)) :=
  PE.of (pe_cmpR (op_notInA hu) ha hb hm) fun σ H Q ⟨B, F, A, e, I, w⟩ => tTest_out (sem_b2r snd_notIn σ H _ ⟨B, F, A, e, I, dB_T w⟩) (tOpV_mono mono_notInA)
end

/-! ### calls of built-ins with one, two arguments -/
section
variable {g : Γ} {W : WX} {fa fb : Env → Res D}
theorem sem_c1 {r : List V → Hp → VK → Prop} {o : D → Option D} (hs : SVC g r o) : ∀ σ H Q, tD g W (d1v o fa) σ H Q → tCB r (tCons (tD g W fa) tNil) σ H Q := fun σ H Q ⟨B, F, A, e, I, w⟩ => by
  refine runD (.refl B F) I w fun x e1 v F1 H1 m1 _ I1 r1 w1 => ?_
  obtain ⟨d, hd, w3⟩ := w1.lift
  exact hs F1 H1 v x.un d Q I1.f (r1.view I1.f) hd fun z F3 H3 al r3 => w3 z F3 H3 (m1.trans (al.ext I1.b)) (I1.all al) r3
theorem sem_c1s {r : List V → Hp → VK → Prop} {o : D → Option D} {i : Nat} (hs : SVC g r o) : ∀ σ H Q, tD g W (d1s o i) σ H Q → tCB r (tCons (tVar i) tNil) σ H Q := fun σ H Q ⟨B, F, A, e, I, w⟩ => by
  obtain ⟨d, hd, w3⟩ := Want.lift w
  obtain ⟨x, hx, hd⟩ := Option.bind_eq_some_iff.mp hd
  obtain ⟨v, ev, vw⟩ := I.view hx
  exact ⟨v, ev, hs F H v x d Q I.f vw hd fun z F3 H3 al r3 => w3 z F3 H3 (al.ext I.b) (I.all al) r3⟩
def SVC2 (g : Γ) (r : List V → Hp → VK → Prop) (o : D → D → Option D) : Prop := ∀ F H x y dx dy d Q, Same F H → View g F H x dx → View g F H y dy → o dx dy = some d → Hands g F H d Q → r [x, y] H Q
theorem sem_c2 {r : List V → Hp → VK → Prop} {o : D → D → Option D} (hs : SVC2 g r o) : ∀ σ H Q, tD g W (d2v o fa fb) σ H Q → tCB r (tCons (tD g W fa) (tCons (tD g W fb) tNil)) σ H Q := fun σ H Q ⟨B, F, A, e, I, w⟩ => by
  refine runD (.refl B F) I w fun x e1 v F1 H1 m1 _ I1 r1 w1 => ?_
  refine runD m1 I1 w1 fun y e2 u F2 H2 m2 s2 I2 r2 w2 => ?_
  obtain ⟨d, hd, w3⟩ := w2.lift
  exact hs F2 H2 v u x.un y.un d Q I2.f ((r1.mono s2).view I2.f) (r2.view I2.f) hd fun z F3 H3 al r3 => w3 z F3 H3 (m2.trans (al.ext I2.b)) (I2.all al) r3
/-- a new owned object comes out -/
def o1v (o : D → Option Ct) (fa : Env → Res D) : Env → Res S := fun e => (fa e).bind fun x e => lift ((o x.un).map fun c => .own none c) e
def o1s (o : D → Option Ct) (i : Nat) : Env → Res S := fun e => lift ((view e i).bind fun x => (o x).map fun c => .own none c) e
theorem new_out {B F : Hp} {A : Nat → V} {H : Hp} {σ : L2.St} {e : Env} (I : SI g B F A H σ e) {p : Addr} {H' : Hp} {ct : Ct} (hp : H p = none) (hs : Same H H') (h : CtR g F H' p ct) :
    SI g B F A H' σ e ∧ SlotR g B F A H' (some (.ref p)) (.own none ct) ∧ Apart σ e p :=
  ⟨I.all ⟨Same.refl F, hs, I.f.trans hs, fun _ _ q => .inl q⟩, ⟨p, rfl, (fun k h => by cases h), h, I.b.free hp, I.f.free hp⟩, I.apart_new hp⟩
theorem sem_o1 {r : List V → Hp → VK → Prop} {o : D → Option Ct} (hs : SVO g r o) : ∀ σ H Q, tO g W (o1v o fa) σ H Q → tCB r (tCons (tD g W fa) tNil) σ H Q := fun σ H Q ⟨B, F, A, e, I, w⟩ => by
  refine runD (.refl B F) I w fun x e1 v F1 H1 m1 _ I1 r1 w1 => ?_
  obtain ⟨d, hd, w3⟩ := w1.lift
  obtain ⟨ct, hc, rfl⟩ := Option.map_eq_some_iff.mp hd
  refine hs F1 H1 v x.un ct Q I1.f (r1.view I1.f) hc fun p H' hp sm _ cr => ?_
  obtain ⟨I2, sr, ap⟩ := new_out I1 hp sm cr
  exact w3 _ F1 H' m1 I2 sr fun a ea _ => by cases ea; exact ap
theorem sem_o1s {r : List V → Hp → VK → Prop} {o : D → Option Ct} {i : Nat} (hs : SVO g r o) : ∀ σ H Q, tO g W (o1s o i) σ H Q → tCB r (tCons (tVar i) tNil) σ H Q := fun σ H Q ⟨B, F, A, e, I, w⟩ => by
  obtain ⟨d, hd, w3⟩ := Want.lift w
  obtain ⟨x, hx, hd⟩ := Option.bind_eq_some_iff.mp hd
  obtain ⟨ct, hc, rfl⟩ := Option.map_eq_some_iff.mp hd
  obtain ⟨v, ev, vw⟩ := I.view hx
  refine ⟨v, ev, hs F H v x ct Q I.f vw hc fun p H' hp sm _ cr => ?_⟩
  obtain ⟨I2, sr, ap⟩ := new_out I hp sm cr
  exact w3 _ F H' (.refl B F) I2 sr fun a ea _ => by cases ea; exact ap
end
/-- the names of built-ins that the module leaves alone -/
structure BI (mg : Str → Option Value) : Prop where
  len : mg "len" = none
  isinstance : mg "isinstance" = none
  int : mg "int" = none
  str : mg "str" = none
  bool : mg "bool" = none
  list : mg "list" = none
  dict : mg "dict" = none
  tuple : mg "tuple" = none
  range : mg "range" = none
  enumerate : mg "enumerate" = none
  zip : mg "zip" = none
  sorted : mg "sorted" = none
  min : mg "min" = none
  max : mg "max" = none
  any : mg "any" = none
  all : mg "all" = none
  sum : mg "sum" = none
  abs : mg "abs" = none
  repr : mg "repr" = none
  reversed : mg "reversed" = none
  iter : mg "iter" = none

/-! ### len -/
def lenD : D → Option D
  | .str x => if x.length ≤ 1000000 then some (.int x.length) else none
  | .lst xs => some (.int xs.length)
  | .tup xs => some (.int xs.length)
  | .scr xs => some (.int xs.length)
  | .dct kds => some (.int kds.length)
  | .dtt kds => some (.int kds.length)
  | _ => none
def rLenK : List V → Hp → VK → Prop := fun xs H Q => ∃ a kvs, xs = [V.ref a] ∧ Rd H a (.dK kvs) ∧ Q (.int kvs.length) H
def rLenTK : List V → Hp → VK → Prop := fun xs H Q => ∃ (a : Addr) (kvs : List (List Key × V)), xs = [V.ref a] ∧ Rd H a (.dT kvs) ∧ Q (.int kvs.length) H
section
variable {X : Cx}
theorem call_lenK : CallR X (.builtin "len") rLenK := by
  intro pins s σ H xs us Q I r h
  obtain ⟨p, kvs, rfl, hp, q⟩ := h
  obtain ⟨u, rfl, rx⟩ := vals1 r
  obtain rfl : u = .ref p := rx
  exact d_len I hp fun t s' I' => ⟨.int kvs.length, H, I', ⟨_, rfl⟩, q⟩
theorem call_lenTK : CallR X (.builtin "len") rLenTK := by
  intro pins s σ H xs us Q I r h
  obtain ⟨p, kvs, rfl, hp, q⟩ := h
  obtain ⟨u, rfl, rx⟩ := vals1 r
  obtain rfl : u = .ref p := rx
  obtain ⟨z, hd, ys, rel, dd⟩ := dt_rd I.hok hp
  have hl : kvs.length = ys.length := Paired.length rel
  refine call_len_dictH hd dd (by rw [← hl]; rw [sizeLine_eq] at z; omega) ?_
  rw [← hl]
  exact ⟨.int ((kvs.length : Nat) : Int), H, I.tok _, ⟨_, rfl⟩, q⟩
end
def rLenA (K : PySem.W.Frag) : List V → Hp → VK → Prop := fun xs H Q => (∃ x n, xs = [x] ∧ LenV K x H n ∧ Q (.int n) H) ∨ rLenK xs H Q ∨ rLenTK xs H Q
theorem call_lenA {X : Cx} : CallR X (.builtin "len") (rLenA X.K) := CallR.or call_len (CallR.or call_lenK call_lenTK)
theorem snd_len {g : Γ} : SVC g (rLenA g.K) lenD := fun F H x dx d Q s rx e q => by
  cases rx with
  | str z =>
    simp only [lenD] at e
    split at e
    · rename_i hl
      cases e
      exact .inl ⟨_, _, rfl, ⟨by rw [sizeLine_eq]; omega, rfl⟩, q.here s (.int _)⟩
    · cases e
  | lst h r => cases e; exact .inl ⟨_, _, rfl, .inl ⟨_, .of h, r.length.symm⟩, q.here s (.int _)⟩
  | tup h r => cases e; exact .inl ⟨_, _, rfl, .inr ⟨_, .of (s _ _ h), r.length.symm⟩, q.here s (.int _)⟩
  | @scr a ns h => cases e; exact .inl ⟨_, _, rfl, .inl ⟨ns.map V.int, h, by simp⟩, q.here s (.int _)⟩
  | dct h r => cases e; exact .inr (.inl ⟨_, _, rfl, h, by rw [r.length]; exact q.here s (.int _)⟩)
  | dtt h r => cases e; exact .inr (.inr ⟨_, _, rfl, h, by rw [r.length]; exact q.here s (.int _)⟩)
  | _ => cases e
section
variable {c : Nat → Addr} {X : Cx} {W : WX} {a b : Expr} {fa fb : Env → Res D} {pos p : Pos}
theorem ge_len (T : BI X.mg) (ha : GE c X W a fa) (hg : Gl X "len" := by rfl) (hs : starEach (a :: []) X.env = (false, eval a X.env) :: starEach [] X.env := by rfl) : GE c X W (.Call (.Name "len" p) [a] [] pos) (d1v lenD fa) :=
  PE.of (pe_callB call_lenA hg T.len PySem.boot_len (pa_cons ha pa_nil hs) (he := hs)) (sem_c1 snd_len)
theorem ge_lenS (i : Nat) (T : BI X.mg) (ha : PE X a (tVar i)) (hg : Gl X "len" := by rfl) (hs : starEach (a :: []) X.env = (false, eval a X.env) :: starEach [] X.env := by rfl) : GE c X W (.Call (.Name "len" p) [a] [] pos) (d1s lenD i) :=
  PE.of (pe_callB call_lenA hg T.len PySem.boot_len (pa_cons ha pa_nil hs) (he := hs)) (sem_c1s snd_len)
end
/-! ### truth of what is viewed -/
def truV (d : D) : Option Bool := match d with
  | .non => some false
  | .bl b => some b
  | .int i => some (i != 0)
  | .str x => if x.length ≤ 1000000 then some ((x.length : Int) != 0) else none
  | .lst xs => some (!xs.isEmpty)
  | .tup xs => some (!xs.isEmpty)
  | .scr xs => some (!xs.isEmpty)
  | .dct xs => some (!xs.isEmpty)
  | _ => none
/-- truth, locked dicts too -/
def TruX (K : PySem.W.Frag) (x : V) (H : Hp) (k : Bool) : Prop := TruV K x H k ∨ ∃ a kvs, x = .ref a ∧ Rd H a (.dK kvs) ∧ k = !kvs.isEmpty
theorem trux_ok {X : Cx} : TruR X (fun x H Q => ∃ k, TruX X.K x H k ∧ Q k H) := by
  intro pins s σ H x v Q I rx h
  obtain ⟨k, h, q⟩ := h
  rcases h with h | ⟨a, kvs, rfl, h, rfl⟩
  · exact tru_ok pins s σ H x v Q I rx ⟨k, h, q⟩
  · cases rx
    exact d_truth I h fun s' I' => ⟨H, I', q⟩
theorem truv_sound {g : Γ} {F H : Hp} {v : V} {d : D} {k : Bool} (s : Same F H) (r : View g F H v d) (h : truV d = some k) : TruX g.K v H k := by
  unfold truV at h
  cases r with
  | non => exact .inl (Option.some.inj h).symm
  | bl b => exact .inl (Option.some.inj h).symm
  | int i => exact .inl (Option.some.inj h).symm
  | str x =>
    simp only at h
    split at h
    · rename_i hl
      exact .inl ⟨by rw [sizeLine_eq]; omega, (Option.some.inj h).symm⟩
    · cases h
  | lst q r2 => exact .inl (.inl ⟨_, .of q, by rw [isEmpty_of r2]; exact (Option.some.inj h).symm⟩)
  | tup q r2 => exact .inl (.inr (.inl ⟨_, .of (s _ _ q), by rw [isEmpty_of r2]; exact (Option.some.inj h).symm⟩))
  | @scr a ns q => exact .inl (.inl ⟨ns.map V.int, q, by rw [show (ns.map V.int).isEmpty = ns.isEmpty by cases ns <;> rfl]; exact (Option.some.inj h).symm⟩)
  | @dct a kvs kds q r2 => exact .inr ⟨_, _, rfl, q, by
      have : kvs.isEmpty = kds.isEmpty := by
        have := r2.length
        cases kvs <;> cases kds <;> simp_all
      rw [this]; exact (Option.some.inj h).symm⟩
  | _ => cases h
def bTv (fa : Env → Res D) : Env → Res Bool := fun e => (fa e).bind fun x e => lift (truV x.un) e
def bTs (i : Nat) : Env → Res Bool := fun e => lift ((view e i).bind truV) e
section
variable {c : Nat → Addr} {X : Cx} {W : WX} {a : Expr} {fa : Env → Res D}
theorem pt_truthX {ta : TE} (ha : PE X a ta) (he : ∀ whole, isTrue a X.env whole = (do let v ← whole; standAt a.pos; holding [v] (truthy v))) :
    PT X a (fun σ H Q => ta σ H fun x H' => ∃ k, TruX X.K x H' k ∧ Q k H') := by
  refine ⟨fun pins s σ H Q I h => ?_⟩
  exact isTrue_plain (thn (ha.run pins s σ H _ I h) fun v s1 ⟨x, H1, I1, r1, q1⟩ => trux_ok pins s1 σ H1 x v Q I1 r1 q1) (he _)
theorem gt_v (ha : GE c X W a fa) (he : ∀ whole, isTrue a X.env whole = (do let v ← whole; standAt a.pos; holding [v] (truthy v)) := by intro _; rfl) : GT c X W a (bTv fa) := PT.of (pt_truthX ha he) fun σ H Q ⟨B, F, A, e, I, w⟩ => by
  refine runD (.refl B F) I w fun x e1 v F1 H1 m1 _ I1 r1 w1 => ?_
  obtain ⟨d, hd, w3⟩ := w1.lift
  exact ⟨d, truv_sound I1.f (r1.view I1.f) hd, w3 F1 H1 m1 I1⟩
theorem gt_s (i : Nat) (ha : PE X a (tVar i)) (he : ∀ whole, isTrue a X.env whole = (do let v ← whole; standAt a.pos; holding [v] (truthy v)) := by intro _; rfl) : GT c X W a (bTs i) := PT.of (pt_truthX ha he) fun σ H Q ⟨B, F, A, e, I, w⟩ => by
  obtain ⟨d, hd, w3⟩ := Want.lift w
  obtain ⟨x, hx, hd⟩ := Option.bind_eq_some_iff.mp hd
  obtain ⟨v, ev, vw⟩ := I.view hx
  exact ⟨v, ev, d, truv_sound I.f vw hd, w3 F H (.refl B F) I⟩
end
end DV

set_option Elab.async false
set_option linter.all false
set_option autoImplicit false
set_option maxRecDepth 100000
set_option maxHeartbeats 2000000
/-! V5: list(), dict(), sorted .., isinstance, slices. -/
namespace DV
open PySem PySem.Spec L2
open PyProof.Rows hiding St

/-! ### order of texts -/
def ltS (a b : Str) : Bool := ltCps a.cps.toList b.cps.toList
theorem ltCps_irrefl : ∀ a : List Nat, ltCps a a = false
  | [] => rfl
  | x :: r => by simp [ltCps, ltCps_irrefl r]
theorem ltCps_trans : ∀ {a b c : List Nat}, ltCps a b = true → ltCps b c = true → ltCps a c = true
  | [], [], _, h, _ => by simp [ltCps] at h
  | [], _ :: _, [], _, h => by simp [ltCps] at h
  | [], _ :: _, _ :: _, _, _ => rfl
  | _ :: _, [], _, h, _ => by simp [ltCps] at h
  | _ :: _, _ :: _, [], _, h => by simp [ltCps] at h
  | x :: a, y :: b, z :: c, h1, h2 => by
    simp only [ltCps, Bool.or_eq_true, decide_eq_true_eq, Bool.and_eq_true, beq_iff_eq] at h1 h2 ⊢
    rcases h1 with h1 | ⟨h1, h1'⟩
    · rcases h2 with h2 | ⟨h2, _⟩
      · exact .inl (by omega)
      · exact .inl (by omega)
    · rcases h2 with h2 | ⟨h2, h2'⟩
      · exact .inl (by omega)
      · exact .inr ⟨h1.trans h2, ltCps_trans h1' h2'⟩
theorem ltCps_total : ∀ {a b : List Nat}, ltCps a b = false → ltCps b a = false → a = b
  | [], [], _, _ => rfl
  | [], _ :: _, h, _ => by simp [ltCps] at h
  | _ :: _, [], _, h => by simp [ltCps] at h
  | x :: a, y :: b, h1, h2 => by
    simp only [ltCps, Bool.or_eq_false_iff, decide_eq_false_iff_not, Bool.and_eq_false_iff, beq_eq_false_iff_ne] at h1 h2
    have e : x = y := by omega
    subst e
    have h1' : ltCps a b = false := h1.2.resolve_left (fun z => z rfl)
    have h2' : ltCps b a = false := h2.2.resolve_left (fun z => z rfl)
    rw [ltCps_total h1' h2']
theorem ltS_irrefl (a : Str) : ltS a a = false := ltCps_irrefl _
theorem ltS_trans {a b c : Str} (h : ltS a b = true) (h' : ltS b c = true) : ltS a c = true := ltCps_trans h h'
theorem ltS_total {a b : Str} (h : ltS a b = false) (h' : ltS b a = false) : a = b := by
  have e := ltCps_total h h'
  obtain ⟨⟨x⟩⟩ := a
  obtain ⟨⟨y⟩⟩ := b
  have e : x = y := e
  rw [e]
theorem ltS_asymm {a b : Str} (h : ltS a b = true) : ltS b a = false := by
  cases q : ltS b a with
  | false => rfl
  | true =>
    have := ltS_trans h q
    rw [ltS_irrefl] at this; cases this
def leS (a b : Str) : Bool := !ltS b a
theorem leS_trans (a b c : Str) (h : leS a b = true) (h' : leS b c = true) : leS a c = true := by
  unfold leS at h h' ⊢
  simp only [Bool.not_eq_true'] at h h' ⊢
  cases q : ltS c a with
  | false => rfl
  | true =>
    -- c < a, not b < a, not c < b
    cases q2 : ltS a b with
    | true =>
      have := ltS_trans q q2
      rw [h'] at this; cases this
    | false =>
      have e := ltS_total q2 h
      subst e
      rw [q] at h'; cases h'
theorem leS_total (a b : Str) : (leS a b || leS b a) = true := by
  unfold leS
  cases q : ltS b a with
  | false => rfl
  | true => rw [ltS_asymm q]; rfl
def sortS (xs : List Str) : List Str := xs.mergeSort leS
theorem sortS_perm (xs : List Str) : (sortS xs).Perm xs := List.mergeSort_perm _ _
theorem sortS_sorted (xs : List Str) : (sortS xs).Pairwise (fun a b => leS a b = true) := List.pairwise_mergeSort leS_trans leS_total xs
theorem rising_pairwise : ∀ (p : Str) (l : List Str), risingS p l = true → (p :: l).Pairwise (fun a b => leS a b = true)
  | p, [], _ => by simp
  | p, x :: r, h => by
    simp only [risingS, Bool.and_eq_true, Bool.not_eq_true'] at h
    have ih := rising_pairwise x r h.2
    refine List.Pairwise.cons (fun y hy => ?_) ih
    have hpx : leS p x = true := by unfold leS ltS; rw [h.1]; rfl
    rcases List.mem_cons.mp hy with e | hy
    · rw [e]; exact hpx
    · exact leS_trans p x y hpx (List.rel_of_pairwise_cons ih hy)
theorem sortedS_pairwise (l : List Str) (h : sortedS l = true) : l.Pairwise (fun a b => leS a b = true) := by
  cases l with
  | nil => exact List.Pairwise.nil
  | cons x r => exact rising_pairwise x r h
theorem sortS_unique {xs ys : List Str} (p : ys.Perm xs) (h : sortedS ys = true) : ys = sortS xs :=
  (p.trans (sortS_perm xs).symm).eq_of_pairwise (fun a b _ _ h1 h2 => ltS_total (by unfold leS at h2; simpa using h2) (by unfold leS at h1; simpa using h1)) (sortedS_pairwise ys h) (sortS_sorted xs)
def sortI (xs : List Int) : List Int := xs.mergeSort (fun a b => decide (a ≤ b))
theorem sortI_perm (xs : List Int) : (sortI xs).Perm xs := List.mergeSort_perm _ _
theorem sortI_sorted (xs : List Int) : (sortI xs).Pairwise (· ≤ ·) := by
  have := List.pairwise_mergeSort (le := fun a b : Int => decide (a ≤ b)) (fun a b c h h' => by simp at *; omega) (fun a b => by simp; omega) xs
  exact this.imp fun h => by simpa using h
theorem sortI_unique {xs ys : List Int} (p : ys.Perm xs) (h : ys.Pairwise (· ≤ ·)) : ys = sortI xs :=
  (p.trans (sortI_perm xs).symm).eq_of_pairwise (fun a b _ _ h1 h2 => Int.le_antisymm h1 h2) h (sortI_sorted xs)

/-! ### lists of one kind -/
def strsOf : List D → Option (List Str)
  | [] => some []
  | d :: ds => match d.un, strsOf ds with
    | .str x, some xs => some (x :: xs)
    | _, _ => none
def intsOf : List D → Option (List Int)
  | [] => some []
  | d :: ds => match intD d, intsOf ds with
    | some x, some xs => some (x :: xs)
    | _, _ => none
def boolsOf : List D → Option (List Bool)
  | [] => some []
  | d :: ds => match boolD d, boolsOf ds with
    | some x, some xs => some (x :: xs)
    | _, _ => none
section
variable {g : Γ} {F : Hp}
theorem strsOf_sound (s : Same F F) : ∀ {vs : List V} {ds : List D} {xs : List Str}, Reps g F vs ds → strsOf ds = some xs → vs = xs.map V.str
  | _, _, _, .nil, h => by cases h; rfl
  | _, _, _, .cons (d := d) (ds := ds) q r, h => by
    simp only [strsOf] at h
    split at h
    · rename_i x xs e1 e2
      cases h
      have q' := q.un
      rw [e1] at q'
      cases q'
      rw [List.map_cons, strsOf_sound s r e2]
    · cases h
theorem intsOf_sound : ∀ {vs : List V} {ds : List D} {xs : List Int}, Reps g F vs ds → intsOf ds = some xs → vs = xs.map V.int
  | _, _, _, .nil, h => by cases h; rfl
  | _, _, _, .cons (d := d) (ds := ds) q r, h => by
    simp only [intsOf] at h
    split at h
    · rename_i x xs e1 e2
      cases h
      rw [List.map_cons, intsOf_sound r e2, int_sound q e1]
    · cases h
theorem boolsOf_sound : ∀ {vs : List V} {ds : List D} {xs : List Bool}, Reps g F vs ds → boolsOf ds = some xs → vs = xs.map V.bl
  | _, _, _, .nil, h => by cases h; rfl
  | _, _, _, .cons (d := d) (ds := ds) q r, h => by
    simp only [boolsOf] at h
    split at h
    · rename_i x xs e1 e2
      cases h
      rw [List.map_cons, boolsOf_sound r e2, bool_sound q e1]
    · cases h
theorem reps_strs (xs : List Str) : Reps g F (xs.map V.str) (xs.map D.str) := by
  induction xs with
  | nil => exact .nil
  | cons x xs ih => exact .cons (.str x) ih
theorem reps_ints (xs : List Int) : Reps g F (xs.map V.int) (xs.map D.int) := by
  induction xs with
  | nil => exact .nil
  | cons x xs ih => exact .cons (.int x) ih
def kD : Key → D
  | .inl i => .int i
  | .inr x => .str x
theorem rep_key (k : Key) : Rep g F (kV k) (kD k) := by
  cases k with
  | inl i => exact .int i
  | inr x => exact .str x
theorem reps_keys {β : Type} : ∀ (kvs : List (Key × β)), Reps g F (kvs.map fun kv => kV kv.1) (kvs.map fun kv => kD kv.1)
  | [] => .nil
  | p :: ps => .cons (rep_key p.1) (reps_keys ps)
end

/-! ### list(x), dict(x), tuple(x), sorted(x) -/
def listO : D → Option Ct
  | .lst ds => some (.l ds)
  | .tup ds => some (.l ds)
  | .scr ns => some (.l (ns.map .int))
  | .dct kds => some (.l (kds.map fun kv => kD kv.1))
  | _ => none
def rListA (K : PySem.W.Frag) : List V → Hp → VK → Prop := fun xs H Q => (∃ p ys, xs = [.ref p] ∧ (SqL K H p ys ∨ SqT K H p ys) ∧ ∀ l, H l = none → Q (.ref l) (upd H l (.lst ys))) ∨
  ∃ (a : Addr) (kvs : List (Key × V)), xs = [.ref a] ∧ Rd H a (.dK kvs) ∧ ∀ p, H p = none → Q (.ref p) (upd H p (.lst (kvs.map fun kv => kV kv.1)))
theorem call_listA {X : Cx} (hc : X.calm = true) : CallR X (.type "list") (rListA X.K) := CallR.or call_list_of (call_listD hc)
theorem upd_other {H : Hp} {p : Addr} {o : HO} : ∀ a, a ≠ p → upd H p o a = H a := fun a h => upd_ne h
theorem snd_list {g : Γ} : SVO g (rListA g.K) listO := fun F H x dx c Q s rx e q => by
  cases rx with
  | lst h r => cases e; exact .inl ⟨_, _, rfl, .inl (.of h), fun l hl => q l _ hl (same_upd hl) upd_other ⟨_, upd_same, r⟩⟩
  | tup h r => cases e; exact .inl ⟨_, _, rfl, .inr (.of (s _ _ h)), fun l hl => q l _ hl (same_upd hl) upd_other ⟨_, upd_same, r⟩⟩
  | @scr a ns h => cases e; exact .inl ⟨_, ns.map V.int, rfl, .inl h, fun l hl => q l _ hl (same_upd hl) upd_other ⟨_, upd_same, reps_ints ns⟩⟩
  | @dct a kvs kds h r =>
    cases e
    refine .inr ⟨_, kvs, rfl, h, fun l hl => q l _ hl (same_upd hl) upd_other ⟨_, upd_same, ?_⟩⟩
    have e1 : (kvs.map fun kv => kV kv.1) = (kds.map fun kv => kV kv.1) := by
      have := congrArg (List.map kV) r.e
      simpa [List.map_map, Function.comp_def] using this
    rw [e1]
    exact reps_keys kds
  | _ => cases e
def mergeD (kds more : List (Key × D)) : List (Key × D) := more.foldl (fun acc kv => putD acc kv.1 kv.2) kds
theorem KR.merge {g : Γ} {F : Hp} : ∀ {more : List (Key × V)} {mds : List (Key × D)} {kvs : List (Key × V)} {kds : List (Key × D)}, KR g F more mds → KR g F kvs kds → KR g F (mergeK kvs more) (mergeD kds mds) := by
  intro more mds kvs kds h
  revert kvs kds
  refine KR.ind (P := fun more mds => ∀ {kvs : List (Key × V)} {kds : List (Key × D)}, KR g F kvs kds → KR g F (mergeK kvs more) (mergeD kds mds)) (fun h => h) (fun p q ps qs e r _ ih kvs kds h0 => ?_) h
  show KR g F (mergeK (putK kvs p.1 p.2) ps) (mergeD (putD kds q.1 q.2) qs)
  rw [e]
  exact ih (h0.put q.1 r)
def pairsD : List D → Option (List (Key × D))
  | [] => some []
  | d :: ds => match d.un, pairsD ds with
    | .tup [k, v], some ps => match keyD k.un with
      | some k => some ((k, v) :: ps)
      | none => none
    | _, _ => none
theorem pairsD_sound {g : Γ} {F H : Hp} (s : Same F H) : ∀ {vs : List V} {ds : List D} {ps : List (Key × D)}, Reps g F vs ds → pairsD ds = some ps → ∃ (as : List Addr) (kvs : List (Key × V)), vs = as.map V.ref ∧ Paired (fun p kv => SqT g.K H p [kV kv.1, kv.2]) as kvs ∧ KR g F kvs ps
  | _, _, _, .nil, h => by cases h; exact ⟨[], [], rfl, .nil, .nil⟩
  | _, _, _, .cons (v := v) (d := d) (ds := ds) q r, h => by
    simp only [pairsD] at h
    split at h
    · rename_i k x ps e1 e2
      split at h
      · rename_i k' e3
        cases h
        obtain ⟨as, kvs, h1, h2, h3⟩ := pairsD_sound s r e2
        have q' := q.un
        rw [e1] at q'
        cases q' with
        | @tup a vs' _ hq rr =>
          cases rr with
          | @cons v1 _ vs1 _ r1 rr =>
            cases rr with
            | @cons v2 _ vs2 _ r2 rr =>
              cases rr
              have ek := keyD_sound (r1.view s) e3
              subst ek
              exact ⟨a :: as, (k', v2) :: kvs, by rw [h1, List.map_cons], .cons (.of (s _ _ hq)) h2, .cons rfl r2 h3⟩
      · cases h
    · cases h
def dictO : D → Option Ct
  | .dct kds => some (.d kds)
  | .lst ds => (pairsD ds).map fun ps => .d (mergeD [] ps)
  | _ => none
def rDictA (K : PySem.W.Frag) : List V → Hp → VK → Prop := fun xs H Q => (∃ (a : Addr) (kvs : List (Key × V)), xs = [.ref a] ∧ Rd H a (.dK kvs) ∧ ∀ p, H p = none → Q (.ref p) (upd H p (.dK kvs))) ∨
  ∃ (a : Addr) (ps : List Addr) (kvs : List (Key × V)), xs = [.ref a] ∧ SqL K H a (ps.map V.ref) ∧ Paired (fun p kv => SqT K H p [kV kv.1, kv.2]) ps kvs ∧ ∀ p, H p = none → Q (.ref p) (upd H p (.dK (mergeK [] kvs)))
theorem call_dictA {X : Cx} (hc : X.calm = true) : CallR X (.type "dict") (rDictA X.K) := CallR.or call_dictD (call_dictP hc)
theorem snd_dict {g : Γ} : SVO g (rDictA g.K) dictO := fun F H x dx c Q s rx e q => by
  cases rx with
  | dct h r => cases e; exact .inl ⟨_, _, rfl, h, fun l hl => q l _ hl (same_upd hl) upd_other ⟨_, upd_same, r.e, r.r⟩⟩
  | lst h r =>
    obtain ⟨ps, e1, rfl⟩ := Option.map_eq_some_iff.mp e
    obtain ⟨as, kvs, h1, h2, h3⟩ := pairsD_sound s r e1
    subst h1
    have m := KR.merge h3 (KR.nil (g := g) (F := F))
    exact .inr ⟨_, as, kvs, rfl, .of h, h2, fun l hl => q l _ hl (same_upd hl) upd_other ⟨_, upd_same, m.e, m.r⟩⟩
  | _ => cases e
def tupleD : D → Option D
  | .lst ds => some (.tup ds)
  | .tup ds => some (.tup ds)
  | _ => none
theorem snd_tuple {g : Γ} : SVC g (fun xs H Q => ∃ p ys, xs = [.ref p] ∧ ((SqL g.K H p ys ∧ ∀ l, H l = none → Q (.ref l) (upd H l (.tup ys))) ∨ (SqT g.K H p ys ∧ Q (.ref p) H))) tupleD := fun F H x dx d Q s rx e q => by
  cases rx with
  | lst h r => cases e; exact ⟨_, _, rfl, .inl ⟨.of h, fun l hl => q _ _ _ (All.new s hl) (.tup upd_same (r.mono (All.new s hl).f))⟩⟩
  | @tup a vs ds h r =>
    cases e
    exact ⟨_, _, rfl, .inr ⟨.of (s _ _ h), q.here s (.tup h r)⟩⟩
  | _ => cases e
end DV

set_option Elab.async false
set_option linter.all false
set_option autoImplicit false
set_option maxRecDepth 100000
set_option maxHeartbeats 2000000
/-! V6: sorted, sums, isinstance, slices, fields: rules. -/
namespace DV
open PySem PySem.Spec L2
open PyProof.Rows hiding St

/-! ### sorted -/
def keysS {β : Type} : List (Key × β) → Option (List Str)
  | [] => some []
  | (.inr x, _) :: r => (keysS r).map (x :: ·)
  | (.inl _, _) :: _ => none
def keysI {β : Type} : List (Key × β) → Option (List Int)
  | [] => some []
  | (.inl x, _) :: r => (keysI r).map (x :: ·)
  | (.inr _, _) :: _ => none
theorem keysS_eq {β : Type} : ∀ {kds : List (Key × β)} {xs : List Str}, keysS kds = some xs → kds.map (·.1) = xs.map Sum.inr
  | [], _, h => by cases h; rfl
  | (.inr x, _) :: r, _, h => by
    obtain ⟨ys, h1, rfl⟩ := Option.map_eq_some_iff.mp (show (keysS r).map (x :: ·) = some _ from h)
    rw [List.map_cons, List.map_cons, keysS_eq h1]
  | (.inl x, _) :: r, _, h => by cases h
theorem keysI_eq {β : Type} : ∀ {kds : List (Key × β)} {xs : List Int}, keysI kds = some xs → kds.map (·.1) = xs.map Sum.inl
  | [], _, h => by cases h; rfl
  | (.inl x, _) :: r, _, h => by
    obtain ⟨ys, h1, rfl⟩ := Option.map_eq_some_iff.mp (show (keysI r).map (x :: ·) = some _ from h)
    rw [List.map_cons, List.map_cons, keysI_eq h1]
  | (.inr x, _) :: r, _, h => by cases h
def sortedO : D → Option Ct
  | .lst ds => match strsOf ds with
    | some xs => if xs.length < 64 then some (.l ((sortS xs).map .str)) else none
    | none => (intsOf ds).map fun xs => .l ((sortI xs).map .int)
  | .dct kds => match keysS kds with
    | some xs => if xs.length < 64 then some (.l ((sortS xs).map .str)) else none
    | none => match keysI kds with
      | some xs => if xs.length < 64 then some (.l ((sortI xs).map .int)) else none
      | none => none
  | _ => none
def rSortDS : List V → Hp → VK → Prop := fun xs H Q => ∃ (a : Addr) (kvs : List (Key × V)) (ks : List Str), xs = [.ref a] ∧ Rd H a (.dK kvs) ∧ kvs.map (·.1) = ks.map Sum.inr ∧ ks.length < 64 ∧ ∀ ys p, ys.Perm ks → sortedS ys = true → H p = none → Q (.ref p) (upd H p (.lst (ys.map V.str)))
def rSortDI : List V → Hp → VK → Prop := fun xs H Q => ∃ (a : Addr) (kvs : List (Key × V)) (ks : List Int), xs = [.ref a] ∧ Rd H a (.dK kvs) ∧ kvs.map (·.1) = ks.map Sum.inl ∧ ks.length < 64 ∧ ∀ (ys : List Int) (p : Addr), ys.Perm ks → ys.Pairwise (· ≤ ·) → H p = none → Q (.ref p) (upd H p (.lst (ys.map V.int)))
def rSortA (K : PySem.W.Frag) : List V → Hp → VK → Prop := fun xs H Q => rSortedS K xs H Q ∨ rSortedI K xs H Q ∨ rSortDS xs H Q ∨ rSortDI xs H Q
theorem call_sortA {X : Cx} (hc : X.calm = true) : CallR X (.builtin "sorted") (rSortA X.K) := CallR.or cr_sortedS (CallR.or cr_sortedI (CallR.or (call_sortedD hc) (call_sortedDI hc)))
theorem snd_sort {g : Γ} : SVO g (rSortA g.K) sortedO := fun F H x dx c Q s rx e q => by
  cases rx with
  | lst h r =>
    simp only [sortedO] at e
    split at e
    · rename_i xs e1
      split at e
      · rename_i hl
        cases e
        have ev := strsOf_sound (Same.refl F) r e1
        subst ev
        refine .inl ⟨_, xs, rfl, .of h, hl, fun ys p hp hs hn => ?_⟩
        have ey := sortS_unique hp hs
        subst ey
        exact q p _ hn (same_upd hn) upd_other ⟨_, upd_same, reps_strs _⟩
      · cases e
    · obtain ⟨xs, e1, rfl⟩ := Option.map_eq_some_iff.mp e
      have ev := intsOf_sound r e1
      subst ev
      refine .inr (.inl ⟨_, xs, rfl, .of h, fun ys p hp hs hn => ?_⟩)
      have ey := sortI_unique hp hs
      subst ey
      exact q p _ hn (same_upd hn) upd_other ⟨_, upd_same, reps_ints _⟩
  | dct h r =>
    simp only [sortedO] at e
    split at e
    · rename_i xs e1
      split at e
      · rename_i hl
        cases e
        refine .inr (.inr (.inl ⟨_, _, xs, rfl, h, r.e.trans (keysS_eq e1), hl, fun ys p hp hs hn => ?_⟩))
        have ey := sortS_unique hp hs
        subst ey
        exact q p _ hn (same_upd hn) upd_other ⟨_, upd_same, reps_strs _⟩
      · cases e
    · split at e
      · rename_i xs e1
        split at e
        · rename_i hl
          cases e
          refine .inr (.inr (.inr ⟨_, _, xs, rfl, h, r.e.trans (keysI_eq e1), hl, fun ys p hp hs hn => ?_⟩))
          have ey := sortI_unique hp hs
          subst ey
          exact q p _ hn (same_upd hn) upd_other ⟨_, upd_same, reps_ints _⟩
        · cases e
      · cases e
  | _ => cases e

/-! ### any, all, sum, min, max, int, str, abs -/
def anyD : D → Option D
  | .lst ds => (boolsOf ds).map fun bs => .bl (bs.any id)
  | _ => none
def allD : D → Option D
  | .lst ds => (boolsOf ds).map fun bs => .bl (bs.all id)
  | _ => none
def sumD : D → Option D
  | .lst ds => (intsOf ds).map fun bs => .int bs.sum
  | _ => none
section
variable {g : Γ}
theorem snd_any : SVC g (rAny g.K) anyD := fun F H x dx d Q s rx e q => by
  cases rx with
  | lst h r =>
    obtain ⟨bs, e1, rfl⟩ := Option.map_eq_some_iff.mp e
    have ev := boolsOf_sound r e1
    subst ev
    exact ⟨_, bs, rfl, .of h, q.here s (.bl _)⟩
  | _ => cases e
theorem snd_all : SVC g (rAll g.K) allD := fun F H x dx d Q s rx e q => by
  cases rx with
  | lst h r =>
    obtain ⟨bs, e1, rfl⟩ := Option.map_eq_some_iff.mp e
    have ev := boolsOf_sound r e1
    subst ev
    exact ⟨_, bs, rfl, .of h, q.here s (.bl _)⟩
  | _ => cases e
theorem snd_sum : SVC g (rSum g.K) sumD := fun F H x dx d Q s rx e q => by
  cases rx with
  | lst h r =>
    obtain ⟨bs, e1, rfl⟩ := Option.map_eq_some_iff.mp e
    have ev := intsOf_sound r e1
    subst ev
    exact ⟨_, bs, rfl, .of h, q.here s (.int _)⟩
  | _ => cases e
def absD (x : D) : Option D := (intD x).map fun i => .int (if i < 0 then -i else i)
theorem snd_abs : SVC g (fun xs H Q => ∃ i, xs = [.int i] ∧ Q (.int (if i < 0 then -i else i)) H) absD := fun F H x dx d Q s rx e q => by
  obtain ⟨i, e1, rfl⟩ := Option.map_eq_some_iff.mp e
  exact ⟨i, by rw [view_int rx e1], q.here s (.int _)⟩
def toIntD : D → Option D
  | .int i => some (.int i)
  | .bl k => some (.int (if k then 1 else 0))
  | _ => none
theorem snd_toInt : SVC g (fun xs H Q => (∃ i, xs = [.int i] ∧ Q (.int i) H) ∨ ∃ k, xs = [.bl k] ∧ Q (.int (if k then 1 else 0)) H) toIntD := fun F H x dx d Q s rx e q => by
  cases rx with
  | int i => cases e; exact .inl ⟨i, rfl, q.here s (.int _)⟩
  | bl k => cases e; exact .inr ⟨k, rfl, q.here s (.int _)⟩
  | _ => cases e
def strIntD (x : D) : Option D := (intD x).bind fun i => if i.natAbs.log2 < 1920 then some (.str (toString i)) else none
theorem snd_strInt : SVC g (fun xs H Q => ∃ i, xs = [.int i] ∧ i.natAbs.log2 < 1920 ∧ Q (.str (toString i)) H) strIntD := fun F H x dx d Q s rx e q => by
  obtain ⟨i, e1, e2⟩ := Option.bind_eq_some_iff.mp e
  split at e2
  · rename_i hl
    cases e2
    exact ⟨i, by rw [view_int rx e1], hl, q.here s (.str _)⟩
  · cases e2
def max2D : D → D → Option D := i2 fun i j => some (.int (if j > i then j else i))
def min2D : D → D → Option D := i2 fun i j => some (.int (if j < i then j else i))
theorem snd_max2 : SVC2 g (fun xs H Q => ∃ i j, xs = [.int i, .int j] ∧ Q (.int (if j > i then j else i)) H) max2D := fun F H x y dx dy d Q s rx ry e q => by
  obtain ⟨i, j, e1, e2, e3⟩ := i2_some e
  cases e3
  exact ⟨i, j, by rw [view_int rx e1, view_int ry e2], q.here s (.int _)⟩
theorem snd_min2 : SVC2 g (fun xs H Q => ∃ i j, xs = [.int i, .int j] ∧ Q (.int (if j < i then j else i)) H) min2D := fun F H x y dx dy d Q s rx ry e q => by
  obtain ⟨i, j, e1, e2, e3⟩ := i2_some e
  cases e3
  exact ⟨i, j, by rw [view_int rx e1, view_int ry e2], q.here s (.int _)⟩
end

/-! ### isinstance -/
inductive Ty where
  | non | bool | int | str | list | tuple | dict
  deriving DecidableEq
def Ty.name : Ty → String
  | .non => "NoneType" | .bool => "bool" | .int => "int" | .str => "str" | .list => "list" | .tuple => "tuple" | .dict => "dict"
def Ty.sub (t c : Ty) : Bool := decide (t = c) || (decide (t = .bool) && decide (c = .int))
theorem kitB_all : ∀ t c : Ty, kitB t.name c.name = some (Ty.sub t c)
  | .non, .non => by decide +kernel
  | .non, .bool => by decide +kernel
  | .non, .int => by decide +kernel
  | .non, .str => by decide +kernel
  | .non, .list => by decide +kernel
  | .non, .tuple => by decide +kernel
  | .non, .dict => by decide +kernel
  | .bool, .non => by decide +kernel
  | .bool, .bool => by decide +kernel
  | .bool, .int => by decide +kernel
  | .bool, .str => by decide +kernel
  | .bool, .list => by decide +kernel
  | .bool, .tuple => by decide +kernel
  | .bool, .dict => by decide +kernel
  | .int, .non => by decide +kernel
  | .int, .bool => by decide +kernel
  | .int, .int => by decide +kernel
  | .int, .str => by decide +kernel
  | .int, .list => by decide +kernel
  | .int, .tuple => by decide +kernel
  | .int, .dict => by decide +kernel
  | .str, .non => by decide +kernel
  | .str, .bool => by decide +kernel
  | .str, .int => by decide +kernel
  | .str, .str => by decide +kernel
  | .str, .list => by decide +kernel
  | .str, .tuple => by decide +kernel
  | .str, .dict => by decide +kernel
  | .list, .non => by decide +kernel
  | .list, .bool => by decide +kernel
  | .list, .int => by decide +kernel
  | .list, .str => by decide +kernel
  | .list, .list => by decide +kernel
  | .list, .tuple => by decide +kernel
  | .list, .dict => by decide +kernel
  | .tuple, .non => by decide +kernel
  | .tuple, .bool => by decide +kernel
  | .tuple, .int => by decide +kernel
  | .tuple, .str => by decide +kernel
  | .tuple, .list => by decide +kernel
  | .tuple, .tuple => by decide +kernel
  | .tuple, .dict => by decide +kernel
  | .dict, .non => by decide +kernel
  | .dict, .bool => by decide +kernel
  | .dict, .int => by decide +kernel
  | .dict, .str => by decide +kernel
  | .dict, .list => by decide +kernel
  | .dict, .tuple => by decide +kernel
  | .dict, .dict => by decide +kernel
theorem kit_any {K : PySem.W.Frag} (t : Ty) : ∀ cs : List Ty, PySem.W.kitAny K (.type t.name) (cs.map fun c => .type c.name) = some (cs.any fun c => Ty.sub t c)
  | [] => rfl
  | c :: cs => by
    rw [List.map_cons, List.any_cons]
    exact kitAny_cons (kit_ty (kitB_all t c)) (fun hb => by rw [hb, Bool.false_or]; exact kit_any t cs) (fun hb => by rw [hb, Bool.true_or])
def tyD : D → Option Ty
  | .non => some .non | .bl _ => some .bool | .int _ => some .int | .str _ => some .str
  | .lst _ => some .list | .tup _ => some .tuple | .dct _ => some .dict
  | _ => none
theorem tyD_sound {g : Γ} {F H : Hp} {v : V} {d : D} {t : Ty} (s : Same F H) (r : View g F H v d) (h : tyD d = some t) : TyX g.K H v (.type t.name) := by
  cases r with
  | non => cases h; exact .base .non
  | bl b => cases h; exact .base (.bl b)
  | int b => cases h; exact .base (.int b)
  | str b => cases h; exact .base (.str b)
  | lst q r => cases h; exact .base (.lst q)
  | tup q r => cases h; exact .base (.tup (s _ _ q))
  | dct q r =>
    cases h
    rcases q with q | ⟨o, q⟩
    · exact .base (.dK q)
    · exact .fDict q
  | _ => cases h
def isiB (cs : List Ty) (d : D) : Option Bool := (tyD d).map fun t => cs.any fun c => Ty.sub t c
def isiD (cs : List Ty) (d : D) : Option D := (isiB cs d).map .bl
section
variable {c : Nat → Addr} {X : Cx} {W : WX} {a b : Expr} {fa fb : Env → Res D} {pos p p2 p3 : Pos}
theorem isi_one {g : Γ} {t : Ty} : ∀ F H x dx d Q, Same F H → View g F H x dx → isiD [t] dx = some d → Hands g F H d Q → rIsi g.K [x, .ty t.name] H Q := fun F H x dx d Q s rx e q => by
  obtain ⟨b, e1, rfl⟩ := Option.map_eq_some_iff.mp e
  obtain ⟨u, e2, rfl⟩ := Option.map_eq_some_iff.mp e1
  refine ⟨x, .ty t.name, .type u.name, .type t.name, _, rfl, .ty _, tyD_sound s rx e2, kit_ty (kitB_all u t), ?_⟩
  have := q.here s (.bl _)
  simpa using this
theorem sem_isi {g : Γ} {t : Ty} : ∀ σ H Q, tD g W (d1v (isiD [t]) fa) σ H Q → tCB (rIsi g.K) (tCons (tD g W fa) (tCons (tC (.ty t.name)) tNil)) σ H Q := fun σ H Q ⟨B, F, A, e, I, w⟩ => by
  refine runD (.refl B F) I w fun x e1 v F1 H1 m1 _ I1 r1 w1 => ?_
  obtain ⟨d, hd, w3⟩ := w1.lift
  exact isi_one F1 H1 v x.un d Q I1.f (r1.view I1.f) hd fun z F3 H3 al r3 => w3 z F3 H3 (m1.trans (al.ext I1.b)) (I1.all al) r3
theorem sem_isiS {g : Γ} {t : Ty} {i : Nat} : ∀ σ H Q, tD g W (d1s (isiD [t]) i) σ H Q → tCB (rIsi g.K) (tCons (tVar i) (tCons (tC (.ty t.name)) tNil)) σ H Q := fun σ H Q ⟨B, F, A, e, I, w⟩ => by
  obtain ⟨d, hd, w3⟩ := Want.lift w
  obtain ⟨x, hx, hd⟩ := Option.bind_eq_some_iff.mp hd
  obtain ⟨v, ev, vw⟩ := I.view hx
  exact ⟨v, ev, isi_one F H v x d Q I.f vw hd fun z F3 H3 al r3 => w3 z F3 H3 (al.ext I.b) (I.all al) r3⟩
/-- isinstance(x, (T, U)) -/
def rTys : List Ty → TA
  | [] => tNil
  | t :: ts => tCons (tC (.ty t.name)) (rTys ts)
theorem rTys_run : ∀ (ts : List Ty) (σ : L2.St) (H : Hp) (Q : List V → Hp → Prop), Q (ts.map fun t => .ty t.name) H → rTys ts σ H Q
  | [], _, _, _, q => q
  | t :: ts, σ, H, Q, q => rTys_run ts σ H _ q
theorem paired_tys : ∀ ts : List Ty, Paired ClsV (ts.map fun t => V.ty t.name) (ts.map fun t => Value.type t.name)
  | [] => .nil
  | t :: ts => .cons (.ty _) (paired_tys ts)
theorem isi_many {g : Γ} {ts : List Ty} (hl : ts.length ≤ 100) : ∀ (σ : L2.St) F H x dx d Q, Same F H → View g F H x dx → isiD ts dx = some d → Hands g F H d Q → tTup (rTys ts) σ H fun y H2 => rIsiT g.K [x, y] H2 Q := fun σ F H x dx d Q s rx e q => by
  obtain ⟨b, e1, rfl⟩ := Option.map_eq_some_iff.mp e
  obtain ⟨u, e2, rfl⟩ := Option.map_eq_some_iff.mp e1
  refine rTys_run ts σ H _ ⟨by rw [List.length_map, sizeLine_eq]; omega, fun p hp => ?_⟩
  have al := All.newO (o := .tup (ts.map fun t => V.ty t.name)) s hp
  refine ⟨x, p, _, .type u.name, ts.map fun t => .type t.name, _, rfl, upd_same, paired_tys ts, ?_, kit_any u ts, q _ _ _ al (.bl _)⟩
  have ty := tyD_sound s rx e2
  have nz : ∀ {a : Addr} {o : HO}, H a = some o → upd H p (.tup (ts.map fun t => V.ty t.name)) a = some o := fun {a o} h => (same_upd hp) a o h
  cases rx with
  | non => cases e2; exact .base .non
  | bl b => cases e2; exact .base (.bl b)
  | int b => cases e2; exact .base (.int b)
  | str b => cases e2; exact .base (.str b)
  | lst h0 r => cases e2; exact .base (.lst (nz h0))
  | tup h0 r => cases e2; exact .base (.tup (nz (s _ _ h0)))
  | dct h0 r =>
    cases e2
    rcases h0 with h0 | ⟨o, h0⟩
    · exact .base (.dK (nz h0))
    · exact .fDict (nz h0)
  | _ => cases e2
theorem sem_isiT {g : Γ} {ts : List Ty} (hl : ts.length ≤ 100) : ∀ σ H Q, tD g W (d1v (isiD ts) fa) σ H Q → tCB (rIsiT g.K) (tCons (tD g W fa) (tCons (tTup (rTys ts)) tNil)) σ H Q := fun σ H Q ⟨B, F, A, e, I, w⟩ => by
  refine runD (.refl B F) I w fun x e1 v F1 H1 m1 _ I1 r1 w1 => ?_
  obtain ⟨d, hd, w3⟩ := w1.lift
  exact isi_many hl σ F1 H1 v x.un d Q I1.f (r1.view I1.f) hd fun z F3 H3 al r3 => w3 z F3 H3 (m1.trans (al.ext I1.b)) (I1.all al) r3
theorem sem_isiTS {g : Γ} {ts : List Ty} {i : Nat} (hl : ts.length ≤ 100) : ∀ σ H Q, tD g W (d1s (isiD ts) i) σ H Q → tCB (rIsiT g.K) (tCons (tVar i) (tCons (tTup (rTys ts)) tNil)) σ H Q := fun σ H Q ⟨B, F, A, e, I, w⟩ => by
  obtain ⟨d, hd, w3⟩ := Want.lift w
  obtain ⟨x, hx, hd⟩ := Option.bind_eq_some_iff.mp hd
  obtain ⟨v, ev, vw⟩ := I.view hx
  exact ⟨v, ev, isi_many hl σ F H v x d Q I.f vw hd fun z F3 H3 al r3 => w3 z F3 H3 (al.ext I.b) (I.all al) r3⟩
/-- the classes of a written tuple -/
theorem pa_tys_nil : PA X [] (rTys []) := pa_nil
theorem pa_tys_cons {t : Ty} {ts : List Ty} {e : Expr} {es : List Expr} (h : PE X e (tC (.ty t.name))) (hr : PA X es (rTys ts)) (hs : starEach (e :: es) X.env = (false, eval e X.env) :: starEach es X.env := by rfl) : PA X (e :: es) (rTys (t :: ts)) := pa_cons h hr hs
theorem boot_isinstance : bootBuiltins "isinstance" = some (.builtin "isinstance") := by decide +kernel
variable {S1 : starEach (a :: b :: []) X.env = (false, eval a X.env) :: starEach [b] X.env} {S2 : starEach (b :: []) X.env = (false, eval b X.env) :: starEach [] X.env}
theorem ge_isi (t : Ty) (T : BI X.mg) (ha : GE c X W a fa) (hb : PE X b (tC (.ty t.name))) (hg : Gl X "isinstance" := by rfl) (S1 : starEach (a :: b :: []) X.env = (false, eval a X.env) :: starEach [b] X.env := by rfl) (S2 : starEach (b :: []) X.env = (false, eval b X.env) :: starEach [] X.env := by rfl)
    (hpl : (backTo pos (starEach [b] X.env)).any (·.1) = false := by rfl) : GE c X W (.Call (.Name "isinstance" p) [a, b] [] pos) (d1v (isiD [t]) fa) :=
  PE.of (pe_callB call_isi hg T.isinstance boot_isinstance (pa_cons ha (pa_cons hb pa_nil S2) S1) (he := S1) (hpl := hpl)) sem_isi
theorem ge_isiS (i : Nat) (t : Ty) (T : BI X.mg) (ha : PE X a (tVar i)) (hb : PE X b (tC (.ty t.name))) (hg : Gl X "isinstance" := by rfl) (S1 : starEach (a :: b :: []) X.env = (false, eval a X.env) :: starEach [b] X.env := by rfl) (S2 : starEach (b :: []) X.env = (false, eval b X.env) :: starEach [] X.env := by rfl)
    (hpl : (backTo pos (starEach [b] X.env)).any (·.1) = false := by rfl) : GE c X W (.Call (.Name "isinstance" p) [a, b] [] pos) (d1s (isiD [t]) i) :=
  PE.of (pe_callB call_isi hg T.isinstance boot_isinstance (pa_cons ha (pa_cons hb pa_nil S2) S1) (he := S1) (hpl := hpl)) sem_isiS
theorem ge_isiT (ts : List Ty) (T : BI X.mg) {es : List Expr} {k : Nat} (ha : GE c X W a fa) (hb : PA X es (rTys ts)) (hl : ts.length ≤ 100 := by decide) (hg : Gl X "isinstance" := by rfl) (S1 : starEach (a :: (.Tuple es k p2) :: []) X.env = (false, eval a X.env) :: starEach [(.Tuple es k p2)] X.env := by rfl)
    (S2 : starEach ((.Tuple es k p2) :: []) X.env = (false, eval (.Tuple es k p2) X.env) :: starEach [] X.env := by rfl) (hpl : (backTo pos (starEach [(.Tuple es k p2)] X.env)).any (·.1) = false := by rfl) : GE c X W (.Call (.Name "isinstance" p) [a, (.Tuple es k p2)] [] pos) (d1v (isiD ts) fa) :=
  PE.of (pe_callB call_isiT hg T.isinstance boot_isinstance (pa_cons ha (pa_cons (pe_tup hb) pa_nil S2) S1) (he := S1) (hpl := hpl)) (sem_isiT hl)
theorem ge_isiTS (i : Nat) (ts : List Ty) (T : BI X.mg) {es : List Expr} {k : Nat} (ha : PE X a (tVar i)) (hb : PA X es (rTys ts)) (hl : ts.length ≤ 100 := by decide) (hg : Gl X "isinstance" := by rfl) (S1 : starEach (a :: (.Tuple es k p2) :: []) X.env = (false, eval a X.env) :: starEach [(.Tuple es k p2)] X.env := by rfl)
    (S2 : starEach ((.Tuple es k p2) :: []) X.env = (false, eval (.Tuple es k p2) X.env) :: starEach [] X.env := by rfl) (hpl : (backTo pos (starEach [(.Tuple es k p2)] X.env)).any (·.1) = false := by rfl) : GE c X W (.Call (.Name "isinstance" p) [a, (.Tuple es k p2)] [] pos) (d1s (isiD ts) i) :=
  PE.of (pe_callB call_isiT hg T.isinstance boot_isinstance (pa_cons ha (pa_cons (pe_tup hb) pa_nil S2) S1) (he := S1) (hpl := hpl)) (sem_isiTS hl)
/-- a GE that gives a bool, as a test -/
theorem gt_b (ha : GE c X W a fa) (he : ∀ whole, isTrue a X.env whole = (do let v ← whole; standAt a.pos; holding [v] (truthy v)) := by intro _; rfl) : GT c X W a (bVal fa) := PT.of (pt_val ha he) fun σ H Q ⟨B, F, A, e, I, w⟩ => by
  refine runD (.refl B F) I w fun x e1 v F1 H1 m1 _ I1 r1 w1 => ?_
  obtain ⟨d, hd, w3⟩ := w1.lift
  exact ⟨d, bool_sound r1 hd, w3 F1 H1 m1 I1⟩

/-! ### rules for the calls -/
theorem boot_any : bootBuiltins "any" = some (.builtin "any") := by decide +kernel
theorem boot_all : bootBuiltins "all" = some (.builtin "all") := by decide +kernel
theorem boot_sum : bootBuiltins "sum" = some (.builtin "sum") := by decide +kernel
theorem boot_abs : bootBuiltins "abs" = some (.builtin "abs") := by decide +kernel
theorem boot_sorted : bootBuiltins "sorted" = some (.builtin "sorted") := by decide +kernel
theorem boot_min : bootBuiltins "min" = some (.builtin "min") := by decide +kernel
theorem boot_max : bootBuiltins "max" = some (.builtin "max") := by decide +kernel
theorem boot_intT : bootBuiltins "int" = some (.type "int") := by decide +kernel
theorem boot_strT : bootBuiltins "str" = some (.type "str") := by decide +kernel
theorem boot_boolT : bootBuiltins "bool" = some (.type "bool") := by decide +kernel
theorem boot_listT : bootBuiltins "list" = some (.type "list") := by decide +kernel
theorem boot_dictT : bootBuiltins "dict" = some (.type "dict") := by decide +kernel
theorem boot_tupleT : bootBuiltins "tuple" = some (.type "tuple") := by decide +kernel
theorem pe_ty (t : String) {x : Str} {pos : Pos} (hg : Gl X x) (hm : X.mg x = none) (hv : bootBuiltins x = some (.type t)) (hn : x ≠ "__name__" := by decide) (hd : (x == ("__debug__" : Str)) = false := by decide) : PE X (.Name x pos) (tC (.ty t)) := pe_bltn hg hm hv rfl hn hd
section
variable (T : BI X.mg) (ha : GE c X W a fa) (hc : X.calm = true) (S : starEach (a :: []) X.env = (false, eval a X.env) :: starEach [] X.env)
include T ha S
theorem ge_any (hc : X.calm = true := by rfl) (hg : Gl X "any" := by rfl) : GE c X W (.Call (.Name "any" p) [a] [] pos) (d1v anyD fa) := PE.of (pe_callB (cr_any hc) hg T.any boot_any (pa_cons ha pa_nil S) (he := S)) (sem_c1 snd_any)
theorem ge_all (hc : X.calm = true := by rfl) (hg : Gl X "all" := by rfl) : GE c X W (.Call (.Name "all" p) [a] [] pos) (d1v allD fa) := PE.of (pe_callB (cr_all hc) hg T.all boot_all (pa_cons ha pa_nil S) (he := S)) (sem_c1 snd_all)
theorem ge_sum (hc : X.calm = true := by rfl) (hg : Gl X "sum" := by rfl) : GE c X W (.Call (.Name "sum" p) [a] [] pos) (d1v sumD fa) := PE.of (pe_callB (cr_sum hc) hg T.sum boot_sum (pa_cons ha pa_nil S) (he := S)) (sem_c1 snd_sum)
theorem ge_abs (hg : Gl X "abs" := by rfl) : GE c X W (.Call (.Name "abs" p) [a] [] pos) (d1v absD fa) := PE.of (pe_callB call_abs hg T.abs boot_abs (pa_cons ha pa_nil S) (he := S)) (sem_c1 snd_abs)
theorem ge_toInt (hg : Gl X "int" := by rfl) : GE c X W (.Call (.Name "int" p) [a] [] pos) (d1v toIntD fa) := PE.of (pe_callTy call_int1 hg T.int boot_intT (pa_cons ha pa_nil S) (he := S)) (sem_c1 snd_toInt)
theorem ge_strInt (hg : Gl X "str" := by rfl) : GE c X W (.Call (.Name "str" p) [a] [] pos) (d1v strIntD fa) := PE.of (pe_callTy call_str_int hg T.str boot_strT (pa_cons ha pa_nil S) (he := S)) (sem_c1 snd_strInt)
theorem ge_tuple (hg : Gl X "tuple" := by rfl) : GE c X W (.Call (.Name "tuple" p) [a] [] pos) (d1v tupleD fa) := PE.of (pe_callTy call_tuple_of hg T.tuple boot_tupleT (pa_cons ha pa_nil S) (he := S)) (sem_c1 snd_tuple)
theorem go_list (hc : X.calm = true := by rfl) (hg : Gl X "list" := by rfl) : GO c X W (.Call (.Name "list" p) [a] [] pos) (o1v listO fa) := PE.of (pe_callTy (call_listA hc) hg T.list boot_listT (pa_cons ha pa_nil S) (he := S)) (sem_o1 snd_list)
theorem go_dict (hc : X.calm = true := by rfl) (hg : Gl X "dict" := by rfl) : GO c X W (.Call (.Name "dict" p) [a] [] pos) (o1v dictO fa) := PE.of (pe_callTy (call_dictA hc) hg T.dict boot_dictT (pa_cons ha pa_nil S) (he := S)) (sem_o1 snd_dict)
theorem go_sorted (hc : X.calm = true := by rfl) (hg : Gl X "sorted" := by rfl) : GO c X W (.Call (.Name "sorted" p) [a] [] pos) (o1v sortedO fa) := PE.of (pe_callB (call_sortA hc) hg T.sorted boot_sorted (pa_cons ha pa_nil S) (he := S)) (sem_o1 snd_sort)
end
section
variable (i : Nat) (T : BI X.mg) (ha : PE X a (tVar i)) (S : starEach (a :: []) X.env = (false, eval a X.env) :: starEach [] X.env)
include T ha S
theorem ge_anyS (hc : X.calm = true := by rfl) (hg : Gl X "any" := by rfl) : GE c X W (.Call (.Name "any" p) [a] [] pos) (d1s anyD i) := PE.of (pe_callB (cr_any hc) hg T.any boot_any (pa_cons ha pa_nil S) (he := S)) (sem_c1s snd_any)
theorem ge_allS (hc : X.calm = true := by rfl) (hg : Gl X "all" := by rfl) : GE c X W (.Call (.Name "all" p) [a] [] pos) (d1s allD i) := PE.of (pe_callB (cr_all hc) hg T.all boot_all (pa_cons ha pa_nil S) (he := S)) (sem_c1s snd_all)
theorem ge_sumS (hc : X.calm = true := by rfl) (hg : Gl X "sum" := by rfl) : GE c X W (.Call (.Name "sum" p) [a] [] pos) (d1s sumD i) := PE.of (pe_callB (cr_sum hc) hg T.sum boot_sum (pa_cons ha pa_nil S) (he := S)) (sem_c1s snd_sum)
theorem ge_tupleS (hg : Gl X "tuple" := by rfl) : GE c X W (.Call (.Name "tuple" p) [a] [] pos) (d1s tupleD i) := PE.of (pe_callTy call_tuple_of hg T.tuple boot_tupleT (pa_cons ha pa_nil S) (he := S)) (sem_c1s snd_tuple)
theorem go_listS (hc : X.calm = true := by rfl) (hg : Gl X "list" := by rfl) : GO c X W (.Call (.Name "list" p) [a] [] pos) (o1s listO i) := PE.of (pe_callTy (call_listA hc) hg T.list boot_listT (pa_cons ha pa_nil S) (he := S)) (sem_o1s snd_list)
theorem go_dictS (hc : X.calm = true := by rfl) (hg : Gl X "dict" := by rfl) : GO c X W (.Call (.Name "dict" p) [a] [] pos) (o1s dictO i) := PE.of (pe_callTy (call_dictA hc) hg T.dict boot_dictT (pa_cons ha pa_nil S) (he := S)) (sem_o1s snd_dict)
theorem go_sortedS (hc : X.calm = true := by rfl) (hg : Gl X "sorted" := by rfl) : GO c X W (.Call (.Name "sorted" p) [a] [] pos) (o1s sortedO i) := PE.of (pe_callB (call_sortA hc) hg T.sorted boot_sorted (pa_cons ha pa_nil S) (he := S)) (sem_o1s snd_sort)
end
section
variable (T : BI X.mg) (ha : GE c X W a fa) (hb : GE c X W b fb) (R1 : starEach (a :: b :: []) X.env = (false, eval a X.env) :: starEach [b] X.env) (R2 : starEach (b :: []) X.env = (false, eval b X.env) :: starEach [] X.env) (hpl : (backTo pos (starEach [b] X.env)).any (·.1) = false)
include T ha hb R1 R2 hpl
theorem ge_min2 (hc : X.calm = true := by rfl) (hg : Gl X "min" := by rfl) : GE c X W (.Call (.Name "min" p) [a, b] [] pos) (d2v min2D fa fb) := PE.of (pe_callB (call_min2 hc) hg T.min boot_min (pa_cons ha (pa_cons hb pa_nil R2) R1) (he := R1) (hpl := hpl)) (sem_c2 snd_min2)
theorem ge_max2 (hc : X.calm = true := by rfl) (hg : Gl X "max" := by rfl) : GE c X W (.Call (.Name "max" p) [a, b] [] pos) (d2v max2D fa fb) := PE.of (pe_callB (call_max2 hc) hg T.max boot_max (pa_cons ha (pa_cons hb pa_nil R2) R1) (he := R1) (hpl := hpl)) (sem_c2 snd_max2)
end
end
end DV

set_option Elab.async false
set_option linter.all false
set_option autoImplicit false
set_option maxRecDepth 100000
set_option maxHeartbeats 2000000
/-! V7: calls of the program's own defs, by their meaning. -/
namespace DV
open PySem PySem.Spec L2
open PyProof.Rows hiding St

/-! ### arguments: data, or a name's object handed on -/
inductive Arg where
  | v (d : D) | s (i : Nat)
inductive ArgsR (g : Γ) (F : Hp) (σ : L2.St) : List V → List Arg → Prop
  | nil : ArgsR g F σ [] []
  | v {x : V} {d : D} {vs : List V} {as : List Arg} (h : Rep g F x d) (r : ArgsR g F σ vs as) : ArgsR g F σ (x :: vs) (.v d :: as)
  | s {x : V} {i : Nat} {vs : List V} {as : List Arg} (h : σ[i]? = some (some x)) (r : ArgsR g F σ vs as) : ArgsR g F σ (x :: vs) (.s i :: as)
theorem ArgsR.mono {g : Γ} {F F' : Hp} {σ : L2.St} (s : Same F F') : ∀ {vs : List V} {as : List Arg}, ArgsR g F σ vs as → ArgsR g F' σ vs as
  | _, _, .nil => .nil
  | _, _, .v h r => .v (h.mono s) (r.mono s)
  | _, _, .s h r => .s h (r.mono s)
theorem ArgsR.length {g : Γ} {F : Hp} {σ : L2.St} : ∀ {vs : List V} {as : List Arg}, ArgsR g F σ vs as → vs.length = as.length
  | _, _, .nil => rfl
  | _, _, .v _ r => congrArg (· + 1) r.length
  | _, _, .s _ r => congrArg (· + 1) r.length
theorem ArgsR.get {g : Γ} {F : Hp} {σ : L2.St} : ∀ {vs : List V} {as : List Arg}, ArgsR g F σ vs as → ∀ {j : Nat} {x : V}, vs[j]? = some x → (∃ d, as[j]? = some (.v d) ∧ Rep g F x d) ∨ ∃ i, as[j]? = some (.s i) ∧ σ[i]? = some (some x)
  | _, _, .nil, j, x, e => by simp at e
  | _, _, .v h r, 0, x, e => by simp at e; subst e; exact .inl ⟨_, rfl, h⟩
  | _, _, .s h r, 0, x, e => by simp at e; subst e; exact .inr ⟨_, rfl, h⟩
  | _, _, .v h r, j + 1, x, e => by
    rcases r.get (j := j) (x := x) (by simpa using e) with ⟨d, h1, h2⟩ | ⟨i, h1, h2⟩
    · exact .inl ⟨d, by simpa using h1, h2⟩
    · exact .inr ⟨i, by simpa using h1, h2⟩
  | _, _, .s h r, j + 1, x, e => by
    rcases r.get (j := j) (x := x) (by simpa using e) with ⟨d, h1, h2⟩ | ⟨i, h1, h2⟩
    · exact .inl ⟨d, by simpa using h1, h2⟩
    · exact .inr ⟨i, by simpa using h1, h2⟩
def FinAr (g : Γ) (B F : Hp) (A : Nat → V) (σ : L2.St) (Q : List V → Hp → Prop) (as : List Arg) (e : Env) : Prop := ∀ vs F' H', Ext B F F' → SI g B F' A H' σ e → ArgsR g F' σ vs as → Q vs H'
theorem FinAr.up {g : Γ} {B F F' : Hp} {A : Nat → V} {σ : L2.St} {e : Env} {Q : List V → Hp → Prop} {d : List Arg} (h : FinAr g B F A σ Q d e) (m : Ext B F F') : FinAr g B F' A σ Q d e := fun v F2 H2 m2 => h v F2 H2 (m.trans m2)
def tAA (g : Γ) (W : WX) (f : Env → Res (List Arg)) : TA := fun σ H Q => ∃ B F A env, SI g B F A H σ env ∧ Want g W B F A σ (FinAr g B F A σ Q) (f env)
abbrev GAA (c : Nat → Addr) (X : Cx) (W : WX) (es : List Expr) (f : Env → Res (List Arg)) : Prop := PA X es (tAA ⟨X.K, c⟩ W f)
theorem runA {g : Γ} {W : WX} {B F F1 : Hp} {A : Nat → V} {H1 : Hp} {σ : L2.St} {e1 : Env} {β : Type} {P : β → Env → Prop} {fa : Env → Res (List Arg)} {k : List Arg → Env → Res β} {R : List V → Hp → Prop} (m : Ext B F F1) (I : SI g B F1 A H1 σ e1) (w : Want g W B F A σ P ((fa e1).bind k))
    (h : ∀ d e v F2 H2, Ext B F F2 → Same F1 F2 → SI g B F2 A H2 σ e → ArgsR g F2 σ v d → Want g W B F A σ P (k d e) → R v H2) : tAA g W fa σ H1 R :=
  ⟨B, F1, A, e1, I, w.bind.up m fun d e wk v F2 H2 m2 I2 r => h d e v F2 H2 (m.trans m2) m2.1 I2 r wk⟩
def aNil : Env → Res (List Arg) := fun e => .ok [] e
def aV (f : Env → Res D) (u : Env → Res (List Arg)) : Env → Res (List Arg) := fun e => (f e).bind fun x e => (u e).bind fun xs e => .ok (.v x :: xs) e
def aS (i : Nat) (u : Env → Res (List Arg)) : Env → Res (List Arg) := fun e => (lift (view e i) e).bind fun _ e => (u e).bind fun xs e => .ok (.s i :: xs) e
section
variable {c : Nat → Addr} {X : Cx} {W : WX} {a : Expr} {es : List Expr} {fa : Env → Res D} {fl : Env → Res (List Arg)}
theorem aa_nil : GAA c X W [] aNil := PA.of pa_nil fun σ H Q ⟨B, F, A, e, I, w⟩ => w [] F H (.refl B F) I .nil
theorem aa_v (ha : GE c X W a fa) (hr : GAA c X W es fl) (hs : starEach (a :: es) X.env = (false, eval a X.env) :: starEach es X.env := by rfl) : GAA c X W (a :: es) (aV fa fl) := PA.of (pa_cons ha hr hs) fun σ H Q ⟨B, F, A, e, I, w⟩ => by
  refine runD (.refl B F) I w fun x e1 v F1 H1 m1 _ I1 r1 w1 => ?_
  refine runA m1 I1 w1 fun xs e2 vs F2 H2 m2 s2 I2 r2 w2 => ?_
  exact w2 (v :: vs) F2 H2 m2 I2 (.v (r1.mono s2) r2)
theorem aa_s (i : Nat) (ha : PE X a (tVar i)) (hr : GAA c X W es fl) (hs : starEach (a :: es) X.env = (false, eval a X.env) :: starEach es X.env := by rfl) : GAA c X W (a :: es) (aS i fl) := PA.of (pa_cons ha hr hs) fun σ H Q ⟨B, F, A, e, I, w⟩ => by
  obtain ⟨x0, hx0, w0⟩ := (Want.bind w).lift
  obtain ⟨v, hv, _⟩ := I.view hx0
  refine ⟨v, hv, runA (.refl B F) I w0 fun xs e2 vs F2 H2 m2 s2 I2 r2 w2 => ?_⟩
  exact w2 (v :: vs) F2 H2 m2 I2 (.s hv r2)
end

/-! ### what a def means, what a call gives -/
def argA (vs : List V) : Nat → V := fun j => vs.getD j .non
/-- a def's promise from its meaning -/
def SpD (g : Γ) (n : Nat) (den : Env → Res S) : Sp := fun vs H Q E => vs.length = n ∧ ∃ B F env, SI g B F (argA vs) H (vs.map some) env ∧
  Want g (fun cls d _ H' => E cls d H') B F (argA vs) (vs.map some) (FinO g B F (argA vs) (vs.map some) Q) (den env)
/-- the slot that an argument becomes -/
def calleeS (e : Env) (j : Nat) : Arg → S
  | .v d => .fz d
  | .s i => match e[i]? with
    | some (.own _ c) => .own (some j) c
    | some (.fz d) => .fz d
    | _ => .no
def calleeE (e : Env) (as : List Arg) : Env := as.mapIdx fun j a => calleeS e j a
/-- is the argument an owned object of the slot i -/
def ownAt (e : Env) (i : Nat) : Arg → Bool
  | .v _ => false
  | .s k => decide (k = i) && (match e[i]? with | some (.own _ _) => true | _ => false)
/-- what comes back in slot i -/
def backS (e : Env) (as : List Arg) (outs : Env) (i : Nat) (s : S) : S := match s with
  | .own org _ => match as.findIdx? (ownAt e i) with
    | none => s
    | some j => match outs[j]? with
      | some (.own (some k) c) => if k = j then .own org c else .no
      | _ => .no
  | _ => s
def backE (e : Env) (as : List Arg) (outs : Env) : Env := e.mapIdx fun i s => backS e as outs i s
/-- no owned object is handed twice -/
def once (e : Env) (as : List Arg) : Bool := (List.range e.length).all fun i => decide ((as.filter (ownAt e i)).length ≤ 1)
def callD (den : Env → Res S) (as : List Arg) (e : Env) : Res S :=
  if once e as = true then
    match den (calleeE e as) with
    | .ok (.own (some _) _) _ => .no
    | .ok s outs => .ok s (backE e as outs)
    | .ex x outs => .ex x (backE e as outs)
    | .no => .no
  else .no

section
variable {g : Γ} {B F : Hp} {A : Nat → V} {H : Hp} {σ : L2.St} {e : Env} {vs : List V} {as : List Arg}
/-- the addresses of the owned objects that are handed -/
def Handed (e : Env) (σ : L2.St) (as : List Arg) (a : Addr) : Prop := ∃ i, Arg.s i ∈ as ∧ (∃ org c, e[i]? = some (.own org c)) ∧ σ[i]? = some (some (.ref a))
open Classical in
noncomputable def minus (H : Hp) (P : Addr → Prop) : Hp := fun a => if P a then none else H a
theorem minus_some {P : Addr → Prop} {a : Addr} {o : HO} (h : minus H P a = some o) : H a = some o ∧ ¬ P a := by
  unfold minus at h
  split at h
  · cases h
  · exact ⟨h, by assumption⟩
theorem minus_not {P : Addr → Prop} {a : Addr} (h : ¬ P a) : minus H P a = H a := by unfold minus; rw [if_neg h]
theorem minus_in {P : Addr → Prop} {a : Addr} (h : P a) : minus H P a = none := by unfold minus; rw [if_pos h]
theorem SI.at_own (I : SI g B F A H σ e) {i : Nat} {org : Option Nat} {c : Ct} {a : Addr} (q : e[i]? = some (.own org c)) (ea : σ[i]? = some (some (.ref a))) : (∀ k, org = some k → A k = .ref a) ∧ CtR g F H a c ∧ B a = none ∧ F a = none := by
  obtain ⟨a', e1, h⟩ := I.own q
  rw [ea] at e1
  cases e1
  exact h
theorem mem_of_get {j : Nat} {x : Arg} (h : as[j]? = some x) : x ∈ as := List.mem_of_getElem? h
/-- two places of one owned object are one -/
theorem once_eq (ho : once e as = true) {i : Nat} (hi : i < e.length) {j k : Nat} {x y : Arg} (hj : as[j]? = some x) (hk : as[k]? = some y) (ox : ownAt e i x = true) (oy : ownAt e i y = true) : j = k := by
  unfold once at ho
  rw [List.all_eq_true] at ho
  have h := of_decide_eq_true (ho i (List.mem_range.mpr hi))
  clear ho
  induction as generalizing j k with
  | nil => simp at hj
  | cons a r ih =>
    cases j with
    | zero =>
      cases k with
      | zero => rfl
      | succ k =>
        simp at hj hk
        subst hj
        have : y ∈ r.filter (ownAt e i) := List.mem_filter.mpr ⟨List.mem_of_getElem? hk, oy⟩
        rw [List.filter_cons_of_pos ox] at h
        have := List.length_pos_of_mem this
        rw [List.length_cons] at h; omega
    | succ j =>
      cases k with
      | zero =>
        simp at hj hk
        subst hk
        have : x ∈ r.filter (ownAt e i) := List.mem_filter.mpr ⟨List.mem_of_getElem? hj, ox⟩
        rw [List.filter_cons_of_pos oy] at h
        have := List.length_pos_of_mem this
        rw [List.length_cons] at h; omega
      | succ k =>
        simp at hj hk
        have h' : (r.filter (ownAt e i)).length ≤ 1 := by
          rw [List.filter_cons] at h
          split at h
          · rw [List.length_cons] at h; omega
          · exact h
        rw [ih hj hk h']
theorem ownAt_s {i : Nat} {org : Option Nat} {c : Ct} (q : e[i]? = some (.own org c)) : ownAt e i (.s i) = true := by
  unfold ownAt
  rw [q]; simp
theorem ownAt_iff {i : Nat} {a : Arg} (h : ownAt e i a = true) : a = .s i ∧ ∃ org c, e[i]? = some (.own org c) := by
  cases a with
  | v d => cases h
  | s k =>
    unfold ownAt at h
    rw [Bool.and_eq_true] at h
    obtain ⟨h1, h2⟩ := h
    have e1 := of_decide_eq_true h1
    subst e1
    split at h2
    · rename_i org c q; exact ⟨rfl, org, c, q⟩
    · cases h2
/-- the callee's state -/
theorem SI.callee (I : SI g B F A H σ e) (r : ArgsR g F σ vs as) (ho : once e as = true) : SI g (minus H (Handed e σ as)) F (argA vs) H (vs.map some) (calleeE e as) := by
  have hlen := r.length
  have at_ : ∀ {j : Nat} {s : S}, (calleeE e as)[j]? = some s → ∃ a x, as[j]? = some a ∧ vs[j]? = some x ∧ s = calleeS e j a := fun {j s} h => by
    unfold calleeE at h
    rw [List.getElem?_mapIdx] at h
    obtain ⟨a, h1, h2⟩ := Option.map_eq_some_iff.mp h
    have hj : j < as.length := (List.getElem?_eq_some_iff.mp h1).1
    exact ⟨a, vs[j]'(by omega), h1, List.getElem?_eq_getElem (by omega), h2.symm⟩
  have own_ : ∀ {j : Nat} {s : S}, (calleeE e as)[j]? = some s → s.isOwn = true → ∃ i org c x, as[j]? = some (.s i) ∧ vs[j]? = some x ∧ e[i]? = some (.own org c) ∧ s = .own (some j) c ∧ σ[i]? = some (some x) := fun {j s} h o => by
    obtain ⟨a, x, h1, h2, h3⟩ := at_ h
    subst h3
    cases a with
    | v d => cases o
    | s i =>
      cases q : e[i]? with
      | none => simp only [calleeS, q] at o; cases o
      | some t =>
        cases t with
        | no => simp only [calleeS, q] at o; cases o
        | fz d => simp only [calleeS, q] at o; cases o
        | own org c =>
          simp only [calleeS, q] at o ⊢
          rcases r.get h2 with ⟨d, z, _⟩ | ⟨i', z, hx⟩
          · rw [h1] at z; cases z
          · rw [h1] at z; cases z
            exact ⟨i, org, c, x, h1, h2, q, rfl, hx⟩
  refine ⟨fun a o q => (minus_some q).1, I.f, ?_, fun j s h => ?_, fun j k s t a h1 h2 o1 o2 s1 s2 => ?_⟩
  · unfold calleeE; rw [List.length_mapIdx, List.length_map, hlen]
  · obtain ⟨a, x, h1, h2, h3⟩ := at_ h
    have hσ : ((vs.map some)[j]?).join = some x := by rw [List.getElem?_map, h2]; rfl
    rw [hσ]
    subst h3
    rcases r.get h2 with ⟨d, z, hr⟩ | ⟨i, z, hx⟩
    · rw [h1] at z; cases z
      exact ⟨x, rfl, hr⟩
    · rw [h1] at z; cases z
      simp only [calleeS]
      cases q : e[i]? with
      | none => trivial
      | some t =>
        cases t with
        | no => trivial
        | fz d =>
          obtain ⟨v, hv, hr⟩ := I.fz q
          rw [hx] at hv; cases hv
          exact ⟨x, rfl, hr⟩
        | own org c =>
          obtain ⟨a, ea, _⟩ := I.own q
          rw [hx] at ea; cases ea
          obtain ⟨_, cr, b1, f1⟩ := I.at_own q hx
          refine ⟨a, rfl, fun k hk => ?_, cr, minus_in ⟨i, mem_of_get h1, ⟨org, c, q⟩, hx⟩, f1⟩
          cases hk
          unfold argA
          rw [List.getD_eq_getElem?_getD, h2]; rfl
  · obtain ⟨i1, org1, c1, x1, a1, a2, a3, a4, a5⟩ := own_ h1 o1
    obtain ⟨i2, org2, c2, x2, b1, b2, b3, b4, b5⟩ := own_ h2 o2
    rw [List.getElem?_map, a2] at s1
    rw [List.getElem?_map, b2] at s2
    cases s1; cases s2
    have ei := I.dj i1 i2 _ _ a a3 b3 rfl rfl a5 b5
    subst ei
    exact once_eq ho (List.getElem?_eq_some_iff.mp a3).1 a1 b1 (ownAt_s a3) (ownAt_s b3)
/-- .. and behind the call -/
theorem SI.behind (I : SI g B F A H σ e) (r : ArgsR g F σ vs as) (ho : once e as = true) {F' H' : Hp} {outs : Env} (m : Ext (minus H (Handed e σ as)) F F') (J : SI g (minus H (Handed e σ as)) F' (argA vs) H' (vs.map some) outs) :
    Ext B F F' ∧ SI g B F' A H' σ (backE e as outs) ∧
    (∀ a, minus H (Handed e σ as) a = none → B a = none) ∧
    (∀ a, minus H (Handed e σ as) a = none → Apart (vs.map some) outs a → Apart σ (backE e as outs) a) := by
  have hB : ∀ a, B a ≠ none → minus H (Handed e σ as) a ≠ none := fun a h z => by
    cases q : B a with
    | none => exact h q
    | some o =>
      have e1 := I.b a o q
      by_cases hp : Handed e σ as a
      · obtain ⟨i, _, ⟨org, c, ei⟩, hx⟩ := hp
        obtain ⟨_, _, b1, _⟩ := I.at_own ei hx
        rw [b1] at q; cases q
      · rw [minus_not hp, e1] at z; cases z
  have sB : Same B H' := fun a o q => by
    have h1 := hB a (by rw [q]; simp)
    cases z : minus H (Handed e σ as) a with
    | none => exact absurd z h1
    | some o' =>
      have := (minus_some z).1
      rw [I.b a o q] at this; cases this
      exact J.b a o z
  -- an owned slot behind
  have own_ : ∀ {i : Nat} {s : S}, (backE e as outs)[i]? = some s → s.isOwn = true → ∃ org c0 c a, e[i]? = some (.own org c0) ∧ s = .own org c ∧ σ[i]? = some (some (.ref a)) ∧
      ((∃ j : Nat, as[j]? = some (.s i) ∧ outs[j]? = some (.own (some j) c) ∧ vs[j]? = some (.ref a)) ∨ (c = c0 ∧ minus H (Handed e σ as) a ≠ none)) := fun {i s} h o => by
    unfold backE at h
    rw [List.getElem?_mapIdx] at h
    obtain ⟨s0, h1, h2⟩ := Option.map_eq_some_iff.mp h
    subst h2
    cases s0 with
    | no => cases o
    | fz d => cases o
    | own org c0 =>
      obtain ⟨a, ea, _, cr, b1, f1⟩ := I.own h1
      cases q : as.findIdx? (ownAt e i) with
      | none =>
        simp only [backS, q] at o ⊢
        refine ⟨org, c0, c0, a, h1, rfl, ea, .inr ⟨rfl, fun z => ?_⟩⟩
        rw [List.findIdx?_eq_none_iff] at q
        by_cases hp : Handed e σ as a
        · obtain ⟨i', hm, ⟨org', c', ei'⟩, hx'⟩ := hp
          have := I.dj i i' _ _ a h1 ei' rfl rfl ea hx'
          subst this
          have := q _ hm
          rw [ownAt_s h1] at this; cases this
        · rw [minus_not hp] at z
          obtain ⟨u, hu⟩ := cr.there
          rw [z] at hu; cases hu
      | some j =>
        cases hk : outs[j]? with
        | none => simp only [backS, q, hk] at o; cases o
        | some t =>
          cases t with
          | no => simp only [backS, q, hk] at o; cases o
          | fz d => simp only [backS, q, hk] at o; cases o
          | own ok c =>
            cases ok with
            | none => simp only [backS, q, hk] at o; cases o
            | some k =>
              by_cases hkj : k = j
              · subst hkj
                simp only [backS, q, hk, if_true] at o ⊢
                rw [List.findIdx?_eq_some_iff_getElem] at q
                obtain ⟨hj, hown, _⟩ := q
                obtain ⟨ha, _⟩ := ownAt_iff hown
                have hja : as[k]? = some (.s i) := by rw [List.getElem?_eq_getElem hj, ha]
                have hl := r.length
                have hv : vs[k]? = some (vs[k]'(by omega)) := List.getElem?_eq_getElem (by omega)
                rcases r.get hv with ⟨d, z, _⟩ | ⟨i', z, hx⟩
                · rw [hja] at z; cases z
                · rw [hja] at z; cases z
                  rw [ea] at hx
                  have hx' : V.ref a = vs[k] := by simpa using hx
                  exact ⟨org, c0, c, a, h1, rfl, ea, .inl ⟨k, hja, hk, by rw [hv, hx']⟩⟩
              · simp only [backS, q, hk, if_neg hkj] at o; cases o
  have eB : Ext B F F' := ⟨m.1, fun a h f => m.2 a (hB a h) f⟩
  refine ⟨eB, ⟨sB, J.f, ?_, fun i s h => ?_, fun i j s t a h1 h2 o1 o2 s1 s2 => ?_⟩, fun a z => ?_, fun a za ap i s h o z => ?_⟩
  · unfold backE; rw [List.length_mapIdx]; exact I.len
  · cases hs : s.isOwn with
    | true =>
      obtain ⟨org, c0, c, a, h1, h2, h3, h4⟩ := own_ h hs
      subst h2
      obtain ⟨og, cr, b1, f1⟩ := I.at_own h1 h3
      rw [h3]
      rcases h4 with ⟨j, ja, jo, jv⟩ | ⟨rfl, hz⟩
      · obtain ⟨og', cr', _, f1'⟩ := J.at_own (a := a) jo (by rw [List.getElem?_map, jv]; rfl)
        exact ⟨a, rfl, og, cr', b1, f1'⟩
      · refine ⟨a, rfl, og, cr.up (.of m.1) ?_, b1, m.2 a hz f1⟩
        cases z : minus H (Handed e σ as) a with
        | none => exact absurd z hz
        | some o => rw [J.b a o z, (minus_some z).1]
    | false =>
      unfold backE at h
      rw [List.getElem?_mapIdx] at h
      obtain ⟨s0, h1, h2⟩ := Option.map_eq_some_iff.mp h
      subst h2
      cases s0 with
      | no => trivial
      | fz d =>
        obtain ⟨v, hv, hr⟩ := I.fz h1
        rw [hv]
        exact ⟨v, rfl, hr.mono m.1⟩
      | own org c0 =>
        cases q : as.findIdx? (ownAt e i) with
        | none => simp only [backS, q] at hs; cases hs
        | some j =>
          cases hk : outs[j]? with
          | none => simp only [backS, q, hk]; trivial
          | some t =>
            cases t with
            | no => simp only [backS, q, hk]; trivial
            | fz d => simp only [backS, q, hk]; trivial
            | own ok c =>
              cases ok with
              | none => simp only [backS, q, hk]; trivial
              | some k =>
                by_cases hkj : k = j
                · simp only [backS, q, hk, if_pos hkj] at hs; cases hs
                · simp only [backS, q, hk, if_neg hkj]; trivial
  · obtain ⟨org, c0, c, x, a1, a2, a3, _⟩ := own_ h1 o1
    obtain ⟨org', c0', c', x', b1, b2, b3, _⟩ := own_ h2 o2
    exact I.dj i j _ _ a a1 b1 rfl rfl s1 s2
  · cases q : B a with
    | none => rfl
    | some o => exact absurd z (hB a (by rw [q]; simp))
  · obtain ⟨org, c0, c, x, a1, a2, a3, a4⟩ := own_ h o
    rw [a3] at z; cases z
    rcases a4 with ⟨j, ja, jo, jv⟩ | ⟨_, hz⟩
    · exact ap j _ jo rfl (by rw [List.getElem?_map, jv]; rfl)
    · exact hz za
end
end DV

set_option Elab.async false
set_option linter.all false
set_option autoImplicit false
set_option maxRecDepth 100000
set_option maxHeartbeats 2000000
/-! V8: a def's meaning from its body; calls of defs, methods, classes. -/
namespace DV
open PySem PySem.Spec L2
open PyProof.Rows hiding St

/-! ### a def's meaning from its body's -/
/-- what is left in the arguments' slots -/
def outS (j : Nat) : S → S
  | .own (some k) c => if k = j then .own (some k) c else .no
  | _ => .no
def outs (n : Nat) (e : Env) : Env := (List.range n).map fun j => outS j (e.getD j .no)
def denF (n tot : Nat) (body : Env → Res Fl) : Env → Res S := fun env => match body (env ++ List.replicate (tot - n) .no) with
  | .ok .nx e => .ok (.fz .non) (outs n e)
  | .ok (.rt s) e => .ok s (outs n e)
  | .ok _ _ => .no
  | .ex x e => .ex x (outs n e)
  | .no => .no
section
variable {g : Γ} {B F : Hp} {A : Nat → V} {H : Hp} {σ : L2.St} {e : Env} {vs : List V} {n : Nat}
theorem outs_get {j : Nat} {s : S} (h : (outs n e)[j]? = some s) (o : s.isOwn = true) : ∃ c, s = .own (some j) c ∧ e[j]? = some (.own (some j) c) ∧ j < n := by
  unfold outs at h
  rw [List.getElem?_map] at h
  obtain ⟨j', h1, h2⟩ := Option.map_eq_some_iff.mp h
  subst h2
  have hj : j < n := by
    have := (List.getElem?_eq_some_iff.mp h1).1
    simpa using this
  rw [List.getElem?_range hj] at h1
  cases h1
  rw [List.getD_eq_getElem?_getD] at o ⊢
  cases ht : e[j]? with
  | none => rw [ht] at o; cases o
  | some t =>
  rw [ht] at o
  simp only [Option.getD_some] at o ⊢
  cases t with
  | no => cases o
  | fz d => cases o
  | own og c =>
    cases og with
    | none => cases o
    | some k =>
      by_cases hk : k = j
      · subst hk
        simp only [outS, if_true]
        exact ⟨c, rfl, rfl, hj⟩
      · simp only [outS, if_neg hk] at o; cases o
theorem argA_get {j : Nat} {x : V} (h : argA vs j = x) (hj : j < vs.length) : vs[j]? = some x := by
  unfold argA at h
  rw [List.getD_eq_getElem?_getD, List.getElem?_eq_getElem hj] at h
  rw [List.getElem?_eq_getElem hj]
  exact congrArg some h
theorem SI.outs (I : SI g B F (argA vs) H σ e) (hn : vs.length = n) : SI g B F (argA vs) H (vs.map some) (outs n e) ∧ ∀ a, Apart σ e a → Apart (vs.map some) (DV.outs n e) a := by
  have key : ∀ {j : Nat} {s : S}, (DV.outs n e)[j]? = some s → s.isOwn = true → ∃ c a, s = .own (some j) c ∧ e[j]? = some (.own (some j) c) ∧ σ[j]? = some (some (.ref a)) ∧ vs[j]? = some (.ref a) ∧ CtR g F H a c ∧ B a = none ∧ F a = none := fun {j s} h o => by
    obtain ⟨c, e1, e2, hj⟩ := outs_get h o
    obtain ⟨a, ea, ho, r⟩ := I.own e2
    exact ⟨c, a, e1, e2, ea, argA_get (ho j rfl) (by omega), r⟩
  refine ⟨⟨I.b, I.f, ?_, fun j s h => ?_, fun i j s t a h1 h2 o1 o2 s1 s2 => ?_⟩, fun a ap j s h o z => ?_⟩
  · unfold DV.outs; rw [List.length_map, List.length_range, List.length_map, hn]
  · cases hs : s.isOwn with
    | true =>
      obtain ⟨c, a, rfl, e2, ea, ev, cr, b1, f1⟩ := key h hs
      obtain ⟨a', ea', ho, _⟩ := I.own e2
      rw [ea] at ea'; cases ea'
      rw [List.getElem?_map, ev]
      exact ⟨a, rfl, ho, cr, b1, f1⟩
    | false =>
      cases s with
      | no => trivial
      | own og c => cases hs
      | fz d =>
        exfalso
        unfold DV.outs at h
        rw [List.getElem?_map] at h
        obtain ⟨j', h1, h2⟩ := Option.map_eq_some_iff.mp h
        revert h2
        generalize e.getD j' .no = t
        intro h2
        cases t with
        | no => cases h2
        | fz d => cases h2
        | own og c =>
          cases og with
          | none => cases h2
          | some k =>
            simp only [outS] at h2
            split at h2 <;> cases h2
  · obtain ⟨c, x, e1, e2, ea, ev, _⟩ := key h1 o1
    obtain ⟨c', x', e1', e2', ea', ev', _⟩ := key h2 o2
    rw [List.getElem?_map, ev] at s1
    rw [List.getElem?_map, ev'] at s2
    cases s1; cases s2
    exact I.dj i j _ _ a e2 e2' rfl rfl ea ea'
  · obtain ⟨c, x, e1, e2, ea, ev, _⟩ := key h o
    rw [List.getElem?_map, ev] at z
    cases z
    exact ap j _ e2 rfl ea
end

/-- a def's body, as it is proved: k the room that it needs -/
def BodyOk (c : Nat → Addr) (P : Program) (w : World) (K : PySem.W.Frag) (mg : Str → Option Value) (base : Heap) (k : Nat) (N : List Str) (qual : Str) (st : Stmt) (f : Addr) (body : Env → Res Fl) : Prop :=
  ∀ (cdv : Value) (A : Around) (outer : List PySem.Env) (s : Shared) (H : Hp) (E : XK), Room k (A.deeper (envOfC qual (defScope st) s.heap.objs.size f cdv)) →
    GSs c (cxOf (L2.CX P w) P w K mg base N qual (defScope st) f cdv A outer s H E) (fun cls d _ H => E cls d H) (defBody st) body
theorem SI.grow {g : Γ} {B F : Hp} {A : Nat → V} {H : Hp} {σ : L2.St} {e : Env} (I : SI g B F A H σ e) (m : Nat) : SI g B F A H (σ ++ List.replicate m none) (e ++ List.replicate m .no) := by
  have key : ∀ {j : Nat} {s : S}, (e ++ List.replicate m S.no)[j]? = some s → (s = .no) ∨ (j < e.length ∧ e[j]? = some s) := fun {j s} h => by
    by_cases hj : j < e.length
    · rw [List.getElem?_append_left hj] at h; exact .inr ⟨hj, h⟩
    · rw [List.getElem?_append_right (by omega)] at h
      have := List.mem_of_getElem? h
      exact .inl (List.eq_of_mem_replicate this)
  refine ⟨I.b, I.f, by simp [I.len], fun j s h => ?_, fun i j s t a h1 h2 o1 o2 s1 s2 => ?_⟩
  · rcases key h with rfl | ⟨hj, h⟩
    · trivial
    · rw [List.getElem?_append_left (by rw [← I.len]; exact hj)]
      exact I.sl j s h
  · rcases key h1 with rfl | ⟨hi, h1⟩
    · cases o1
    · rcases key h2 with rfl | ⟨hj, h2⟩
      · cases o2
      · rw [List.getElem?_append_left (by rw [← I.len]; exact hi)] at s1
        rw [List.getElem?_append_left (by rw [← I.len]; exact hj)] at s2
        exact I.dj i j s t a h1 h2 o1 o2 s1 s2
theorem SpD.len {g : Γ} {n : Nat} {den : Env → Res S} {vs : List V} {H : Hp} {Q : VK} {E : XK} (h : SpD g n den vs H Q E) : vs.length = n := h.1
section
variable {c : Nat → Addr} {P : Program} {w : World} {K : PySem.W.Frag} {mg : Str → Option Value} {base : Heap} {k : Nat} {N ps : List Str} {x qual : Str} {st : Stmt} {f : Addr} {fd : FuncData} {body : Env → Res Fl}
theorem fn_den (F : Fun K x qual st f fd) (Sc : FnScope N ps (defScope st)) (hb : BodyOk c P w K mg base k N qual st f body) : FnOk P w K mg base (L2.CX P w) (k + 1) f fd ps (SpD ⟨K, c⟩ ps.length (denF ps.length N.length body)) := by
  refine F.okX Sc (fun vs H Q E h => h.1) fun cdv A outer s H vs Q E hr ⟨hl, B, F, env, I, wt⟩ => ?_
  refine ⟨_, hb cdv A outer s H E hr, ?_⟩
  have hpl : ps.length ≤ N.length := by
    have := congrArg List.length Sc.pre
    rw [List.length_take] at this; omega
  have el : env.length = ps.length := by rw [I.len, List.length_map, hl]
  refine ⟨B, F, argA vs, env ++ List.replicate (N.length - ps.length) .no, by show SI _ _ _ _ _ (vs.map some ++ List.replicate (N.length - vs.length) none) _; rw [hl]; exact I.grow _, ?_⟩
  unfold denF at wt
  revert wt
  generalize body (env ++ List.replicate (N.length - ps.length) .no) = r
  intro wt
  cases r with
  | no => exact wt.elim
  | ex x e =>
    intro F' H' σ' dx m J xa
    exact wt F' H' dx m (J.outs hl).1 xa
  | ok fl e =>
    intro F' H' σ' m J
    cases fl with
    | bk => exact wt.elim
    | ct => exact wt.elim
    | nx => exact wt .non F' H' m (J.outs hl).1 ⟨.non, rfl, .non⟩ (fun a z => by cases z)
    | rt s => exact fun v r ap => wt v F' H' m (J.outs hl).1 r fun a ea o => (J.outs hl).2 a (ap a ea o)
end

/-! ### calls -/
def callN (n : Nat) (den : Env → Res S) (as : List Arg) (e : Env) : Res S := if as.length = n then callD den as e else .no
section
variable {g : Γ} {W : WX} {B F : Hp} {A : Nat → V} {H : Hp} {σ : L2.St} {e : Env} {vs : List V} {as : List Arg} {n : Nat} {den : Env → Res S}
/-- the callee is run -/
theorem sem_callN (I : SI g B F A H σ e) (r : ArgsR g F σ vs as) {W' : XK} {P : S → Env → Prop} {Q : VK} (w : Want g W B F A σ P (callN n den as e)) (hW : ∀ cls d H', W cls d σ H' → W' cls d H')
    (hQ : ∀ s e' v F' H', P s e' → Ext B F F' → SI g B F' A H' σ e' → SlotR g B F' A H' (some v) s → (∀ a, v = .ref a → s.isOwn = true → Apart σ e' a) → Q v H') : SpD g n den vs H Q W' := by
  unfold callN at w
  split at w
  · rename_i hn
    unfold callD at w
    split at w
    · rename_i ho
      refine ⟨r.length.trans hn, minus H (Handed e σ as), F, calleeE e as, I.callee r ho, ?_⟩
      cases q : den (calleeE e as) with
      | no => rw [q] at w; exact w.elim
      | ex x outs =>
        rw [q] at w
        intro F' H' dx m J xa
        obtain ⟨m1, J1, _⟩ := I.behind r ho m J
        exact hW _ _ _ (w F' H' dx m1 J1 xa)
      | ok s outs =>
        rw [q] at w
        have fin : (∀ k c, s ≠ .own (some k) c) → P s (backE e as outs) → FinO g (minus H (Handed e σ as)) F (argA vs) (vs.map some) Q s outs := fun hs hp v F' H' m J rs ap => by
          obtain ⟨m1, J1, b1, p1⟩ := I.behind r ho m J
          refine hQ s _ v F' H' hp m1 J1 ?_ ?_
          · cases s with
            | no => trivial
            | fz d => exact rs
            | own og c =>
              cases og with
              | some k => exact absurd rfl (hs k c)
              | none =>
                obtain ⟨a, ea, _, cr, bb, ff⟩ := rs
                exact ⟨a, ea, (fun k h => by cases h), cr, b1 a bb, ff⟩
          · intro a ea o
            cases s with
            | no => cases o
            | fz d => cases o
            | own og c =>
              obtain ⟨a', ea', _, cr, bb, ff⟩ := rs
              cases ea'
              cases ea
              exact p1 _ bb (ap _ rfl o)
        cases s with
        | no => exact fin (fun _ _ z => by cases z) w
        | fz d => exact fin (fun _ _ z => by cases z) w
        | own og c =>
          cases og with
          | none => exact fin (fun _ _ z => by cases z) w
          | some k => exact w.elim
    · exact w.elim
  · exact w.elim
end
def dCall (n : Nat) (den : Env → Res S) (ua : Env → Res (List Arg)) : Env → Res S := fun e => (ua e).bind fun as e => callN n den as e
section
variable {c : Nat → Addr} {X : Cx} {W : WX} {k n : Nat} {f : Addr} {fd : FuncData} {ps : List Str} {den : Env → Res S} {x m : Str} {p pos apos : Pos} {e o : Expr} {es : List Expr} {ua : Env → Res (List Arg)} {fa : Env → Res D}
theorem sem_call {g : Γ} : ∀ σ H Q, tO g W (dCall n den ua) σ H Q → tCallS (SpD g n den) (WE W) (tAA g W ua) σ H Q := fun σ H Q ⟨B, F, A, e, I, w⟩ => by
  refine runA (.refl B F) I w fun as e2 vs F2 H2 m2 s2 I2 r2 w2 => ?_
  exact sem_callN I2 r2 (w2.up m2 fun _ _ h => h.up m2) (fun _ _ _ h => h) fun s e' v F' H' hp m J rs ap => hp v F' H' m J rs ap
/-- f(e, ..) -/
theorem go_call (Fk : FnOk X.prog X.w X.K X.mg X.base (L2.CX X.prog X.w) k f fd ps (SpD ⟨X.K, c⟩ n den)) (hr : Room k X.A) (hg : Gl X x) (hm : X.mg x = some (.ref f)) (hk : PySem.W.keepIn X.K (.ref f) = true) (hb : Binds X.K fd ps []) (tk : Takes X W)
    (ha : GAA c X W (e :: es) ua) (hdb : (x == ("__debug__" : Str)) = false := by decide) (he : starEach (e :: es) X.env = (false, eval e X.env) :: starEach es X.env := by rfl) (hpl : (backTo pos (starEach es X.env)).any (·.1) = false := by rfl) :
    GO c X W (.Call (.Name x p) (e :: es) [] pos) (dCall n den ua) := PE.of (pe_callS (E := WE W) Fk hr hg hm hk hb (passAt tk) ha hdb he hpl) sem_call
/-- f() -/
theorem go_call0 (Fk : FnOk X.prog X.w X.K X.mg X.base (L2.CX X.prog X.w) k f fd ps (SpD ⟨X.K, c⟩ n den)) (hr : Room k X.A) (hg : Gl X x) (hm : X.mg x = some (.ref f)) (hk : PySem.W.keepIn X.K (.ref f) = true) (hb : Binds X.K fd ps []) (tk : Takes X W)
    (hdb : (x == ("__debug__" : Str)) = false := by decide) : GO c X W (.Call (.Name x p) [] [] pos) (dCall n den aNil) := by
  refine ⟨fun pins s σ H Q I h => ?_⟩
  obtain ⟨B, F, A, e, J, w⟩ := h
  refine wpAny_Call_Name_kw (ld_glob I hg hm ?_ hdb)
  refine PySem.W.callWith_K0 I.kIn hk (run_fnS (us := []) (vs := []) Fk hr hb (passAt tk σ) I .nil ?_)
  exact sem_callN (as := []) J .nil w (fun _ _ _ h => h) fun s e' v F' H' hp m J rs ap => hp v F' H' m J rs ap

/-! ### methods -/
def isO (c : Nat) (m : Str) (d : D) : Bool := match d with
  | .obj k fs => decide (k = c) && (fs.lookup m).isNone
  | _ => false
theorem lookup_keys {α β : Type} : ∀ {xs : List (Str × α)} {ys : List (Str × β)} (m : Str), xs.map (·.1) = ys.map (·.1) → ys.lookup m = none → xs.lookup m = none
  | [], [], _, _, _ => rfl
  | (a, u) :: xs, (b, w) :: ys, m, e, h => by
    simp only [List.map_cons, List.cons.injEq] at e
    obtain ⟨e1, e2⟩ := e
    subst e1
    rw [List.lookup_cons] at h ⊢
    cases q : m == a with
    | true => simp [q] at h
    | false => simp only [q] at h ⊢; exact lookup_keys m e2 h
  | [], _ :: _, _, e, _ => by cases e
  | _ :: _, [], _, e, _ => by cases e
theorem isO_sound {g : Γ} {F H : Hp} {v : V} {d : D} {k : Nat} (r : View g F H v d) (h : isO k m d = true) : ∃ a dx fs, v = .ref a ∧ H a = some (.ins (g.cls k) dx fs) ∧ fs.lookup m = none := by
  cases r with
  | obj h1 r1 =>
    simp only [isO, Bool.and_eq_true, decide_eq_true_eq, Option.isNone_iff_eq_none] at h
    obtain ⟨rfl, h2⟩ := h
    exact ⟨_, _, _, rfl, h1, lookup_keys m r1.1 h2⟩
  | _ => cases h
def dMethV (c : Nat) (m : Str) (n : Nat) (den : Env → Res S) (fo : Env → Res D) (ua : Env → Res (List Arg)) : Env → Res S := fun e => (fo e).bind fun d e => if isO c m d.un = true then (ua e).bind fun as e => callN n den (.v d :: as) e else .no
def dMethS (c : Nat) (m : Str) (n : Nat) (den : Env → Res S) (i : Nat) (ua : Env → Res (List Arg)) : Env → Res S := fun e => (lift (view e i) e).bind fun d e => if isO c m d = true then (ua e).bind fun as e => callN n den (.s i :: as) e else .no
def tMethE (C : Addr) (m : Str) (sp : Sp) (E : L2.St → XK) (ta : TE) (t : TA) : TE := fun σ H Q => ta σ H fun x H1 => ∃ a dx fs, x = .ref a ∧ H1 a = some (.ins C dx fs) ∧ fs.lookup m = none ∧
  t σ H1 fun vs H2 => sp (x :: vs) H2 Q (E σ)
variable {C : Addr} {sp : Sp} {E : L2.St → XK} {CX : CXT} {ta : TE} {t : TA}
theorem pe_methE {pl : Sem Bool} (he : PE X o ta) (cl : Cls X.K C) (hm : Meth X.K C m f) (Fk : FnOk X.prog X.w X.K X.mg X.base CX k f fd ps sp) (hr : Room k X.A) (hb : Binds X.K fd ps []) (hx : ∀ σ, PassesAt CX X σ (E σ)) (ha : PA X (e :: es) t)
    (hst : starEach (e :: es) X.env = (false, eval e X.env) :: starEach es X.env := by rfl) (hpl : (backTo pos (starEach es X.env)).any (·.1) = false := by rfl)
    (ht : eval (.Call (.Attribute o m apos) (e :: es) [] pos) X.env = (do
      let ov ← eval o X.env
      standAt apos.atName
      let (f, first) ← holding [ov] (getMethod ov m pl)
      callWith pos f first (backTo pos (starEach (e :: es) X.env)) (backToKw pos (keywordEach [] X.env))) := by rfl) :
    PE X (.Call (.Attribute o m apos) (e :: es) [] pos) (tMethE C m sp E ta t) := by
  refine ⟨fun pins s σ H Q I h => ?_⟩
  refine PySem.W.methodCall_KW (pl := pl) (thn (he.run pins s σ H _ I h) fun u s1 ⟨x, H1, I1, rx, a, dx, fs, ex, ea, l, q⟩ => ?_) ht
  subst ex
  obtain rfl : u = Value.ref a := rx
  refine getmeth_ok I1 ea cl hm l ?_
  refine PySem.W.callWith_K (first := [.ref a]) (h₀ := X.base) I.ok.mod.kin hm.kp (thn (ha.run pos pins s1 σ H1 _ I1 q) fun us s2 ⟨vs, H2, I2, r, q2⟩ => ⟨I2.kIn, ?_⟩) hst hpl
  exact run_fnS (us := .ref a :: us) (vs := .ref a :: vs) Fk hr hb (hx σ) I2 (.cons rfl r) q2
theorem pe_methE0 {pl : Sem Bool} (he : PE X o ta) (cl : Cls X.K C) (hm : Meth X.K C m f) (Fk : FnOk X.prog X.w X.K X.mg X.base CX k f fd ps sp) (hr : Room k X.A) (hb : Binds X.K fd ps []) (hx : ∀ σ, PassesAt CX X σ (E σ))
    (ht : eval (.Call (.Attribute o m apos) [] [] pos) X.env = (do
      let ov ← eval o X.env
      standAt apos.atName
      let (f, first) ← holding [ov] (getMethod ov m pl)
      callWith pos f first (backTo pos (starEach [] X.env)) (backToKw pos (keywordEach [] X.env))) := by rfl) :
    PE X (.Call (.Attribute o m apos) [] [] pos) (tMethE C m sp E ta tNil) := by
  refine ⟨fun pins s σ H Q I h => ?_⟩
  refine PySem.W.methodCall_KW (pl := pl) (thn (he.run pins s σ H _ I h) fun u s1 ⟨x, H1, I1, rx, a, dx, fs, ex, ea, l, q⟩ => ?_) ht
  subst ex
  obtain rfl : u = Value.ref a := rx
  refine getmeth_ok I1 ea cl hm l ?_
  exact PySem.W.callWith_K0 (first := [.ref a]) I1.kIn hm.kp (run_fnS (us := [.ref a]) (vs := [.ref a]) Fk hr hb (hx σ) I1 (.cons rfl .nil) q)
theorem sem_methV {g : Γ} {kc : Nat} : ∀ σ H Q, tO g W (dMethV kc m n den fa ua) σ H Q → tMethE (g.cls kc) m (SpD g n den) (WE W) (tD g W fa) (tAA g W ua) σ H Q := fun σ H Q ⟨B, F, A, e, I, w⟩ => by
  refine runD (.refl B F) I w fun d e1 v F1 H1 m1 _ I1 r1 w1 => ?_
  split at w1
  · rename_i h
    obtain ⟨a, dx, fs, ev, ea, el⟩ := isO_sound (r1.view I1.f) h
    refine ⟨a, dx, fs, ev, ea, el, ?_⟩
    refine runA m1 I1 w1 fun as e2 vs F2 H2 m2 s2 I2 r2 w2 => ?_
    exact sem_callN (as := .v d :: as) I2 (.v (r1.mono s2) r2) (w2.up m2 fun _ _ h => h.up m2) (fun _ _ _ h => h) fun s e' v F' H' hp m J rs ap => hp v F' H' m J rs ap
  · exact w1.elim
theorem sem_methS {g : Γ} {kc i : Nat} : ∀ σ H Q, tO g W (dMethS kc m n den i ua) σ H Q → tMethE (g.cls kc) m (SpD g n den) (WE W) (tVar i) (tAA g W ua) σ H Q := fun σ H Q ⟨B, F, A, e, I, w⟩ => by
  obtain ⟨x0, hx0, w0⟩ := (Want.bind w).lift
  obtain ⟨v, hv, vw⟩ := I.view hx0
  refine ⟨v, hv, ?_⟩
  split at w0
  · rename_i h
    obtain ⟨a, dx, fs, ev, ea, el⟩ := isO_sound vw h
    refine ⟨a, dx, fs, ev, ea, el, ?_⟩
    refine runA (.refl B F) I w0 fun as e2 vs F2 H2 m2 s2 I2 r2 w2 => ?_
    exact sem_callN (as := .s i :: as) I2 (.s hv r2) (w2.up m2 fun _ _ h => h.up m2) (fun _ _ _ h => h) fun s e' v F' H' hp m J rs ap => hp v F' H' m J rs ap
  · exact w0.elim
theorem sem_nil {g : Γ} {σ : L2.St} {H : Hp} {Q : List V → Hp → Prop} (h : tAA g W aNil σ H Q) : tNil σ H Q := by
  obtain ⟨B, F, A, e, I, w⟩ := h
  exact w [] F H (.refl B F) I .nil
theorem sem_nilT {g : Γ} {C : Addr} {ta : TE} (hm : ∀ σ H Q Q', (∀ v H, Q v H → Q' v H) → ta σ H Q → ta σ H Q') : ∀ σ H Q, tMethE C m sp E ta (tAA g W aNil) σ H Q → tMethE C m sp E ta tNil σ H Q := fun σ H Q h =>
  hm σ H _ _ (fun x H1 ⟨a, dx, fs, e1, e2, e3, q⟩ => ⟨a, dx, fs, e1, e2, e3, sem_nil q⟩) h
theorem tD_monoQ {g : Γ} {f : Env → Res D} : ∀ σ H Q Q', (∀ v H, Q v H → Q' v H) → tD g W f σ H Q → tD g W f σ H Q' := fun σ H Q Q' h ⟨B, F, A, e, I, w⟩ => ⟨B, F, A, e, I, w.imp fun d e q v F' H' m J r => h _ _ (q v F' H' m J r)⟩
theorem tVar_mono {i : Nat} : ∀ σ H Q Q', (∀ v H, Q v H → Q' v H) → tVar i σ H Q → tVar i σ H Q' := fun σ H Q Q' h ⟨v, e, q⟩ => ⟨v, e, h _ _ q⟩
/-- o.m(e, ..), o data -/
theorem go_meth {kc : Nat} {pl : Sem Bool} (he : GE c X W o fa) (cl : Cls X.K (c kc)) (hm : Meth X.K (c kc) m f) (Fk : FnOk X.prog X.w X.K X.mg X.base (L2.CX X.prog X.w) k f fd ps (SpD ⟨X.K, c⟩ n den)) (hr : Room k X.A) (hb : Binds X.K fd ps []) (tk : Takes X W) (ha : GAA c X W (e :: es) ua)
    (hst : starEach (e :: es) X.env = (false, eval e X.env) :: starEach es X.env := by rfl) (hpl : (backTo pos (starEach es X.env)).any (·.1) = false := by rfl)
    (ht : eval (.Call (.Attribute o m apos) (e :: es) [] pos) X.env = (do
      let ov ← eval o X.env
      standAt apos.atName
      let (f, first) ← holding [ov] (getMethod ov m pl)
      callWith pos f first (backTo pos (starEach (e :: es) X.env)) (backToKw pos (keywordEach [] X.env))) := by rfl) :
    GO c X W (.Call (.Attribute o m apos) (e :: es) [] pos) (dMethV kc m n den fa ua) := PE.of (pe_methE (E := WE W) he cl hm Fk hr hb (passAt tk) ha hst hpl ht) sem_methV
theorem go_meth0 {kc : Nat} {pl : Sem Bool} (he : GE c X W o fa) (cl : Cls X.K (c kc)) (hm : Meth X.K (c kc) m f) (Fk : FnOk X.prog X.w X.K X.mg X.base (L2.CX X.prog X.w) k f fd ps (SpD ⟨X.K, c⟩ n den)) (hr : Room k X.A) (hb : Binds X.K fd ps []) (tk : Takes X W)
    (ht : eval (.Call (.Attribute o m apos) [] [] pos) X.env = (do
      let ov ← eval o X.env
      standAt apos.atName
      let (f, first) ← holding [ov] (getMethod ov m pl)
      callWith pos f first (backTo pos (starEach [] X.env)) (backToKw pos (keywordEach [] X.env))) := by rfl) :
    GO c X W (.Call (.Attribute o m apos) [] [] pos) (dMethV kc m n den fa aNil) := PE.of (pe_methE0 (E := WE W) he cl hm Fk hr hb (passAt tk) ht) fun σ H Q q => sem_nilT tD_monoQ σ H Q (sem_methV σ H Q q)
/-- .. o a name's object -/
theorem go_methS {kc i : Nat} {pl : Sem Bool} (he : PE X o (tVar i)) (cl : Cls X.K (c kc)) (hm : Meth X.K (c kc) m f) (Fk : FnOk X.prog X.w X.K X.mg X.base (L2.CX X.prog X.w) k f fd ps (SpD ⟨X.K, c⟩ n den)) (hr : Room k X.A) (hb : Binds X.K fd ps []) (tk : Takes X W) (ha : GAA c X W (e :: es) ua)
    (hst : starEach (e :: es) X.env = (false, eval e X.env) :: starEach es X.env := by rfl) (hpl : (backTo pos (starEach es X.env)).any (·.1) = false := by rfl)
    (ht : eval (.Call (.Attribute o m apos) (e :: es) [] pos) X.env = (do
      let ov ← eval o X.env
      standAt apos.atName
      let (f, first) ← holding [ov] (getMethod ov m pl)
      callWith pos f first (backTo pos (starEach (e :: es) X.env)) (backToKw pos (keywordEach [] X.env))) := by rfl) :
    GO c X W (.Call (.Attribute o m apos) (e :: es) [] pos) (dMethS kc m n den i ua) := PE.of (pe_methE (E := WE W) he cl hm Fk hr hb (passAt tk) ha hst hpl ht) sem_methS
theorem go_methS0 {kc i : Nat} {pl : Sem Bool} (he : PE X o (tVar i)) (cl : Cls X.K (c kc)) (hm : Meth X.K (c kc) m f) (Fk : FnOk X.prog X.w X.K X.mg X.base (L2.CX X.prog X.w) k f fd ps (SpD ⟨X.K, c⟩ n den)) (hr : Room k X.A) (hb : Binds X.K fd ps []) (tk : Takes X W)
    (ht : eval (.Call (.Attribute o m apos) [] [] pos) X.env = (do
      let ov ← eval o X.env
      standAt apos.atName
      let (f, first) ← holding [ov] (getMethod ov m pl)
      callWith pos f first (backTo pos (starEach [] X.env)) (backToKw pos (keywordEach [] X.env))) := by rfl) :
    GO c X W (.Call (.Attribute o m apos) [] [] pos) (dMethS kc m n den i aNil) := PE.of (pe_methE0 (E := WE W) he cl hm Fk hr hb (passAt tk) ht) fun σ H Q q => sem_nilT tVar_mono σ H Q (sem_methS σ H Q q)
end

/-! ### new objects -/
section
variable {g : Γ} {B F : Hp} {A : Nat → V} {H : Hp} {σ : L2.St} {e : Env}
theorem SI.push (I : SI g B F A H σ e) {p : Addr} {ct : Ct} (hc : CtR g F H p ct) (hb : B p = none) (hf : F p = none) (ap : Apart σ e p) : SI g B F A H (σ ++ [some (.ref p)]) (e ++ [.own none ct]) := by
  have h1 : SI g B F A H (σ ++ [none]) (e ++ [.no]) := I.grow 1
  have ap' : Apart (σ ++ [none]) (e ++ [S.no]) p := fun j s h o z => by
    by_cases hj : j < e.length
    · rw [List.getElem?_append_left hj] at h
      rw [List.getElem?_append_left (by rw [← I.len]; exact hj)] at z
      exact ap j s h o z
    · rw [List.getElem?_append_right (by omega)] at h
      have := List.mem_of_getElem? h
      simp at this
      subst this
      cases o
  have h2 := h1.setO hc hb hf ap' e.length
  have e1 : (σ ++ [none]).set e.length (some (V.ref p)) = σ ++ [some (.ref p)] := by rw [I.len]; simp
  have e2 : (e ++ [S.no]).set e.length (.own none ct) = e ++ [.own none ct] := by simp
  rw [e1, e2] at h2
  exact h2
theorem SI.pop {x : Option V} {e' : Env} {n : Nat} (I : SI g B F A H (σ ++ [x]) e') (hn : σ.length = n) : SI g B F A H σ (e'.take n) ∧
    ∀ org ct p, e'[n]? = some (.own org ct) → x = some (.ref p) → CtR g F H p ct ∧ B p = none ∧ F p = none ∧ Apart σ (e'.take n) p := by
  have hl := I.len
  rw [List.length_append, List.length_singleton] at hl
  have key : ∀ {j : Nat} {s : S}, (e'.take n)[j]? = some s → j < n ∧ e'[j]? = some s := fun {j s} h => by
    have hj := (List.getElem?_eq_some_iff.mp h).1
    rw [List.length_take] at hj
    rw [List.getElem?_take_of_lt (by omega)] at h
    exact ⟨by omega, h⟩
  have sg : ∀ j, j < n → (σ ++ [x])[j]? = σ[j]? := fun j hj => List.getElem?_append_left (by omega)
  refine ⟨⟨I.b, I.f, by rw [List.length_take]; omega, fun j s h => ?_, fun i j s t a h1 h2 o1 o2 s1 s2 => ?_⟩, fun org ct p h hx => ?_⟩
  · obtain ⟨hj, h⟩ := key h
    have := I.sl j s h
    rw [sg j hj] at this
    exact this
  · obtain ⟨hi, h1⟩ := key h1
    obtain ⟨hj, h2⟩ := key h2
    exact I.dj i j s t a h1 h2 o1 o2 (by rw [sg i hi]; exact s1) (by rw [sg j hj]; exact s2)
  · subst hx
    have hx' : (σ ++ [some (V.ref p)])[n]? = some (some (.ref p)) := by rw [← hn]; simp
    obtain ⟨_, cr, b1, f1⟩ := I.at_own h hx'
    refine ⟨cr, b1, f1, fun j s hj o z => ?_⟩
    obtain ⟨hj', hj⟩ := key hj
    have := I.dj j n s _ p hj h o rfl (by rw [sg j hj']; exact z) hx'
    omega
theorem ArgsR.push {g : Γ} {F : Hp} {x : Option V} : ∀ {vs : List V} {as : List Arg}, ArgsR g F σ vs as → ArgsR g F (σ ++ [x]) vs as
  | _, _, .nil => .nil
  | _, _, .v h r => .v h r.push
  | _, _, .s h r => .s (by rw [List.getElem?_append_left (List.getElem?_eq_some_iff.mp h).1]; exact h) r.push
end
def dMake (c n : Nat) (den : Env → Res S) (ua : Env → Res (List Arg)) : Env → Res S := fun e => (ua e).bind fun as e =>
  match callN n den (.s e.length :: as) (e ++ [.own none (.o c [])]) with
  | .ok (.fz .non) e2 => match e2[e.length]? with
    | some (.own _ ct) => .ok (.own none ct) (e2.take e.length)
    | _ => .no
  | .ex x e2 => .ex x (e2.take e.length)
  | _ => .no
def tMakeE (C : Addr) (sp : Sp) (E : L2.St → XK) (t : TA) : TE := fun σ H Q => t σ H fun vs H1 => ∀ x dx, H1 x = none → H1 dx = none → dx ≠ x →
  sp (.ref x :: vs) (upd (upd H1 dx (.own x)) x (.ins C dx [])) (fun v H2 => v = .non ∧ Q (.ref x) H2) (E σ)
section
variable {c : Nat → Addr} {X : Cx} {W : WX} {k n : Nat} {f C : Addr} {fd : FuncData} {ps : List Str} {den : Env → Res S} {x m : Str} {p pos apos : Pos} {e o : Expr} {es : List Expr} {ua : Env → Res (List Arg)} {fa : Env → Res D} {sp : Sp} {E : L2.St → XK} {CX : CXT} {t : TA}
theorem run_makeE {pins : List (Addr × Obj)} {σ : L2.St} {H : Hp} {s : Shared} {Q : VK} {us : List Value} {vs : List V} (M : Mk X.K C f) (Fk : FnOk X.prog X.w X.K X.mg X.base CX k f fd ps sp) (hr : Room (k + 1) X.A) (hb : Binds X.K fd ps [])
    (hx : PassesAt CX X σ (E σ)) (I : Inv X pins σ H s) (r : Vals vs us)
    (h : ∀ x dx, H x = none → H dx = none → dx ≠ x → sp (.ref x :: vs) (upd (upd H dx (.own x)) x (.ins C dx [])) (fun v H2 => v = .non ∧ Q (.ref x) H2) (E σ)) :
    wpAny (model X.prog X.w) X.A (call (.ref C) us) (EP X pins σ Q) X.xe s := by
  have hq := h (s.heap.objs.size + 1) s.heap.objs.size (I.hok.fresh (Nat.le_succ _)) (I.hok.fresh (Nat.le_refl _)) (Nat.ne_of_lt (Nat.lt_succ_self _))
  have I2 := Inv.made (C := C) I
  have r2 : Vals (V.ref (s.heap.objs.size + 1) :: vs) (Value.ref (s.heap.objs.size + 1) :: us) := .cons rfl r
  have hl : (Value.ref (s.heap.objs.size + 1) :: us ++ []).length = ps.length := by
    rw [List.append_nil, ← r2.length]
    exact Fk.len _ _ _ _ hq
  have bb := hb _ (Value.ref (s.heap.objs.size + 1) :: us) I2.kIn hl
  rw [List.append_nil] at bb
  refine wpAny_call (make_map (f := f) I.kIn M.makes M.init (beq_iff_eq.mp M.fn) (codeAny_mono (Fk.run _ X.stack _ _ ⟨Value.ref (s.heap.objs.size + 1) :: us, []⟩ (Value.ref (s.heap.objs.size + 1) :: us) _ _ (E σ) (hr.make C us [])
    (I2.env0.make C us []) bb r2 hq) fun r s' hq' => ?_))
  cases r with
  | error e => exact hx pins _ _ e s' I2 hq'
  | ok fl =>
    cases fl with
    | ret u =>
      obtain ⟨v, H', I3, rv, ev, q3⟩ := I2.after hq'
      subst ev
      exact ⟨rv, ⟨V.ref (s.heap.objs.size + 1), H', I3, rfl, q3⟩⟩
    | next => exact False.elim hq'
    | brk => exact False.elim hq'
    | cont => exact False.elim hq'
theorem pe_makeE (M : Mk X.K C f) (Fk : FnOk X.prog X.w X.K X.mg X.base CX k f fd ps sp) (hr : Room (k + 1) X.A) (hg : Gl X x) (hm : X.mg x = some (.ref C)) (hb : Binds X.K fd ps []) (hx : ∀ σ, PassesAt CX X σ (E σ))
    (ha : PA X (e :: es) t) (hdb : (x == ("__debug__" : Str)) = false := by decide) (he : starEach (e :: es) X.env = (false, eval e X.env) :: starEach es X.env := by rfl) (hpl : (backTo pos (starEach es X.env)).any (·.1) = false := by rfl) :
    PE X (.Call (.Name x p) (e :: es) [] pos) (tMakeE C sp E t) := by
  refine ⟨fun pins s σ H Q I h => ?_⟩
  refine wpAny_Call_Name_kw (ld_glob I hg hm ?_ hdb)
  refine PySem.W.callWith_K (h₀ := X.base) I.ok.mod.kin M.kp (thn (ha.run pos pins s σ H _ I h) fun us s1 ⟨vs, H1, I1, r, q⟩ => ⟨I1.kIn, ?_⟩) he hpl
  exact run_makeE M Fk hr hb (hx σ) I1 r q
theorem sem_make {g : Γ} {kc : Nat} : ∀ σ H Q, tO g W (dMake kc n den ua) σ H Q → tMakeE (g.cls kc) (SpD g n den) (WE W) (tAA g W ua) σ H Q := fun σ H Q ⟨B, F, A, e, I, w⟩ => by
  refine runA (.refl B F) I w fun as e2 vs F2 H2 m2 s2 I2 r2 w2 => ?_
  intro x dx hx hdx hne
  have hx1 : upd H2 dx (.own x) x = none := by rw [upd_ne (Ne.symm hne)]; exact hx
  have al1 := All.newO (o := .own x) I2.f hdx
  have al2 := al1.trans (All.newO (o := .ins (g.cls kc) dx []) al1.fh hx1)
  have I3 := (I2.all al2).push (ct := .o kc []) (p := x) ⟨dx, [], upd_same, rfl, .nil⟩ (I2.b.free hx) (I2.f.free hx) (I2.apart_new hx)
  have hlen : e2.length = σ.length := I2.len
  refine sem_callN (P := fun s e' => s = .fz .non ∧ ∃ org ct, e'[e2.length]? = some (.own org ct) ∧ FinO g B F A σ Q (.own none ct) (e'.take e2.length)) (W := fun cls d _ H => W cls d σ H) I3 (ArgsR.s (i := e2.length) (by rw [hlen]; simp) r2.push) ?_ (fun _ _ _ h => h) fun s e' v F' H' hp m J rs ap => ?_
  · have w3 := w2.up (P' := fun s e' => FinO g B F A σ Q s e') m2 fun _ _ h => h
    revert w2
    generalize callN n den (.s e2.length :: as) (e2 ++ [.own none (.o kc [])]) = r
    intro w2
    cases r with
    | no => exact w2.elim
    | ex xx e' =>
      intro F' H' dx' m J xa
      exact w2 F' H' dx' (m2.trans m) (J.pop hlen.symm).1 xa
    | ok s e' =>
      cases s with
      | no => exact w2.elim
      | own og ct => exact w2.elim
      | fz d =>
        cases d with
        | non =>
          refine ⟨rfl, ?_⟩
          simp only at w2
          cases q : e'[e2.length]? with
          | none => rw [q] at w2; exact w2.elim
          | some t =>
            rw [q] at w2
            cases t with
            | no => exact w2.elim
            | fz d => exact w2.elim
            | own og ct => exact ⟨og, ct, rfl, w2⟩
        | _ => exact w2.elim
  · obtain ⟨rfl, org, ct, hq, fin⟩ := hp
    obtain ⟨v', ev, rv⟩ := rs
    cases ev
    cases rv
    refine ⟨rfl, ?_⟩
    obtain ⟨J1, J2⟩ := J.pop hlen.symm
    obtain ⟨cr, b1, f1, ap1⟩ := J2 org ct x hq rfl
    exact fin (.ref x) F' H' (m2.trans m) J1 ⟨x, rfl, (fun k h => by cases h), cr, b1, f1⟩ fun a ea _ => by cases ea; exact ap1
/-- C(e, ..) -/
theorem go_make {kc : Nat} (M : Mk X.K (c kc) f) (Fk : FnOk X.prog X.w X.K X.mg X.base (L2.CX X.prog X.w) k f fd ps (SpD ⟨X.K, c⟩ n den)) (hr : Room (k + 1) X.A) (hg : Gl X x) (hm : X.mg x = some (.ref (c kc))) (hb : Binds X.K fd ps []) (tk : Takes X W)
    (ha : GAA c X W (e :: es) ua) (hdb : (x == ("__debug__" : Str)) = false := by decide) (he : starEach (e :: es) X.env = (false, eval e X.env) :: starEach es X.env := by rfl) (hpl : (backTo pos (starEach es X.env)).any (·.1) = false := by rfl) :
    GO c X W (.Call (.Name x p) (e :: es) [] pos) (dMake kc n den ua) := PE.of (pe_makeE (E := WE W) M Fk hr hg hm hb (passAt tk) ha hdb he hpl) sem_make
end
end DV

set_option Elab.async false
set_option linter.all false
set_option autoImplicit false
set_option maxRecDepth 100000
set_option maxHeartbeats 2000000
/-! V9: calls by names. -/
namespace DV
open PySem PySem.Spec L2
open PyProof.Rows hiding St

/-- members by their places -/
def pick {α : Type} (pm : List Nat) (xs : List α) : List α := pm.filterMap fun i => xs[i]?
theorem pick_vals (pm : List Nat) {vs : List V} {us : List Value} (r : Vals vs us) : Vals (pick pm vs) (pick pm us) := by
  have key : ∀ {vs : List V} {us : List Value}, Vals vs us → ∀ i : Nat, (vs[i]? = none ∧ us[i]? = none) ∨ ∃ v u, vs[i]? = some v ∧ us[i]? = some u ∧ RelV v u := by
    intro vs us r
    induction r with
    | nil => intro i; left; exact ⟨by simp, by simp⟩
    | cons h t ih =>
      intro i
      cases i with
      | zero => right; exact ⟨_, _, rfl, rfl, h⟩
      | succ i =>
        rcases ih i with ⟨a, b⟩ | ⟨v, u, a, b, q⟩
        · left; exact ⟨by simpa using a, by simpa using b⟩
        · right; exact ⟨v, u, by simpa using a, by simpa using b, q⟩
  induction pm with
  | nil => exact .nil
  | cons i pm ih =>
    unfold pick at ih ⊢
    rcases key r i with ⟨a, b⟩ | ⟨v, u, a, b, q⟩
    · rw [List.filterMap_cons_none a, List.filterMap_cons_none b]; exact ih
    · rw [List.filterMap_cons_some a, List.filterMap_cons_some b]; exact .cons q ih
section
variable {g : Γ} {F : Hp} {σ : L2.St}
theorem ArgsR.app : ∀ {vs ws : List V} {as bs : List Arg}, ArgsR g F σ vs as → ArgsR g F σ ws bs → ArgsR g F σ (vs ++ ws) (as ++ bs)
  | _, _, _, _, .nil, q => q
  | _, _, _, _, .v h r, q => .v h (r.app q)
  | _, _, _, _, .s h r, q => .s h (r.app q)
theorem ArgsR.one {v : V} {a : Arg} {vs : List V} {as : List Arg} (h : ArgsR g F σ [v] [a]) (r : ArgsR g F σ vs as) : ArgsR g F σ (v :: vs) (a :: as) := h.app r
theorem ArgsR.at : ∀ {vs : List V} {as : List Arg}, ArgsR g F σ vs as → ∀ i : Nat, (vs[i]? = none ∧ as[i]? = none) ∨ ∃ v a, vs[i]? = some v ∧ as[i]? = some a ∧ ArgsR g F σ [v] [a]
  | _, _, .nil, i => .inl ⟨by simp, by simp⟩
  | _, _, .v h r, 0 => .inr ⟨_, _, rfl, rfl, .v h .nil⟩
  | _, _, .s h r, 0 => .inr ⟨_, _, rfl, rfl, .s h .nil⟩
  | _, _, .v h r, i + 1 => by
    rcases r.at i with ⟨a, b⟩ | ⟨v, u, a, b, q⟩
    · left; exact ⟨by simpa using a, by simpa using b⟩
    · right; exact ⟨v, u, by simpa using a, by simpa using b, q⟩
  | _, _, .s h r, i + 1 => by
    rcases r.at i with ⟨a, b⟩ | ⟨v, u, a, b, q⟩
    · left; exact ⟨by simpa using a, by simpa using b⟩
    · right; exact ⟨v, u, by simpa using a, by simpa using b, q⟩
theorem ArgsR.pick (pm : List Nat) {vs : List V} {as : List Arg} (r : ArgsR g F σ vs as) : ArgsR g F σ (DV.pick pm vs) (DV.pick pm as) := by
  induction pm with
  | nil => exact .nil
  | cons i pm ih =>
    unfold DV.pick at ih ⊢
    rcases r.at i with ⟨a, b⟩ | ⟨v, u, a, b, q⟩
    · rw [List.filterMap_cons_none a, List.filterMap_cons_none b]; exact ih
    · rw [List.filterMap_cons_some a, List.filterMap_cons_some b]; exact q.one ih
end
theorem vals_app : ∀ {vs ws : List V} {us zs : List Value}, Vals vs us → Vals ws zs → Vals (vs ++ ws) (us ++ zs)
  | _, _, _, _, .nil, q => q
  | _, _, _, _, .cons h r, q => .cons h (vals_app r q)
theorem kb_mk {K : PySem.W.Frag} {x qual : Str} {st : Stmt} {f : Addr} {fd : FuncData} {ps : List Str} (Fn : Fun K x qual st f fd) (n : Nat) (ks : List Str) (pm : List Nat)
    (h : ∀ (kV doc pm' : Value) (an : Option Addr) (cdv ct : Value) (us ws : List Value), us.length = n → ws.length = ks.length → bindArgs (PySem.W.fnOf x qual (defArgs st) (defBody st) (defScope st) .none kV doc pm' an cdv ct) ⟨us, ks.zip ws⟩ = pure (ps.zip (pick pm (us ++ ws)))) :
    KBn K fd ps n ks (fun us ws => pick pm (us ++ ws)) (fun vs zs => pick pm (vs ++ zs)) := by
  obtain ⟨oc, od, kV, doc, pm', an, cdv, ct, osl, rfl, lk, hcd⟩ := Fn.ex
  exact ⟨fun s us ws _ l1 l2 => .of_eq (h kV doc pm' an cdv ct us ws l1 l2), fun r1 r2 => pick_vals pm (vals_app r1 r2)⟩

abbrev GK (c : Nat → Addr) (X : Cx) (W : WX) (ks : List Keyword) (f : Env → Res (List Arg)) : Prop := PK X ks (tAA ⟨X.K, c⟩ W f)
section
variable {c : Nat → Addr} {X : Cx} {W : WX} {k n : Nat} {f : Addr} {fd : FuncData} {ps ks : List Str} {den : Env → Res S} {x : Str} {p pos kpos : Pos} {e : Expr} {es : List Expr} {kws : List Keyword} {ua uk : Env → Res (List Arg)} {fa : Env → Res D} {nm : Option Str}
theorem gk_nil : GK c X W [] aNil := ⟨fun pos pins s σ H Q I q => pk_nil.run pos pins s σ H Q I (sem_nil q)⟩
theorem gk_v (ha : GE c X W e fa) (hr : GK c X W kws uk) : GK c X W (⟨nm, e, kpos⟩ :: kws) (aV fa uk) := ⟨fun pos pins s σ H Q J ⟨B, F, A, e, I, w⟩ => (pk_cons ha hr).run pos pins s σ H Q J (by
  refine runD (.refl B F) I w fun x e1 v F1 H1 m1 _ I1 r1 w1 => ?_
  refine runA m1 I1 w1 fun xs e2 vs F2 H2 m2 s2 I2 r2 w2 => ?_
  exact w2 (v :: vs) F2 H2 m2 I2 (.v (r1.mono s2) r2))⟩
theorem gk_s (i : Nat) (ha : PE X e (tVar i)) (hr : GK c X W kws uk) : GK c X W (⟨nm, e, kpos⟩ :: kws) (aS i uk) := ⟨fun pos pins s σ H Q J ⟨B, F, A, e, I, w⟩ => (pk_cons ha hr).run pos pins s σ H Q J (by
  obtain ⟨x0, hx0, w0⟩ := (Want.bind w).lift
  obtain ⟨v, hv, _⟩ := I.view hx0
  refine ⟨v, hv, runA (.refl B F) I w0 fun xs e2 vs F2 H2 m2 s2 I2 r2 w2 => ?_⟩
  exact w2 (v :: vs) F2 H2 m2 I2 (.s hv r2))⟩
/-- f(.., k = ..) -/
def dCallK (m : Nat) (pm : List Nat) (n : Nat) (den : Env → Res S) (ua uk : Env → Res (List Arg)) : Env → Res S := fun e => (ua e).bind fun as e => (uk e).bind fun zs e => if as.length = m ∧ as.length + zs.length = pm.length then callN n den (pick pm (as ++ zs)) e else .no
def tCallNE (n m : Nat) (sp : Sp) (gV : List V → List V → List V) (E : L2.St → XK) (t tk : TA) : TE := fun σ H Q => t σ H fun vs H1 => tk σ H1 fun zs H2 => vs.length = n ∧ zs.length = m ∧ sp (gV vs zs) H2 Q (E σ)
variable {CX : CXT} {sp : Sp} {E : L2.St → XK} {g : List Value → List Value → List Value} {gV : List V → List V → List V} {t t2 : TA} {m : Nat}
theorem run_fnNE {pins : List (Addr × Obj)} {σ : L2.St} {H : Hp} {s : Shared} {Q : VK} {us ws : List Value} {vs zs : List V} (Fk : FnOk X.prog X.w X.K X.mg X.base CX k f fd ps sp) (hr : Room k X.A) (hb : KBn X.K fd ps m ks g gV) (hx : PassesAt CX X σ (E σ))
    (I : Inv X pins σ H s) (r : Vals vs us) (rz : Vals zs ws) (l1 : vs.length = m) (l2 : zs.length = ks.length) (h : sp (gV vs zs) H Q (E σ)) : wpAny (model X.prog X.w) X.A (call (.ref f) us (ks.zip ws)) (EP X pins σ Q) X.xe s := by
  have r2 := hb.rel r rz
  refine wpAny_call (codeAny_mono (Fk.run X.A X.stack s H ⟨us, ks.zip ws⟩ (g us ws) (gV vs zs) Q (E σ) hr I.env0 (hb.to s us ws I.kIn (r.length.symm.trans l1) (rz.length.symm.trans l2)) r2 h) fun r s' hq => ?_)
  cases r with
  | error e => exact hx pins H s e s' I hq
  | ok fl =>
    cases fl with
    | ret u => exact I.after hq
    | next => exact False.elim hq
    | brk => exact False.elim hq
    | cont => exact False.elim hq
theorem pe_callKE (Fk : FnOk X.prog X.w X.K X.mg X.base CX k f fd ps sp) (hr : Room k X.A) (hg : Gl X x) (hm : X.mg x = some (.ref f)) (hk : PySem.W.keepIn X.K (.ref f) = true) (hb : KBn X.K fd ps m ks g gV) (hx : ∀ σ, PassesAt CX X σ (E σ))
    (ha : PA X (e :: es) t) (hkw : PK X kws t2) (hall : (backToKw pos (keywordEach kws X.env)).all (·.1.isSome) = true := by rfl) (hks : (backToKw pos (keywordEach kws X.env)).filterMap (·.1) = ks := by rfl)
    (hdb : (x == ("__debug__" : Str)) = false := by decide) (he : starEach (e :: es) X.env = (false, eval e X.env) :: starEach es X.env := by rfl)
    (hpl : ((backTo pos (starEach (e :: es) X.env)).any (·.1) || (backToKw pos (keywordEach kws X.env)).any (·.1.isNone)) = false := by rfl) :
    PE X (.Call (.Name x p) (e :: es) kws pos) (tCallNE m ks.length sp gV E t t2) := by
  refine ⟨fun pins s σ H Q I h => ?_⟩
  refine wpAny_Call_Name_kw (ld_glob I hg hm ?_ hdb)
  refine PySem.W.callWith_KW (h₀ := X.base) I.ok.mod.kin hk hall (thn (ha.run pos pins s σ H _ I h) fun us s1 ⟨vs, H1, I1, r, q⟩ => ?_) hpl he
  refine thn (hkw.run pos pins s1 σ H1 _ I1 q) fun ws s2 ⟨zs, H2, I2, rz, l1, l2, q2⟩ => ⟨I2.kIn, ?_⟩
  rw [hks]
  exact run_fnNE Fk hr hb (hx σ) I2 r rz l1 l2 q2
theorem pe_callKE0 (Fk : FnOk X.prog X.w X.K X.mg X.base CX k f fd ps sp) (hr : Room k X.A) (hg : Gl X x) (hm : X.mg x = some (.ref f)) (hk : PySem.W.keepIn X.K (.ref f) = true) (hb : KBn X.K fd ps 0 ks g gV) (hx : ∀ σ, PassesAt CX X σ (E σ))
    (hkw : PK X kws t2) (hall : (backToKw pos (keywordEach kws X.env)).all (·.1.isSome) = true := by rfl) (hks : (backToKw pos (keywordEach kws X.env)).filterMap (·.1) = ks := by rfl)
    (hdb : (x == ("__debug__" : Str)) = false := by decide)
    (hpl : ((backTo pos (starEach [] X.env)).any (·.1) || (backToKw pos (keywordEach kws X.env)).any (·.1.isNone)) = false := by rfl) :
    PE X (.Call (.Name x p) [] kws pos) (tCallNE 0 ks.length sp gV E tNil t2) := by
  refine ⟨fun pins s σ H Q I h => ?_⟩
  refine wpAny_Call_Name_kw (ld_glob I hg hm ?_ hdb)
  refine PySem.W.callWith_KW0 (h₀ := X.base) I.ok.mod.kin hk hall ?_ hpl
  refine thn (hkw.run pos pins s σ H _ I h) fun ws s2 ⟨zs, H2, I2, rz, l1, l2, q2⟩ => ⟨I2.kIn, ?_⟩
  rw [hks]
  exact run_fnNE (us := []) (vs := []) Fk hr hb (hx σ) I2 .nil rz l1 l2 q2
theorem sem_callK {g : Γ} {pm : List Nat} {q : Nat} (hq : m + q = pm.length) : ∀ σ H Q, tO g W (dCallK m pm n den ua uk) σ H Q → tCallNE m q (SpD g n den) (fun vs zs => pick pm (vs ++ zs)) (WE W) (tAA g W ua) (tAA g W uk) σ H Q := fun σ H Q ⟨B, F, A, e, I, w⟩ => by
  refine runA (.refl B F) I w fun as e2 vs F2 H2 m2 s2 I2 r2 w2 => ?_
  refine runA m2 I2 w2 fun zs e3 ws F3 H3 m3 s3 I3 r3 w3 => ?_
  split at w3
  · rename_i hl
    refine ⟨r2.length.trans hl.1, by have := r3.length; omega, ?_⟩
    exact sem_callN I3 (((r2.mono s3).app r3).pick pm) (w3.up m3 fun _ _ h => h.up m3) (fun _ _ _ h => h) fun s e' v F' H' hp m J rs ap => hp v F' H' m J rs ap
  · exact w3.elim
theorem go_callK {pm : List Nat} (Fk : FnOk X.prog X.w X.K X.mg X.base (L2.CX X.prog X.w) k f fd ps (SpD ⟨X.K, c⟩ n den)) (hr : Room k X.A) (hg : Gl X x) (hm : X.mg x = some (.ref f)) (hk : PySem.W.keepIn X.K (.ref f) = true) (hb : KBn X.K fd ps m ks (fun us ws => pick pm (us ++ ws)) (fun vs zs => pick pm (vs ++ zs))) (tk : Takes X W)
    (ha : GAA c X W (e :: es) ua) (hkw : GK c X W kws uk) (hq : m + ks.length = pm.length := by rfl) (hall : (backToKw pos (keywordEach kws X.env)).all (·.1.isSome) = true := by rfl) (hks : (backToKw pos (keywordEach kws X.env)).filterMap (·.1) = ks := by rfl)
    (hdb : (x == ("__debug__" : Str)) = false := by decide) (he : starEach (e :: es) X.env = (false, eval e X.env) :: starEach es X.env := by rfl)
    (hpl : ((backTo pos (starEach (e :: es) X.env)).any (·.1) || (backToKw pos (keywordEach kws X.env)).any (·.1.isNone)) = false := by rfl) :
    GO c X W (.Call (.Name x p) (e :: es) kws pos) (dCallK m pm n den ua uk) := PE.of (pe_callKE (E := WE W) Fk hr hg hm hk hb (passAt tk) ha hkw hall hks hdb he hpl) (sem_callK hq)
theorem go_callK0 {pm : List Nat} (Fk : FnOk X.prog X.w X.K X.mg X.base (L2.CX X.prog X.w) k f fd ps (SpD ⟨X.K, c⟩ n den)) (hr : Room k X.A) (hg : Gl X x) (hm : X.mg x = some (.ref f)) (hk : PySem.W.keepIn X.K (.ref f) = true) (hb : KBn X.K fd ps 0 ks (fun us ws => pick pm (us ++ ws)) (fun vs zs => pick pm (vs ++ zs))) (tk : Takes X W)
    (hkw : GK c X W kws uk) (hq : 0 + ks.length = pm.length := by rfl) (hall : (backToKw pos (keywordEach kws X.env)).all (·.1.isSome) = true := by rfl) (hks : (backToKw pos (keywordEach kws X.env)).filterMap (·.1) = ks := by rfl)
    (hdb : (x == ("__debug__" : Str)) = false := by decide)
    (hpl : ((backTo pos (starEach [] X.env)).any (·.1) || (backToKw pos (keywordEach kws X.env)).any (·.1.isNone)) = false := by rfl) :
    GO c X W (.Call (.Name x p) [] kws pos) (dCallK 0 pm n den aNil uk) := PE.of (pe_callKE0 (E := WE W) Fk hr hg hm hk hb (passAt tk) hkw hall hks hdb hpl) fun σ H Q q => sem_nil (sem_callK (g := ⟨X.K, c⟩) hq σ H Q q)
end
end DV

set_option Elab.async false
set_option linter.all false
set_option autoImplicit false
set_option maxRecDepth 100000
set_option maxHeartbeats 2000000
/-! V10: slices, attributes, methods that change a list. -/
namespace DV
open PySem PySem.Spec L2
open PyProof.Rows hiding St

/-! ### slices -/
def cutG {α : Type} (xs : List α) (lo hi : Option Int) : List α := (xs.drop (HT.sIx xs.length 0 lo)).take (HT.sIx xs.length xs.length hi - HT.sIx xs.length 0 lo)
def slD (d : D) (lo hi : Option Int) : Option D := match d with
  | .str x => if x.length ≤ 1000000 then some (.str (cutS x lo hi)) else none
  | .lst xs => some (.lst (cutG xs lo hi))
  | .scr ns => some (.lst (cutG (ns.map D.int) lo hi))
  | .tup xs => if HT.sIx xs.length 0 lo = 0 ∧ HT.sIx xs.length xs.length hi = xs.length then none else some (.tup (cutG xs lo hi))
  | _ => none
theorem Reps.cut {g : Γ} {F : Hp} {vs : List V} {ds : List D} (r : Reps g F vs ds) (lo hi : Option Int) : Reps g F (cutV vs lo hi) (cutG ds lo hi) := by
  unfold cutV cutG
  rw [r.length]
  exact (r.drop _).take _
theorem reps_intsV {g : Γ} {F : Hp} : ∀ ns : List Int, Reps g F (ns.map V.int) (ns.map D.int)
  | [] => .nil
  | n :: ns => .cons (.int n) (reps_intsV ns)
def rSlA (K : PySem.W.Frag) : V → Option Int → Option Int → Hp → VK → Prop := fun x lo hi H Q => rSlL K x lo hi H Q ∨ rSlT K x lo hi H Q ∨ rSlS x lo hi H Q
theorem sl_all {X : Cx} : SlR X (rSlA X.K) := sl_list.or (sl_tup.or sl_str)
theorem sl_sound {g : Γ} {F H : Hp} {v : V} {d d' : D} {lo hi : Option Int} {Q : VK} (s : Same F H) (vw : View g F H v d) (e : slD d lo hi = some d') (q : Hands g F H d' Q) : rSlA g.K v lo hi H Q := by
  cases vw with
  | str x =>
    simp only [slD] at e
    split at e
    · rename_i hl
      cases e
      exact .inr (.inr ⟨x, rfl, by rw [sizeLine_eq]; omega, q.here s (.str _)⟩)
    · cases e
  | lst h r =>
    cases e
    refine .inl ⟨_, _, rfl, .of h, fun p hp => ?_⟩
    have al := All.new (o := .lst (cutV ‹List V› lo hi)) s hp
    exact q _ _ _ al (.lst upd_same ((r.cut lo hi).mono al.f))
  | scr h =>
    cases e
    refine .inl ⟨_, _, rfl, h, fun p hp => ?_⟩
    have al := All.new (o := .lst (cutV (‹List Int›.map V.int) lo hi)) s hp
    exact q _ _ _ al (.lst upd_same (((reps_intsV _).cut lo hi).mono al.f))
  | tup h r =>
    simp only [slD] at e
    split at e
    · cases e
    · rename_i hn
      cases e
      refine .inr (.inl ⟨_, _, rfl, .inl (.inl (s _ _ h)), by rw [r.length]; exact hn, fun p hp => ?_⟩)
      have al := All.new (o := .tup (cutV ‹List V› lo hi)) s hp
      exact q _ _ _ al (.tup upd_same ((r.cut lo hi).mono al.f))
  | _ => cases e
def tDO (g : Γ) (W : WX) (f : Env → Res (Option Int)) : TO := fun σ H Q => ∃ B F A env, SI g B F A H σ env ∧ Want g W B F A σ (fun o e => ∀ F' H', Ext B F F' → SI g B F' A H' σ e → Q o H') (f env)
abbrev GP (c : Nat → Addr) (X : Cx) (W : WX) (e : Option Expr) (f : Env → Res (Option Int)) : Prop := PO X e (tDO ⟨X.K, c⟩ W f)
def pNo : Env → Res (Option Int) := fun e => .ok none e
def pSome (f : Env → Res D) : Env → Res (Option Int) := fun e => (f e).bind fun d e => lift ((intD d).map some) e
def dSl (fa : Env → Res D) (fl fh : Env → Res (Option Int)) : Env → Res D := fun e => (fa e).bind fun x e => (fl e).bind fun lo e => (fh e).bind fun hi e => lift (slD x.un lo hi) e
def dSlS (i : Nat) (fl fh : Env → Res (Option Int)) : Env → Res D := fun e => (lift (view e i) e).bind fun _ e => (fl e).bind fun lo e => (fh e).bind fun hi e => lift ((view e i).bind fun x => slD x lo hi) e
section
variable {c : Nat → Addr} {X : Cx} {W : WX} {a : Expr} {lo hi : Option Expr} {fa : Env → Res D} {fl fh : Env → Res (Option Int)} {pos p2 : Pos}
theorem gp_no : GP c X W none pNo := ⟨fun pins s σ H Q I ⟨B, F, A, e, J, w⟩ => po_none.run pins s σ H Q I (w F H (.refl B F) J)⟩
theorem gp_some {x : Expr} (h : GE c X W x fa) : GP c X W (some x) (pSome fa) := ⟨fun pins s σ H Q I ⟨B, F, A, e, J, w⟩ => (po_some h).run pins s σ H Q I (by
  refine runD (.refl B F) J w fun x e1 v F1 H1 m1 _ I1 r1 w1 => ?_
  obtain ⟨o, ho, w2⟩ := w1.lift
  cases q : intD x with
  | none => rw [q] at ho; cases ho
  | some i =>
    rw [q] at ho; cases ho
    exact ⟨i, int_sound r1 q, w2 F1 H1 m1 I1⟩)⟩
theorem runP {g : Γ} {W : WX} {B F F1 : Hp} {A : Nat → V} {H1 : Hp} {σ : L2.St} {e1 : Env} {β : Type} {P : β → Env → Prop} {fp : Env → Res (Option Int)} {k : Option Int → Env → Res β} {R : Option Int → Hp → Prop} (m : Ext B F F1) (I : SI g B F1 A H1 σ e1) (w : Want g W B F A σ P ((fp e1).bind k))
    (h : ∀ d e F2 H2, Ext B F F2 → Same F1 F2 → SI g B F2 A H2 σ e → Want g W B F A σ P (k d e) → R d H2) : tDO g W fp σ H1 R :=
  ⟨B, F1, A, e1, I, w.bind.up m fun d e wk F2 H2 m2 I2 => h d e F2 H2 (m.trans m2) m2.1 I2 wk⟩
theorem ge_sl (ha : GE c X W a fa) (hl : GP c X W lo fl) (hh : GP c X W hi fh) : GE c X W (.Subscript a (.Slice lo hi none p2) pos) (dSl fa fl fh) := PE.of (pe_slice sl_all ha hl hh) fun σ H Q ⟨B, F, A, e, I, w⟩ => by
  refine runD (.refl B F) I w fun x e1 v F1 H1 m1 _ I1 r1 w1 => ?_
  refine runP m1 I1 w1 fun l e2 F2 H2 m2 s2 I2 w2 => ?_
  refine runP m2 I2 w2 fun u e3 F3 H3 m3 s3 I3 w3 => ?_
  obtain ⟨d, hd, w4⟩ := w3.lift
  exact sl_sound (g := ⟨X.K, c⟩) I3.f (((r1.mono s2).mono s3).view I3.f) hd fun z F4 H4 al r4 => w4 z F4 H4 (m3.trans (al.ext I3.b)) (I3.all al) r4
theorem ge_slS (i : Nat) (ha : PE X a (tVar i)) (hl : GP c X W lo fl) (hh : GP c X W hi fh) : GE c X W (.Subscript a (.Slice lo hi none p2) pos) (dSlS i fl fh) := PE.of (pe_slice sl_all ha hl hh) fun σ H Q ⟨B, F, A, e, I, w⟩ => by
  obtain ⟨x0, hx0, w0⟩ := (Want.bind w).lift
  obtain ⟨v, hv, _⟩ := I.view hx0
  refine ⟨v, hv, ?_⟩
  refine runP (.refl B F) I w0 fun l e2 F2 H2 m2 s2 I2 w2 => ?_
  refine runP m2 I2 w2 fun u e3 F3 H3 m3 s3 I3 w3 => ?_
  obtain ⟨d, hd, w4⟩ := w3.lift
  obtain ⟨x, hx, hd⟩ := Option.bind_eq_some_iff.mp hd
  obtain ⟨v', ev, vw⟩ := I3.view hx
  have ee : v = v' := by rw [hv] at ev; cases ev; rfl
  subst ee
  exact sl_sound (g := ⟨X.K, c⟩) I3.f vw hd fun z F4 H4 al r4 => w4 z F4 H4 (m3.trans (al.ext I3.b)) (I3.all al) r4
end

/-! ### attributes -/
def fldD (c : Nat) (f : Str) (d : D) : Option D := match d with
  | .obj k fs => if k = c then fs.lookup f else none
  | _ => none
theorem KR.lookup {g : Γ} {F : Hp} (f : Str) {d : D} : ∀ {fs : List (Str × V)} {fds : List (Str × D)}, KR g F fs fds → fds.lookup f = some d → ∃ v, fs.lookup f = some v ∧ Rep g F v d := fun {fs fds} h => by
  refine KR.ind (P := fun fs fds => fds.lookup f = some d → ∃ v, fs.lookup f = some v ∧ Rep g F v d) (fun z => by cases z) (fun p q ps qs e r _ ih z => ?_) h
  rw [List.lookup_cons] at z ⊢
  rw [e]
  cases hq : f == q.1 with
  | true => simp only [hq] at z ⊢; cases z; exact ⟨_, rfl, r⟩
  | false => simp only [hq] at z ⊢; exact ih z
def dFld (c : Nat) (f : Str) (fa : Env → Res D) : Env → Res D := fun e => (fa e).bind fun x e => lift (fldD c f x.un) e
def dFldS (c : Nat) (f : Str) (i : Nat) : Env → Res D := fun e => lift ((view e i).bind (fldD c f)) e
theorem fld_sound {g : Γ} {F H : Hp} {v : V} {d d' : D} {k : Nat} {f : Str} (vw : View g F H v d) (e : fldD k f d = some d') : ∃ a dx fs u, v = .ref a ∧ H a = some (.ins (g.cls k) dx fs) ∧ fs.lookup f = some u ∧ Rep g F u d' := by
  cases vw with
  | obj h r =>
    simp only [fldD] at e
    split at e
    · rename_i hk
      subst hk
      obtain ⟨u, e1, r1⟩ := r.lookup f e
      exact ⟨_, _, _, u, rfl, h, e1, r1⟩
    · cases e
  | _ => cases e
section
variable {c : Nat → Addr} {X : Cx} {W : WX} {a : Expr} {fa : Env → Res D} {pos : Pos} {f : Str} {k : Nat}
theorem ge_fld (cl : Cls X.K (c k)) (n : NoAttr X.K (c k) f) (ha : GE c X W a fa) (hb : attributeBase a f X.env (eval a X.env) = eval a X.env := by rfl) : GE c X W (.Attribute a f pos) (dFld k f fa) := PE.of (pe_fld ha hb) fun σ H Q ⟨B, F, A, e, I, w⟩ => by
  refine runD (.refl B F) I w fun x e1 v F1 H1 m1 _ I1 r1 w1 => ?_
  obtain ⟨d, hd, w2⟩ := w1.lift
  obtain ⟨p, dx, fs, u, ev, hp, hl, ru⟩ := fld_sound (r1.view I1.f) hd
  exact ⟨p, _, dx, fs, u, ev, hp, cl, n, hl, w2 u F1 H1 m1 I1 ru⟩
theorem ge_fldS (i : Nat) (cl : Cls X.K (c k)) (n : NoAttr X.K (c k) f) (ha : PE X a (tVar i)) (hb : attributeBase a f X.env (eval a X.env) = eval a X.env := by rfl) : GE c X W (.Attribute a f pos) (dFldS k f i) := PE.of (pe_fld ha hb) fun σ H Q ⟨B, F, A, e, I, w⟩ => by
  obtain ⟨d, hd, w2⟩ := Want.lift w
  obtain ⟨x, hx, hd⟩ := Option.bind_eq_some_iff.mp hd
  obtain ⟨v, hv, vw⟩ := I.view hx
  obtain ⟨p, dx, fs, u, ev, hp, hl, ru⟩ := fld_sound vw hd
  exact ⟨v, hv, p, _, dx, fs, u, ev, hp, cl, n, hl, w2 u F H (.refl B F) I ru⟩
end

/-! ### methods that change a list -/
def SMut (g : Γ) (r : V → List V → Hp → VK → Prop) (o : List D → List D → Option (D × List D)) : Prop :=
  ∀ F H a vs ds xs as d ds' Q, Same F H → H a = some (.lst vs) → Reps g F vs ds → Reps g F xs as → o ds as = some (d, ds') → (∀ v vs', Rep g F v d → Reps g F vs' ds' → Q v (upd H a (.lst vs'))) → r (.ref a) xs H Q
def ownL (e : Env) (i : Nat) : Option (Option Nat × List D) := match e[i]? with
  | some (.own og (.l ds)) => some (og, ds)
  | _ => none
theorem ownL_eq {e : Env} {i : Nat} {og : Option Nat} {ds : List D} (h : ownL e i = some (og, ds)) : e[i]? = some (.own og (.l ds)) := by
  unfold ownL at h
  split at h
  · cases h; assumption
  · cases h
def dMut (o : List D → List D → Option (D × List D)) (i : Nat) (fl : Env → Res (List D)) : Env → Res D := fun e => (lift (ownL e i) e).bind fun _ e => (fl e).bind fun as e => (lift (ownL e i) e).bind fun p e => (lift (o p.2 as) e).bind fun r e => .ok r.1 (e.set i (.own p.1 (.l r.2)))
section
variable {g : Γ} {B F : Hp} {A : Nat → V} {H : Hp} {σ : L2.St} {e : Env}
theorem SI.ownL (I : SI g B F A H σ e) {i : Nat} {og : Option Nat} {ds : List D} (h : ownL e i = some (og, ds)) : ∃ a vs, σ[i]? = some (some (.ref a)) ∧ H a = some (.lst vs) ∧ Reps g F vs ds ∧
    ∀ vs' ds', Reps g F vs' ds' → SI g B F A (upd H a (.lst vs')) σ (e.set i (.own og (.l ds'))) := by
  have q := ownL_eq h
  obtain ⟨a, ea, _, ⟨vs, hv, rv⟩, _⟩ := I.own q
  exact ⟨a, vs, ea, hv, rv, fun vs' ds' r' => I.write q ea ⟨vs', upd_same, r'⟩⟩
end
theorem sem_mut {g : Γ} {W : WX} {r : V → List V → Hp → VK → Prop} {o : List D → List D → Option (D × List D)} (hs : SMut g r o) {i : Nat} {fl : Env → Res (List D)} : ∀ σ H Q, tD g W (dMut o i fl) σ H Q → tBM g.K "list" r (tVar i) (tDA g W fl) σ H Q := fun σ H Q ⟨B, F, A, e, I, w⟩ => by
  obtain ⟨p0, hp0, w0⟩ := (Want.bind w).lift
  obtain ⟨a, vs, ea, hv, rv, _⟩ := I.ownL hp0
  refine ⟨_, ea, .inl ⟨rfl, vs, .of hv⟩, ?_⟩
  refine runL (.refl B F) I w0 fun as e2 xs F2 H2 m2 s2 I2 r2 w2 => ?_
  obtain ⟨⟨og, ds⟩, hp, w3⟩ := w2.bind.lift
  obtain ⟨⟨d, ds'⟩, hd, w4⟩ := w3.bind.lift
  obtain ⟨a', vs', ea', hv', rv', wr⟩ := I2.ownL hp
  rw [ea] at ea'
  cases ea'
  exact hs F2 H2 a vs' ds xs as d ds' Q I2.f hv' rv' r2 hd fun v vs2 rv2 rs2 => w4 v F2 _ m2 (wr vs2 ds' rs2) rv2
theorem sem_mut0 {g : Γ} {W : WX} {r : V → List V → Hp → VK → Prop} {o : List D → List D → Option (D × List D)} (hs : SMut g r o) {i : Nat} : ∀ σ H Q, tD g W (dMut o i dNil) σ H Q → tBM0 g.K "list" r (tVar i) σ H Q := fun σ H Q ⟨B, F, A, e, I, w⟩ => by
  obtain ⟨p0, hp0, w0⟩ := (Want.bind w).lift
  obtain ⟨a, vs, ea, hv, rv, _⟩ := I.ownL hp0
  refine ⟨_, ea, .inl ⟨rfl, vs, .of hv⟩, ?_⟩
  have w2 : Want g W B F A σ (FinD g B F A σ Q) ((lift (ownL e i) e).bind fun p e => (lift (o p.2 []) e).bind fun r e => .ok r.1 (e.set i (.own p.1 (.l r.2)))) := w0
  obtain ⟨⟨og, ds⟩, hp, w3⟩ := w2.bind.lift
  obtain ⟨⟨d, ds'⟩, hd, w4⟩ := w3.bind.lift
  obtain ⟨a', vs', ea', hv', rv', wr⟩ := I.ownL hp
  rw [ea] at ea'
  cases ea'
  exact hs F H a vs' ds [] [] d ds' Q I.f hv' rv' .nil hd fun v vs2 rv2 rs2 => w4 v F _ (.refl B F) (wr vs2 ds' rs2) rv2
def mApp (ds as : List D) : Option (D × List D) := match as with
  | [y] => if ds.length < 1000000 then some (.non, ds ++ [y]) else none
  | _ => none
def mExt (ds as : List D) : Option (D × List D) := match as with
  | [y] => match y.un with
    | .lst zs => if ds.length + zs.length ≤ 1000000 then some (.non, ds ++ zs) else none
    | _ => none
  | _ => none
def mPop (ds as : List D) : Option (D × List D) := match as with
  | [] => (ds[ds.length - 1]?).map fun y => (y, ds.dropLast)
  | _ => none
def mPopAt (ds as : List D) : Option (D × List D) := match as with
  | [y] => match intD y with
    | some i => if -(2 ^ 63) ≤ i ∧ i < 2 ^ 63 then match seqIndex? i ds.length with
        | some k => (ds[k]?).map fun y => (y, ds.eraseIdx k)
        | none => none
      else none
    | none => none
  | _ => none
def mRev (ds as : List D) : Option (D × List D) := match as with
  | [] => some (.non, ds.reverse)
  | _ => none
def mIns (ds as : List D) : Option (D × List D) := match as with
  | [y, z] => match intD y with
    | some i => if 0 ≤ i ∧ i < 2 ^ 63 ∧ ds.length < 1000000 then some (.non, ds.take i.toNat ++ [z] ++ ds.drop i.toNat) else none
    | none => none
  | _ => none
section
variable {g : Γ}
theorem Reps.dropLast {F : Hp} : ∀ {vs : List V} {ds : List D}, Reps g F vs ds → Reps g F vs.dropLast ds.dropLast
  | _, _, .nil => .nil
  | _, _, .cons h .nil => .nil
  | _, _, .cons h (.cons h' r) => .cons h (Reps.dropLast (.cons h' r))
theorem mu_app : SMut g rAppend mApp := fun F H a vs ds xs as d ds' Q s hv rv rx e q => by
  unfold mApp at e
  split at e
  · split at e
    · rename_i hl
      cases e
      cases rx with
      | cons ry rn =>
        cases rn
        exact ⟨a, vs, _, rfl, rfl, hv, by rw [rv.length, sizeLine_eq]; omega, q _ _ .non (rv.app (.one ry))⟩
    · cases e
  · cases e
theorem mu_ext : SMut g rExtend mExt := fun F H a vs ds xs as d ds' Q s hv rv rx e q => by
  unfold mExt at e
  split at e
  · cases rx with
    | cons ry rn =>
      cases rn
      have r' := ry.un
      split at e
      · rename_i zs hz
        rw [hz] at r'
        split at e
        · rename_i hl
          cases e
          cases r' with
          | lst hb rb => exact ⟨a, _, vs, _, rfl, rfl, hv, s _ _ hb, by rw [rv.length, rb.length, sizeLine_eq]; omega, q _ _ .non (rv.app rb)⟩
        · cases e
      · cases e
  · cases e
theorem mu_pop : SMut g rPop mPop := fun F H a vs ds xs as d ds' Q s hv rv rx e q => by
  unfold mPop at e
  split at e
  · obtain ⟨y, hy, e⟩ := Option.map_eq_some_iff.mp e
    cases e
    cases rx
    obtain ⟨v, e1, r1⟩ := rv.get hy
    exact ⟨a, vs, v, rfl, rfl, hv, by rw [rv.length]; exact e1, q v _ r1 rv.dropLast⟩
  · cases e
theorem mu_popAt : SMut g rPopAt mPopAt := fun F H a vs ds xs as d ds' Q s hv rv rx e q => by
  unfold mPopAt at e
  split at e
  · cases rx with
    | cons ry rn =>
      cases rn
      split at e
      · rename_i i hi
        split at e
        · rename_i hb
          split at e
          · rename_i k hk
            obtain ⟨y, hy, e⟩ := Option.map_eq_some_iff.mp e
            cases e
            obtain ⟨v, e1, r1⟩ := rv.get hy
            exact ⟨a, vs, i, k, v, rfl, by rw [int_sound ry hi], hv, hb.1, hb.2, by rw [rv.length]; exact hk, e1, q v _ r1 (rv.erase k)⟩
          · cases e
        · cases e
      · cases e
  · cases e
theorem mu_rev : SMut g rReverse mRev := fun F H a vs ds xs as d ds' Q s hv rv rx e q => by
  unfold mRev at e
  split at e
  · cases e
    cases rx
    exact ⟨a, vs, rfl, rfl, hv, q _ _ .non rv.reverse⟩
  · cases e
def rInsert : V → List V → Hp → VK → Prop := fun x vs H Q => ∃ (l : Addr) (xs : List V) (i : Int) (y : V), x = .ref l ∧ vs = [.int i, y] ∧ H l = some (.lst xs) ∧ xs.length < sizeLine ∧ 0 ≤ i ∧ i < 2 ^ 63 ∧
    Q .non (upd H l (.lst (xs.take i.toNat ++ [y] ++ xs.drop i.toNat)))
theorem mu_ins : SMut g rInsert mIns := fun F H a vs ds xs as d ds' Q s hv rv rx e q => by
  unfold mIns at e
  split at e
  · cases rx with
    | cons ry rn =>
      cases rn with
      | cons rz rn =>
        cases rn
        split at e
        · rename_i i hi
          split at e
          · rename_i hb
            cases e
            exact ⟨a, vs, i, _, rfl, by rw [int_sound ry hi], hv, by rw [rv.length, sizeLine_eq]; omega, hb.1, hb.2.1, q _ _ .non (((rv.take _).app (.one rz)).app (rv.drop _))⟩
          · cases e
        · cases e
  · cases e
end
section
variable {c : Nat → Addr} {X : Cx} {W : WX} {o e : Expr} {es : List Expr} {fl : Env → Res (List D)} {apos cpos : Pos} {name : Str} {id : String} {r : V → List V → Hp → VK → Prop} {f : List D → List D → Option (D × List D)}
theorem ge_mut (i : Nat) (slot : Slot "list" name id) (hty : typeOf (.builtin id) = pure (.type "method_descriptor")) (hm : MtR X id r) (hs : SMut ⟨X.K, c⟩ r f) (ho : PE X o (tVar i)) (ha : GA c X W (e :: es) fl)
    (hbase : attributeBase o name X.env (eval o X.env) = eval o X.env := by rfl)
    (hfew : ((backTo cpos (starEach (e :: es) X.env)).all (fun x => !x.1) && (backToKw cpos (keywordEach [] X.env)).all (fun x => x.1.isSome)
      && decide ((e :: es).length + ([] : List Keyword).length + (if ([] : List Keyword).isEmpty then 0 else 1) < 30)) = true := by rfl)
    (hline : (apos.endLine == cpos.line) = true := by rfl) (hst : starEach (e :: es) X.env = (false, eval e X.env) :: starEach es X.env := by rfl) (hplain : (backTo cpos (starEach es X.env)).any (·.1) = false := by rfl) :
    GE c X W (.Call (.Attribute o name apos) (e :: es) [] cpos) (dMut f i fl) := PE.of (pe_bm PySem.F.plainAttrs_list slot hty hm ho ha hbase hfew hline hst hplain) (sem_mut hs)
theorem ge_mut0 (i : Nat) (slot : Slot "list" name id) (hty : typeOf (.builtin id) = pure (.type "method_descriptor")) (hm : MtR X id r) (hs : SMut ⟨X.K, c⟩ r f) (ho : PE X o (tVar i))
    (hbase : attributeBase o name X.env (eval o X.env) = eval o X.env := by rfl) (hline : (apos.endLine == cpos.line) = true := by rfl) : GE c X W (.Call (.Attribute o name apos) [] [] cpos) (dMut f i dNil) := PE.of (pe_bm0 PySem.F.plainAttrs_list slot hty hm ho hbase hline) (sem_mut0 hs)
end
end DV

set_option Elab.async false
set_option linter.all false
set_option autoImplicit false
set_option maxRecDepth 100000
set_option maxHeartbeats 2000000
/-! V11: what a loop walks; targets. -/
namespace DV
open PySem PySem.Spec L2
open PyProof.Rows hiding St

/-! ### what is walked -/
/-- the walk gives the members of ds -/
def ItOk (g : Γ) (F0 : Hp) (J : It) (ds : List D) : Prop := ∃ G Y, Walk J ds.length G Y ∧ (∀ H, Same F0 H → G H) ∧
  ∀ i F H x H', i < ds.length → Same F0 F → Same F H → Y i H x H' → ∃ F' d, All F H F' H' ∧ ds[i]? = some d ∧ Rep g F' x d
def tI (g : Γ) (W : WX) (f : Env → Res (List D)) : TI := fun σ H R => ∃ B F A env, SI g B F A H σ env ∧ Want g W B F A σ (fun ds e => ∀ F' H' J, Ext B F F' → SI g B F' A H' σ e → ItOk g F' J ds → R J H') (f env)
abbrev GI (c : Nat → Addr) (X : Cx) (W : WX) (tg iter : Expr) (f : Env → Res (List D)) : Prop := PI X tg iter (tI ⟨X.K, c⟩ W f)
theorem PI.of {X : Cx} {tg e : Expr} {t t' : TI} (h : PI X tg e t) (k : ∀ σ H Q, t' σ H Q → t σ H Q) : PI X tg e t' := ⟨fun pins s σ H Q I q => h.run pins s σ H Q I (k σ H Q q)⟩
theorem PI.or {X : Cx} {tg e : Expr} {t t' : TI} (h : PI X tg e t) (h' : PI X tg e t') : PI X tg e (fun σ H R => t σ H R ∨ t' σ H R) := ⟨fun pins s σ H Q I q => q.elim (h.run pins s σ H Q I) (h'.run pins s σ H Q I)⟩
section
variable {g : Γ} {F F0 H : Hp}
theorem reps_nth {vs : List V} {ds : List D} (r : Reps g F vs ds) {i : Nat} {x : V} (h : vs[i]? = some x) : ∃ d, ds[i]? = some d ∧ Rep g F x d := r.get' h
theorem it_list {K : PySem.W.Frag} {a : Addr} {vs : List V} {ds : List D} (h : ∀ H, Same F0 H → SqL K H a vs) (r : Reps g F0 vs ds) : ItOk g F0 (Itl K a) ds := by
  refine ⟨_, _, by rw [← r.length]; exact walk_list (xs := vs), h, fun i F H x H' hi s1 s2 y => ?_⟩
  obtain ⟨rfl, hx⟩ := y
  obtain ⟨d, hd, rx⟩ := reps_nth r hx
  exact ⟨F, d, .refl s2, hd, rx.mono s1⟩
theorem it_tup {K : PySem.W.Frag} {a : Addr} {vs : List V} {ds : List D} (h : ∀ H, Same F0 H → SqT K H a vs) (r : Reps g F0 vs ds) : ItOk g F0 (Itt K a) ds := by
  refine ⟨_, _, by rw [← r.length]; exact walk_tup (xs := vs), h, fun i F H x H' hi s1 s2 y => ?_⟩
  obtain ⟨rfl, hx⟩ := y
  obtain ⟨d, hd, rx⟩ := reps_nth r hx
  exact ⟨F, d, .refl s2, hd, rx.mono s1⟩
def rangeD (lo : Int) (n : Nat) : List D := (List.range n).map fun i => .int (lo + (i : Nat))
theorem it_range {lo : Int} {n : Nat} : ItOk g F0 (Itr lo n) (rangeD lo n) := by
  refine ⟨_, _, by unfold rangeD; rw [List.length_map, List.length_range]; exact walk_range (lo := lo) (n := n), fun _ _ => trivial, fun i F H x H' hi s1 s2 y => ?_⟩
  obtain ⟨rfl, rfl⟩ := y
  unfold rangeD at hi ⊢
  rw [List.length_map, List.length_range] at hi
  exact ⟨F, _, .refl s2, by rw [List.getElem?_map, List.getElem?_range hi]; rfl, .int _⟩
def rangeC (lo c : Int) (n : Nat) : List D := (List.range n).map fun i => .int (lo + (i : Nat) * c)
theorem it_rangeC {lo c : Int} {n : Nat} : ItOk g F0 (Itc lo c n) (rangeC lo c n) := by
  refine ⟨_, _, by unfold rangeC; rw [List.length_map, List.length_range]; exact walk_rangeC (lo := lo) (c := c) (n := n), fun _ _ => trivial, fun i F H x H' hi s1 s2 y => ?_⟩
  obtain ⟨rfl, rfl⟩ := y
  unfold rangeC at hi ⊢
  rw [List.length_map, List.length_range] at hi
  exact ⟨F, _, .refl s2, by rw [List.getElem?_map, List.getElem?_range hi]; rfl, .int _⟩
def charsD (x : Str) : List D := x.cps.toList.map fun c => .str ⟨#[c]⟩
theorem it_str {x : Str} : ItOk g F0 (Its x) (charsD x) := by
  refine ⟨_, _, by unfold charsD; rw [List.length_map, Array.length_toList]; exact walk_str (z := x), fun _ _ => trivial, fun i F H v H' hi s1 s2 y => ?_⟩
  obtain ⟨rfl, c, hc, rfl⟩ := y
  unfold charsD
  exact ⟨F, _, .refl s2, by rw [List.getElem?_map, Array.getElem?_toList, hc]; rfl, .str _⟩
theorem Rep.key (k : Key) : Rep g F (kV k) (kD k) := by
  cases k with
  | inl i => exact .int i
  | inr x => exact .str x
theorem it_keys {a : Addr} {o : Obj} {kvs : List (Key × V)} {kds : List (Key × D)} (h : F0 a = some (.frz o (.dK kvs))) (r : KR g F0 kvs kds) : ItOk g F0 (Itk a o kvs) (kds.map fun kv => kD kv.1) := by
  refine ⟨_, _, by rw [List.length_map, ← r.length]; exact walk_keys, fun H s => s _ _ h, fun i F H x H' hi s1 s2 y => ?_⟩
  obtain ⟨rfl, k, v, hk, rfl⟩ := y
  refine ⟨F, _, .refl s2, ?_, .key k⟩
  have e : (kvs.map (·.1))[i]? = some k := by rw [List.getElem?_map, hk]; rfl
  rw [r.e, List.getElem?_map] at e
  obtain ⟨p, hp, hk'⟩ := Option.map_eq_some_iff.mp e
  rw [List.getElem?_map, hp, ← hk']; rfl
theorem it_vals {a : Addr} {o : Obj} {kvs : List (Key × V)} {kds : List (Key × D)} (h : F0 a = some (.frz o (.dK kvs))) (r : KR g F0 kvs kds) : ItOk g F0 (Itd a o kvs) (kds.map (·.2)) := by
  refine ⟨_, _, by rw [List.length_map, ← r.length]; exact walk_values, fun H s => s _ _ h, fun i F H x H' hi s1 s2 y => ?_⟩
  obtain ⟨rfl, k, hk⟩ := y
  have e : (kvs.map (·.2))[i]? = some x := by rw [List.getElem?_map, hk]; rfl
  obtain ⟨d, hd, rd⟩ := reps_nth r.r e
  exact ⟨F, d, .refl s2, hd, rd.mono s1⟩
theorem it_pair {F : Hp} (s2 : Same F H) {x y v : V} {dx dy : D} {T : Addr} {H' : Hp} (rx : Rep g F x dx) (ry : Rep g F y dy) (hv : v = .ref T) (hT : H T = none) (hH : H' = upd H T (.tup [x, y])) : ∃ F' , All F H F' H' ∧ Rep g F' v (.tup [dx, dy]) := by
  subst hv hH
  have al := All.new (o := .tup [x, y]) s2 hT
  exact ⟨_, al, .tup upd_same (.cons (rx.mono al.f) (.one (ry.mono al.f)))⟩
theorem it_items {a : Addr} {o : Obj} {kvs : List (Key × V)} {kds : List (Key × D)} (h : F0 a = some (.frz o (.dK kvs))) (r : KR g F0 kvs kds) : ItOk g F0 (Iti a o kvs) (kds.map fun kv => .tup [kD kv.1, kv.2]) := by
  refine ⟨_, _, by rw [List.length_map, ← r.length]; exact walk_items, fun H s => s _ _ h, fun i F H x H' hi s1 s2 y => ?_⟩
  obtain ⟨T, kx, v, ev, hT, hH, hk, hv⟩ := y
  obtain ⟨p, hp, ep⟩ := Option.map_eq_some_iff.mp hk
  have e1 : (kvs.map (·.1))[i]? = some p.1 := by rw [List.getElem?_map, hp]; rfl
  rw [r.e, List.getElem?_map] at e1
  obtain ⟨q, hq, eq1⟩ := Option.map_eq_some_iff.mp e1
  have e2 : (kvs.map (·.2))[i]? = some p.2 := by rw [List.getElem?_map, hp]; rfl
  obtain ⟨d, hd, rd⟩ := reps_nth r.r e2
  rw [List.getElem?_map, hq] at hd
  have hv' : kvs[i]?.map Prod.snd = some v := hv
  have e3 : v = p.2 := by rw [hp] at hv'; exact (Option.some.inj hv').symm
  cases hd
  obtain ⟨F', al, rr⟩ := it_pair s2 (dx := kD q.1) (dy := q.2) (show Rep g F kx (kD q.1) by rw [← ep, eq1]; exact .key p.1) (by rw [e3]; exact rd.mono s1) ev hT hH
  exact ⟨F', _, al, by rw [List.getElem?_map, hq]; rfl, rr⟩
def enumD (ds : List D) : List D := ds.zipIdx.map fun p => .tup [.int (p.2 : Nat), p.1]
theorem it_enum {K : PySem.W.Frag} {a : Addr} {vs : List V} {ds : List D} (h : ∀ H, Same F0 H → SqL K H a vs) (r : Reps g F0 vs ds) : ItOk g F0 (Ite K a) (enumD ds) := by
  refine ⟨_, _, by unfold enumD; rw [List.length_map, List.length_zipIdx, ← r.length]; exact walk_enum (xs := vs), h, fun i F H x H' hi s1 s2 y => ?_⟩
  obtain ⟨T, kx, v, ev, hT, hH, hk, hv⟩ := y
  obtain ⟨d, hd, rd⟩ := reps_nth r hv
  cases hk
  obtain ⟨F', al, rr⟩ := it_pair s2 (dx := .int (i : Nat)) (dy := d) (.int _) (rd.mono s1) ev hT hH
  exact ⟨F', _, al, by unfold enumD; rw [List.getElem?_map, List.getElem?_zipIdx, hd]; simp, rr⟩
def zipD (xs ys : List D) : List D := List.zipWith (fun x y => .tup [x, y]) xs ys
theorem zipD_len (xs ys : List D) : (zipD xs ys).length = min xs.length ys.length := List.length_zipWith
theorem it_zipL {K : PySem.W.Frag} {a b : Addr} {vs ws : List V} {ds es : List D} (h : ∀ H, Same F0 H → SqL K H a vs ∧ SqL K H b ws) (r : Reps g F0 vs ds) (r' : Reps g F0 ws es) : ItOk g F0 (Itz K a b) (zipD ds es) := by
  refine ⟨_, _, walk_zip (xs := vs) (ys := ws) (by rw [zipD_len, r.length, r'.length]), h, fun i F H x H' hi s1 s2 y => ?_⟩
  obtain ⟨T, u, v, ev, hT, hH, hk, hv⟩ := y
  obtain ⟨d, hd, rd⟩ := reps_nth r hk
  obtain ⟨d', hd', rd'⟩ := reps_nth r' hv
  obtain ⟨F', al, rr⟩ := it_pair s2 (dx := d) (dy := d') (rd.mono s1) (rd'.mono s1) ev hT hH
  exact ⟨F', _, al, by unfold zipD; rw [List.getElem?_zipWith, hd, hd'], rr⟩
theorem walk_zipT {K : PySem.W.Frag} {a b : Addr} {xs ys : List V} {n : Nat} (hn : n = min xs.length ys.length) : Walk (RZ.ItzT K a b) n (fun H => SqT K H a xs ∧ SqT K H b ys) (YPair (fun i => xs[i]?) (fun i => ys[i]?)) := by
  subst hn
  refine ⟨fun i H hi ⟨h1, h2⟩ => ⟨xs, ys, xs[i]'(by omega), ys[i]'(by omega), h1, h2, List.getElem?_eq_getElem _, List.getElem?_eq_getElem _⟩, fun H ⟨h1, h2⟩ => ⟨xs, ys, h1, h2, by omega⟩, fun i H x H' hi ⟨h1, h2⟩ y => ?_⟩
  obtain ⟨T, u, v, ev, hT, hH, hx, hy⟩ := y
  exact ⟨T, u, v, ev, hT, hH, hx xs h1, hy ys h2⟩
theorem it_zipT {K : PySem.W.Frag} {a b : Addr} {vs ws : List V} {ds es : List D} (h : ∀ H, Same F0 H → SqT K H a vs ∧ SqT K H b ws) (r : Reps g F0 vs ds) (r' : Reps g F0 ws es) : ItOk g F0 (RZ.ItzT K a b) (zipD ds es) := by
  refine ⟨_, _, walk_zipT (xs := vs) (ys := ws) (by rw [zipD_len, r.length, r'.length]), h, fun i F H x H' hi s1 s2 y => ?_⟩
  obtain ⟨T, u, v, ev, hT, hH, hk, hv⟩ := y
  obtain ⟨d, hd, rd⟩ := reps_nth r hk
  obtain ⟨d', hd', rd'⟩ := reps_nth r' hv
  obtain ⟨F', al, rr⟩ := it_pair s2 (dx := d) (dy := d') (rd.mono s1) (rd'.mono s1) ev hT hH
  exact ⟨F', _, al, by unfold zipD; rw [List.getElem?_zipWith, hd, hd'], rr⟩
end

/-- the members of a thing -/
def itD (d : D) : Option (List D) := match d with
  | .lst ds => some ds
  | .scr ns => some (ns.map .int)
  | .tup ds => some ds
  | .str x => some (charsD x)
  | .dct kds => some (kds.map fun kv => kD kv.1)
  | _ => none
def iAny (K : PySem.W.Frag) (te : TE) : TI := fun σ H R => iList K te σ H R ∨ iTup K te σ H R ∨ iStr te σ H R ∨ iKeys te σ H R
theorem pi_any {X : Cx} {tg e : Expr} {te : TE} (h : PE X e te) : PI X tg e (iAny X.K te) := PI.or (pi_list h) (PI.or (pi_tup h) (PI.or (pi_str h) (pi_keys h)))
def lItems (fa : Env → Res D) : Env → Res (List D) := fun e => (fa e).bind fun d e => lift (itD d.un) e
/-- the way goes by the kind of the thing -/
theorem tD_case {g : Γ} {W : WX} {f : Env → Res D} {σ : L2.St} {H : Hp} {Q1 Q2 : VK} (h : ∃ B F A env, SI g B F A H σ env ∧ (Want g W B F A σ (FinD g B F A σ Q1) (f env) ∨ Want g W B F A σ (FinD g B F A σ Q2) (f env))) : tD g W f σ H Q1 ∨ tD g W f σ H Q2 := by
  obtain ⟨B, F, A, e, I, h | h⟩ := h
  · exact .inl ⟨B, F, A, e, I, h⟩
  · exact .inr ⟨B, F, A, e, I, h⟩
section
variable {c : Nat → Addr} {X : Cx} {W : WX} {tg a b : Expr} {fa fb : Env → Res D} {fl : Env → Res (List D)}
theorem gi_e (ha : GE c X W a fa) : GI c X W tg a (lItems fa) := PI.of (pi_any ha) fun σ H R ⟨B, F, A, e, I, w⟩ => by
  have key : ∀ {β : Type} {P : β → Env → Prop} {Q : VK}, (∀ d e1, fa e = .ok d e1 → FinD ⟨X.K, c⟩ B F A σ Q d e1) → (∃ d e1, fa e = .ok d e1) ∨ (∃ x e1, fa e = .ex x e1 ∧ ExW ⟨X.K, c⟩ W B F A σ x e1) → tD ⟨X.K, c⟩ W fa σ H Q := fun {β P Q} h1 h2 => by
    refine ⟨B, F, A, e, I, ?_⟩
    rcases h2 with ⟨d, e1, q⟩ | ⟨x, e1, q, ex⟩
    · rw [q]; exact h1 d e1 q
    · rw [q]; exact ex
  cases q : fa e with
  | no => unfold lItems at w; rw [q] at w; exact w.elim
  | ex x e1 =>
    unfold lItems at w; rw [q] at w
    exact .inl ⟨B, F, A, e, I, by rw [q]; exact w⟩
  | ok d e1 =>
    unfold lItems at w; rw [q] at w
    obtain ⟨ds, hd, w1⟩ := Want.lift (show Want ⟨X.K, c⟩ W B F A σ _ (lift (itD d.un) e1) from w)
    have go : ∀ {Q : VK}, (∀ v F1 H1, Ext B F F1 → SI ⟨X.K, c⟩ B F1 A H1 σ e1 → Rep ⟨X.K, c⟩ F1 v d.un → Q v H1) → tD ⟨X.K, c⟩ W fa σ H Q := fun {Q} h => ⟨B, F, A, e, I, by rw [q]; exact fun v F1 H1 m J r => h v F1 H1 m J r.un⟩
    revert hd go
    generalize d.un = d'
    intro hd go
    cases d' with
    | lst xs =>
      cases hd
      refine .inl (go fun v F1 H1 m J r => ?_)
      cases r with
      | lst h r => exact ⟨_, rfl, ⟨_, .of (J.f _ _ h)⟩, w1 _ _ _ m J (it_list (fun H s => .of (s _ _ h)) r)⟩
    | scr ns =>
      cases hd
      refine .inl (go fun v F1 H1 m J r => ?_)
      cases r with
      | scr h => exact ⟨_, rfl, ⟨_, Same.seq J.f h⟩, w1 _ _ _ m J (it_list (fun H s => Same.seq s h) (reps_ints ns))⟩
    | tup xs =>
      cases hd
      refine .inr (.inl (go fun v F1 H1 m J r => ?_))
      cases r with
      | tup h r => exact ⟨_, rfl, ⟨_, .of (J.f _ _ h)⟩, w1 _ _ _ m J (it_tup (fun H s => .of (s _ _ h)) r)⟩
    | str x =>
      cases hd
      refine .inr (.inr (.inl (go fun v F1 H1 m J r => ?_)))
      cases r
      exact ⟨x, rfl, w1 _ _ _ m J it_str⟩
    | dct kds =>
      cases hd
      refine .inr (.inr (.inr (go fun v F1 H1 m J r => ?_)))
      cases r with
      | dct h e r => exact ⟨_, _, rfl, .inl ⟨_, J.f _ _ h, w1 _ _ _ m J (it_keys h ⟨e, r⟩)⟩⟩
    | _ => cases hd
end
end DV

set_option Elab.async false
set_option linter.all false
set_option autoImplicit false
set_option maxRecDepth 100000
set_option maxHeartbeats 2000000
/-! V12: range, enumerate, zip, items; targets; simple statements. -/
namespace DV
open PySem PySem.Spec L2
open PyProof.Rows hiding St

def i62 (i : Int) : Bool := decide (-(2 ^ 62) ≤ i ∧ i < 2 ^ 62)
def range1D (ds : List D) : Option (List D) := match ds with
  | [x] => match intD x with
    | some j => if i62 j = true then some (rangeD 0 j.toNat) else none
    | none => none
  | _ => none
def range2D (ds : List D) : Option (List D) := match ds with
  | [x, y] => match intD x, intD y with
    | some i, some j => if i62 i = true ∧ i62 j = true then some (rangeD i (j - i).toNat) else none
    | _, _ => none
  | _ => none
def range3D (ds : List D) : Option (List D) := match ds with
  | [x, y, z] => match intD x, intD y, intD z with
    | some i, some j, some c => if c ≠ 0 ∧ c.natAbs < 1073741824 ∧ Builtin.Range.small i j c = true then some (rangeC i c (Builtin.Range.rangeSize i j c).toNat) else none
    | _, _, _ => none
  | _ => none
def seqL (d : D) : Option (List D) := match d.un with
  | .lst ds => some ds
  | .scr ns => some (ns.map .int)
  | _ => none
def enumL (ds : List D) : Option (List D) := match ds with
  | [x] => (seqL x).map enumD
  | _ => none
def zip2L (ds : List D) : Option (List D) := match ds with
  | [x, y] => match seqL x, seqL y with
    | some a, some b => some (zipD a b)
    | _, _ => match x.un, y.un with
      | .tup a, .tup b => some (zipD a b)
      | _, _ => none
  | _ => none
theorem seqL_sound {g : Γ} {F : Hp} {v : V} {d : D} {ds : List D} (r : Rep g F v d) (h : seqL d = some ds) : ∃ a vs, v = .ref a ∧ (∀ H, Same F H → SqL g.K H a vs) ∧ Reps g F vs ds := by
  unfold seqL at h
  have r' := r.un
  generalize d.un = d' at h r'
  cases r' with
  | lst h1 r1 => cases h; exact ⟨_, _, rfl, fun H s => .of (s _ _ h1), r1⟩
  | scr h1 => cases h; exact ⟨_, _, rfl, fun H s => Same.seq s h1, reps_ints _⟩
  | _ => cases h
def lArgs (o : List D → Option (List D)) (fl : Env → Res (List D)) : Env → Res (List D) := fun e => (fl e).bind fun ds e => lift (o ds) e
section
variable {c : Nat → Addr} {X : Cx} {W : WX} {tg a b d : Expr} {es : List Expr} {fa fb : Env → Res D} {fl : Env → Res (List D)} {p pos tpos : Pos} {kk : Nat}
theorem sem_args {g : Γ} {t : TA → TI} {o : List D → Option (List D)} (ht : ∀ (B F : Hp) (A : Nat → V) (e : Env) σ H R vs ds xs, SI g B F A H σ e → Reps g F vs ds → o ds = some xs → (∀ J, ItOk g F J xs → R J H) → t (fun σ H Q => Q vs H) σ H R)
    (hm : ∀ (ta : TA) σ H R, ta σ H (fun vs H1 => t (fun _ H Q => Q vs H) σ H1 R) → t ta σ H R) : ∀ σ H R, tI g W (lArgs o fl) σ H R → t (tDA g W fl) σ H R := fun σ H R ⟨B, F, A, e, I, w⟩ => by
  refine hm _ _ _ _ ?_
  refine runL (.refl B F) I w fun ds e1 vs F1 H1 m1 _ I1 r1 w1 => ?_
  obtain ⟨xs, hx, w2⟩ := w1.lift
  exact ht B F1 A e1 σ H1 R vs ds xs I1 r1 hx fun J hJ => w2 F1 H1 J m1 I1 hJ
theorem gi_range1 (T : BI X.mg) (ha : GA c X W [a] fl) (hg : Gl X "range" := by rfl) (hs : starEach [a] X.env = [(false, eval a X.env)] := by rfl) : GI c X W tg (.Call (.Name "range" p) [a] [] pos) (lArgs range1D fl) :=
  PI.of (pi_range1 hg T.range ha hs) (sem_args (t := iRng1) (fun B F A e σ H R vs ds xs I r h k => by
    unfold range1D at h
    split at h
    · cases r with
      | cons r rn =>
        cases rn
        split at h
        · rename_i j hj
          split at h
          · rename_i hb
            cases h
            have hb := of_decide_eq_true hb
            exact ⟨j, by rw [int_sound r hj], hb.1, hb.2, k _ it_range⟩
          · cases h
        · cases h
    · cases h) fun ta σ H R q => q)
theorem gi_range2 (T : BI X.mg) (ha : GA c X W [a, b] fl) (hg : Gl X "range" := by rfl) (hs : starEach [a, b] X.env = [(false, eval a X.env), (false, eval b X.env)] := by rfl) (hs2 : starEach [b] X.env = [(false, eval b X.env)] := by rfl) : GI c X W tg (.Call (.Name "range" p) [a, b] [] pos) (lArgs range2D fl) :=
  PI.of (pi_range2 hg T.range ha hs hs2) (sem_args (t := iRng2) (fun B F A e σ H R vs ds xs I r h k => by
    unfold range2D at h
    split at h
    · cases r with
      | cons r rn =>
        cases rn with
        | cons r' rn =>
          cases rn
          split at h
          · rename_i i j hi hj
            split at h
            · rename_i hb
              cases h
              have h1 := of_decide_eq_true hb.1
              have h2 := of_decide_eq_true hb.2
              exact ⟨i, j, by rw [int_sound r hi, int_sound r' hj], ⟨h1.1, h1.2, h2.1, h2.2⟩, k _ it_range⟩
            · cases h
          · cases h
    · cases h) fun ta σ H R q => q)
theorem gi_range3 (T : BI X.mg) (ha : GA c X W [a, b, d] fl) (hg : Gl X "range" := by rfl) (hs : starEach [a, b, d] X.env = (false, eval a X.env) :: starEach [b, d] X.env := by rfl) (hpl : (backTo pos (starEach [b, d] X.env)).any (·.1) = false := by rfl) : GI c X W tg (.Call (.Name "range" p) [a, b, d] [] pos) (lArgs range3D fl) :=
  PI.of (pi_range3 hg T.range ha hs hpl) (sem_args (t := iRng3) (fun B F A e σ H R vs ds xs I r h k => by
    unfold range3D at h
    split at h
    · cases r with
      | cons r rn =>
        cases rn with
        | cons r' rn =>
          cases rn with
          | cons r'' rn =>
            cases rn
            split at h
            · rename_i i j cc hi hj hc
              split at h
              · rename_i hb
                cases h
                have hn : Builtin.Range.rangeSize i j cc = ((Builtin.Range.rangeSize i j cc).toNat : Int) := by
                  have : 0 ≤ Builtin.Range.rangeSize i j cc := by
                    unfold Builtin.Range.rangeSize
                    split
                    · split
                      · have := Int.ediv_nonneg (a := j - i - 1) (b := cc) (by omega) (by omega); omega
                      · omega
                    · split
                      · have := Int.ediv_nonneg (a := i - j - 1) (b := -cc) (by omega) (by omega); omega
                      · omega
                  omega
                exact ⟨i, j, cc, _, by rw [int_sound r hi, int_sound r' hj, int_sound r'' hc], ⟨hb.1, hb.2.1, hb.2.2, hn⟩, k _ it_rangeC⟩
              · cases h
            · cases h
    · cases h) fun ta σ H R q => q)
theorem gi_enum {elts : List Expr} (T : BI X.mg) (ha : GA c X W [a] fl) (hg : Gl X "enumerate" := by rfl) (hs : starEach [a] X.env = [(false, eval a X.env)] := by rfl) : GI c X W (.Tuple elts kk tpos) (.Call (.Name "enumerate" p) [a] [] pos) (lArgs enumL fl) :=
  PI.of (pi_enum hg T.enumerate ha hs) (sem_args (t := iEnum X.K) (fun B F A e σ H R vs ds xs I r h k => by
    unfold enumL at h
    split at h
    · cases r with
      | cons r rn =>
        cases rn
        obtain ⟨ys, hy, h⟩ := Option.map_eq_some_iff.mp h
        obtain ⟨p, us, rfl, hs, rr⟩ := seqL_sound r hy
        cases h
        exact ⟨p, us, rfl, hs H I.f, k _ (it_enum hs rr)⟩
    · cases h) fun ta σ H R q => q)
theorem gi_zip {elts : List Expr} (T : BI X.mg) (ha : GA c X W [a, b] fl) (hg : Gl X "zip" := by rfl) (hs : starEach [a, b] X.env = (false, eval a X.env) :: starEach [b] X.env := by rfl) (hpl : (backTo pos (starEach [b] X.env)).any (·.1) = false := by rfl) : GI c X W (.Tuple elts kk tpos) (.Call (.Name "zip" p) [a, b] [] pos) (lArgs zip2L fl) :=
  PI.of (RZ.pi_zipA hg T.zip ha hs hpl) (sem_args (t := RZ.iZipA X.K) (fun B F A e σ H R vs ds xs I r h k => by
    unfold zip2L at h
    split at h
    · cases r with
      | cons r rn =>
        cases rn with
        | cons r' rn =>
          cases rn
          split at h
          · rename_i a' b' h1 h2
            cases h
            obtain ⟨p, us, rfl, s1, rr⟩ := seqL_sound r h1
            obtain ⟨q, ws, rfl, s2, rr'⟩ := seqL_sound r' h2
            exact ⟨p, q, us, ws, rfl, .inl ⟨s1 H I.f, s2 H I.f, k _ (it_zipL (fun H s => ⟨s1 H s, s2 H s⟩) rr rr')⟩⟩
          · have u1 := r.un
            have u2 := r'.un
            split at h
            · rename_i a' b' h1 h2
              cases h
              rw [h1] at u1
              rw [h2] at u2
              cases u1 with
              | tup k1 q1 =>
                cases u2 with
                | tup k2 q2 => exact ⟨_, _, _, _, rfl, .inr ⟨.of (I.f _ _ k1), .of (I.f _ _ k2), k _ (it_zipT (fun H s => ⟨.of (s _ _ k1), .of (s _ _ k2)⟩) q1 q2)⟩⟩
            · cases h
    · cases h) fun ta σ H R q => q)
def dctL (d : D) : Option (List (Key × D)) := match d.un with
  | .dct kds => some kds
  | _ => none
theorem dctL_sound {g : Γ} {F : Hp} {v : V} {d : D} {kds : List (Key × D)} (r : Rep g F v d) (h : dctL d = some kds) : ∃ a o kvs, v = .ref a ∧ F a = some (.frz o (.dK kvs)) ∧ KR g F kvs kds := by
  unfold dctL at h
  have r' := r.un
  generalize d.un = d' at h r'
  cases r' with
  | dct h1 e r1 => cases h; exact ⟨_, _, _, rfl, h1, ⟨e, r1⟩⟩
  | _ => cases h
def lItemsM (fa : Env → Res D) : Env → Res (List D) := fun e => (fa e).bind fun d e => lift ((dctL d).map fun kds => kds.map fun kv => .tup [kD kv.1, kv.2]) e
def lValsM (fa : Env → Res D) : Env → Res (List D) := fun e => (fa e).bind fun d e => lift ((dctL d).map fun kds => kds.map (·.2)) e
def lKeysM (fa : Env → Res D) : Env → Res (List D) := fun e => (fa e).bind fun d e => lift ((dctL d).map fun kds => kds.map fun kv => kD kv.1) e
variable {apos cpos : Pos}
theorem gi_items {elts : List Expr} (ha : GE c X W a fa) (hbase : attributeBase a "items" X.env (eval a X.env) = eval a X.env := by rfl) (hline : (apos.endLine == cpos.line) = true := by rfl) : GI c X W (.Tuple elts kk tpos) (.Call (.Attribute a "items" apos) [] [] cpos) (lItemsM fa) := PI.of (pi_items ha hbase hline) fun σ H R ⟨B, F, A, e, I, w⟩ => by
  refine runD (.refl B F) I w fun d e1 v F1 H1 m1 _ I1 r1 w1 => ?_
  obtain ⟨xs, hx, w2⟩ := w1.lift
  obtain ⟨kds, hk, h⟩ := Option.map_eq_some_iff.mp hx
  obtain ⟨p, o, kvs, rfl, hp, kr⟩ := dctL_sound r1 hk
  cases h
  exact ⟨p, o, kvs, rfl, I1.f _ _ hp, w2 F1 H1 _ m1 I1 (it_items hp kr)⟩
theorem gi_vals (ha : GE c X W a fa) (hbase : attributeBase a "values" X.env (eval a X.env) = eval a X.env := by rfl) (hline : (apos.endLine == cpos.line) = true := by rfl) : GI c X W tg (.Call (.Attribute a "values" apos) [] [] cpos) (lValsM fa) := PI.of (pi_values ha hbase hline) fun σ H R ⟨B, F, A, e, I, w⟩ => by
  refine runD (.refl B F) I w fun d e1 v F1 H1 m1 _ I1 r1 w1 => ?_
  obtain ⟨xs, hx, w2⟩ := w1.lift
  obtain ⟨kds, hk, h⟩ := Option.map_eq_some_iff.mp hx
  obtain ⟨p, o, kvs, rfl, hp, kr⟩ := dctL_sound r1 hk
  cases h
  exact ⟨p, o, kvs, rfl, I1.f _ _ hp, w2 F1 H1 _ m1 I1 (it_vals hp kr)⟩
end

/-! ### targets -/
/-- all slots but these are as they were -/
def Off (is : List Nat) (σ σ' : L2.St) : Prop := σ'.length = σ.length ∧ ∀ j, j ∉ is → σ'[j]? = σ[j]?
theorem Off.refl {is : List Nat} {σ : L2.St} : Off is σ σ := ⟨rfl, fun _ _ => rfl⟩
theorem Off.trans {is js : List Nat} {σ σ1 σ2 : L2.St} (a : Off is σ σ1) (b : Off js σ1 σ2) : Off (is ++ js) σ σ2 := ⟨b.1.trans a.1, fun j h => (b.2 j fun z => h (List.mem_append_right _ z)).trans (a.2 j fun z => h (List.mem_append_left _ z))⟩
def tG (g : Γ) (is : List Nat) (ft : D → Env → Option Env) : TG := fun v σ H Q => ∃ B F A e d e', SI g B F A H σ e ∧ Rep g F v d ∧ ft d e = some e' ∧ ∀ σ' F' H', Off is σ σ' → Ext B F F' → SI g B F' A H' σ' e' → Q σ' H'
def tGs (g : Γ) (is : List Nat) (ft : List D → Env → Option Env) : TGs := fun vs σ H Q => ∃ B F A e ds e', SI g B F A H σ e ∧ Reps g F vs ds ∧ ft ds e = some e' ∧ ∀ σ' F' H', Off is σ σ' → Ext B F F' → SI g B F' A H' σ' e' → Q σ' H'
abbrev GG (c : Nat → Addr) (X : Cx) (e : Expr) (is : List Nat) (ft : D → Env → Option Env) : Prop := PG X e (tG ⟨X.K, c⟩ is ft)
abbrev GGs (c : Nat → Addr) (X : Cx) (e : List Expr) (is : List Nat) (ft : List D → Env → Option Env) : Prop := PGs X e (tGs ⟨X.K, c⟩ is ft)
theorem PG.of {X : Cx} {e : Expr} {t t' : TG} (h : PG X e t) (k : ∀ v σ H Q, t' v σ H Q → t v σ H Q) : PG X e t' := ⟨fun pins s σ H v u Q I r q => h.run pins s σ H v u Q I r (k _ _ _ _ q)⟩
theorem PGs.of {X : Cx} {e : List Expr} {t t' : TGs} (h : PGs X e t) (k : ∀ v σ H Q, t' v σ H Q → t v σ H Q) : PGs X e t' := ⟨fun pins s σ H v u Q I r q => h.run pins s σ H v u Q I r (k _ _ _ _ q)⟩
theorem PG.or {X : Cx} {e : Expr} {t t' : TG} (h : PG X e t) (h' : PG X e t') : PG X e (fun v σ H Q => t v σ H Q ∨ t' v σ H Q) := ⟨fun pins s σ H v u Q I r q => q.elim (h.run pins s σ H v u Q I r) (h'.run pins s σ H v u Q I r)⟩
def gtN (i : Nat) : D → Env → Option Env := fun d e => some (e.set i (.fz d))
def gtNil : List D → Env → Option Env := fun ds e => match ds with
  | [] => some e
  | _ => none
def gtCons (f : D → Env → Option Env) (u : List D → Env → Option Env) : List D → Env → Option Env := fun ds e => match ds with
  | d :: r => (f d e).bind fun e => u r e
  | [] => none
def unpD (n : Nat) (d : D) : Option (List D) := match d.un with
  | .tup xs => if xs.length = n then some xs else none
  | .lst xs => if xs.length = n then some xs else none
  | _ => none
def gtTup (n : Nat) (u : List D → Env → Option Env) : D → Env → Option Env := fun d e => (unpD n d).bind fun ds => u ds e
section
variable {c : Nat → Addr} {X : Cx} {pos : Pos} {f : D → Env → Option Env} {u : List D → Env → Option Env} {is js : List Nat}
theorem gg_name (i : Nat) {x : Str} (hN : X.N.Nodup) (hi : X.N[i]? = some x := by rfl) (hx : Loc X.env.scope x := by first | exact Or.inl rfl | exact Or.inr rfl) (hf : X.fn x = true ∨ X.env.scope.names.lookup x = some .local := by first | exact .inl rfl | exact .inr rfl | assumption) : GG c X (.Name x pos) [i] (gtN i) :=
  PG.of (pg_name hN hi hx hf) fun v σ H Q ⟨B, F, A, e, d, e', I, r, h, k⟩ => by
    cases h
    exact k _ F H ⟨by rw [List.length_set], fun j hj => by rw [List.getElem?_set_ne (fun z => hj (by simp [z]))]⟩ (.refl B F) (I.setF r i)
theorem ggs_nil : GGs c X [] [] gtNil := PGs.of pgs_nil fun vs σ H Q ⟨B, F, A, e, ds, e', I, r, h, k⟩ => by
  unfold gtNil at h
  split at h
  · cases h; cases r; exact ⟨rfl, k σ F H .refl (.refl B F) I⟩
  · cases h
theorem ggs_cons {e : Expr} {es : List Expr} (h1 : GG c X e is f) (h2 : GGs c X es js u) (hs : (assignEach (e :: es) X.env).map (·.2) = assign e X.env :: (assignEach es X.env).map (·.2) := by rfl) : GGs c X (e :: es) (is ++ js) (gtCons f u) := PGs.of (pgs_cons h1 h2 hs) fun vs σ H Q ⟨B, F, A, e, ds, e', I, r, h, k⟩ => by
  unfold gtCons at h
  split at h
  · obtain ⟨e1, h1, h⟩ := Option.bind_eq_some_iff.mp h
    cases r with
    | cons rv rr =>
      refine ⟨_, _, rfl, B, F, A, e, _, e1, I, rv, h1, fun σ' F' H' o1 m J => ?_⟩
      exact ⟨B, F', A, e1, _, e', J, rr.mono m.1, h, fun σ2 F2 H2 o2 m2 J2 => k σ2 F2 H2 (o1.trans o2) (m.trans m2) J2⟩
  · cases h
theorem gg_tup {es : List Expr} {k n : Nat} (h : GGs c X es is u) (hc : X.calm = true := by rfl) (hn : (assignEach es X.env).length = n := by rfl) (hst : (assignEach es X.env).findIdx? (·.1) = none := by rfl) : GG c X (.Tuple es k pos) is (gtTup n u) :=
  PG.of (PG.or (pg_tup hc h hn hst) (pg_lst hc h hn hst)) fun v σ H Q ⟨B, F, A, e, d, e', I, r, h, k⟩ => by
    obtain ⟨ds, hd, h⟩ := Option.bind_eq_some_iff.mp h
    unfold unpD at hd
    have r' := r.un
    generalize d.un = d' at hd r'
    cases r' with
    | tup h1 r1 =>
      simp only at hd
      split at hd
      · rename_i hl
        cases hd
        exact .inl ⟨_, _, rfl, .of (I.f _ _ h1), r1.length.trans hl, B, F, A, e, _, e', I, r1, h, k⟩
      · cases hd
    | lst h1 r1 =>
      simp only at hd
      split at hd
      · rename_i hl
        cases hd
        exact .inr ⟨_, _, rfl, .of (I.f _ _ h1), r1.length.trans hl, B, F, A, e, _, e', I, r1, h, k⟩
      · cases hd
    | _ => cases hd
end
end DV

set_option Elab.async false
set_option linter.all false
set_option autoImplicit false
set_option maxRecDepth 100000
set_option maxHeartbeats 2000000
/-! V13: statements. -/
namespace DV
open PySem PySem.Spec L2
open PyProof.Rows hiding St

theorem PS.or {X : Cx} {st : Stmt} {t t' : TS} (h : PS X st t) (h' : PS X st t') : PS X st (fun D σ H => t D σ H ∨ t' D σ H) := ⟨fun pins s σ H D I q => q.elim (h.run pins s σ H D I) (h'.run pins s σ H D I)⟩
section
variable {g : Γ} {W : WX} {B B1 F F' : Hp} {A : Nat → V} {H : Hp} {σ : L2.St} {e : Env} {D : Ends}
theorem ExWs.up {x : Exn} (h : ExWs g W B F A x e) (m : Ext B F F') : ExWs g W B F' A x e := fun F2 H2 σ2 dx m2 I a => h F2 H2 σ2 dx (m.trans m2) I a
theorem FlW.up {f : Fl} (h : FlW g B F A D f e) (m : Ext B F F') : FlW g B F' A D f e := fun F2 H2 σ2 m2 I => h F2 H2 σ2 (m.trans m2) I
theorem WantS.up {r : Res Fl} (h : WantS g W B F A D r) (m : Ext B F F') : WantS g W B F' A D r := by
  cases r with
  | ok f e => exact FlW.up (show FlW g B F A D f e from h) m
  | ex x e => exact ExWs.up (show ExWs g W B F A x e from h) m
  | no => exact h
theorem WantS.bind {α : Type} {r : Res α} {k : α → Env → Res Fl} (h : WantS g W B F A D (r.bind k)) (σ : L2.St) : Want g W B F A σ (fun a e => WantS g W B F A D (k a e)) r := by
  cases r with
  | ok a e => exact h
  | ex x e => exact fun F' H' dx m I a => h F' H' σ dx m I a
  | no => exact h
theorem WantS.lift {α : Type} {o : Option α} {k : α → Env → Res Fl} (h : WantS g W B F A D ((lift o e).bind k)) : ∃ a, o = some a ∧ WantS g W B F A D (k a e) := by
  cases o with
  | none => exact h.elim
  | some a => exact ⟨a, rfl, h⟩
theorem runDs {fa : Env → Res DV.D} {k : DV.D → Env → Res Fl} {R : VK} {F1 H1 : Hp} {e1 : Env} (m : Ext B F F1) (I : SI g B F1 A H1 σ e1) (w : WantS g W B F A D ((fa e1).bind k))
    (h : ∀ d e v F2 H2, Ext B F F2 → Same F1 F2 → SI g B F2 A H2 σ e → Rep g F2 v d → WantS g W B F A D (k d e) → R v H2) : tD g W fa σ H1 R :=
  ⟨B, F1, A, e1, I, (w.bind σ).up m fun d e wk v F2 H2 m2 I2 r => h d e v F2 H2 (m.trans m2) m2.1 I2 r wk⟩
theorem runOs {fo : Env → Res S} {k : S → Env → Res Fl} {R : VK} {F1 H1 : Hp} {e1 : Env} (m : Ext B F F1) (I : SI g B F1 A H1 σ e1) (w : WantS g W B F A D ((fo e1).bind k))
    (h : ∀ d e v F2 H2, Ext B F F2 → Same F1 F2 → SI g B F2 A H2 σ e → SlotR g B F2 A H2 (some v) d → (∀ a, v = .ref a → d.isOwn = true → Apart σ e a) → WantS g W B F A D (k d e) → R v H2) : tO g W fo σ H1 R :=
  ⟨B, F1, A, e1, I, (w.bind σ).up m fun d e wk v F2 H2 m2 I2 r ap => h d e v F2 H2 (m.trans m2) m2.1 I2 r ap wk⟩
theorem runTs {ft : Env → Res Bool} {k : Bool → Env → Res Fl} {R : Bool → Hp → Prop} {F1 H1 : Hp} {e1 : Env} (m : Ext B F F1) (I : SI g B F1 A H1 σ e1) (w : WantS g W B F A D ((ft e1).bind k))
    (h : ∀ b e F2 H2, Ext B F F2 → Same F1 F2 → SI g B F2 A H2 σ e → WantS g W B F A D (k b e) → R b H2) : tT g W ft σ H1 R :=
  ⟨B, F1, A, e1, I, (w.bind σ).up m fun b e wk F2 H2 m2 I2 => h b e F2 H2 (m.trans m2) m2.1 I2 wk⟩
theorem endS {fb : Env → Res Fl} {F1 H1 : Hp} {e1 : Env} (m : Ext B F F1) (I : SI g B F1 A H1 σ e1) (w : WantS g W B F A D (fb e1)) : tS g W fb D σ H1 := ⟨B, F1, A, e1, I, w.up m⟩

/-! ### less is left alone -/
theorem SI.weak (I : SI g B1 F A H σ e) (s : Same B B1) : SI g B F A H σ e := by
  refine ⟨s.trans I.b, I.f, I.len, fun i t h => ?_, I.dj⟩
  have q := I.sl i t h
  cases t with
  | no => trivial
  | fz d => exact q
  | own og c => obtain ⟨a, e1, ho, cr, b, f⟩ := q; exact ⟨a, e1, ho, cr, s.free b, f⟩
theorem Ext.weak (m : Ext B1 F F') (s : Same B B1) : Ext B F F' := ⟨m.1, fun a hb hf => m.2 a (fun z => hb (s.free z)) hf⟩
theorem ExW.weak {x : Exn} (h : ExW g W B F A σ x e) (s : Same B B1) : ExW g W B1 F A σ x e := fun F' H' dx m I a => h F' H' dx (m.weak s) (I.weak s) a
theorem Want.weak {α : Type} {P P' : α → Env → Prop} {r : Res α} (h : Want g W B F A σ P r) (s : Same B B1) (k : ∀ a e, P a e → P' a e) : Want g W B1 F A σ P' r := by
  cases r with
  | ok a e => exact k a e h
  | ex x e => exact ExW.weak (show ExW g W B F A σ x e from h) s
  | no => exact h
/-- .. and one object more is left alone -/
theorem SI.guard (I : SI g B F A H σ e) {p : Addr} {o : HO} (hp : H p = some o) (hb : B p = none) (ap : Apart σ e p) : SI g (upd B p o) F A H σ e := by
  refine ⟨fun a u h => ?_, I.f, I.len, fun i t h => ?_, I.dj⟩
  · by_cases ha : a = p
    · subst ha; rw [upd_same] at h; cases h; exact hp
    · rw [upd_ne ha] at h; exact I.b a u h
  · have q := I.sl i t h
    cases t with
    | no => trivial
    | fz d => exact q
    | own og c =>
      obtain ⟨a, e1, _⟩ := I.own h
      obtain ⟨og', cr, b1, f1⟩ := I.at_own h e1
      rw [e1]
      exact ⟨a, rfl, og', cr, by rw [upd_ne (fun z => ap i _ h rfl (by rw [e1, z]))]; exact b1, f1⟩
theorem SI.guarded {p : Addr} {o : HO} (J : SI g (upd B p o) F A H σ e) : H p = some o ∧ Apart σ e p := by
  refine ⟨J.b p o upd_same, fun i s h ho z => ?_⟩
  cases s with
  | no => cases ho
  | fz d => cases ho
  | own og c =>
    obtain ⟨_, _, b1, _⟩ := J.at_own h z
    rw [upd_same] at b1; cases b1
end

/-! ### a name's object moved out of its slot -/
def oV (i : Nat) : Env → Res S := fun e => match e[i]? with
  | some (.fz d) => .ok (.fz d) e
  | some (.own _ c) => .ok (.own none c) (e.set i .no)
  | _ => .no
section
variable {c : Nat → Addr} {X : Cx} {W : WX} {a : Expr} {fa : Env → Res DV.D} {fo : Env → Res S} {ft : Env → Res Bool} {fs fu : Env → Res Fl} {pos : Pos} {st : Stmt} {rest : List Stmt}
theorem go_v (i : Nat) (ha : PE X a (tVar i)) : GO c X W a (oV i) := PE.of ha fun σ H Q ⟨B, F, A, e, I, w⟩ => by
  cases q : e[i]? with
  | none => simp only [oV, q] at w; exact w.elim
  | some s =>
    cases s with
    | no => simp only [oV, q] at w; exact w.elim
    | fz d =>
      simp only [oV, q] at w
      obtain ⟨v, e1, r⟩ := I.fz q
      exact ⟨v, e1, w v F H (.refl B F) I ⟨v, rfl, r⟩ fun _ _ z => by cases z⟩
    | own og ct =>
      simp only [oV, q] at w
      obtain ⟨p, e1, ho, cr, b1, f1⟩ := I.own q
      refine ⟨_, e1, w _ F H (.refl B F) (I.forget i) ⟨p, rfl, (fun k z => by cases z), cr, b1, f1⟩ fun a' ea _ j s hj ho' z => ?_⟩
      cases ea
      have hij : i ≠ j := fun hij => by
        subst hij
        have hi := (List.getElem?_eq_some_iff.mp q).1
        rw [List.getElem?_set_self hi] at hj
        cases hj; cases ho'
      rw [List.getElem?_set_ne hij] at hj
      exact hij (I.dj i j _ _ p q hj rfl ho' e1 z)

/-! ### statements -/
def sPass : Env → Res Fl := fun e => .ok .nx e
def sBreak : Env → Res Fl := fun e => .ok .bk e
def sCont : Env → Res Fl := fun e => .ok .ct e
def sNo : Env → Res Fl := fun _ => .no
def sRetN : Env → Res Fl := fun e => .ok (.rt (.fz .non)) e
def sSeq (f u : Env → Res Fl) : Env → Res Fl := fun e => match f e with
  | .ok .nx e => u e
  | r => r
def sDrop (fa : Env → Res DV.D) : Env → Res Fl := fun e => (fa e).bind fun _ e => .ok .nx e
def sRet (fo : Env → Res S) : Env → Res Fl := fun e => (fo e).bind fun s e => .ok (.rt s) e
def sIf (ft : Env → Res Bool) (fs fu : Env → Res Fl) : Env → Res Fl := fun e => (ft e).bind fun k e => if k = true then fs e else fu e
theorem gs_pass : GS c X W (.Pass pos) sPass := PS.of ps_pass fun D σ H ⟨B, F, A, e, I, w⟩ => w F H σ (.refl B F) I
theorem gs_break : GS c X W (.Break pos) sBreak := PS.of ps_break fun D σ H ⟨B, F, A, e, I, w⟩ => w F H σ (.refl B F) I
theorem gs_cont : GS c X W (.Continue pos) sCont := PS.of ps_continue fun D σ H ⟨B, F, A, e, I, w⟩ => w F H σ (.refl B F) I
theorem gs_never : GS c X W st sNo := PS.of ps_never fun D σ H ⟨B, F, A, e, I, w⟩ => w.elim
theorem gs_retN : GS c X W (.Return none pos) sRetN := PS.of ps_retN fun D σ H ⟨B, F, A, e, I, w⟩ => w F H σ (.refl B F) I .non ⟨.non, rfl, .non⟩ fun _ z => by cases z
theorem gss_nil : GSs c X W [] sPass := PSs.of pss_nil fun D σ H ⟨B, F, A, e, I, w⟩ => w F H σ (.refl B F) I
theorem gss_never {sts : List Stmt} : GSs c X W sts sNo := PSs.of pss_never fun D σ H ⟨B, F, A, e, I, w⟩ => w.elim
theorem gss_one (h : GS c X W st fs) : GSs c X W [st] fs := pss_one h
theorem sem_seq {g : Γ} : ∀ D σ H, tS g W (sSeq fs fu) D σ H → tSeq (tS g W fs) (tS g W fu) D σ H := fun D σ H ⟨B, F, A, e, I, w⟩ => by
  refine ⟨B, F, A, e, I, ?_⟩
  unfold sSeq at w
  cases q : fs e with
  | no => rw [q] at w; exact w.elim
  | ex x e1 => rw [q] at w; exact w
  | ok f e1 =>
    rw [q] at w
    cases f with
    | nx => exact fun F' H' σ' m J => ⟨B, F', A, e1, J, w.up m⟩
    | rt s => exact w
    | bk => exact w
    | ct => exact w
theorem gss_cons (h : GS c X W st fs) (h2 : GSs c X W rest fu) : GSs c X W (st :: rest) (sSeq fs fu) := PSs.of (pss_cons h h2) sem_seq
theorem gs_expr (ha : GE c X W a fa) (hs : swapsWith a none pos.line X.env = pure false := by rfl) : GS c X W (.Expr a pos) (sDrop fa) := PS.of (ps_expr ha hs) fun D σ H ⟨B, F, A, e, I, w⟩ =>
  runDs (.refl B F) I w fun d e v F2 H2 m s J r w2 => w2 F2 H2 σ m J
theorem gs_ret (ha : GO c X W a fo) : GS c X W (.Return (some a) pos) (sRet fo) := PS.of (ps_ret ha) fun D σ H ⟨B, F, A, e, I, w⟩ =>
  runOs (.refl B F) I w fun d e v F2 H2 m s J r ap w2 => w2 F2 H2 σ m J v r ap
theorem gs_if {t : Expr} {xs ys : List Stmt} (ht : GT c X W t ft) (h1 : GSs c X W xs fs) (h2 : GSs c X W ys fu) : GS c X W (.If t xs ys pos) (sIf ft fs fu) := PS.of (ps_if ht h1 h2) fun D σ H ⟨B, F, A, e, I, w⟩ =>
  runTs (.refl B F) I w fun b e F2 H2 m s J w2 => by
    cases b with
    | true => rw [if_pos rfl] at w2 ⊢; exact endS m J w2
    | false => rw [if_neg Bool.false_ne_true] at w2 ⊢; exact endS m J w2

/-! ### a slot is given a value -/
def stS (i : Nat) (s : S) (e : Env) : Option Env := match s with
  | .fz d => some (e.set i (.fz d))
  | .own none ct => some (e.set i (.own none ct))
  | _ => none
theorem SI.setS {g : Γ} {B F : Hp} {A : Nat → V} {H : Hp} {σ : L2.St} {e e' : Env} {v : V} {s : S} (I : SI g B F A H σ e) (i : Nat) (r : SlotR g B F A H (some v) s) (ap : ∀ a, v = .ref a → s.isOwn = true → Apart σ e a) (h : stS i s e = some e') :
    SI g B F A H (σ.set i (some v)) e' ∧ ∀ a, Apart σ e a → (s.isOwn = true → v ≠ .ref a) → Apart (σ.set i (some v)) e' a := by
  have fin : ∀ {t : S}, (t.isOwn = true → s.isOwn = true) → ∀ a, Apart σ e a → (s.isOwn = true → v ≠ .ref a) → Apart (σ.set i (some v)) (e.set i t) a := fun {t} ht a ap hv j u hj ho z => by
    by_cases hij : i = j
    · subst hij
      have hi : i < e.length := by
        have := (List.getElem?_eq_some_iff.mp hj).1
        simpa using this
      rw [List.getElem?_set_self hi] at hj
      cases hj
      rw [List.getElem?_set_self (by rw [← I.len]; exact hi)] at z
      exact hv (ht ho) (by simpa using z)
    · rw [List.getElem?_set_ne hij] at hj z
      exact ap j u hj ho z
  cases s with
  | no => cases h
  | fz d =>
    cases h
    obtain ⟨x, ex, r⟩ := r
    cases ex
    exact ⟨I.setF r i, fin fun z => z⟩
  | own og ct =>
    cases og with
    | some k => cases h
    | none =>
      cases h
      obtain ⟨a, ea, _, cr, b, f⟩ := r
      cases ea
      exact ⟨I.setO cr b f (ap a rfl rfl) i, fin fun z => z⟩
def sSet (i : Nat) (fo : Env → Res S) : Env → Res Fl := fun e => (fo e).bind fun s e => (lift (stS i s e) e).bind fun e' _ => .ok .nx e'
theorem gs_set (i : Nat) {x : Str} {pos' : Pos} (hN : X.N.Nodup) (ha : GO c X W a fo) (hi : X.N[i]? = some x := by rfl) (hx : Loc X.env.scope x := by first | exact Or.inl rfl | exact Or.inr rfl) (hs : swapsWith a (some (.Name x pos')) pos.line X.env = pure false := by rfl)
    (hf : X.fn x = true ∨ X.env.scope.names.lookup x = some .local := by first | exact .inl rfl | exact .inr rfl | assumption) : GS c X W (.Assign [.Name x pos'] a pos) (sSet i fo) := PS.of (ps_set hN hi hx ha hs hf) fun D σ H ⟨B, F, A, e, I, w⟩ =>
  runOs (.refl B F) I w fun d e v F2 H2 m s J r ap w2 => by
    obtain ⟨e', he, w3⟩ := w2.lift
    exact w3 F2 H2 _ m (J.setS i r ap he).1
def sAsg (fa : Env → Res DV.D) (gt : DV.D → Env → Option Env) : Env → Res Fl := fun e => (fa e).bind fun d e => (lift (gt d e) e).bind fun e' _ => .ok .nx e'
theorem gs_asg {tg : Expr} {is : List Nat} {gt : DV.D → Env → Option Env} (ha : GE c X W a fa) (hg : GG c X tg is gt) (hs : swapsWithSole [tg] a pos.line X.env = pure false := by rfl) (hw : swappedStores [tg] a X.env = pure none := by rfl)
    (h1 : (assignEach [tg] X.env).map (·.2) = [assign tg X.env] := by rfl) : GS c X W (.Assign [tg] a pos) (sAsg fa gt) := PS.of (ps_asg ha hg hs hw h1) fun D σ H ⟨B, F, A, e, I, w⟩ =>
  runDs (.refl B F) I w fun d e v F2 H2 m s J r w2 => by
    obtain ⟨e', he, w3⟩ := w2.lift
    exact ⟨B, F2, A, e, d, e', J, r, he, fun σ' F' H' _ m2 J2 => w3 F' H' σ' (m.trans m2) J2⟩

/-! ### x[i] = e, x.f = e -/
def setC (ct : Ct) (y v : DV.D) : Option Ct := match ct with
  | .l ds => (intD y).bind fun k => (ixN ds.length k).map fun j => .l (ds.set j v)
  | .d kds => (keyD y.un).bind fun k => if kds.length < 1000000 then some (.d (putD kds k v)) else none
  | .t kds => match y.un with
    | .tup ks => (keysD ks).bind fun k => if kds.length < 1000000 then some (.t (putD kds k v)) else none
    | _ => none
  | .o _ _ => none
def rSetA : TSet := fun o i v H Q => rSetL o i v H Q ∨ ∃ a H', o = .ref a ∧ DPut H a i v H' ∧ Q H'
theorem set_all (hu : X.A.units + 1 < cLine) : PSet X rSetA := fun pins s σ H o i v ov iv u Q I ro ri rv h => by
  rcases h with h | ⟨a, H', rfl, g, q⟩
  · exact set_list pins s σ H o i v ov iv u Q I ro ri rv h
  · cases ro
    exact d_setItem hu I g ri rv fun s' I' => ⟨H', I', q⟩
theorem setC_sound {g : Γ} {B F : Hp} {A : Nat → V} {H : Hp} {σ : L2.St} {e : Env} {i : Nat} {og : Option Nat} {ct ct' : Ct} {y v : V} {dy dv : DV.D} {Q : Hp → Prop} (I : SI g B F A H σ e) (he : e[i]? = some (.own og ct)) {a : Addr} (ea : σ[i]? = some (some (.ref a))) (ry : Rep g F y dy) (rv : Rep g F v dv)
    (h : setC ct dy dv = some ct') (q : ∀ H', SI g B F A H' σ (e.set i (.own og ct')) → Q H') : rSetA (.ref a) y v H Q := by
  obtain ⟨_, cr, _⟩ := I.at_own he ea
  cases ct with
  | l ds =>
    obtain ⟨k, hk, h⟩ := Option.bind_eq_some_iff.mp h
    obtain ⟨j, hj, h⟩ := Option.map_eq_some_iff.mp h
    subst h
    obtain ⟨vs, hv, rr⟩ := cr
    exact .inl ⟨a, vs, k, j, rfl, int_sound ry hk, hv, by rw [rr.length]; exact hj, q _ (I.write he ea ⟨_, upd_same, rr.set rv j⟩)⟩
  | d kds =>
    obtain ⟨k, hk, h⟩ := Option.bind_eq_some_iff.mp h
    split at h
    · rename_i hl
      cases h
      obtain ⟨kvs, hv, e1, e2⟩ := cr
      have kr : KR g F kvs kds := ⟨e1, e2⟩
      have := kr.length
      exact .inr ⟨a, _, rfl, .inl ⟨kvs, k, hv, keyD_sound (ry.view I.f) hk, by rw [sizeLine_eq]; omega, rfl⟩, q _ (I.write he ea ⟨_, upd_same, (kr.put k rv).e, (kr.put k rv).r⟩)⟩
    · cases h
  | t kds =>
    have ry' := ry.un
    simp only [setC] at h
    revert h ry'
    generalize dy.un = d'
    intro h ry'
    cases ry' with
    | tup h1 r1 =>
      obtain ⟨k, hk, h⟩ := Option.bind_eq_some_iff.mp h
      split at h
      · rename_i hl
        cases h
        obtain ⟨kvs, hv, e1, e2⟩ := cr
        have kr : KR g F kvs kds := ⟨e1, e2⟩
        have := kr.length
        exact .inr ⟨a, _, rfl, .inr ⟨kvs, k, _, hv, rfl, by rw [I.f _ _ h1, keysD_sound I.f r1 hk], by rw [sizeLine_eq]; omega, rfl⟩, q _ (I.write he ea ⟨_, upd_same, (kr.put k rv).e, (kr.put k rv).r⟩)⟩
      · cases h
    | _ => cases h
  | o k fs => cases h
def ownC (e : Env) (i : Nat) : Option (Option Nat × Ct) := match e[i]? with
  | some (.own og ct) => some (og, ct)
  | _ => none
theorem ownC_eq {e : Env} {i : Nat} {og : Option Nat} {ct : Ct} (h : ownC e i = some (og, ct)) : e[i]? = some (.own og ct) := by
  unfold ownC at h
  split at h
  · cases h; assumption
  · cases h
def sPut (i : Nat) (fy fv : Env → Res DV.D) : Env → Res Fl := fun e => (fv e).bind fun v e => (lift (ownC e i) e).bind fun _ e => (fy e).bind fun y e => (lift (ownC e i) e).bind fun p e => (lift (setC p.2 y v) e).bind fun ct e => .ok .nx (e.set i (.own p.1 ct))
theorem gs_put (i : Nat) {o y : Expr} {fy fv : Env → Res DV.D} {p2 : Pos} (hu : X.A.units + 1 < cLine) (ho : PE X o (tVar i)) (hy : GE c X W y fy) (hv : GE c X W a fv)
    (ha : ∀ v, assign (.Subscript o y p2) X.env v = (do
      let ov ← holding [v] (eval o X.env)
      let iv ← holding [v, ov] (eval y X.env)
      standAt p2
      holding [v, ov, iv] (setItem ov iv v)
      release [v, ov, iv] []) := by intro _; rfl)
    (hs : swapsWithSole [.Subscript o y p2] a pos.line X.env = pure false := by rfl) (hw : swappedStores [.Subscript o y p2] a X.env = pure none := by rfl)
    (h1 : (assignEach [.Subscript o y p2] X.env).map (·.2) = [assign (.Subscript o y p2) X.env] := by rfl) : GS c X W (.Assign [.Subscript o y p2] a pos) (sPut i fy fv) := PS.of (ps_asg hv (pg_sub ho hy (set_all hu) ha) hs hw h1) fun D σ H ⟨B, F, A, e, I, w⟩ =>
  runDs (.refl B F) I w fun d e1 v F1 H1 m1 _ I1 r1 w1 => by
    obtain ⟨⟨og0, ct0⟩, hc0, w2⟩ := w1.lift
    obtain ⟨p, ep, _⟩ := I1.own (ownC_eq hc0)
    refine ⟨_, ep, ?_⟩
    refine runDs m1 I1 w2 fun dy e2 y F2 H2 m2 s2 I2 r2 w3 => ?_
    obtain ⟨⟨og, ct⟩, hc, w4⟩ := w3.lift
    obtain ⟨ct', h', w5⟩ := w4.lift
    exact setC_sound I2 (ownC_eq hc) ep r2 (r1.mono s2) h' fun H' J => w5 F2 H' σ m2 J
/-- x.f = e, x a new object -/
def putFD (f : Str) (v : DV.D) : List (Str × DV.D) → List (Str × DV.D)
  | [] => [(f, v)]
  | (g, x) :: r => if g = f then (g, v) :: r else (g, x) :: putFD f v r
theorem KR.putF {g : Γ} {F : Hp} (f : Str) {v : V} {d : DV.D} (rv : Rep g F v d) : ∀ {fs : List (Str × V)} {fds : List (Str × DV.D)}, KR g F fs fds → KR g F (L2.putF f v fs) (putFD f d fds) := fun {fs fds} h => by
  refine KR.ind (P := fun fs fds => KR g F (L2.putF f v fs) (putFD f d fds)) (.cons rfl rv .nil) (fun p q ps qs e r k ih => ?_) h
  unfold L2.putF putFD
  rw [e]
  split
  · exact .cons rfl rv k
  · exact .cons rfl r ih
def ownO (k : Nat) (e : Env) (i : Nat) : Option (Option Nat × List (Str × DV.D)) := match e[i]? with
  | some (.own og (.o c fs)) => if c = k ∧ fs.length < 1000 then some (og, fs) else none
  | _ => none
def sFld (k : Nat) (f : Str) (i : Nat) (fv : Env → Res DV.D) : Env → Res Fl := fun e => (fv e).bind fun v e => (lift (ownO k e i) e).bind fun p e => .ok .nx (e.set i (.own p.1 (.o k (putFD f v p.2))))
theorem gs_fld {k : Nat} {f : Str} (i : Nat) {o : Expr} {fv : Env → Res DV.D} {p2 : Pos} (cl : Cls X.K (c k)) (n : NoAttr X.K (c k) f) (ho : PE X o (tVar i)) (hv : GE c X W a fv) (hs : swapsWith a (some (.Attribute o f p2)) pos.line X.env = pure false := by rfl) : GS c X W (.Assign [.Attribute o f p2] a pos) (sFld k f i fv) := PS.of (ps_fld ho hv hs) fun D σ H ⟨B, F, A, e, I, w⟩ =>
  runDs (.refl B F) I w fun d e1 v F1 H1 m1 _ I1 r1 w1 => by
    obtain ⟨⟨og, fs⟩, hc, w2⟩ := w1.lift
    unfold ownO at hc
    split at hc
    · rename_i og' c' fs' he
      split at hc
      · rename_i hk
        cases hc
        obtain ⟨rfl, hl⟩ := hk
        obtain ⟨p, ep, _⟩ := I1.own he
        obtain ⟨_, ⟨dx, us, hp, e1', rr⟩, _⟩ := I1.at_own he ep
        have kr : KR ⟨X.K, c⟩ F1 us fs := ⟨e1', rr⟩
        have kp := kr.putF f r1
        exact ⟨_, ep, p, _, dx, us, rfl, hp, cl, n, by rw [kr.length]; exact hl, w2 F1 _ σ m1 (I1.write he ep ⟨dx, _, upd_same, kp.e, kp.r⟩)⟩
      · cases hc
    · cases hc
end
end DV

set_option Elab.async false
set_option linter.all false
set_option autoImplicit false
set_option maxRecDepth 100000
set_option maxHeartbeats 2000000
/-! V14: loops; several names at once; dict displays. -/
namespace DV
open PySem PySem.Spec L2
open PyProof.Rows hiding St

/-! ### loops -/
/-- what a turn of a loop leaves -/
def turnS (r : Res Fl) (k : Env → Res Fl) : Res Fl := match r with
  | .ok .nx e => k e
  | .ok .ct e => k e
  | .ok .bk e => .ok .nx e
  | .ok (.rt s) e => .ok (.rt s) e
  | .ex x e => .ex x e
  | .no => .no
def foD (gt : DV.D → Env → Option Env) (fb : Env → Res Fl) : List DV.D → Env → Res Fl
  | [], e => .ok .nx e
  | d :: ds, e => match gt d e with
    | none => .no
    | some e => turnS (fb e) fun e => foD gt fb ds e
def sFor (fi : Env → Res (List DV.D)) (gt : DV.D → Env → Option Env) (fb : Env → Res Fl) : Env → Res Fl := fun e => (fi e).bind fun ds e => foD gt fb ds e
def whD (ft : Env → Res Bool) (fb : Env → Res Fl) : Nat → Env → Res Fl
  | 0, _ => .no
  | n + 1, e => (ft e).bind fun k e => if k = true then turnS (fb e) fun e => whD ft fb n e else .ok .nx e
def sWhile (n : Nat) (ft : Env → Res Bool) (fb : Env → Res Fl) : Env → Res Fl := whD ft fb n
section
variable {g : Γ} {W : WX} {B F : Hp} {A : Nat → V} {H : Hp} {σ : L2.St} {e : Env} {D : Ends}
theorem WantS.turn {r : Res Fl} {k : Env → Res Fl} {N : L2.St → Hp → Prop} (w : WantS g W B F A D (turnS r k)) (hN : ∀ σ' F' H' e', Ext B F F' → SI g B F' A H' σ' e' → WantS g W B F' A D (k e') → N σ' H') : WantS g W B F A { D with nx := N, ct := N, bk := D.nx } r := by
  cases r with
  | no => exact w.elim
  | ex x e => exact w
  | ok f e =>
    cases f with
    | nx => exact fun F' H' σ' m I => hN σ' F' H' e m I (WantS.up (show WantS g W B F A D (k e) from w) m)
    | ct => exact fun F' H' σ' m I => hN σ' F' H' e m I (WantS.up (show WantS g W B F A D (k e) from w) m)
    | bk => exact w
    | rt s => exact w
end
section
variable {c : Nat → Addr} {X : Cx} {W : WX} {a : Expr} {ft : Env → Res Bool} {fs : Env → Res Fl} {pos : Pos} {body : List Stmt}
theorem gs_for {tg iter : Expr} {is : List Nat} {fi : Env → Res (List DV.D)} {gt : DV.D → Env → Option Env} (hp : PassesOwn (model X.prog X.w) X.A X.env X.xe) (hi : GI c X W tg iter fi) (hg : GG c X tg is gt) (hb : GSs c X W body fs) (hc : X.calm = true := by rfl)
    (hs : ∀ x, foldedSetIterable iter X.env x = pure x := by intro _; rfl) : GS c X W (.For tg iter body [] pos) (sFor fi gt fs) := PS.of (ps_for hp hc hi hg hb hs) fun D σ H ⟨B, F, A, e, I, w⟩ => by
  refine ⟨B, F, A, e, I, (w.bind σ).imp fun ds e1 wk F0 H0 J m0 I0 ok => ?_⟩
  obtain ⟨G, Y, wlk, hG, hY⟩ := ok
  refine for_it wlk (fun k σ2 H2 => ∃ F2 e2, Ext B F F2 ∧ Same F0 F2 ∧ SI ⟨X.K, c⟩ B F2 A H2 σ2 e2 ∧ WantS ⟨X.K, c⟩ W B F2 A D (foD gt fs (ds.drop k) e2)) ⟨F0, e1, m0, .refl F0, I0, by rw [List.drop_zero]; exact wk.up m0⟩ (fun k σ2 H2 _ ⟨F2, e2, _, s2, I2, _⟩ => hG H2 (s2.trans I2.f)) ?_ ?_
  · rintro i x σ2 H2 H3 hi ⟨F2, e2, m2, s2, I2, w2⟩ y
    obtain ⟨F3, d, al, hd, rd⟩ := hY i F2 H2 x H3 hi s2 I2.f y
    rw [List.drop_eq_getElem_cons hi] at w2
    have hd' : ds[i] = d := by
      rw [List.getElem?_eq_getElem hi] at hd
      exact Option.some.inj hd
    rw [hd'] at w2
    unfold foD at w2
    cases hgt : gt d e2 with
    | none => rw [hgt] at w2; exact w2.elim
    | some e3 =>
      rw [hgt] at w2
      have m3 := al.ext I2.b
      refine ⟨B, F3, A, e2, d, e3, I2.all al, rd, hgt, fun σ4 F4 H4 _ m4 I4 => ⟨B, F4, A, e3, I4, ?_⟩⟩
      refine WantS.turn (w2.up (m3.trans m4)) fun σ5 F5 H5 e5 m5 I5 w5 => ⟨F5, e5, ((m2.trans m3).trans m4).trans m5, ((s2.trans m3.1).trans m4.1).trans m5.1, I5, w5⟩
  · rintro σ2 H2 ⟨F2, e2, m2, s2, I2, w2⟩
    rw [List.drop_length] at w2
    exact w2 F2 H2 σ2 (.refl B F2) I2
theorem gs_while {n : Nat} {t : Expr} (hp : PassesOwn (model X.prog X.w) X.A X.env X.xe) (ht : GT c X W t ft) (hb : GSs c X W body fs) : GS c X W (.While t body [] pos) (sWhile n ft fs) := PS.of (ps_while hp ht hb) fun D σ H ⟨B, F, A, e, I, w⟩ => by
  refine ⟨fun m σ2 H2 => ∃ F2 e2, Ext B F F2 ∧ SI ⟨X.K, c⟩ B F2 A H2 σ2 e2 ∧ WantS ⟨X.K, c⟩ W B F2 A D (whD ft fs m e2), ⟨n, F, e, .refl B F, I, w⟩, ?_⟩
  rintro m σ2 H2 ⟨F2, e2, m2, I2, w2⟩
  cases m with
  | zero => exact w2.elim
  | succ m =>
    refine runTs (.refl B F2) I2 w2 fun b e3 F3 H3 m3 s3 I3 w3 => ?_
    cases b with
    | true =>
      rw [if_pos rfl] at w3 ⊢
      refine ⟨fun σ' H' => ∃ F' e', Ext B F F' ∧ SI ⟨X.K, c⟩ B F' A H' σ' e' ∧ WantS ⟨X.K, c⟩ W B F' A D (whD ft fs m e'), fun σ' H' h => ⟨m, Nat.lt_succ_self m, h⟩, ?_⟩
      refine ⟨B, F3, A, e3, I3, ?_⟩
      exact WantS.turn (w3.up m3) fun σ5 F5 H5 e5 m5 I5 w5 => ⟨F5, e5, (m2.trans m3).trans m5, I5, w5⟩
    | false =>
      rw [if_neg Bool.false_ne_true] at w3 ⊢
      exact w3 F3 H3 σ2 m3 I3
end

/-! ### several values, each frozen or an own new object -/
structure SlotsR (g : Γ) (B F : Hp) (A : Nat → V) (H : Hp) (σ : L2.St) (e : Env) (vs : List V) (ss : List S) : Prop where
  len : vs.length = ss.length
  sl : ∀ (i : Nat) (v : V) (s : S), vs[i]? = some v → ss[i]? = some s → SlotR g B F A H (some v) s
  ap : ∀ (i : Nat) (s : S) (a : Addr), vs[i]? = some (.ref a) → ss[i]? = some s → s.isOwn = true → Apart σ e a
  dj : ∀ (i j : Nat) (s t : S) (a : Addr), vs[i]? = some (.ref a) → vs[j]? = some (.ref a) → ss[i]? = some s → ss[j]? = some t → s.isOwn = true → t.isOwn = true → i = j
def FinOs (g : Γ) (B F : Hp) (A : Nat → V) (σ : L2.St) (Q : List V → Hp → Prop) (ss : List S) (e : Env) : Prop := ∀ vs F' H', Ext B F F' → SI g B F' A H' σ e → SlotsR g B F' A H' σ e vs ss → Q vs H'
def tOs (g : Γ) (W : WX) (f : Env → Res (List S)) : TA := fun σ H Q => ∃ B F A env, SI g B F A H σ env ∧ Want g W B F A σ (FinOs g B F A σ Q) (f env)
abbrev GOs (c : Nat → Addr) (X : Cx) (W : WX) (es : List Expr) (f : Env → Res (List S)) : Prop := PA X es (tOs ⟨X.K, c⟩ W f)
def osNil : Env → Res (List S) := fun e => .ok [] e
def osCons (f : Env → Res S) (u : Env → Res (List S)) : Env → Res (List S) := fun e => (f e).bind fun x e => (u e).bind fun xs e => .ok (x :: xs) e
section
variable {c : Nat → Addr} {X : Cx} {W : WX} {a : Expr} {es : List Expr} {fo : Env → Res S} {fl : Env → Res (List S)}
theorem gos_nil : GOs c X W [] osNil := PA.of pa_nil fun σ H Q ⟨B, F, A, e, I, w⟩ => w [] F H (.refl B F) I ⟨rfl, fun i v s h => by simp at h, fun i s a h => by simp at h, fun i j s t a h => by simp at h⟩
theorem gos_cons (ha : GO c X W a fo) (hr : GOs c X W es fl) (hs : starEach (a :: es) X.env = (false, eval a X.env) :: starEach es X.env := by rfl) : GOs c X W (a :: es) (osCons fo fl) := PA.of (pa_cons ha hr hs) fun σ H Q ⟨B, F, A, e, I, w⟩ => by
  refine runO (.refl B F) I w fun s e1 v F1 H1 m1 _ I1 r1 ap1 w1 => ?_
  -- the rest: the object, if there is one, is left alone
  obtain ⟨B1, hB, I1', hB2⟩ : ∃ B1, Same B B1 ∧ SI ⟨X.K, c⟩ B1 F1 A H1 σ e1 ∧ (s.isOwn = true → ∃ p o, v = .ref p ∧ H1 p = some o ∧ B1 = upd B p o) := by
    cases s with
    | no => exact ⟨B, .refl B, I1, fun z => by cases z⟩
    | fz d => exact ⟨B, .refl B, I1, fun z => by cases z⟩
    | own og ct =>
      obtain ⟨p, ep, _, cr, b, f⟩ := r1
      cases ep
      obtain ⟨o, ho⟩ := cr.there
      exact ⟨upd B p o, same_upd b, I1.guard ho b (ap1 p rfl rfl), fun _ => ⟨p, o, rfl, ho, rfl⟩⟩
  refine ⟨B1, F1, A, e1, I1', ?_⟩
  refine ((w1.bind.up m1 fun _ _ h => h).weak hB fun ss e2 wk => ?_)
  intro vs F2 H2 m2 I2 rs
  have I2' := I2.weak hB
  refine wk (v :: vs) F2 H2 (m1.trans (m2.weak hB)) I2' ⟨congrArg (· + 1) rs.len, fun i w t hv ht => ?_, fun i t a hv ht ho => ?_, fun i j t u a hv hw ht hu ho ho' => ?_⟩
  · cases i with
    | zero =>
      simp at hv ht
      subst hv ht
      cases s with
      | no => trivial
      | fz d => obtain ⟨x, ex, r⟩ := r1; exact ⟨x, ex, r.mono m2.1⟩
      | own og ct =>
        obtain ⟨p, o, ep, hp, eB⟩ := hB2 rfl
        subst ep eB
        obtain ⟨p', ep', ho, cr, b, f⟩ := r1
        cases ep'
        exact ⟨p, rfl, ho, cr.up (.of m2.1) ((I2.guarded.1).trans hp.symm), b, m2.2 p (by rw [upd_same]; simp) f⟩
    | succ i =>
      have q := rs.sl i w t (by simpa using hv) (by simpa using ht)
      cases t with
      | no => trivial
      | fz d => exact q
      | own og ct => obtain ⟨p, ep, ho, cr, b, f⟩ := q; exact ⟨p, ep, ho, cr, hB.free b, f⟩
  · cases i with
    | zero =>
      simp at hv ht
      subst hv ht
      obtain ⟨p, o, ep, hp, eB⟩ := hB2 ho
      cases ep
      subst eB
      exact I2.guarded.2
    | succ i => exact rs.ap i t a (by simpa using hv) (by simpa using ht) ho
  · -- the first one's object is none of the others'
    have key : ∀ (i : Nat) (t : S) (a : Addr), v = .ref a → s.isOwn = true → vs[i]? = some (.ref a) → ss[i]? = some t → t.isOwn = true → False := fun i t a ev ho hv ht ho' => by
      obtain ⟨p, o, ep, hp, eB⟩ := hB2 ho
      rw [ev] at ep; cases ep
      subst eB
      have q := rs.sl i _ t hv ht
      cases t with
      | no => cases ho'
      | fz d => cases ho'
      | own og ct =>
        obtain ⟨p', ep', _, _, b, _⟩ := q
        cases ep'
        rw [upd_same] at b; cases b
    cases i with
    | zero =>
      cases j with
      | zero => rfl
      | succ j =>
        simp at hv hw ht hu
        subst hv ht
        exact (key j u a rfl ho hw hu ho').elim
    | succ i =>
      cases j with
      | zero =>
        simp at hv hw ht hu
        subst hw hu
        exact (key i t a rfl ho' hv ht ho).elim
      | succ j =>
        simp at hv hw ht hu
        rw [rs.dj i j t u a hv hw ht hu ho ho']
end
/-- x, y = a, b -/
def sPar2 (i j : Nat) (fl : Env → Res (List S)) : Env → Res Fl := fun e => (fl e).bind fun ss e => match ss with
  | [s, t] => (lift ((stS i s e).bind (stS j t)) e).bind fun e' _ => .ok .nx e'
  | _ => .no
def sPar3 (i j l : Nat) (fl : Env → Res (List S)) : Env → Res Fl := fun e => (fl e).bind fun ss e => match ss with
  | [s, t, u] => (lift (((stS i s e).bind (stS j t)).bind (stS l u)) e).bind fun e' _ => .ok .nx e'
  | _ => .no
section
variable {c : Nat → Addr} {X : Cx} {W : WX} {fl : Env → Res (List S)} {g : Γ} {D : Ends} {B F : Hp} {A : Nat → V} {H : Hp} {σ : L2.St} {e : Env}
theorem runOss {k : List S → Env → Res Fl} {R : List V → Hp → Prop} {F1 H1 : Hp} {e1 : Env} (m : Ext B F F1) (I : SI g B F1 A H1 σ e1) (w : WantS g W B F A D ((fl e1).bind k))
    (h : ∀ ss e vs F2 H2, Ext B F F2 → Same F1 F2 → SI g B F2 A H2 σ e → SlotsR g B F2 A H2 σ e vs ss → WantS g W B F A D (k ss e) → R vs H2) : tOs g W fl σ H1 R :=
  ⟨B, F1, A, e1, I, (w.bind σ).up m fun d e wk v F2 H2 m2 I2 r => h d e v F2 H2 (m.trans m2) m2.1 I2 r wk⟩
theorem SlotsR.uncons {v : V} {vs : List V} {s : S} {ss : List S} (r : SlotsR g B F A H σ e (v :: vs) (s :: ss)) : SlotR g B F A H (some v) s ∧ (∀ a, v = .ref a → s.isOwn = true → Apart σ e a) ∧ SlotsR g B F A H σ e vs ss ∧
    ∀ (i : Nat) (t : S) (a : Addr), vs[i]? = some (.ref a) → ss[i]? = some t → t.isOwn = true → s.isOwn = true → v ≠ .ref a :=
  ⟨r.sl 0 v s rfl rfl, fun a ea o => r.ap 0 s a (by rw [ea]; rfl) rfl o, ⟨by have := r.len; simpa using this, fun i w t h1 h2 => r.sl (i + 1) w t (by simpa using h1) (by simpa using h2), fun i t a h1 h2 => r.ap (i + 1) t a (by simpa using h1) (by simpa using h2),
    fun i j t u a h1 h2 h3 h4 o1 o2 => by have := r.dj (i + 1) (j + 1) t u a (by simpa using h1) (by simpa using h2) (by simpa using h3) (by simpa using h4) o1 o2; omega⟩,
    fun i t a h1 h2 o1 o2 ev => by have := r.dj 0 (i + 1) s t a (by rw [ev]; rfl) (by simpa using h1) rfl (by simpa using h2) o2 o1; omega⟩
/-- one is stored, the others stay as they are -/
theorem SlotsR.store {v : V} {vs : List V} {s : S} {ss : List S} {e' : Env} (I : SI g B F A H σ e) (r : SlotsR g B F A H σ e (v :: vs) (s :: ss)) (i : Nat) (h : stS i s e = some e') :
    SI g B F A H (σ.set i (some v)) e' ∧ SlotsR g B F A H (σ.set i (some v)) e' vs ss := by
  obtain ⟨r1, ap1, rr, nd⟩ := r.uncons
  obtain ⟨J, apJ⟩ := I.setS i r1 ap1 h
  exact ⟨J, rr.len, rr.sl, fun k t a h1 h2 o => apJ a (rr.ap k t a h1 h2 o) fun o2 => nd k t a h1 h2 o o2, rr.dj⟩
theorem SlotsR.vs2 {vs : List V} {s t : S} (r : SlotsR g B F A H σ e vs [s, t]) : ∃ v w, vs = [v, w] := by
  have := r.len
  match vs, this with
  | [v, w], _ => exact ⟨v, w, rfl⟩
theorem SlotsR.vs3 {vs : List V} {s t u : S} (r : SlotsR g B F A H σ e vs [s, t, u]) : ∃ v w x, vs = [v, w, x] := by
  have := r.len
  match vs, this with
  | [v, w, x], _ => exact ⟨v, w, x, rfl⟩
variable {x y z : Str} {a b d : Expr} {px py pz pt pos : Pos} {kt k2 : Nat} {pt2 : Pos}
theorem gs_par2 (i j : Nat) (hN : X.N.Nodup) (hij : i ≠ j) (ha : GOs c X W [a, b] fl) (hw : swappedStores [.Tuple [.Name x px, .Name y py] kt pt] (.Tuple [a, b] k2 pt2) X.env = pure (some [x, y]))
    (hi : X.N[i]? = some x := by rfl) (hj : X.N[j]? = some y := by rfl) (hx : X.env.scope.names.lookup x = some .local := by rfl) (hy : X.env.scope.names.lookup y = some .local := by rfl) (hc : X.calm = true := by rfl)
    (hs : swapsWithSole [.Tuple [.Name x px, .Name y py] kt pt] (.Tuple [a, b] k2 pt2) pos.line X.env = pure false := by rfl) :
    GS c X W (.Assign [.Tuple [.Name x px, .Name y py] kt pt] (.Tuple [a, b] k2 pt2) pos) (sPar2 i j fl) := PS.of (ps_par hc hN hi hj hij hx hy ha hw hs) fun D σ H ⟨B, F, A, e, I, w⟩ =>
  runOss (.refl B F) I w fun ss e1 vs F1 H1 m1 _ I1 r1 w1 => by
    match ss, w1, r1 with
    | [s, t], w1, r1 =>
      obtain ⟨v, w, rfl⟩ := r1.vs2
      obtain ⟨e3, h3, w3⟩ := w1.lift
      obtain ⟨e2, h2, h3⟩ := Option.bind_eq_some_iff.mp h3
      obtain ⟨I2, r2⟩ := r1.store I1 i h2
      obtain ⟨I3, r3⟩ := r2.store I2 j h3
      exact ⟨v, w, rfl, w3 F1 H1 _ m1 I3⟩
    | [], w1, _ => exact w1.elim
    | [_], w1, _ => exact w1.elim
    | _ :: _ :: _ :: _, w1, _ => exact w1.elim
theorem gs_par3 (i j l : Nat) (hN : X.N.Nodup) (hij : i ≠ j) (hil : i ≠ l) (hjl : j ≠ l) (ha : GOs c X W [a, b, d] fl) (hw : swappedStores [.Tuple [.Name x px, .Name y py, .Name z pz] kt pt] (.Tuple [a, b, d] k2 pt2) X.env = pure (some [x, y, z]))
    (hi : X.N[i]? = some x := by rfl) (hj : X.N[j]? = some y := by rfl) (hl : X.N[l]? = some z := by rfl) (hx : X.env.scope.names.lookup x = some .local := by rfl) (hy : X.env.scope.names.lookup y = some .local := by rfl) (hz : X.env.scope.names.lookup z = some .local := by rfl) (hc : X.calm = true := by rfl)
    (hs : swapsWithSole [.Tuple [.Name x px, .Name y py, .Name z pz] kt pt] (.Tuple [a, b, d] k2 pt2) pos.line X.env = pure false := by rfl) :
    GS c X W (.Assign [.Tuple [.Name x px, .Name y py, .Name z pz] kt pt] (.Tuple [a, b, d] k2 pt2) pos) (sPar3 i j l fl) := PS.of (ps_par3 hc hN hi hj hl hij hil hjl hx hy hz ha hw hs) fun D σ H ⟨B, F, A, e, I, w⟩ =>
  runOss (.refl B F) I w fun ss e1 vs F1 H1 m1 _ I1 r1 w1 => by
    match ss, w1, r1 with
    | [s, t, u], w1, r1 =>
      obtain ⟨v, w, o, rfl⟩ := r1.vs3
      obtain ⟨e4, h4, w4⟩ := w1.lift
      obtain ⟨e3, h3, h4⟩ := Option.bind_eq_some_iff.mp h4
      obtain ⟨e2, h2, h3⟩ := Option.bind_eq_some_iff.mp h3
      obtain ⟨I2, r2⟩ := r1.store I1 i h2
      obtain ⟨I3, r3⟩ := r2.store I2 j h3
      obtain ⟨I4, r4⟩ := r3.store I3 l h4
      exact ⟨v, w, o, rfl, w4 F1 H1 _ m1 I4⟩
    | [], w1, _ => exact w1.elim
    | [_], w1, _ => exact w1.elim
    | [_, _], w1, _ => exact w1.elim
    | _ :: _ :: _ :: _ :: _, w1, _ => exact w1.elim
end

/-! ### {} and {k: v, ..} -/
def oDict : Env → Res S := fun e => .ok (.own none (.d [])) e
def oDictT : Env → Res S := fun e => .ok (.own none (.t [])) e
section
variable {c : Nat → Addr} {X : Cx} {W : WX} {pos : Pos}
theorem go_dict0 : GO c X W (.Dict [] [] pos) oDict := PE.of pe_dnewK fun σ H Q ⟨B, F, A, e, I, w⟩ p hp =>
  w _ _ _ (.refl B F) (I.all (All.newO I.f hp)) ⟨p, rfl, (fun k z => by cases z), ⟨[], upd_same, rfl, .nil⟩, I.b.free hp, I.f.free hp⟩ fun a ea _ => by cases ea; exact I.apart_new hp
theorem go_dictT0 : GO c X W (.Dict [] [] pos) oDictT := PE.of pe_dnewT fun σ H Q ⟨B, F, A, e, I, w⟩ p hp =>
  w _ _ _ (.refl B F) (I.all (All.newO I.f hp)) ⟨p, rfl, (fun k z => by cases z), ⟨[], upd_same, rfl, .nil⟩, I.b.free hp, I.f.free hp⟩ fun a ea _ => by cases ea; exact I.apart_new hp
/-- the pairs of a display -/
def keyPairs : List (DV.D × DV.D) → Option (List (Key × DV.D))
  | [] => some []
  | (k, v) :: r => match keyD k.un, keyPairs r with
    | some k, some r => some ((k, v) :: r)
    | _, _ => none
def dpNil : Env → Res (List (DV.D × DV.D)) := fun e => .ok [] e
def dpCons (fk fv : Env → Res DV.D) (u : Env → Res (List (DV.D × DV.D))) : Env → Res (List (DV.D × DV.D)) := fun e => (fk e).bind fun k e => (fv e).bind fun v e => (u e).bind fun r e => .ok ((k, v) :: r) e
inductive PairsR (g : Γ) (F : Hp) : List (V × V) → List (DV.D × DV.D) → Prop
  | nil : PairsR g F [] []
  | cons {x y : V} {k v : DV.D} {ps : List (V × V)} {ds : List (DV.D × DV.D)} (h : Rep g F x k) (h' : Rep g F y v) (r : PairsR g F ps ds) : PairsR g F ((x, y) :: ps) ((k, v) :: ds)
def Prs (g : Γ) (W : WX) (trs : List (TE × TE)) (f : Env → Res (List (DV.D × DV.D))) : Prop := ∀ σ H (Q : List (V × V) → Hp → Prop), (∃ B F A env, SI g B F A H σ env ∧ Want g W B F A σ (fun ds e => ∀ ps F' H', Ext B F F' → SI g B F' A H' σ e → PairsR g F' ps ds → Q ps H') (f env)) → tPairs trs σ H Q
structure GPs (c : Nat → Addr) (X : Cx) (W : WX) (pos : Pos) (keys : List (Option Expr)) (values : List Expr) (f : Env → Res (List (DV.D × DV.D))) : Prop where
  run : ∃ trs, PPs X pos keys values trs ∧ Prs ⟨X.K, c⟩ W trs f
theorem gps_nil : GPs c X W pos [] [] dpNil := ⟨⟨[], pps_nil, fun σ H Q ⟨B, F, A, e, I, w⟩ => w [] F H (.refl B F) I .nil⟩⟩
theorem gps_cons {k v : Expr} {ks : List (Option Expr)} {vs : List Expr} {fk fv : Env → Res DV.D} {u : Env → Res (List (DV.D × DV.D))} (hk : GE c X W k fk) (hv : GE c X W v fv) (hr : GPs c X W pos ks vs u) : GPs c X W pos (some k :: ks) (v :: vs) (dpCons fk fv u) := by
  obtain ⟨trs, hp, h⟩ := hr
  refine ⟨⟨_, pps_cons hk hv hp, fun σ H Q ⟨B, F, A, e, I, w⟩ => ?_⟩⟩
  refine runD (.refl B F) I w fun k e1 x F1 H1 m1 _ I1 r1 w1 => ?_
  refine runD m1 I1 w1 fun v e2 y F2 H2 m2 s2 I2 r2 w2 => ?_
  refine h _ _ _ ⟨B, F2, A, e2, I2, w2.bind.up m2 fun ds e3 w3 ps F3 H3 m3 I3 r3 => ?_⟩
  exact w3 ((x, y) :: ps) F3 H3 (m2.trans m3) I3 (.cons ((r1.mono s2).mono m3.1) (r2.mono m3.1) r3)
theorem keyPairs_sound {g : Γ} {F H : Hp} (s : Same F H) : ∀ {ps : List (V × V)} {ds : List (DV.D × DV.D)} {kds : List (Key × DV.D)}, PairsR g F ps ds → keyPairs ds = some kds → ∃ kvs : List (Key × V), ps = kvs.map (fun kv => (kV kv.1, kv.2)) ∧ KR g F kvs kds
  | _, _, _, .nil, h => by cases h; exact ⟨[], rfl, .nil⟩
  | _, _, _, .cons (k := k) (ds := ds) h1 h2 r, h => by
    simp only [keyPairs] at h
    cases e1 : keyD k.un with
    | none => rw [e1] at h; cases h
    | some kk =>
      cases e2 : keyPairs ds with
      | none => rw [e1, e2] at h; cases h
      | some kds' =>
        rw [e1, e2] at h; cases h
        obtain ⟨kvs, rfl, kr⟩ := keyPairs_sound s r e2
        exact ⟨(kk, _) :: kvs, by rw [List.map_cons, keyD_sound (h1.view s) e1], .cons rfl h2 kr⟩
def oDisp (fp : Env → Res (List (DV.D × DV.D))) : Env → Res S := fun e => (fp e).bind fun ds e => (lift (keyPairs ds) e).bind fun kds e => if kds.length ≤ 15 then .ok (.own none (.d (mergeD [] kds))) e else .no
theorem go_disp {keys : List (Option Expr)} {values : List Expr} {fp : Env → Res (List (DV.D × DV.D))} (h : GPs c X W pos keys values fp) (hall : keys.all (·.isSome) = true := by rfl) (hl : keys.length = values.length := by rfl) (h0 : keys ≠ [] := by intro z; cases z)
    (h15 : keys.length ≤ 15 := by decide) : GO c X W (.Dict keys values pos) (oDisp fp) := by
  obtain ⟨trs, hp, h⟩ := h
  refine PE.of (pe_disp hp hall hl h0 h15) fun σ H Q ⟨B, F, A, e, I, w⟩ p hp => ?_
  have I0 := I.all (All.newO (o := .dK []) I.f hp)
  have I1 := I0.guard (p := p) (o := .dK []) upd_same (I.b.free hp) (I.apart_new hp)
  have hs : Same B (upd B p (.dK [])) := same_upd (I.b.free hp)
  refine h _ _ _ ⟨upd B p (.dK []), F, A, e, I1, (Want.bind w).weak hs fun ds e1 w1 ps F1 H1 m1 J1 r1 => ?_⟩
  obtain ⟨hp1, ap1⟩ := J1.guarded
  obtain ⟨kds, hk, w2⟩ := w1.bind.lift
  obtain ⟨kvs, rfl, kr⟩ := keyPairs_sound J1.f r1 hk
  split at w2
  · rename_i hl
    refine ⟨hp1, kvs, rfl, by rw [kr.length]; exact hl, ?_⟩
    have f1 : F1 p = none := m1.2 p (by rw [upd_same]; simp) (I.f.free hp)
    have bp := I.b.free hp
    have km := KR.merge kr (KR.nil (g := ⟨X.K, c⟩) (F := F1))
    have J2 := J1.weak hs
    have J3 : SI ⟨X.K, c⟩ B F1 A (upd H1 p (.dK (mergeK [] kvs))) σ e1 := by
      refine ⟨fun a u q => by rw [upd_ne (ne_of_none q bp)]; exact J2.b a u q, fun a u q => by rw [upd_ne (ne_of_none q f1)]; exact J2.f a u q, J2.len, fun i s q => ?_, J2.dj⟩
      have z := J2.sl i s q
      cases s with
      | no => trivial
      | fz d => exact z
      | own og ct =>
        obtain ⟨a, ea, ho, cr, b, f⟩ := J2.own q
        rw [ea]
        exact ⟨a, rfl, ho, cr.up (.refl F1) (upd_ne fun z => ap1 i _ q rfl (by rw [ea, z])), b, f⟩
    exact w2 (.ref p) F1 _ (m1.weak hs) J3 ⟨p, rfl, (fun k z => by cases z), ⟨_, upd_same, km.e, km.r⟩, bp, f1⟩ fun a ea _ => by cases ea; exact ap1
  · exact w2.elim
end
end DV

set_option Elab.async false
set_option linter.all false
set_option autoImplicit false
set_option maxRecDepth 100000
set_option maxHeartbeats 2000000
/-! V15: comprehensions. -/
namespace DV
open PySem PySem.Spec L2
open PyProof.Rows hiding St

def wipeE (e : Env) : List Nat → Env
  | [] => e
  | v :: vs => (wipeE e vs).set v .no
theorem wipe_in {σ : L2.St} {j : Nat} : ∀ {vs : List Nat}, j ∈ vs → j < σ.length → (wipe σ vs)[j]? = some none
  | v :: vs, h, hl => by
    unfold wipe
    by_cases hv : v = j
    · subst hv
      rw [List.getElem?_set_self (by rw [wipe_length]; exact hl)]
    · rw [List.getElem?_set_ne hv]
      exact wipe_in ((List.mem_cons.mp h).resolve_left fun z => hv z.symm) hl
theorem wipe_out {σ : L2.St} {j : Nat} : ∀ {vs : List Nat}, j ∉ vs → (wipe σ vs)[j]? = σ[j]?
  | [], _ => rfl
  | v :: vs, h => by
    unfold wipe
    rw [List.getElem?_set_ne (fun z => h (by rw [z]; exact List.mem_cons_self))]
    exact wipe_out fun z => h (List.mem_cons_of_mem _ z)
theorem wipeE_len (e : Env) : ∀ vs : List Nat, (wipeE e vs).length = e.length
  | [] => rfl
  | v :: vs => by unfold wipeE; rw [List.length_set, wipeE_len e vs]
theorem wipeE_in {e : Env} {j : Nat} {s : S} : ∀ {vs : List Nat}, j ∈ vs → (wipeE e vs)[j]? = some s → s = .no
  | v :: vs, h, q => by
    unfold wipeE at q
    by_cases hv : v = j
    · subst hv
      by_cases hl : v < (wipeE e vs).length
      · rw [List.getElem?_set_self hl] at q; cases q; rfl
      · rw [List.getElem?_eq_none (by simpa using hl)] at q; cases q
    · rw [List.getElem?_set_ne hv] at q
      exact wipeE_in ((List.mem_cons.mp h).resolve_left fun z => hv z.symm) q
theorem wipe_off {σ σ' : L2.St} {vs is : List Nat} (o : Off is σ σ') (h : ∀ i ∈ is, i ∈ vs) : wipe σ' vs = wipe σ vs := by
  apply List.ext_getElem?
  intro j
  by_cases hj : j ∈ vs
  · by_cases hl : j < σ.length
    · rw [wipe_in hj hl, wipe_in hj (by rw [o.1]; exact hl)]
    · rw [List.getElem?_eq_none (by rw [wipe_length, o.1]; omega), List.getElem?_eq_none (by rw [wipe_length]; omega)]
  · rw [wipe_out hj, wipe_out hj, o.2 j fun z => hj (h j z)]
section
variable {g : Γ} {B F : Hp} {A : Nat → V} {H : Hp} {σ : L2.St} {e : Env}
theorem SI.wipe (I : SI g B F A H σ e) : ∀ vs : List Nat, SI g B F A H (L2.wipe σ vs) (wipeE e vs)
  | [] => I
  | v :: vs => (I.wipe vs).setN none v
theorem SI.wipeE (I : SI g B F A H σ e) : ∀ vs : List Nat, SI g B F A H σ (DV.wipeE e vs)
  | [] => I
  | v :: vs => (I.wipeE vs).forget v
theorem SI.unwipe {vs : List Nat} (I : SI g B F A H (L2.wipe σ vs) (DV.wipeE e vs)) : SI g B F A H σ (DV.wipeE e vs) := by
  have key : ∀ {j : Nat} {s : S}, (DV.wipeE e vs)[j]? = some s → s = .no ∨ (L2.wipe σ vs)[j]? = σ[j]? := fun {j s} h => by
    by_cases hj : j ∈ vs
    · exact .inl (wipeE_in hj h)
    · exact .inr (wipe_out hj)
  refine ⟨I.b, I.f, by rw [I.len, wipe_length], fun j s h => ?_, fun i j s t a h1 h2 o1 o2 s1 s2 => ?_⟩
  · rcases key h with rfl | k
    · trivial
    · rw [← k]; exact I.sl j s h
  · rcases key h1 with rfl | k1
    · cases o1
    · rcases key h2 with rfl | k2
      · cases o2
      · exact I.dj i j s t a h1 h2 o1 o2 (by rw [k1]; exact s1) (by rw [k2]; exact s2)
/-- the guarded object is changed -/
theorem SI.reguard {p : Addr} {o o' : HO} (I : SI g (upd B p o) F A H σ e) (hf : F p = none) : SI g (upd B p o') F A (upd H p o') σ e := by
  obtain ⟨hp, ap⟩ := I.guarded
  refine ⟨fun a u q => ?_, fun a u q => by rw [upd_ne (ne_of_none q hf)]; exact I.f a u q, I.len, fun i s q => ?_, I.dj⟩
  · by_cases ha : a = p
    · subst ha; rw [upd_same] at q ⊢; exact q
    · rw [upd_ne ha] at q ⊢; exact I.b a u (by rw [upd_ne ha]; exact q)
  · have z := I.sl i s q
    cases s with
    | no => trivial
    | fz d => exact z
    | own og ct =>
      obtain ⟨a, ea, _⟩ := I.own q
      obtain ⟨ho, cr, b, f⟩ := I.at_own q ea
      have na : a ≠ p := fun z => ap i _ q rfl (by rw [ea, z])
      rw [ea]
      exact ⟨a, rfl, ho, cr.up (.refl F) (upd_ne na), by rw [upd_ne na] at b ⊢; exact b, f⟩
end

abbrev W0 : WX := fun _ _ _ _ => False
/-- a turn's values: nothing may be raised -/
def lcD (vs : List Nat) (gt : D → Env → Option Env) (ft : Env → Res Bool) (fe : Env → Res D) : List D → Env → List D → Option (List D × Env)
  | [], e, acc => some (acc, e)
  | d :: ds, e, acc => match gt d e with
    | none => none
    | some e => match ft e with
      | .ok true e => match fe e with
        | .ok y e => if acc.length < 1000000 then lcD vs gt ft fe ds (wipeE e vs) (acc ++ [y]) else none
        | _ => none
      | .ok false e => lcD vs gt ft fe ds (wipeE e vs) acc
      | _ => none
def bYes : Env → Res Bool := fun e => .ok true e
def oLc (vs : List Nat) (fi : Env → Res (List D)) (gt : D → Env → Option Env) (ft : Env → Res Bool) (fe : Env → Res D) : Env → Res S := fun e => (fi e).bind fun ds e => match lcD vs gt ft fe ds (wipeE e vs) [] with
  | some (acc, e) => .ok (.own none (.l acc)) e
  | none => .no
def dcD (vs : List Nat) (gt : D → Env → Option Env) (ft : Env → Res Bool) (fk fe : Env → Res D) : List D → Env → List (Key × D) → Option (List (Key × D) × Env)
  | [], e, acc => some (acc, e)
  | d :: ds, e, acc => match gt d e with
    | none => none
    | some e => match ft e with
      | .ok true e => match fk e with
        | .ok k e => match fe e with
          | .ok y e => match keyD k.un with
            | some k => if acc.length < 1000000 then dcD vs gt ft fk fe ds (wipeE e vs) (putD acc k y) else none
            | none => none
          | _ => none
        | _ => none
      | .ok false e => dcD vs gt ft fk fe ds (wipeE e vs) acc
      | _ => none
def oDc (vs : List Nat) (fi : Env → Res (List D)) (gt : D → Env → Option Env) (ft : Env → Res Bool) (fk fe : Env → Res D) : Env → Res S := fun e => (fi e).bind fun ds e => match dcD vs gt ft fk fe ds (wipeE e vs) [] with
  | some (acc, e) => .ok (.own none (.d acc)) e
  | none => .no
abbrev GTs (c : Nat → Addr) (X : Cx) (W : WX) (es : List Expr) (f : Env → Res Bool) : Prop := PTs X es (tT ⟨X.K, c⟩ W f)
section
variable {c : Nat → Addr} {X : Cx} {W : WX} {ft : Env → Res Bool} {fk fe : Env → Res D} {fi : Env → Res (List D)} {gt : D → Env → Option Env} {is : List Nat} {own : List (Str × Nat)} {elt kx tg iter : Expr} {ifs : List Expr} {scope : Scope} {pos : Pos}
theorem gts_nil : GTs c X W [] bYes := ⟨fun pins s σ H Q J ⟨B, F, A, e, I, w⟩ => pts_nil.run pins s σ H Q J (w F H (.refl B F) I)⟩
theorem gts_one {t : Expr} (h : GT c X W t ft) : GTs c X W [t] ft := pts_one h
/-- the state between two turns -/
structure LcI (g : Γ) (vs : List Nat) (B F F0 : Hp) (A : Nat → V) (σ : L2.St) (D : Addr) (H F2 : Hp) (e : Env) (o : HO) : Prop where
  m : Ext B F F2
  s : Same F0 F2
  fd : F2 D = none
  I : SI g (upd B D o) F2 A H (wipe σ vs) (wipeE e vs)
theorem okE {α : Type} {g : Γ} {B F : Hp} {A : Nat → V} {σ : L2.St} {r : Res α} {P : α → Env → Prop} {a : α} {e : Env} (h : r = .ok a e) (p : P a e) : Want g W0 B F A σ P r := by rw [h]; exact p
theorem sem_lc {g : Γ} (his : ∀ i ∈ is, i ∈ own.map (·.2)) : ∀ σ H Q, tO g W (oLc (own.map (·.2)) fi gt ft fe) σ H Q → tLc (tI g W fi) (tG g is gt) (tT g W0 ft) (tD g W0 fe) (own.map (·.2)) σ H Q := fun σ H Q ⟨B, F, A, e, I, w⟩ => by
  generalize own.map (·.2) = vs at his w ⊢
  refine ⟨B, F, A, e, I, (Want.bind w).imp fun ds e1 wk F0 H0 J m0 I0 ok D hD => ?_⟩
  obtain ⟨G, Y, wlk, hG, hY⟩ := ok
  cases hlc : lcD vs gt ft fe ds (wipeE e1 vs) [] with
  | none => rw [hlc] at wk; exact wk.elim
  | some r =>
    obtain ⟨accF, eF⟩ := r
    rw [hlc] at wk
    have fin : FinO g B F A σ Q (.own none (.l accF)) eF := wk
    have hb := I0.b.free hD
    have hf := I0.f.free hD
    have I1 := I0.all (All.newO (o := .lst []) I0.f hD)
    have I2 := (I1.guard (p := D) (o := .lst []) upd_same hb (I0.apart_new hD)).wipe vs
    refine lc_it wlk (fun k H2 => ∃ F2 e2 accv accd, LcI g vs B F F0 A σ D H2 F2 e2 (.lst accv) ∧ Reps g F2 accv accd ∧ lcD vs gt ft fe (ds.drop k) (wipeE e2 vs) accd = some (accF, eF)) ⟨F0, e1, [], [], ⟨m0, .refl F0, hf, I2⟩, .nil, by rw [List.drop_zero]; exact hlc⟩ (fun k H2 _ ⟨F2, e2, _, _, L, _⟩ => hG H2 (L.s.trans L.I.f)) ?_ ?_
    · rintro i x H2 H3 hi ⟨F2, e2, accv, accd, L, ra, hl⟩ y
      obtain ⟨F3, d, al, hd, rd⟩ := hY i F2 H2 x H3 hi L.s L.I.f y
      rw [List.drop_eq_getElem_cons hi] at hl
      have hd' : ds[i] = d := by
        rw [List.getElem?_eq_getElem hi] at hd
        exact Option.some.inj hd
      rw [hd'] at hl
      unfold lcD at hl
      have m3 : Ext (upd B D (.lst accv)) F2 F3 := al.ext L.I.b
      have hsB : Same B (upd B D (.lst accv)) := same_upd hb
      cases hgt : gt d (wipeE e2 vs) with
      | none => rw [hgt] at hl; cases hl
      | some e3 =>
        rw [hgt] at hl
        simp only at hl
        refine ⟨upd B D (.lst accv), F3, A, _, d, e3, L.I.all al, rd, hgt, fun σ4 F4 H4 o4 m4 I4 => ⟨?_, ?_⟩⟩
        · rw [wipe_off o4 his]
          apply List.ext_getElem?
          intro j
          by_cases hj : j ∈ vs
          · by_cases hl' : j < σ.length
            · rw [wipe_in hj (by rw [wipe_length]; exact hl'), wipe_in hj hl']
            · rw [List.getElem?_eq_none (by rw [wipe_length, wipe_length]; omega), List.getElem?_eq_none (by rw [wipe_length]; omega)]
          · rw [wipe_out hj]
        · have wσ : wipe σ4 vs = wipe σ vs := by
            rw [wipe_off o4 his]
            apply List.ext_getElem?
            intro j
            by_cases hj : j ∈ vs
            · by_cases hl' : j < σ.length
              · rw [wipe_in hj (by rw [wipe_length]; exact hl'), wipe_in hj hl']
              · rw [List.getElem?_eq_none (by rw [wipe_length, wipe_length]; omega), List.getElem?_eq_none (by rw [wipe_length]; omega)]
            · rw [wipe_out hj]
          have nD : upd B D (.lst accv) D ≠ none := by rw [upd_same]; simp
          cases hft : ft e3 with
          | no => rw [hft] at hl; cases hl
          | ex x4 e4 => rw [hft] at hl; cases hl
          | ok b e4 =>
            rw [hft] at hl
            refine ⟨upd B D (.lst accv), F4, A, e3, I4, okE hft fun F5 H5 m5 I5 => ?_⟩
            have M5 := (m3.trans m4).trans m5
            cases b with
            | false =>
              simp only at hl
              refine iteF ?_
              have I6 := I5.wipe vs
              rw [wσ] at I6
              exact ⟨F5, e4, accv, accd, ⟨L.m.trans (M5.weak hsB), L.s.trans M5.1, M5.2 D nD L.fd, I6⟩, ra.mono M5.1, hl⟩
            | true =>
              simp only at hl
              refine iteT ?_
              cases hfe : fe e4 with
              | no => rw [hfe] at hl; cases hl
              | ex x4 e5 => rw [hfe] at hl; cases hl
              | ok dy e5 =>
                rw [hfe] at hl
                simp only at hl
                split at hl
                · rename_i hlen
                  refine ⟨upd B D (.lst accv), F5, A, e4, I5, okE hfe fun y6 F6 H6 m6 I6 r6 => ?_⟩
                  have M6 := M5.trans m6
                  have f6 := M6.2 D nD L.fd
                  refine ⟨accv, I6.guarded.1, by rw [ra.length, sizeLine_eq]; omega, ?_⟩
                  have I7 := (I6.reguard (o' := .lst (accv ++ [y6])) f6).wipe vs
                  rw [wσ] at I7
                  exact ⟨F6, e5, accv ++ [y6], accd ++ [dy], ⟨L.m.trans (M6.weak hsB), L.s.trans M6.1, f6, I7⟩, (ra.mono M6.1).app (.one r6), hl⟩
                · cases hl
    · rintro H2 ⟨F2, e2, accv, accd, L, ra, hl⟩
      rw [List.drop_length] at hl
      unfold lcD at hl
      cases hl
      have hsB : Same B (upd B D (.lst accv)) := same_upd hb
      exact fin (.ref D) F2 H2 L.m ((L.I.weak hsB).unwipe) ⟨D, rfl, (fun k z => by cases z), ⟨accv, L.I.guarded.1, ra⟩, hb, L.fd⟩ fun a ea _ i s q o z => by
        cases ea
        by_cases hj : i ∈ vs
        · rw [wipeE_in hj q] at o; cases o
        · exact L.I.guarded.2 i s q o (by rw [wipe_out hj]; exact z)
/-- a dict comprehension over a walk -/
theorem dc_it {J : It} {n : Nat} {G : Hp → Prop} {Y : Nat → Hp → V → Hp → Prop} (w : Walk J n G Y) {g : TG} {tt : TT} {tk tv : TE} {vs : List Nat} {σ : L2.St} {H1 : Hp} {D : Addr} {Qd : Hp → Prop} (Pv : Nat → Hp → Prop) (h0 : Pv 0 (upd H1 D (.dK []))) (hG : ∀ i H, i ≤ n → Pv i H → G H)
    (hs : ∀ i x H H', i < n → Pv i H → Y i H x H' → g x (wipe σ vs) H' fun σ2 H2 => wipe σ2 vs = wipe σ vs ∧ tt σ2 H2 fun b H3 =>
      if b = true then tk σ2 H3 fun y H4 => tv σ2 H4 fun z H5 => ∃ kvs k, y = kV k ∧ H5 D = some (.dK kvs) ∧ kvs.length < sizeLine ∧ Pv (i + 1) (upd H5 D (.dK (putK kvs k z))) else Pv (i + 1) H3) (hd : ∀ H, Pv n H → Qd H) :
    ∃ W : Nat → Nat → Hp → Prop, (∃ m, W 0 m (upd H1 D (.dK []))) ∧ ∀ i m H, W i m H →
      (J.stop i H ∧ Qd H) ∨ (J.go i H ∧ ∃ Nx : Hp → Prop, (∀ H', Nx H' → ∃ m', m' < m ∧ W (i + 1) m' H') ∧ ∀ x H', J.yld i H x H' → g x (wipe σ vs) H' fun σ2 H2 => wipe σ2 vs = wipe σ vs ∧ tt σ2 H2 fun b H3 =>
        if b = true then tk σ2 H3 fun y H4 => tv σ2 H4 fun z H5 => ∃ kvs k, y = kV k ∧ H5 D = some (.dK kvs) ∧ kvs.length < sizeLine ∧ Nx (upd H5 D (.dK (putK kvs k z))) else Nx H3) := by
  refine ⟨fun i m H => m = n - i ∧ i ≤ n ∧ Pv i H, ⟨n, by simp, Nat.zero_le _, h0⟩, ?_⟩
  rintro i m H ⟨rfl, hi, p⟩
  have q := hG i H hi p
  by_cases hlt : i < n
  · exact .inr ⟨w.goes i H hlt q, Pv (i + 1), fun H' p' => ⟨n - (i + 1), by omega, rfl, hlt, p'⟩, fun x H' y => hs i x H H' hlt p (w.yields i H x H' hlt q y)⟩
  · have e : i = n := by omega
    subst e
    exact .inl ⟨w.stops H q, hd H p⟩
theorem sem_dc {g : Γ} (his : ∀ i ∈ is, i ∈ own.map (·.2)) : ∀ σ H Q, tO g W (oDc (own.map (·.2)) fi gt ft fk fe) σ H Q → tDc (tI g W fi) (tG g is gt) (tT g W0 ft) (tD g W0 fk) (tD g W0 fe) (own.map (·.2)) σ H Q := fun σ H Q ⟨B, F, A, e, I, w⟩ => by
  generalize own.map (·.2) = vs at his w ⊢
  refine ⟨B, F, A, e, I, (Want.bind w).imp fun ds e1 wk F0 H0 J m0 I0 ok D hD => ?_⟩
  obtain ⟨G, Y, wlk, hG, hY⟩ := ok
  cases hlc : dcD vs gt ft fk fe ds (wipeE e1 vs) [] with
  | none => rw [hlc] at wk; exact wk.elim
  | some r =>
    obtain ⟨accF, eF⟩ := r
    rw [hlc] at wk
    have fin : FinO g B F A σ Q (.own none (.d accF)) eF := wk
    have hb := I0.b.free hD
    have hf := I0.f.free hD
    have I1 := I0.all (All.newO (o := .dK []) I0.f hD)
    have I2 := (I1.guard (p := D) (o := .dK []) upd_same hb (I0.apart_new hD)).wipe vs
    refine dc_it wlk (fun k H2 => ∃ F2 e2 accv accd, LcI g vs B F F0 A σ D H2 F2 e2 (.dK accv) ∧ KR g F2 accv accd ∧ dcD vs gt ft fk fe (ds.drop k) (wipeE e2 vs) accd = some (accF, eF)) ⟨F0, e1, [], [], ⟨m0, .refl F0, hf, I2⟩, KR.nil, by rw [List.drop_zero]; exact hlc⟩ (fun k H2 _ ⟨F2, e2, _, _, L, _⟩ => hG H2 (L.s.trans L.I.f)) ?_ ?_
    · rintro i x H2 H3 hi ⟨F2, e2, accv, accd, L, ra, hl⟩ y
      obtain ⟨F3, d, al, hd, rd⟩ := hY i F2 H2 x H3 hi L.s L.I.f y
      rw [List.drop_eq_getElem_cons hi] at hl
      have hd' : ds[i] = d := by
        rw [List.getElem?_eq_getElem hi] at hd
        exact Option.some.inj hd
      rw [hd'] at hl
      unfold dcD at hl
      have m3 : Ext (upd B D (.dK accv)) F2 F3 := al.ext L.I.b
      have hsB : Same B (upd B D (.dK accv)) := same_upd hb
      cases hgt : gt d (wipeE e2 vs) with
      | none => rw [hgt] at hl; cases hl
      | some e3 =>
        rw [hgt] at hl
        simp only at hl
        refine ⟨upd B D (.dK accv), F3, A, _, d, e3, L.I.all al, rd, hgt, fun σ4 F4 H4 o4 m4 I4 => ⟨?_, ?_⟩⟩
        · rw [wipe_off o4 his]
          apply List.ext_getElem?
          intro j
          by_cases hj : j ∈ vs
          · by_cases hl' : j < σ.length
            · rw [wipe_in hj (by rw [wipe_length]; exact hl'), wipe_in hj hl']
            · rw [List.getElem?_eq_none (by rw [wipe_length, wipe_length]; omega), List.getElem?_eq_none (by rw [wipe_length]; omega)]
          · rw [wipe_out hj]
        · have wσ : wipe σ4 vs = wipe σ vs := by
            rw [wipe_off o4 his]
            apply List.ext_getElem?
            intro j
            by_cases hj : j ∈ vs
            · by_cases hl' : j < σ.length
              · rw [wipe_in hj (by rw [wipe_length]; exact hl'), wipe_in hj hl']
              · rw [List.getElem?_eq_none (by rw [wipe_length, wipe_length]; omega), List.getElem?_eq_none (by rw [wipe_length]; omega)]
            · rw [wipe_out hj]
          have nD : upd B D (.dK accv) D ≠ none := by rw [upd_same]; simp
          cases hft : ft e3 with
          | no => rw [hft] at hl; cases hl
          | ex x4 e4 => rw [hft] at hl; cases hl
          | ok b e4 =>
            rw [hft] at hl
            refine ⟨upd B D (.dK accv), F4, A, e3, I4, okE hft fun F5 H5 m5 I5 => ?_⟩
            have M5 := (m3.trans m4).trans m5
            cases b with
            | false =>
              simp only at hl
              refine iteF ?_
              have I6 := I5.wipe vs
              rw [wσ] at I6
              exact ⟨F5, e4, accv, accd, ⟨L.m.trans (M5.weak hsB), L.s.trans M5.1, M5.2 D nD L.fd, I6⟩, ra.mono M5.1, hl⟩
            | true =>
              simp only at hl
              refine iteT ?_
              cases hfk : fk e4 with
              | no => rw [hfk] at hl; cases hl
              | ex x4 e5 => rw [hfk] at hl; cases hl
              | ok dk e5 =>
                rw [hfk] at hl
                simp only at hl
                cases hfe : fe e5 with
                | no => rw [hfe] at hl; cases hl
                | ex x4 e6 => rw [hfe] at hl; cases hl
                | ok dy e6 =>
                  rw [hfe] at hl
                  simp only at hl
                  split at hl
                  · rename_i kk hk
                    split at hl
                    · rename_i hlen
                      refine ⟨upd B D (.dK accv), F5, A, e4, I5, okE hfk fun yk F6 H6 m6 I6 rk => ?_⟩
                      refine ⟨upd B D (.dK accv), F6, A, e5, I6, okE hfe fun y7 F7 H7 m7 I7 r7 => ?_⟩
                      have M7 := (M5.trans m6).trans m7
                      have f7 := M7.2 D nD L.fd
                      have rl := ra.length
                      refine ⟨accv, kk, keyD_sound (rk.view I6.f) hk, I7.guarded.1, by rw [sizeLine_eq]; omega, ?_⟩
                      have I8 := (I7.reguard (o' := .dK (putK accv kk y7)) f7).wipe vs
                      rw [wσ] at I8
                      exact ⟨F7, e6, putK accv kk y7, putD accd kk dy, ⟨L.m.trans (M7.weak hsB), L.s.trans M7.1, f7, I8⟩, (ra.mono M7.1).put kk r7, hl⟩
                    · cases hl
                  · cases hl
    · rintro H2 ⟨F2, e2, accv, accd, L, ra, hl⟩
      rw [List.drop_length] at hl
      unfold dcD at hl
      cases hl
      have hsB : Same B (upd B D (.dK accv)) := same_upd hb
      exact fin (.ref D) F2 H2 L.m ((L.I.weak hsB).unwipe) ⟨D, rfl, (fun k z => by cases z), ⟨accv, L.I.guarded.1, ra.e, ra.r⟩, hb, L.fd⟩ fun a ea _ i s q o z => by
        cases ea
        by_cases hj : i ∈ vs
        · rw [wipeE_in hj q] at o; cases o
        · exact L.I.guarded.2 i s q o (by rw [wipe_out hj]; exact z)
end

section
variable {c : Nat → Addr} {X : Cx} {W : WX} {ft : Env → Res Bool} {fk fe : Env → Res D} {fi : Env → Res (List D)} {gt : D → Env → Option Env} {is : List Nat} {own : List (Str × Nat)} {elt kx tg iter : Expr} {ifs : List Expr} {scope : Scope} {pos spos : Pos}
/-- [e for x in xs if t] -/
theorem go_lc (hN : X.N.Nodup) (ok : BlkOk X.N X.env.scope scope own) (his : ∀ i ∈ is, i ∈ own.map (·.2)) (hi : GI c X W tg iter fi)
    (hg : ∀ (s : Shared) (H : Hp) (C : Addr) (cl : List (Str × Addr)) (fp : List Addr), GG c (X.blk s H scope (compEnvC scope cl C X.env) fp) tg is gt) (ht : ∀ (s : Shared) (H : Hp) (C : Addr) (cl : List (Str × Addr)) (fp : List Addr), GTs c (X.blk s H scope (compEnvC scope cl C X.env) fp) W0 ifs ft)
    (he : ∀ (s : Shared) (H : Hp) (C : Addr) (cl : List (Str × Addr)) (fp : List Addr), GE c (X.blk s H scope (compEnvC scope cl C X.env) fp) W0 elt fe) (hc : X.calm = true := by rfl) (hs : ∀ x, foldedSetIterable iter X.env x = pure x := by intro _; rfl) :
    GO c X W (.ListComp elt [⟨tg, iter, ifs, 0⟩] scope pos) (oLc (own.map (·.2)) fi gt ft fe) := PE.of (pe_lc hc hN hi ok hg ht he hs) (sem_lc his)
theorem go_dc (hN : X.N.Nodup) (ok : BlkOk X.N X.env.scope scope own) (his : ∀ i ∈ is, i ∈ own.map (·.2)) (hi : GI c X W tg iter fi)
    (hg : ∀ (s : Shared) (H : Hp) (C : Addr) (cl : List (Str × Addr)) (fp : List Addr), GG c (X.blk s H scope (compEnvC scope cl C X.env) fp) tg is gt) (ht : ∀ (s : Shared) (H : Hp) (C : Addr) (cl : List (Str × Addr)) (fp : List Addr), GTs c (X.blk s H scope (compEnvC scope cl C X.env) fp) W0 ifs ft)
    (hk : ∀ (s : Shared) (H : Hp) (C : Addr) (cl : List (Str × Addr)) (fp : List Addr), GE c (X.blk s H scope (compEnvC scope cl C X.env) fp) W0 kx fk)
    (he : ∀ (s : Shared) (H : Hp) (C : Addr) (cl : List (Str × Addr)) (fp : List Addr), GE c (X.blk s H scope (compEnvC scope cl C X.env) fp) W0 elt fe) (hc : X.calm = true := by rfl) (hs : ∀ x, foldedSetIterable iter X.env x = pure x := by intro _; rfl) :
    GO c X W (.DictComp kx elt [⟨tg, iter, ifs, 0⟩] scope pos) (oDc (own.map (·.2)) fi gt ft fk fe) := PE.of (pe_dc hc hN hi ok hg ht hk he hs) (sem_dc his)
/-- name = {..} on one line -/
theorem ps_setDc {i : Nat} {y : Str} {py : Pos} {wi : TI} {g : TG} {tt : TT} {tk te : TE} (hc : X.calm = true) (hN : X.N.Nodup) (hy : X.N[i]? = some y) (hyl : X.env.scope.names.lookup y = some .local)
    (hsw : swapsWith (.DictComp kx elt [⟨tg, iter, ifs, 0⟩] scope pos) (some (.Name y py)) spos.line X.env = pure true) (hi : PI X tg iter wi) (ok : BlkOk X.N X.env.scope scope own)
    (hg : ∀ (s : Shared) (H : Hp) (C : Addr) (cl : List (Str × Addr)) (fp : List Addr), PG (X.blk s H scope (compEnvC scope cl C X.env) fp) tg g) (ht : ∀ (s : Shared) (H : Hp) (C : Addr) (cl : List (Str × Addr)) (fp : List Addr), PTs (X.blk s H scope (compEnvC scope cl C X.env) fp) ifs tt)
    (hk : ∀ (s : Shared) (H : Hp) (C : Addr) (cl : List (Str × Addr)) (fp : List Addr), PE (X.blk s H scope (compEnvC scope cl C X.env) fp) kx tk)
    (he : ∀ (s : Shared) (H : Hp) (C : Addr) (cl : List (Str × Addr)) (fp : List Addr), PE (X.blk s H scope (compEnvC scope cl C X.env) fp) elt te) (hs : ∀ x, foldedSetIterable iter X.env x = pure x := by intro _; rfl) :
    PS X (.Assign [.Name y py] (.DictComp kx elt [⟨tg, iter, ifs, 0⟩] scope pos) spos) (tAsg (tDc wi g tt tk te (own.map (·.2))) (gName i)) := by
  refine ⟨fun pins s σ H D I h => ?_⟩
  rw [exec_Assign_Name_used _ _ _ _ hsw]
  refine wpAny_bind (wpAny_standAt (wpAny_bind ?_))
  show wpAny _ X.A (do let _ ← comprehension (.DictComp kx elt [⟨tg, iter, ifs, 0⟩] scope pos) scope X.env (firstIterPos [⟨tg, iter, ifs, 0⟩] pos) newDict false (eval iter X.env) (some (assign (.Name y py) X.env))) _ _ s
  have h : tDc wi g tt tk te (own.map (·.2)) σ H (fun x H1 => gName i x σ H1 D.nx) := h
  refine wpAny_bind (thn (dc_core (Qf := fun _ s' => SP X pins D .next s') hc hN I hi ok hg ht hk he hs h fun L C s' m H' I' q hn f => ?_) fun _ s' hq => wpAny_pure (wpAny_pure hq))
  show wpAny _ _ (assign (.Name y py) X.env (.ref L)) _ _ _
  refine wpAny_assign_Name (store_ok2 (v := V.ref L) I' hN hy (.inl hyl) rfl (fun s2 I2 ⟨a, sb, ha⟩ => ?_) (.inr hyl))
  obtain ⟨f0, f1, f2, f3, f4, f5⟩ := f
  have haC : C ≠ a := by
    rcases ha with z | z
    · rw [z]; exact f1
    · exact fun e => f4 y a z e.symm
  refine ⟨m, hn.sameBut sb haC, fun h3 sb3 => ?_⟩
  exact ⟨_, H', I2.turned (t' := s2.toks) (fun b o hb e => (sb3.2 b hb).trans e) f0 f1 f3 f4 f5, q⟩
theorem sem_set {g : Γ} {i : Nat} {fo : Env → Res S} {te : TE} (h : ∀ σ H Q, tO g W fo σ H Q → te σ H Q) : ∀ D σ H, tS g W (sSet i fo) D σ H → tAsg te (gName i) D σ H := fun D σ H ⟨B, F, A, e, I, w⟩ =>
  h _ _ _ (runOs (.refl B F) I w fun d e v F2 H2 m s J r ap w2 => by
    obtain ⟨e', he, w3⟩ := w2.lift
    exact w3 F2 H2 _ m (J.setS i r ap he).1)
theorem gs_setLc (i : Nat) {y : Str} {py : Pos} (hN : X.N.Nodup) (ok : BlkOk X.N X.env.scope scope own) (his : ∀ i ∈ is, i ∈ own.map (·.2)) (hi : GI c X W tg iter fi)
    (hg : ∀ (s : Shared) (H : Hp) (C : Addr) (cl : List (Str × Addr)) (fp : List Addr), GG c (X.blk s H scope (compEnvC scope cl C X.env) fp) tg is gt) (ht : ∀ (s : Shared) (H : Hp) (C : Addr) (cl : List (Str × Addr)) (fp : List Addr), GTs c (X.blk s H scope (compEnvC scope cl C X.env) fp) W0 ifs ft)
    (he : ∀ (s : Shared) (H : Hp) (C : Addr) (cl : List (Str × Addr)) (fp : List Addr), GE c (X.blk s H scope (compEnvC scope cl C X.env) fp) W0 elt fe)
    (hy : X.N[i]? = some y := by rfl) (hyl : X.env.scope.names.lookup y = some .local := by rfl) (hc : X.calm = true := by rfl) (hsw : swapsWith (.ListComp elt [⟨tg, iter, ifs, 0⟩] scope pos) (some (.Name y py)) spos.line X.env = pure true := by rfl) (hs : ∀ x, foldedSetIterable iter X.env x = pure x := by intro _; rfl) :
    GS c X W (.Assign [.Name y py] (.ListComp elt [⟨tg, iter, ifs, 0⟩] scope pos) spos) (sSet i (oLc (own.map (·.2)) fi gt ft fe)) := PS.of (ps_setLc hc hN hy hyl hsw hi ok hg ht he hs) (sem_set (sem_lc his))
theorem gs_setDc (i : Nat) {y : Str} {py : Pos} (hN : X.N.Nodup) (ok : BlkOk X.N X.env.scope scope own) (his : ∀ i ∈ is, i ∈ own.map (·.2)) (hi : GI c X W tg iter fi)
    (hg : ∀ (s : Shared) (H : Hp) (C : Addr) (cl : List (Str × Addr)) (fp : List Addr), GG c (X.blk s H scope (compEnvC scope cl C X.env) fp) tg is gt) (ht : ∀ (s : Shared) (H : Hp) (C : Addr) (cl : List (Str × Addr)) (fp : List Addr), GTs c (X.blk s H scope (compEnvC scope cl C X.env) fp) W0 ifs ft)
    (hk : ∀ (s : Shared) (H : Hp) (C : Addr) (cl : List (Str × Addr)) (fp : List Addr), GE c (X.blk s H scope (compEnvC scope cl C X.env) fp) W0 kx fk)
    (he : ∀ (s : Shared) (H : Hp) (C : Addr) (cl : List (Str × Addr)) (fp : List Addr), GE c (X.blk s H scope (compEnvC scope cl C X.env) fp) W0 elt fe)
    (hy : X.N[i]? = some y := by rfl) (hyl : X.env.scope.names.lookup y = some .local := by rfl) (hc : X.calm = true := by rfl) (hsw : swapsWith (.DictComp kx elt [⟨tg, iter, ifs, 0⟩] scope pos) (some (.Name y py)) spos.line X.env = pure true := by rfl) (hs : ∀ x, foldedSetIterable iter X.env x = pure x := by intro _; rfl) :
    GS c X W (.Assign [.Name y py] (.DictComp kx elt [⟨tg, iter, ifs, 0⟩] scope pos) spos) (sSet i (oDc (own.map (·.2)) fi gt ft fk fe)) := PS.of (ps_setDc hc hN hy hyl hsw hi ok hg ht hk he hs) (sem_set (sem_dc his))
end
end DV

set_option Elab.async false
set_option linter.all false
set_option autoImplicit false
set_option maxRecDepth 100000
set_option maxHeartbeats 2000000
/-! V16: len and in of an own object; min of tuples. -/
namespace DV
open PySem PySem.Spec L2
open PyProof.Rows hiding St

section
variable {c : Nat → Addr} {X : Cx} {k n : Nat} {f : Addr} {fd : FuncData} {ps : List Str} {sp : Sp}
theorem Inv.inst {pins : List (Addr × Obj)} {σ : L2.St} {H : Hp} {s : Shared} {a C dx : Addr} {fs : List (Str × V)} (I : Inv X pins σ H s) (h : H a = some (.ins C dx fs)) : ∃ od, PySem.W.InstAt s.heap a (PySem.W.instObj C dx) C (some od) := by
  obtain ⟨mA, O, _⟩ := ins_get I.hok h
  obtain ⟨od, J, _⟩ := O.look
  exact ⟨od, J⟩
/-- a def is run a builtin deeper, nothing may be raised -/
theorem run_deep {A : Around} {pins : List (Addr × Obj)} {σ : L2.St} {H : Hp} {s : Shared} {Q : VK} {us : List Value} {vs : List V} (hA : ∀ {s : Shared} {H : Hp}, Env0 X.prog X.w X.K X.mg X.base X.A X.stack s H → Env0 X.prog X.w X.K X.mg X.base A X.stack s H)
    (F : FnOk X.prog X.w X.K X.mg X.base (L2.CX X.prog X.w) k f fd ps sp) (hr : Room k A) (hb : Binds X.K fd ps []) (I : Inv X pins σ H s) (r : Vals vs us) (h : sp vs H Q E0) : wpAny (model X.prog X.w) A (call (.ref f) us) (EP X pins σ Q) X.xe s := by
  have hl : us.length = ps.length := by rw [← r.length]; exact F.len _ _ _ _ h
  have b := hb s us I.kIn (by rw [List.append_nil]; exact hl)
  rw [List.append_nil] at b
  refine wpAny_call (codeAny_mono (F.run A X.stack s H ⟨us, []⟩ us vs Q E0 hr (hA I.env0) b r h) fun r s' hq => ?_)
  cases r with
  | error e => exact passL pins σ H s e s' I hq
  | ok fl =>
    cases fl with
    | ret u => exact I.after hq
    | next => exact False.elim hq
    | brk => exact False.elim hq
    | cont => exact False.elim hq
/-- a class's own method by its name -/
structure Spec (K : PySem.W.Frag) (C : Addr) (m : Str) (f : Addr) : Prop where
  at_ : PySem.W.findIn K (.ref C) m = some (some (.ref f))
  fn : PySem.W.isFn K (.ref f) = true
def rLenO (g : Γ) (kc : Nat) (den : Env → Res S) : List V → Hp → VK → Prop := fun xs H Q => ∃ a dx fs, xs = [.ref a] ∧ H a = some (.ins (g.cls kc) dx fs) ∧ SpD g 1 den [.ref a] H (fun v H' => ∃ i : Int, v = .int i ∧ (0 ≤ i ∧ i < 2 ^ 63) ∧ Q v H') E0
theorem call_lenO {kc : Nat} {den : Env → Res S} (Sp : Spec X.K (c kc) "__len__" f) (F : FnOk X.prog X.w X.K X.mg X.base (L2.CX X.prog X.w) k f fd ps (SpD ⟨X.K, c⟩ 1 den)) (hr : Room (k + 1) X.A) (hb : Binds X.K fd ps []) : CallR X (.builtin "len") (rLenO ⟨X.K, c⟩ kc den) := by
  intro pins s σ H xs us Q I r h
  obtain ⟨a, dx, fs, rfl, ha, h⟩ := h
  obtain ⟨u, rfl, rx⟩ := vals1 r
  obtain rfl : u = Value.ref a := rx
  obtain ⟨od, J⟩ := Inv.inst I ha
  obtain ⟨m, hF⟩ := I.fr
  refine PySem.W.len_K hF I.ok.mod.kin J Sp.at_ Sp.fn ?_
  refine thn (run_deep (A := X.A.in1) (fun e => e.in1) F hr.in1 hb I (us := [.ref a]) (vs := [.ref a]) (.cons rfl .nil) h) fun u s1 ⟨v, H1, I1, rv, i, ev, hi, q⟩ => ?_
  subst ev
  obtain ⟨t, rfl⟩ := rv
  exact ⟨hi, .int i, H1, I1.tok _, ⟨_, rfl⟩, q⟩
def rInO (g : Γ) (kc : Nat) (den : Env → Res S) (neg : Bool) : R2 := fun x y H Q => ∃ a dx fs, y = .ref a ∧ H a = some (.ins (g.cls kc) dx fs) ∧ SpD g 2 den [.ref a, x] H (fun v H' => ∃ b, v = .bl b ∧ Q (.bl (if neg then !b else b)) H') E0
theorem op_inO {kc : Nat} {den : Env → Res S} (Sp : Spec X.K (c kc) "__contains__" f) (F : FnOk X.prog X.w X.K X.mg X.base (L2.CX X.prog X.w) k f fd ps (SpD ⟨X.K, c⟩ 2 den)) (hr : Room k X.A) (hb : Binds X.K fd ps []) : OpR X (compareOp .In) (rInO ⟨X.K, c⟩ kc den false) := by
  intro pins s σ H x y v u Q I rx ry h
  obtain ⟨a, dx, fs, rfl, ha, h⟩ := h
  obtain rfl : u = Value.ref a := ry
  obtain ⟨od, J⟩ := Inv.inst I ha
  obtain ⟨m, hF⟩ := I.fr
  refine PySem.W.in_K hF I.ok.mod.kin J Sp.at_ Sp.fn ?_
  refine thn (run_deep (A := X.A) (fun e => e) F hr hb I (us := [.ref a, v]) (vs := [.ref a, x]) (.cons rfl (.cons rx .nil)) h) fun u s1 ⟨w, H1, I1, rv, b, ev, q⟩ => ?_
  subst ev
  obtain rfl : u = Value.bool b := rv
  exact wpAny_truthy_bool ⟨.bl b, H1, I1, rfl, q⟩
theorem op_notInO {kc : Nat} {den : Env → Res S} (Sp : Spec X.K (c kc) "__contains__" f) (F : FnOk X.prog X.w X.K X.mg X.base (L2.CX X.prog X.w) k f fd ps (SpD ⟨X.K, c⟩ 2 den)) (hr : Room k X.A) (hb : Binds X.K fd ps []) : OpR X (compareOp .NotIn) (rInO ⟨X.K, c⟩ kc den true) := by
  intro pins s σ H x y v u Q I rx ry h
  obtain ⟨a, dx, fs, rfl, ha, h⟩ := h
  obtain rfl : u = Value.ref a := ry
  obtain ⟨od, J⟩ := Inv.inst I ha
  obtain ⟨m, hF⟩ := I.fr
  refine PySem.W.notIn_K hF I.ok.mod.kin J Sp.at_ Sp.fn ?_
  refine thn (run_deep (A := X.A) (fun e => e) F hr hb I (us := [.ref a, v]) (vs := [.ref a, x]) (.cons rfl (.cons rx .nil)) h) fun u s1 ⟨w, H1, I1, rv, b, ev, q⟩ => ?_
  subst ev
  obtain rfl : u = Value.bool b := rv
  exact wpAny_truthy_bool ⟨.bl (!b), H1, I1, rfl, q⟩
end
def isO' (c : Nat) (d : D) : Bool := match d with
  | .obj k _ => decide (k = c)
  | _ => false
theorem isO'_sound {g : Γ} {F H : Hp} {v : V} {d : D} {k : Nat} (r : View g F H v d) (h : isO' k d = true) : ∃ a dx fs, v = .ref a ∧ H a = some (.ins (g.cls k) dx fs) := by
  cases r with
  | obj h1 r1 =>
    have := of_decide_eq_true h
    subst this
    exact ⟨_, _, _, rfl, h1⟩
  | _ => cases h
def lenR (r : Res S) : Res D := match r with
  | .ok (.fz (.int i)) e => if 0 ≤ i ∧ i < 2 ^ 63 then .ok (.int i) e else .no
  | _ => .no
def dLenO (kc : Nat) (den : Env → Res S) (fa : Env → Res D) : Env → Res D := fun e => (fa e).bind fun d e => if isO' kc d.un = true then lenR (callN 1 den [.v d] e) else .no
def inR (neg : Bool) (r : Res S) : Res Bool := match r with
  | .ok (.fz (.bl b)) e => .ok (if neg then !b else b) e
  | _ => .no
def bInO (kc : Nat) (den : Env → Res S) (neg : Bool) (fa fb : Env → Res D) : Env → Res Bool := fun e => (fa e).bind fun x e => (fb e).bind fun d e => if isO' kc d.un = true then inR neg (callN 2 den [.v d, .v x] e) else .no
section
variable {c : Nat → Addr} {X : Cx} {W : WX} {k n : Nat} {f : Addr} {fd : FuncData} {ps : List Str} {a b : Expr} {fa fb : Env → Res D} {pos p : Pos} {kc : Nat} {den : Env → Res S}
theorem ge_lenO (T : BI X.mg) (Sp : Spec X.K (c kc) "__len__" f) (F : FnOk X.prog X.w X.K X.mg X.base (L2.CX X.prog X.w) k f fd ps (SpD ⟨X.K, c⟩ 1 den)) (hr : Room (k + 1) X.A) (hb : Binds X.K fd ps []) (ha : GE c X W a fa) (hg : Gl X "len" := by rfl) (hs : starEach (a :: []) X.env = (false, eval a X.env) :: starEach [] X.env := by rfl) :
    GE c X W (.Call (.Name "len" p) [a] [] pos) (dLenO kc den fa) := PE.of (pe_callB (call_lenO Sp F hr hb) hg T.len PySem.boot_len (pa_cons ha pa_nil hs) (he := hs)) fun σ H Q ⟨B, F, A, e, I, w⟩ => by
  refine runD (.refl B F) I w fun d e1 v F1 H1 m1 _ I1 r1 w1 => ?_
  split at w1
  · rename_i ho
    obtain ⟨x, dx, fs, rfl, hx⟩ := isO'_sound (r1.view I1.f) ho
    refine ⟨x, dx, fs, rfl, hx, ?_⟩
    refine sem_callN (W := W0) (P := fun s e' => ∃ i : Int, s = .fz (.int i) ∧ (0 ≤ i ∧ i < 2 ^ 63) ∧ FinD ⟨X.K, c⟩ B F1 A σ Q (.int i) e') I1 (ArgsR.v r1 .nil) ?_ (fun _ _ _ z => z.elim) fun s e' v F' H' hp m J rs ap => ?_
    · revert w1
      generalize callN 1 den [.v d] e1 = r
      intro w1
      unfold lenR at w1
      split at w1
      · rename_i i e2
        split at w1
        · rename_i hi
          exact ⟨i, rfl, hi, FinD.up (show FinD ⟨X.K, c⟩ B F A σ Q (.int i) e2 from w1) m1⟩
        · exact w1.elim
      · exact w1.elim
    · obtain ⟨i, rfl, hi, q⟩ := hp
      obtain ⟨u, eu, ru⟩ := rs
      cases eu
      cases ru
      exact ⟨i, rfl, hi, q _ F' H' m J (.int i)⟩
  · exact w1.elim
theorem sem_inO {g : Γ} {neg : Bool} : ∀ σ H Q, tT g W (bInO kc den neg fa fb) σ H Q → tTest (tOp (rInO g kc den neg) (tD g W fa) (tD g W fb)) σ H Q := fun σ H Q ⟨B, F, A, e, I, w⟩ => by
  refine runD (.refl B F) I w fun x e1 vx F1 H1 m1 _ I1 r1 w1 => ?_
  refine runD m1 I1 w1 fun d e2 v F2 H2 m2 s2 I2 r2 w2 => ?_
  split at w2
  · rename_i ho
    obtain ⟨y, dx, fs, rfl, hx⟩ := isO'_sound (r2.view I2.f) ho
    refine ⟨y, dx, fs, rfl, hx, ?_⟩
    refine sem_callN (W := W0) (P := fun s e' => ∃ b, s = .fz (.bl b) ∧ FinT g B F2 A σ Q (if neg then !b else b) e') I2 (ArgsR.v r2 (ArgsR.v (r1.mono s2) .nil)) ?_ (fun _ _ _ z => z.elim) fun s e' v F' H' hp m J rs ap => ?_
    · revert w2
      generalize callN 2 den [.v d, .v x] e2 = r
      intro w2
      unfold inR at w2
      split at w2
      · rename_i b e3
        exact ⟨b, rfl, FinT.up (show FinT g B F A σ Q (if neg then !b else b) e3 from w2) m2⟩
      · exact w2.elim
    · obtain ⟨b, rfl, q⟩ := hp
      obtain ⟨u, eu, ru⟩ := rs
      cases eu
      cases ru
      exact ⟨b, rfl, _, rfl, q F' H' m J⟩
  · exact w2.elim
theorem gt_inO (Sp : Spec X.K (c kc) "__contains__" f) (F : FnOk X.prog X.w X.K X.mg X.base (L2.CX X.prog X.w) k f fd ps (SpD ⟨X.K, c⟩ 2 den)) (hr : Room k X.A) (hb : Binds X.K fd ps []) (ha : GE c X W a fa) (hb' : GE c X W b fb) (hm : behindInMarks .In b = false := by first | exact nomark _ | rfl) :
    GT c X W (.Compare a [.In] [b] pos) (bInO kc den false fa fb) := PT.of (pt_cmpR (op_inO Sp F hr hb) ha hb' hm) sem_inO
theorem gt_notInO (Sp : Spec X.K (c kc) "__contains__" f) (F : FnOk X.prog X.w X.K X.mg X.base (L2.CX X.prog X.w) k f fd ps (SpD ⟨X.K, c⟩ 2 den)) (hr : Room k X.A) (hb : Binds X.K fd ps []) (ha : GE c X W a fa) (hb' : GE c X W b fb) (hm : behindInMarks .NotIn b = false := by first | exact nomark _ | rfl) :
    GT c X W (.Compare a [.NotIn] [b] pos) (bInO kc den true fa fb) := PT.of (pt_cmpR (op_notInO Sp F hr hb) ha hb' hm) sem_inO
end
end DV

set_option Elab.async false
set_option linter.all false
set_option autoImplicit false
set_option maxRecDepth 100000
set_option maxHeartbeats 2000000
/-! V17: min of a list of data. -/
namespace DV
open PySem PySem.Spec L2
open PyProof.Rows hiding St

mutual
def ofPy : PyData → D
  | .none => .non
  | .bool b => .bl b
  | .int i => .int i
  | .str x => .str x
  | .list xs => .lst (ofPys xs)
  | .tuple xs => .tup (ofPys xs)
  | .dict _ => .non
def ofPys : List PyData → List D
  | [] => []
  | x :: xs => ofPy x :: ofPys xs
end
mutual
def ndPy : PyData → Bool
  | .list xs => ndPys xs
  | .tuple xs => ndPys xs
  | .dict _ => false
  | _ => true
def ndPys : List PyData → Bool
  | [] => true
  | x :: xs => ndPy x && ndPys xs
end
mutual
theorem toPy_nd : ∀ {d : D} {p : PyData}, toPy d = some p → ndPy p = true
  | .non, _, e => by simp only [toPy, Option.some.injEq] at e; subst e; rfl
  | .bl b, _, e => by simp only [toPy, Option.some.injEq] at e; subst e; rfl
  | .int i, _, e => by simp only [toPy, Option.some.injEq] at e; subst e; rfl
  | .str x, _, e => by simp only [toPy, Option.some.injEq] at e; subst e; rfl
  | .lst xs, _, e => by
    simp only [toPy, Option.map_eq_some_iff] at e
    obtain ⟨ps, e1, rfl⟩ := e
    simpa only [ndPy] using toPys_nd e1
  | .tup xs, _, e => by
    simp only [toPy, Option.map_eq_some_iff] at e
    obtain ⟨ps, e1, rfl⟩ := e
    simpa only [ndPy] using toPys_nd e1
  | .scr _, _, e => by simp only [toPy] at e; cases e
  | .dct _, _, e => by simp only [toPy] at e; cases e
  | .dtt _, _, e => by simp only [toPy] at e; cases e
  | .obj _ _, _, e => by simp only [toPy] at e; cases e
  | .tag _ d, _, e => by simp only [toPy] at e; exact toPy_nd e
theorem toPys_nd : ∀ {ds : List D} {ps : List PyData}, toPys ds = some ps → ndPys ps = true
  | [], _, e => by simp only [toPys, Option.some.injEq] at e; subst e; rfl
  | d :: ds, _, e => by
    simp only [toPys] at e
    cases e1 : toPy d with
    | none => rw [e1] at e; cases e
    | some p =>
      cases e2 : toPys ds with
      | none => rw [e1, e2] at e; cases e
      | some ps =>
        rw [e1, e2] at e; cases e
        simp only [ndPys, Bool.and_eq_true]
        exact ⟨toPy_nd e1, toPys_nd e2⟩
end
section
variable {g : Γ} {F : Hp}
mutual
theorem rep_ofPy : ∀ {v : V} {d : D} {p : PyData}, Rep g F v d → toPy d = some p → Rep g F v (ofPy p)
  | _, _, _, .non, e => by simp only [toPy, Option.some.injEq] at e; subst e; exact .non
  | _, _, _, .bl b, e => by simp only [toPy, Option.some.injEq] at e; subst e; exact .bl b
  | _, _, _, .int i, e => by simp only [toPy, Option.some.injEq] at e; subst e; exact .int i
  | _, _, _, .str x, e => by simp only [toPy, Option.some.injEq] at e; subst e; exact .str x
  | _, _, _, .lst h r, e => by
    simp only [toPy, Option.map_eq_some_iff] at e
    obtain ⟨ps, e1, rfl⟩ := e
    exact .lst h (reps_ofPys r e1)
  | _, _, _, .tup h r, e => by
    simp only [toPy, Option.map_eq_some_iff] at e
    obtain ⟨ps, e1, rfl⟩ := e
    exact .tup h (reps_ofPys r e1)
  | _, _, _, .scr _, e => by simp only [toPy] at e; cases e
  | _, _, _, .dct _ _ _, e => by simp only [toPy] at e; cases e
  | _, _, _, .dtt _ _ _, e => by simp only [toPy] at e; cases e
  | _, _, _, .obj _ _ _, e => by simp only [toPy] at e; cases e
  | _, _, _, .tag r, e => by simp only [toPy] at e; exact rep_ofPy r e
theorem reps_ofPys : ∀ {vs : List V} {ds : List D} {ps : List PyData}, Reps g F vs ds → toPys ds = some ps → Reps g F vs (ofPys ps)
  | _, _, _, .nil, e => by simp only [toPys, Option.some.injEq] at e; subst e; exact .nil
  | _, _, _, .cons (d := d) (ds := ds) h r, e => by
    simp only [toPys] at e
    cases e1 : toPy d with
    | none => rw [e1] at e; cases e
    | some p =>
      cases e2 : toPys ds with
      | none => rw [e1, e2] at e; cases e
      | some ps =>
        rw [e1, e2] at e; cases e
        exact .cons (rep_ofPy h e1) (reps_ofPys r e2)
end
end
mutual
theorem reads_one {h : Heap} : ∀ (d d' : PyData) (v : Value) (as as' : List Addr), ndPy d = true → Reads h v d as → Reads h v d' as' → d = d'
  | .none, _, _, _, _, _, r, r' => by cases r; cases r'; rfl
  | .bool _, _, _, _, _, _, r, r' => by cases r; cases r'; rfl
  | .int _, _, _, _, _, _, r, r' => by cases r; cases r'; rfl
  | .str _, _, _, _, _, _, r, r' => by cases r; cases r'; rfl
  | .list xs, d', _, _, _, hl, r, r' => by
    cases r with
    | list h1 h2 h3 h4 =>
      cases r' with
      | list k1 k2 k3 k4 => rw [h1] at k1; cases k1; rw [h3] at k3; cases k3; rw [readsAll_one xs _ _ _ _ hl h4 k4]
      | tuple k1 k2 k3 k4 => rw [h1] at k1; cases k1; rw [h2] at k2; exact absurd k2 (by simp)
      | dict k1 k2 k3 k4 k5 => rw [h1] at k1; cases k1; rw [h2] at k2; exact absurd k2 (by simp)
  | .tuple xs, d', _, _, _, hl, r, r' => by
    cases r with
    | tuple h1 h2 h3 h4 =>
      cases r' with
      | tuple k1 k2 k3 k4 => rw [h1] at k1; cases k1; rw [h3] at k3; cases k3; rw [readsAll_one xs _ _ _ _ hl h4 k4]
      | list k1 k2 k3 k4 => rw [h1] at k1; cases k1; rw [h2] at k2; exact absurd k2 (by simp)
      | dict k1 k2 k3 k4 k5 => rw [h1] at k1; cases k1; rw [h2] at k2; exact absurd k2 (by simp)
  | .dict _, _, _, _, _, hl, _, _ => nomatch hl
theorem readsAll_one {h : Heap} : ∀ (xs ys : List PyData) (vs : List Value) (as as' : List Addr), ndPys xs = true → ReadsAll h vs xs as → ReadsAll h vs ys as' → xs = ys
  | [], _, _, _, _, _, r, r' => by cases r; cases r'; rfl
  | x :: xs, _, _, _, _, hl, r, r' => by
    have hl' : ndPy x = true ∧ ndPys xs = true := by simpa only [ndPys, Bool.and_eq_true] using hl
    cases r with
    | cons h1 h2 =>
      cases r' with
      | cons k1 k2 => rw [reads_one x _ _ _ _ hl'.1 h1 k1, readsAll_one xs _ _ _ _ hl'.2 h2 k2]
end
theorem ndPys_at : ∀ {ps : List PyData} {i : Nat} {p : PyData}, ndPys ps = true → ps[i]? = some p → ndPy p = true
  | _ :: _, 0, _, h, e => by simp only [ndPys, Bool.and_eq_true] at h; cases e; exact h.1
  | _ :: ps, i + 1, _, h, e => by simp only [ndPys, Bool.and_eq_true] at h; exact ndPys_at h.2 (by simpa using e)
  | [], i, _, _, e => by simp at e
def isNonePy : PyData → Bool
  | .none => true
  | _ => false
/-- data that can be told apart by < -/
def ordOk (ps : List PyData) : Bool := (ps.all fun x => ps.all fun y => PySem.W.alike x y) && (ps.all fun x => !isNonePy x) && decide (PyData.depthAll ps ≤ 64)
def minL (d : D) : Option D := match d with
  | .lst ds => match toPys ds with
    | some (p :: ps) => if ordOk (p :: ps) = true then some (ofPy (PySem.W.minD p ps)) else none
    | _ => none
  | _ => none
theorem ordOk_alike {ps : List PyData} (h : ordOk ps = true) : PySem.W.AlikeAll ps ∧ PyData.depthAll ps ≤ 64 := by
  unfold ordOk at h
  simp only [Bool.and_eq_true, List.all_eq_true, decide_eq_true_eq] at h
  obtain ⟨⟨h1, h2⟩, h3⟩ := h
  refine ⟨⟨h1, fun x hx e => ?_⟩, h3⟩
  have := h2 x hx
  subst e
  simp [isNonePy] at this
def rMinL (K : PySem.W.Frag) : List V → Hp → VK → Prop := fun xs H Q => ∃ a vs p ps, xs = [.ref a] ∧ SqL K H a vs ∧ DpAll K H vs (p :: ps) ∧ ordOk (p :: ps) = true ∧ ndPys (p :: ps) = true ∧ ∀ (i : Nat) (v : V), vs[i]? = some v → (p :: ps)[i]? = some (PySem.W.minD p ps) → Q v H
theorem getD_get {ps : List PyData} {i : Nat} (h : i < ps.length) : ps[i]? = some (ps.getD i .none) := by
  rw [List.getD_eq_getElem?_getD, List.getElem?_eq_getElem h]; rfl
theorem vals_get' : ∀ {vs : List V} {us : List Value} {i : Nat} {u : Value}, Vals vs us → us[i]? = some u → ∃ v, vs[i]? = some v ∧ RelV v u
  | _, _, _, _, .nil, e => by simp at e
  | _, _, 0, _, .cons h _, e => by simp at e; subst e; exact ⟨_, rfl, h⟩
  | _, _, i + 1, _, .cons _ r, e => vals_get' r (i := i) (by simpa using e)
theorem call_minL {X : Cx} (hc : X.calm = true) (hr : Room 0 X.A) : CallR X (.builtin "min") (rMinL X.K) := by
  intro pins s σ H xs us Q I r h
  obtain ⟨a, vs, p, ps, rfl, hq, dp, ho, hn, q⟩ := h
  obtain ⟨u, rfl, rx⟩ := vals1 r
  obtain rfl : u = Value.ref a := rx
  obtain ⟨its, rv, pl, hz⟩ := I.list hq
  obtain ⟨as, rs⟩ := Dp.readsAll I _ _ _ dp rv
  obtain ⟨al, hd⟩ := ordOk_alike ho
  refine PySem.W.min_list_data (I.ok.hd hc) pl.isList (by simpa using rs) al (by have := hr.un; omega) fun i v h' tk bs hi rd hk => ?_
  obtain ⟨bs', r1, hl, _⟩ := PySem.W.readsAll_atA (vs := its.toArray) (by simpa using rs) i v hi
  have hp := getD_get hl
  have e1 := reads_one _ _ _ _ _ (ndPys_at hn hp) (PySem.W.reads_keeps hk r1) rd
  rw [e1] at hp
  have hi' : its[i]? = some v := by simpa using hi
  obtain ⟨w, hw, rw'⟩ := vals_get' rv hi'
  exact ⟨w, H, I.kept hk, rw', q i w hw hp⟩
theorem toPys_at : ∀ {ds : List D} {ps : List PyData} {i : Nat} {p : PyData}, toPys ds = some ps → ps[i]? = some p → ∃ d, ds[i]? = some d ∧ toPy d = some p
  | [], _, _, _, h, e => by simp only [toPys, Option.some.injEq] at h; subst h; simp at e
  | d :: ds, ps, i, p, h, e => by
    simp only [toPys] at h
    cases e1 : toPy d with
    | none => rw [e1] at h; cases h
    | some q =>
      cases e2 : toPys ds with
      | none => rw [e1, e2] at h; cases h
      | some qs =>
        rw [e1, e2] at h; cases h
        cases i with
        | zero => cases e; exact ⟨d, rfl, e1⟩
        | succ i =>
          obtain ⟨d', h1, h2⟩ := toPys_at e2 (i := i) (by simpa using e)
          exact ⟨d', by simpa using h1, h2⟩
theorem snd_minL {g : Γ} : SVC g (rMinL g.K) minL := fun F H x dx d Q s rx e q => by
  cases rx with
  | lst h r =>
    simp only [minL] at e
    split at e
    · rename_i p ps hp
      split at e
      · rename_i ho
        cases e
        refine ⟨_, _, p, ps, rfl, .of h, toPys_dp s r hp, ho, toPys_nd hp, fun i v hv hm => ?_⟩
        obtain ⟨d', hd', hpy⟩ := toPys_at hp hm
        obtain ⟨v', hv', rv⟩ := r.get hd'
        rw [hv] at hv'; cases hv'
        exact q.here s (rep_ofPy rv hpy)
      · cases e
    · cases e
  | _ => cases e
section
variable {c : Nat → Addr} {X : Cx} {W : WX} {a : Expr} {fa : Env → Res D} {pos p : Pos}
theorem ge_minL (T : BI X.mg) (hr : Room 0 X.A) (ha : GE c X W a fa) (hs : starEach (a :: []) X.env = (false, eval a X.env) :: starEach [] X.env := by rfl) (hc : X.calm = true := by rfl) (hg : Gl X "min" := by rfl) : GE c X W (.Call (.Name "min" p) [a] [] pos) (d1v minL fa) :=
  PE.of (pe_callB (call_minL hc hr) hg T.min boot_min (pa_cons ha pa_nil hs) (he := hs)) (sem_c1 snd_minL)
end
end DV

set_option Elab.async false
set_option linter.all false
set_option autoImplicit false
set_option maxRecDepth 100000
set_option maxHeartbeats 2000000
/-! V18: a program's defs as facts. -/
namespace DV
open PySem PySem.Spec L2
open PyProof.Rows hiding St

/-- a def as the top has written it -/
structure F0 (K : PySem.W.Frag) (mg : Str → Option Value) (x : Str) (st : Stmt) (ps : List Str) : Prop where
  ex : ∃ f fd, Fun K x x st f fd ∧ mg x = some (.ref f) ∧ Binds K fd ps []
/-- a method -/
structure M0 (K : PySem.W.Frag) (C : Addr) (m qual : Str) (st : Stmt) (ps : List Str) : Prop where
  ex : ∃ f fd, Fun K m qual st f fd ∧ Meth K C m f ∧ Binds K fd ps []
/-- .. as it is proved -/
structure Fn (c : Nat → Addr) (P : Program) (w : World) (K : PySem.W.Frag) (mg : Str → Option Value) (base : Heap) (x : Str) (st : Stmt) (k n : Nat) (ps : List Str) (den : Env → Res S) : Prop where
  ex : ∃ f fd, Fun K x x st f fd ∧ mg x = some (.ref f) ∧ Binds K fd ps [] ∧ FnOk P w K mg base (L2.CX P w) k f fd ps (SpD ⟨K, c⟩ n den)
structure Mt (c : Nat → Addr) (P : Program) (w : World) (K : PySem.W.Frag) (mg : Str → Option Value) (base : Heap) (kc : Nat) (m : Str) (k n : Nat) (ps : List Str) (den : Env → Res S) : Prop where
  ex : ∃ f fd, Meth K (c kc) m f ∧ Binds K fd ps [] ∧ FnOk P w K mg base (L2.CX P w) k f fd ps (SpD ⟨K, c⟩ n den)
/-- a class: how it is made -/
structure C0 (K : PySem.W.Frag) (mg : Str → Option Value) (x : Str) (C : Addr) : Prop where
  cl : Cls K C
  mg : mg x = some (.ref C)
  makes : PySem.W.makesIn K C = true
  kp : PySem.W.keepIn K (.ref C) = true
section
variable {c : Nat → Addr} {P : Program} {w : World} {K : PySem.W.Frag} {mg : Str → Option Value} {base : Heap} {k n kc : Nat} {N ps : List Str} {x m qual : Str} {st : Stmt} {body : Env → Res Fl} {den : Env → Res S}
theorem Fn.mk' (F : F0 K mg x st ps) (Sc : FnScope N ps (defScope st)) (b : ∀ f, BodyOk c P w K mg base k N x st f body) : Fn c P w K mg base x st (k + 1) ps.length ps (denF ps.length N.length body) := by
  obtain ⟨f, fd, F, hm, hb⟩ := F.ex
  exact ⟨f, fd, F, hm, hb, fn_den F Sc (b f)⟩
theorem Fn.up {j : Nat} (h : Fn c P w K mg base x st j n ps den) (hj : j ≤ k) : Fn c P w K mg base x st k n ps den := by
  obtain ⟨f, fd, F, hm, hb, G⟩ := h
  exact ⟨f, fd, F, hm, hb, G.mono hj⟩
theorem Mt.mk' (F : M0 K (c kc) m qual st ps) (Sc : FnScope N ps (defScope st)) (b : ∀ f, BodyOk c P w K mg base k N qual st f body) : Mt c P w K mg base kc m (k + 1) ps.length ps (denF ps.length N.length body) := by
  obtain ⟨f, fd, F, hm, hb⟩ := F.ex
  exact ⟨f, fd, hm, hb, fn_den F Sc (b f)⟩
/-- nothing is promised -/
def denNo : Env → Res S := fun _ => .no
theorem Fn.no (F : F0 K mg x st ps) : Fn c P w K mg base x st 0 ps.length ps denNo := by
  obtain ⟨f, fd, F, hm, hb⟩ := F.ex
  exact ⟨f, fd, F, hm, hb, ⟨fun vs H Q E h => h.1, fun A outer s H args us vs Q E _ _ _ _ ⟨_, _, _, _, _, wt⟩ => wt.elim⟩⟩
end
section
variable {c : Nat → Addr} {X : Cx} {W : WX} {k n m : Nat} {ps ks : List Str} {den : Env → Res S} {x nm : Str} {st : Stmt} {p pos apos : Pos} {e o a b : Expr} {es : List Expr} {kws : List Keyword} {ua uk : Env → Res (List Arg)} {fa fb : Env → Res D} {kc : Nat}
theorem go_f_call (F : Fn c X.prog X.w X.K X.mg X.base x st k n ps den) (hr : Room k X.A) (tk : Takes X W) (ha : GAA c X W (e :: es) ua) (hg : Gl X x := by rfl)
    (hdb : (x == ("__debug__" : Str)) = false := by decide) (he : starEach (e :: es) X.env = (false, eval e X.env) :: starEach es X.env := by rfl) (hpl : (backTo pos (starEach es X.env)).any (·.1) = false := by rfl) :
    GO c X W (.Call (.Name x p) (e :: es) [] pos) (dCall n den ua) := by
  obtain ⟨f, fd, F, hm, hb, G⟩ := F
  exact go_call G hr hg hm F.kp hb tk ha hdb he hpl
theorem go_f_call0 (F : Fn c X.prog X.w X.K X.mg X.base x st k n ps den) (hr : Room k X.A) (tk : Takes X W) (hg : Gl X x := by rfl) (hdb : (x == ("__debug__" : Str)) = false := by decide) : GO c X W (.Call (.Name x p) [] [] pos) (dCall n den aNil) := by
  obtain ⟨f, fd, F, hm, hb, G⟩ := F
  exact go_call0 G hr hg hm F.kp hb tk hdb
/-- the form that bindArgs is asked in -/
def KbOk (x : Str) (st : Stmt) (ps : List Str) (m : Nat) (ks : List Str) (pm : List Nat) : Prop :=
  ∀ (kV doc pm' : Value) (an : Option Addr) (cdv ct : Value) (us ws : List Value), us.length = m → ws.length = ks.length → bindArgs (PySem.W.fnOf x x (defArgs st) (defBody st) (defScope st) .none kV doc pm' an cdv ct) ⟨us, ks.zip ws⟩ = pure (ps.zip (pick pm (us ++ ws)))
theorem go_f_callK (pm : List Nat) (kb : KbOk x st ps m ks pm) (F : Fn c X.prog X.w X.K X.mg X.base x st k n ps den) (hr : Room k X.A) (tk : Takes X W) (ha : GAA c X W (e :: es) ua) (hkw : GK c X W kws uk) (hg : Gl X x := by rfl) (hq : m + ks.length = pm.length := by rfl)
    (hall : (backToKw pos (keywordEach kws X.env)).all (·.1.isSome) = true := by rfl) (hks : (backToKw pos (keywordEach kws X.env)).filterMap (·.1) = ks := by rfl)
    (hdb : (x == ("__debug__" : Str)) = false := by decide) (he : starEach (e :: es) X.env = (false, eval e X.env) :: starEach es X.env := by rfl)
    (hpl : ((backTo pos (starEach (e :: es) X.env)).any (·.1) || (backToKw pos (keywordEach kws X.env)).any (·.1.isNone)) = false := by rfl) :
    GO c X W (.Call (.Name x p) (e :: es) kws pos) (dCallK m pm n den ua uk) := by
  obtain ⟨f, fd, F, hm, hb, G⟩ := F
  exact go_callK G hr hg hm F.kp (kb_mk F m ks pm kb) tk ha hkw hq hall hks hdb he hpl
theorem go_f_callK0 (pm : List Nat) (kb : KbOk x st ps 0 ks pm) (F : Fn c X.prog X.w X.K X.mg X.base x st k n ps den) (hr : Room k X.A) (tk : Takes X W) (hkw : GK c X W kws uk) (hg : Gl X x := by rfl) (hq : 0 + ks.length = pm.length := by rfl)
    (hall : (backToKw pos (keywordEach kws X.env)).all (·.1.isSome) = true := by rfl) (hks : (backToKw pos (keywordEach kws X.env)).filterMap (·.1) = ks := by rfl)
    (hdb : (x == ("__debug__" : Str)) = false := by decide)
    (hpl : ((backTo pos (starEach [] X.env)).any (·.1) || (backToKw pos (keywordEach kws X.env)).any (·.1.isNone)) = false := by rfl) :
    GO c X W (.Call (.Name x p) [] kws pos) (dCallK 0 pm n den aNil uk) := by
  obtain ⟨f, fd, F, hm, hb, G⟩ := F
  exact go_callK0 G hr hg hm F.kp (kb_mk F 0 ks pm kb) tk hkw hq hall hks hdb hpl
theorem go_m_call {pl : Sem Bool} (F : Mt c X.prog X.w X.K X.mg X.base kc nm k n ps den) (cl : Cls X.K (c kc)) (hr : Room k X.A) (tk : Takes X W) (ho : GE c X W o fa) (ha : GAA c X W (e :: es) ua)
    (hst : starEach (e :: es) X.env = (false, eval e X.env) :: starEach es X.env := by rfl) (hpl : (backTo pos (starEach es X.env)).any (·.1) = false := by rfl)
    (ht : eval (.Call (.Attribute o nm apos) (e :: es) [] pos) X.env = (do
      let ov ← eval o X.env
      standAt apos.atName
      let (f, first) ← holding [ov] (getMethod ov nm pl)
      callWith pos f first (backTo pos (starEach (e :: es) X.env)) (backToKw pos (keywordEach [] X.env))) := by rfl) :
    GO c X W (.Call (.Attribute o nm apos) (e :: es) [] pos) (dMethV kc nm n den fa ua) := by
  obtain ⟨f, fd, hm, hb, G⟩ := F
  exact go_meth ho cl hm G hr hb tk ha hst hpl ht
theorem go_m_call0 {pl : Sem Bool} (F : Mt c X.prog X.w X.K X.mg X.base kc nm k n ps den) (cl : Cls X.K (c kc)) (hr : Room k X.A) (tk : Takes X W) (ho : GE c X W o fa)
    (ht : eval (.Call (.Attribute o nm apos) [] [] pos) X.env = (do
      let ov ← eval o X.env
      standAt apos.atName
      let (f, first) ← holding [ov] (getMethod ov nm pl)
      callWith pos f first (backTo pos (starEach [] X.env)) (backToKw pos (keywordEach [] X.env))) := by rfl) :
    GO c X W (.Call (.Attribute o nm apos) [] [] pos) (dMethV kc nm n den fa aNil) := by
  obtain ⟨f, fd, hm, hb, G⟩ := F
  exact go_meth0 ho cl hm G hr hb tk ht
theorem go_m_callS {pl : Sem Bool} (i : Nat) (F : Mt c X.prog X.w X.K X.mg X.base kc nm k n ps den) (cl : Cls X.K (c kc)) (hr : Room k X.A) (tk : Takes X W) (ho : PE X o (tVar i)) (ha : GAA c X W (e :: es) ua)
    (hst : starEach (e :: es) X.env = (false, eval e X.env) :: starEach es X.env := by rfl) (hpl : (backTo pos (starEach es X.env)).any (·.1) = false := by rfl)
    (ht : eval (.Call (.Attribute o nm apos) (e :: es) [] pos) X.env = (do
      let ov ← eval o X.env
      standAt apos.atName
      let (f, first) ← holding [ov] (getMethod ov nm pl)
      callWith pos f first (backTo pos (starEach (e :: es) X.env)) (backToKw pos (keywordEach [] X.env))) := by rfl) :
    GO c X W (.Call (.Attribute o nm apos) (e :: es) [] pos) (dMethS kc nm n den i ua) := by
  obtain ⟨f, fd, hm, hb, G⟩ := F
  exact go_methS ho cl hm G hr hb tk ha hst hpl ht
theorem go_m_callS0 {pl : Sem Bool} (i : Nat) (F : Mt c X.prog X.w X.K X.mg X.base kc nm k n ps den) (cl : Cls X.K (c kc)) (hr : Room k X.A) (tk : Takes X W) (ho : PE X o (tVar i))
    (ht : eval (.Call (.Attribute o nm apos) [] [] pos) X.env = (do
      let ov ← eval o X.env
      standAt apos.atName
      let (f, first) ← holding [ov] (getMethod ov nm pl)
      callWith pos f first (backTo pos (starEach [] X.env)) (backToKw pos (keywordEach [] X.env))) := by rfl) :
    GO c X W (.Call (.Attribute o nm apos) [] [] pos) (dMethS kc nm n den i aNil) := by
  obtain ⟨f, fd, hm, hb, G⟩ := F
  exact go_methS0 ho cl hm G hr hb tk ht
theorem go_c_make (F : Mt c X.prog X.w X.K X.mg X.base kc "__init__" k n ps den) (M : C0 X.K X.mg x (c kc)) (hr : Room (k + 1) X.A) (tk : Takes X W) (ha : GAA c X W (e :: es) ua) (hg : Gl X x := by rfl)
    (hdb : (x == ("__debug__" : Str)) = false := by decide) (he : starEach (e :: es) X.env = (false, eval e X.env) :: starEach es X.env := by rfl) (hpl : (backTo pos (starEach es X.env)).any (·.1) = false := by rfl) :
    GO c X W (.Call (.Name x p) (e :: es) [] pos) (dMake kc n den ua) := by
  obtain ⟨f, fd, hm, hb, G⟩ := F
  exact go_make ⟨M.makes, hm.at_, hm.fn, M.kp⟩ G hr hg M.mg hb tk ha hdb he hpl
theorem ge_m_len (F : Mt c X.prog X.w X.K X.mg X.base kc "__len__" k 1 ps den) (T : BI X.mg) (hr : Room (k + 1) X.A) (ha : GE c X W a fa) (hg : Gl X "len" := by rfl) (hs : starEach (a :: []) X.env = (false, eval a X.env) :: starEach [] X.env := by rfl) :
    GE c X W (.Call (.Name "len" p) [a] [] pos) (dLenO kc den fa) := by
  obtain ⟨f, fd, hm, hb, G⟩ := F
  exact ge_lenO T ⟨hm.at_, hm.fn⟩ G hr hb ha hg hs
theorem gt_m_in (F : Mt c X.prog X.w X.K X.mg X.base kc "__contains__" k 2 ps den) (hr : Room k X.A) (ha : GE c X W a fa) (hb' : GE c X W b fb) (hm : behindInMarks .In b = false := by first | exact nomark _ | rfl) :
    GT c X W (.Compare a [.In] [b] pos) (bInO kc den false fa fb) := by
  obtain ⟨f, fd, hm', hb, G⟩ := F
  exact gt_inO ⟨hm'.at_, hm'.fn⟩ G hr hb ha hb' hm
theorem gt_m_notIn (F : Mt c X.prog X.w X.K X.mg X.base kc "__contains__" k 2 ps den) (hr : Room k X.A) (ha : GE c X W a fa) (hb' : GE c X W b fb) (hm : behindInMarks .NotIn b = false := by first | exact nomark _ | rfl) :
    GT c X W (.Compare a [.NotIn] [b] pos) (bInO kc den true fa fb) := by
  obtain ⟨f, fd, hm', hb, G⟩ := F
  exact gt_notInO ⟨hm'.at_, hm'.fn⟩ G hr hb ha hb' hm
/-- a module's constant -/
theorem ge_cI {i : Int} (h : ∃ t, X.mg x = some (.int i t)) (hg : Gl X x := by rfl) (hd : (x == ("__debug__" : Str)) = false := by decide) : GE c X W (.Name x pos) (dC (.int i)) := by
  obtain ⟨t, h⟩ := h
  exact ge_glob (u := .int i t) (pe_glob (v := .int i) hg h ⟨t, rfl⟩ hd) fun F => .int i
theorem ge_cS {z : Str} (h : ∃ t, X.mg x = some (.str z t)) (hg : Gl X x := by rfl) (hd : (x == ("__debug__" : Str)) = false := by decide) : GE c X W (.Name x pos) (dC (.str z)) := by
  obtain ⟨t, h⟩ := h
  exact ge_glob (u := .str z t) (pe_glob (v := .str z) hg h ⟨t, rfl⟩ hd) fun F => .str z
theorem hu1 (hr : Room k X.A) : X.A.units + 1 < cLine := by have := hr.un; omega
theorem hu64 (hr : Room k X.A) : X.A.units + 64 < cLine := by have := hr.un; omega
theorem hu65 (hr : Room k X.A) : X.A.units + 65 < cLine := by have := hr.un; omega
end
section
variable {P : Program} {w : World} {K : PySem.W.Frag} {mg : Str → Option Value} {base : Heap} {N : List Str} {qual : Str} {scope : Scope} {f : Addr} {cd : Value} {A : Around} {outer : List PySem.Env} {s : Shared} {H : Hp} {E : XK}
theorem tkOf : Takes (cxOf (L2.CX P w) P w K mg base N qual scope f cd A outer s H E) (fun cls d _ H => E cls d H) := takes_of rfl rfl rfl rfl
theorem ppOf : PassesOwn (model P w) (cxOf (L2.CX P w) P w K mg base N qual scope f cd A outer s H E).A (cxOf (L2.CX P w) P w K mg base N qual scope f cd A outer s H E).env (cxOf (L2.CX P w) P w K mg base N qual scope f cd A outer s H E).xe := passes_of rfl
end
end DV

set_option Elab.async false
set_option linter.all false
set_option autoImplicit false
set_option maxRecDepth 100000
set_option maxHeartbeats 2000000
/-! V19: a law's end. -/
namespace DV
open PySem PySem.Spec L2
open PyProof.Rows hiding St

abbrev BindEq (x qual : Str) (st : Stmt) (ps : List Str) : Prop := ∀ (kV doc pm : Value) (an : Option Addr) (cdv ct : Value) (us : List Value), us.length = ps.length → bindArgs (PySem.W.fnOf x qual (defArgs st) (defBody st) (defScope st) .none kV doc pm an cdv ct) ⟨us, []⟩ = pure (ps.zip us)
section
variable {K : PySem.W.Frag} {h : Heap} {mg : Str → Option Value} {x m qual : Str} {st : Stmt} {ps : List Str} {f C : Addr} {oc : Value} {od an : Option Addr} {osl : Array (Option Value)} {kV doc pm cdv ct : Value}
theorem F0.of (X : K.In h) (G : h.Ns mainGlobals mg) (bd : BindEq x x st ps) (a : PySem.W.nsIn K mainGlobals x = some (some (.ref f)))
    (l : K.lookup f = some ⟨oc, od, .func (PySem.W.fnOf x x (defArgs st) (defBody st) (defScope st) .none kV doc pm an cdv ct), osl⟩) (c : PySem.W.codeIn K cdv x = true) (k : PySem.W.keepIn K (.ref f) = true) : F0 K mg x st ps :=
  ⟨f, _, fun_mk l c k, PySem.W.mg_of X G a, (fun_mk l c k).binds bd⟩
theorem M0.of (bd : BindEq m qual st ps) (a : PySem.W.findIn K (.ref C) m = some (some (.ref f))) (i : PySem.W.isFn K (.ref f) = true)
    (l : K.lookup f = some ⟨oc, od, .func (PySem.W.fnOf m qual (defArgs st) (defBody st) (defScope st) .none kV doc pm an cdv ct), osl⟩) (c : PySem.W.codeIn K cdv qual = true) (k : PySem.W.keepIn K (.ref f) = true) : M0 K C m qual st ps :=
  ⟨f, _, fun_mk l c k, ⟨a, i, k⟩, (fun_mk l c k).binds bd⟩
end
/-- what is promised of law -/
def spLaw (K : PySem.W.Frag) : Sp := fun vs H Q _ => ∃ (a : Addr) (ns : List Int), vs = [.ref a] ∧ SqL K H a (ns.map V.int) ∧ ns.length ≤ 63 ∧ ∀ H', Q (.bl true) H'
theorem sp_of {K : PySem.W.Frag} {c : Nat → Addr} {den : Env → Res S} (hden : ∀ ns : List Int, ns.length ≤ 63 → ∃ e, den [.fz (.scr ns)] = .ok (.fz (.bl true)) e) : ∀ vs H Q E, spLaw K vs H Q E → SpD ⟨K, c⟩ 1 den vs H Q E := by
  rintro vs H Q E ⟨a, ns, rfl, hs, hl, k⟩
  obtain ⟨e, he⟩ := hden ns hl
  refine ⟨rfl, H, H, [.fz (.scr ns)], ⟨.refl H, .refl H, rfl, fun i s h => ?_, fun i j s t a h1 h2 o1 => ?_⟩, ?_⟩
  · match i, h with
    | 0, h => cases h; exact ⟨.ref a, rfl, .scr hs⟩
    | i + 1, h => simp at h
  · match i, h1 with
    | 0, h => cases h; cases o1
    | i + 1, h => simp at h
  · rw [he]
    intro v F' H' m I r _
    obtain ⟨u, eu, ru⟩ := r
    cases eu
    cases ru
    exact k H'
theorem law_mk {P : Program} {w : World} {K : PySem.W.Frag} {mg : Str → Option Value} {c : Nat → Addr} {fa : Addr} {st : Stmt} {k : Nat} {den : Env → Res S} (hfa : mg "law" = some (.ref fa)) (bd : BindEq "law" "law" st ["script"]) (F : F0 K mg "law" st ["script"])
    (ok : ∀ base, Fn c P w K mg base "law" st k 1 ["script"] den) (hden : ∀ ns : List Int, ns.length ≤ 63 → ∃ e, den [.fz (.scr ns)] = .ok (.fz (.bl true)) e) :
    ∃ fd : FuncData, (∀ (s : Shared) (v : Value), BindsTo s fd ⟨[v], []⟩ [("script", v)]) ∧ ∀ base : Heap, K.In base → base.Ns mainGlobals mg → FnOk P w K mg base (L2.CX P w) k fa fd ["script"] (spLaw K) := by
  obtain ⟨f, fd, Fu, hm, hb⟩ := F.ex
  rw [hfa] at hm
  cases hm
  refine ⟨fd, fun s v => ?_, fun base _ _ => ?_⟩
  · obtain ⟨oc, od, kV, doc, pm, an, cdv, ct, osl, rfl, lk, hcd⟩ := Fu.ex
    exact .of_eq (bd kV doc pm an cdv ct [v] rfl)
  · obtain ⟨f', fd', Fu', hm', hb', G⟩ := (ok base).ex
    rw [hfa] at hm'
    cases hm'
    have e : fd' = fd := by
      obtain ⟨oc, od, kV, doc, pm, an, cdv, ct, osl, e1, lk, hcd⟩ := Fu.ex
      obtain ⟨oc', od', kV', doc', pm', an', cdv', ct', osl', e1', lk', hcd'⟩ := Fu'.ex
      rw [lk] at lk'
      injection lk' with lk'
      injection lk' with _ _ h3 _
      injection h3 with h3
      exact h3.symm
    subst e
    exact G.imp (sp_of hden)
theorem walkEnd {l : PySem.W.OpenLaw} {k : Nat} {q : Program} {loose : List Str} {XP : (Str → Option Value) → Heap → Prop} {YP : World → Heap → Prop} {d : DefRec} {K : Params → PySem.W.Frag} (hn : l.most = some 63) (hdf : d.params.defaults = []) (hr : Room k callerA)
    (hY : ∀ (w : World) (h : Heap), YP w h → (K w.params).In h)
    (F : ∀ (w : World) (mg : Str → Option Value) (fa : Addr) (h : Heap), (K w.params).In h → h.Ns mainGlobals mg → mg d.name = some (.ref fa) →
      ∃ fd : FuncData, (∀ (s : Shared) (u : Value), BindsTo s fd ⟨[u], []⟩ [("script", u)]) ∧ ∀ base : Heap, (K w.params).In base → base.Ns mainGlobals mg → FnOk l.prog w (K w.params) mg base (L2.CX l.prog w) k fa fd ["script"] (spLaw (K w.params))) :
    PySem.W.WalkO q loose XP YP l.row.toRowW d [] (fun f vs => PySem.call f vs) :=
  L2.walk_of (n := 63) (k := k) (x := "script") (CX := fun w => L2.CX l.prog w) (sp := fun w => spLaw (K w.params)) hn (by decide) hdf hr hY F (fun _ _ a ns hl _ hS => ⟨a, ns, rfl, hS, hl, fun _ => rfl⟩) fun w H s e s' h => by
    obtain ⟨_, _, _, _, _, _, _, _, _, _, _, _, z⟩ := h
    exact z.elim
end DV

set_option Elab.async false
set_option linter.all false
set_option autoImplicit false
set_option maxRecDepth 100000
set_option maxHeartbeats 2000000
/-! V20: d.get, list(d.items()), defs under another name. -/
namespace DV
open PySem PySem.Spec L2
open PyProof.Rows hiding St

/-! ### d.get(..) -/
def isDct : D → Option Unit
  | .dct _ => some ()
  | _ => none
def gtK (x y z : D) : Option D := match x with
  | .dct kds => (keyD y).map fun k => (lookD kds k).getD z
  | _ => none
def dGetS (i : Nat) (fb fz : Env → Res D) : Env → Res D := fun e => (lift ((view e i).bind isDct) e).bind fun _ e => (fb e).bind fun y e => (fz e).bind fun z e => lift ((view e i).bind fun x => gtK x y.un z) e
section
variable {c : Nat → Addr} {X : Cx} {W : WX} {g : Γ} {fa fb fz : Env → Res D} {o a b : Expr} {p pos apos cpos : Pos}
theorem gtK_sound {F H : Hp} {v y : V} {dv dy z d : D} (vw : View g F H v dv) (ry : View g F H y dy) (h : gtK dv dy z = some d) :
    ∃ a o, v = .ref a ∧ DGet H a y o ∧ ((o = none ∧ d = z) ∨ ∃ u, o = some u ∧ Rep g F u d) := by
  unfold gtK at h
  cases vw with
  | dct hr r =>
    obtain ⟨k, hk, rfl⟩ := Option.map_eq_some_iff.mp h
    have ek := keyD_sound ry hk
    refine ⟨_, _, rfl, .inl ⟨_, k, hr, ek, rfl⟩, ?_⟩
    rcases r.look k with ⟨e1, e2⟩ | ⟨u, d', e1, e2, e3⟩
    · exact .inl ⟨e1, by rw [e2]; rfl⟩
    · exact .inr ⟨u, e1, by rw [e2]; exact e3⟩
  | _ => cases h
theorem isDct_sound {F H : Hp} {v : V} {d : D} {u : Unit} (vw : View g F H v d) (h : isDct d = some u) : ∃ a, v = .ref a ∧ IsD H a := by
  cases vw with
  | dct hr r => exact ⟨_, rfl, .inl ⟨_, hr⟩⟩
  | _ => cases h
theorem sem_get1 {i : Nat} : ∀ σ H Q, tD g W (dGetS i fb (dC .non)) σ H Q → tDGet1 (tVar i) (tD g W fb) σ H Q := fun σ H Q ⟨B, F, A, e, I, w⟩ => by
  obtain ⟨_, h0, w0⟩ := (Want.bind w).lift
  obtain ⟨x0, hv0, hd0⟩ := Option.bind_eq_some_iff.mp h0
  obtain ⟨v, hv, vw0⟩ := I.view hv0
  obtain ⟨a, rfl, ia⟩ := isDct_sound vw0 hd0
  refine ⟨_, hv, a, rfl, ia, ?_⟩
  refine runD (.refl B F) I w0 fun y e2 u F2 H2 m2 s2 I2 r2 w2 => ?_
  obtain ⟨d, hd, w3⟩ := Want.lift (o := (view e2 i).bind fun x => gtK x y.un .non) w2
  obtain ⟨x, hx, hd⟩ := Option.bind_eq_some_iff.mp hd
  obtain ⟨v', ev, vw⟩ := I2.view hx
  have ee : V.ref a = v' := by rw [hv] at ev; cases ev; rfl
  subst ee
  obtain ⟨a', o, ea, dg, hor⟩ := gtK_sound vw (r2.view I2.f) hd
  cases ea
  refine ⟨o, dg, ?_⟩
  rcases hor with ⟨rfl, rfl⟩ | ⟨u', rfl, ru⟩
  · exact w3 _ F2 H2 m2 I2 .non
  · exact w3 _ F2 H2 m2 I2 ru
theorem sem_get2 {i : Nat} : ∀ σ H Q, tD g W (dGetS i fb fz) σ H Q → tDGet2 (tVar i) (tD g W fb) (tD g W fz) σ H Q := fun σ H Q ⟨B, F, A, e, I, w⟩ => by
  obtain ⟨_, h0, w0⟩ := (Want.bind w).lift
  obtain ⟨x0, hv0, hd0⟩ := Option.bind_eq_some_iff.mp h0
  obtain ⟨v, hv, vw0⟩ := I.view hv0
  obtain ⟨a, rfl, ia⟩ := isDct_sound vw0 hd0
  refine ⟨_, hv, a, rfl, ia, ?_⟩
  refine runD (.refl B F) I w0 fun y e2 u F2 H2 m2 s2 I2 r2 w2 => ?_
  refine runD m2 I2 w2 fun z e3 uz F3 H3 m3 s3 I3 r3 w3 => ?_
  obtain ⟨d, hd, w4⟩ := w3.lift
  obtain ⟨x, hx, hd⟩ := Option.bind_eq_some_iff.mp hd
  obtain ⟨v', ev, vw⟩ := I3.view hx
  have ee : V.ref a = v' := by rw [hv] at ev; cases ev; rfl
  subst ee
  obtain ⟨a', o, ea, dg, hor⟩ := gtK_sound vw ((r2.mono s3).view I3.f) hd
  cases ea
  refine ⟨o, dg, ?_⟩
  rcases hor with ⟨rfl, rfl⟩ | ⟨u', rfl, ru⟩
  · exact w4 _ F3 H3 m3 I3 r3
  · exact w4 _ F3 H3 m3 I3 ru
theorem ge_get1S (i : Nat) (hu : X.A.units + 1 < cLine) (ho : PE X o (tVar i)) (hb : GE c X W a fb) (m : M1 X o "get" apos a cpos := by exact ⟨rfl, rfl, rfl, rfl⟩) : GE c X W (.Call (.Attribute o "get" apos) [a] [] cpos) (dGetS i fb (dC .non)) := PE.of (pe_dget1 hu ho hb m) sem_get1
theorem ge_get2S (i : Nat) (hu : X.A.units + 1 < cLine) (ho : PE X o (tVar i)) (hb : GE c X W a fb) (hz : GE c X W b fz) (m : M2 X o "get" apos a b cpos := by exact ⟨rfl, rfl, rfl, rfl⟩) : GE c X W (.Call (.Attribute o "get" apos) [a, b] [] cpos) (dGetS i fb fz) := PE.of (pe_dget2 hu ho hb hz m) sem_get2
end

/-! ### list(d.items()) -/
/-- .. of a dict that may be locked -/
def rItR : V → Hp → VK → Prop := fun x H Q => ∃ (d : Addr) (kvs : List (Key × V)), x = .ref d ∧ Rd H d (.dK kvs) ∧
  ∀ (H' : Hp) (p : Addr) (ts : List Addr), Same H H' → H p = none → (∀ t ∈ ts, H t = none) → p ∉ ts → H' p = some (.lst (ts.map V.ref)) → Paired (fun (t : Addr) (q : Key × V) => H' t = some (.tup [kV q.1, q.2])) ts kvs → Q (.ref p) H'
section
variable {X : Cx} {e : Expr} {te : TE} {p apos cpos pos : Pos}
theorem pe_liR (hc : X.calm = true) (he : PE X e te) (hg : Gl X "list") (hm : X.mg "list" = none) (hbase : attributeBase e "items" X.env (eval e X.env) = eval e X.env) (hline : (apos.endLine == cpos.line) = true)
    (hs : starEach [.Call (.Attribute e "items" apos) [] [] cpos] X.env = (false, eval (.Call (.Attribute e "items" apos) [] [] cpos) X.env) :: starEach [] X.env) :
    PE X (.Call (.Name "list" p) [.Call (.Attribute e "items" apos) [] [] cpos] [] pos) (fun σ H Q => te σ H fun x H1 => rItR x H1 Q) := by
  constructor
  intro pins s σ H Q I hq
  apply wpAny_Call_Name_kw (ld_blt I hg hm boot_listT ?_)
  apply PyProof.Rows.callWith_type1 ?_ hs rfl
  rw [hs]
  show wpAny _ _ (spliced ((false, eval (.Call (.Attribute e "items" apos) [] [] cpos) X.env) :: backTo pos (starEach [] X.env))) _ _ s
  apply Calls.spliced_cons
  apply wpAny_Call_method (T := "dict") (id := "dict.items") hbase rfl hline F.plainAttrs_dict F.slot_dict_items F.type_dict_items
  apply thn (he.run pins s σ H _ I hq)
  rintro u s1 ⟨x, H1, I1, rx, d, kvs, rfl, hd, q⟩
  have eu : u = Value.ref d := rx
  subst eu
  have full := dk_rd I1.hok hd
  obtain ⟨hz, hs0, vs, kv, hdo⟩ := full
  have at2 := hdo.dictAt
  obtain ⟨ep, hat⟩ := at2
  have lk : kvs.length = vs.length := Paired.length kv
  have I2 : Inv X pins σ H1 { s1 with heap := s1.heap.push { cls := .type "dict_items", data := .fields #[.ref d] } } := by
    apply I1.kept (t' := s1.toks)
    exact fun b ob q => Heap.get?_push_of_some _ q
  refine ⟨hdo.typeIs, hdo.mapOf.noDict, ?_⟩
  show wpAny _ _ (callWith cpos (.builtin "dict.items") [.ref d] [] []) _ X.xe s1
  apply method_meetsIn F.slot_dict_items F.entry_dict_items rfl
  apply PySem.evalArgs_none
  refine ⟨rfl, hdo.typeIs, F.args_dict_items_1 _, _, meets_dict_items (mixKind X.prog X.w) d hs0, ⟨vs, hdo⟩, ?_⟩
  apply Calls.spliced_nil
  apply PySem.W.kdx_call (knd := mixKind X.prog X.w) (kvs := vs) (ep := ep) (I1.ok.hd hc) ⟨_, Heap.get?_push_size _ rfl, rfl, rfl⟩ (hat.push _) (by omega)
  intro h' tk acc c as hk hS hl hG hacc
  have laid := LiI.items_laid (tk := tk) I2 hz kv hk hS hl hG hacc
  obtain ⟨H', k1, k2, k3, k4, k5, k6, J⟩ := laid
  exact ⟨.ref _, H', J, rfl, q H' _ as k1 k2 k3 k4 k5 k6⟩
end
def itemsO : D → Option Ct
  | .dct kds => some (.l (kds.map fun kv => .tup [kD kv.1, kv.2]))
  | _ => none
section
variable {c : Nat → Addr} {X : Cx} {W : WX} {g : Γ} {fa : Env → Res D} {a : Expr} {p pos apos cpos : Pos}
/-- F and some new objects of H' -/
def plusF (F H' : Hp) (ts : List Addr) : Hp := fun b => if b ∈ ts then H' b else F b
theorem all_plus {F H H' : Hp} {ts : List Addr} (s : Same F H) (s' : Same H H') (n : ∀ t ∈ ts, H t = none) : All F H (plusF F H' ts) H' := by
  refine ⟨fun b o e => ?_, s', fun b o e => ?_, fun b o e => ?_⟩
  · unfold plusF
    rw [if_neg fun z => ?_]
    · exact e
    · have := s b o e; rw [n b z] at this; cases this
  · unfold plusF at e
    split at e
    · exact e
    · exact s' b o (s b o e)
  · unfold plusF at e
    split at e
    · exact .inr (n b (by assumption))
    · exact .inl e
theorem reps_tups {F0 F H' : Hp} {all : List Addr} : ∀ {ts : List Addr} {kvs : List (Key × V)} {kds : List (Key × D)}, (∀ t ∈ ts, t ∈ all) → Paired (fun (t : Addr) (q : Key × V) => H' t = some (.tup [kV q.1, q.2])) ts kvs → KR g (plusF F H' all) kvs kds → Reps g (plusF F H' all) (ts.map V.ref) (kds.map fun kv => .tup [kD kv.1, kv.2])
  | [], [], [], _, _, _ => .nil
  | [], [], _ :: _, _, _, r => by have := r.e; simp at this
  | [], _ :: _, _, _, h, _ => by cases h
  | _ :: _, [], _, _, h, _ => by cases h
  | t :: ts, p :: kvs, [], _, _, r => by have := r.e; simp at this
  | t :: ts, p :: kvs, q :: kds, hm, h, r => by
    cases h with
    | cons h1 h2 =>
      obtain ⟨e, r1, r2⟩ := r.uncons
      refine .cons (.tup (vs := [kV p.1, p.2]) ?_ (.cons ?_ (.cons r1 .nil))) (reps_tups (F0 := F0) (fun x hx => hm x (List.mem_cons_of_mem _ hx)) h2 r2)
      · unfold plusF
        rw [if_pos (hm t List.mem_cons_self)]
        exact h1
      · rw [← e]; exact .key p.1
theorem itR_sound {F H : Hp} {v : V} {d : D} {ct : Ct} {Q : VK} (s : Same F H) (vw : View g F H v d) (h : itemsO d = some ct)
    (k : ∀ p F' H', All F H F' H' → H p = none → F' p = none → CtR g F' H' p ct → Q (.ref p) H') : rItR v H Q := by
  cases vw with
  | dct hr r =>
    cases h
    refine ⟨_, _, rfl, hr, fun H' p ts s' hp hts hn hl hpd => ?_⟩
    have al := all_plus s s' hts
    refine k p _ H' al hp ?_ ⟨_, hl, reps_tups (F0 := F) (fun t h => h) hpd (r.mono al.f)⟩
    unfold plusF
    rw [if_neg hn]
    exact s.free hp
  | _ => cases h
theorem out_li {B F F' : Hp} {A : Nat → V} {H H' : Hp} {σ : L2.St} {e : Env} (I : SI g B F A H σ e) {p : Addr} {ct : Ct} (al : All F H F' H') (hp : H p = none) (hf : F' p = none) (h : CtR g F' H' p ct) :
    SI g B F' A H' σ e ∧ SlotR g B F' A H' (some (.ref p)) (.own none ct) ∧ Apart σ e p :=
  ⟨I.all al, ⟨p, rfl, (fun k h => by cases h), h, I.b.free hp, hf⟩, I.apart_new hp⟩
theorem sem_li : ∀ σ H Q, tO g W (o1v itemsO fa) σ H Q → tD g W fa σ H fun x H1 => rItR x H1 Q := fun σ H Q ⟨B, F, A, e, I, w⟩ => by
  refine runD (.refl B F) I w fun x e1 v F1 H1 m1 _ I1 r1 w1 => ?_
  obtain ⟨d, hd, w3⟩ := w1.lift
  obtain ⟨ct, hc, rfl⟩ := Option.map_eq_some_iff.mp hd
  refine itR_sound I1.f (r1.view I1.f) hc fun p F' H' al hp hf cr => ?_
  obtain ⟨I2, sr, ap⟩ := out_li I1 al hp hf cr
  exact w3 _ F' H' (m1.trans (al.ext I1.b)) I2 sr fun a ea _ => by cases ea; exact ap
theorem sem_liS {i : Nat} : ∀ σ H Q, tO g W (o1s itemsO i) σ H Q → tVar i σ H fun x H1 => rItR x H1 Q := fun σ H Q ⟨B, F, A, e, I, w⟩ => by
  obtain ⟨d, hd, w3⟩ := Want.lift w
  obtain ⟨x, hx, hd⟩ := Option.bind_eq_some_iff.mp hd
  obtain ⟨ct, hc, rfl⟩ := Option.map_eq_some_iff.mp hd
  obtain ⟨v, ev, vw⟩ := I.view hx
  refine ⟨v, ev, itR_sound I.f vw hc fun p F' H' al hp hf cr => ?_⟩
  obtain ⟨I2, sr, ap⟩ := out_li I al hp hf cr
  exact w3 _ F' H' (al.ext I.b) I2 sr fun a ea _ => by cases ea; exact ap
theorem go_li (T : BI X.mg) (ha : GE c X W a fa) (hc : X.calm = true := by rfl) (hg : Gl X "list" := by rfl) (hbase : attributeBase a "items" X.env (eval a X.env) = eval a X.env := by rfl) (hline : (apos.endLine == cpos.line) = true := by rfl)
    (hs : starEach [.Call (.Attribute a "items" apos) [] [] cpos] X.env = (false, eval (.Call (.Attribute a "items" apos) [] [] cpos) X.env) :: starEach [] X.env := by rfl) : GO c X W (.Call (.Name "list" p) [.Call (.Attribute a "items" apos) [] [] cpos] [] pos) (o1v itemsO fa) := PE.of (pe_liR hc ha hg T.list hbase hline hs) sem_li
theorem go_liS (i : Nat) (T : BI X.mg) (ha : PE X a (tVar i)) (hc : X.calm = true := by rfl) (hg : Gl X "list" := by rfl) (hbase : attributeBase a "items" X.env (eval a X.env) = eval a X.env := by rfl) (hline : (apos.endLine == cpos.line) = true := by rfl)
    (hs : starEach [.Call (.Attribute a "items" apos) [] [] cpos] X.env = (false, eval (.Call (.Attribute a "items" apos) [] [] cpos) X.env) :: starEach [] X.env := by rfl) : GO c X W (.Call (.Name "list" p) [.Call (.Attribute a "items" apos) [] [] cpos] [] pos) (o1s itemsO i) := PE.of (pe_liR hc ha hg T.list hbase hline hs) sem_liS
end
end DV

set_option Elab.async false
set_option linter.all false
set_option autoImplicit false
set_option maxRecDepth 100000
set_option maxHeartbeats 2000000
/-! V21: a def under another name. -/
namespace DV
open PySem PySem.Spec L2
open PyProof.Rows hiding St

/-- a def that the top keeps under the name y -/
structure F0A (K : PySem.W.Frag) (mg : Str → Option Value) (y x : Str) (st : Stmt) (ps : List Str) : Prop where
  ex : ∃ f fd, Fun K x x st f fd ∧ mg y = some (.ref f) ∧ Binds K fd ps []
structure FnA (c : Nat → Addr) (P : Program) (w : World) (K : PySem.W.Frag) (mg : Str → Option Value) (base : Heap) (y x : Str) (st : Stmt) (k n : Nat) (ps : List Str) (den : Env → Res S) : Prop where
  ex : ∃ f fd, Fun K x x st f fd ∧ mg y = some (.ref f) ∧ Binds K fd ps [] ∧ FnOk P w K mg base (L2.CX P w) k f fd ps (SpD ⟨K, c⟩ n den)
section
variable {c : Nat → Addr} {P : Program} {w : World} {K : PySem.W.Frag} {mg : Str → Option Value} {base : Heap} {k : Nat} {N ps : List Str} {y x : Str} {st : Stmt} {body : Env → Res Fl}
theorem FnA.mk' (F : F0A K mg y x st ps) (Sc : FnScope N ps (defScope st)) (b : ∀ f, BodyOk c P w K mg base k N x st f body) : FnA c P w K mg base y x st (k + 1) ps.length ps (denF ps.length N.length body) := by
  obtain ⟨f, fd, F, hm, hb⟩ := F.ex
  exact ⟨f, fd, F, hm, hb, fn_den F Sc (b f)⟩
end
section
variable {c : Nat → Addr} {X : Cx} {W : WX} {k n : Nat} {ps : List Str} {den : Env → Res S} {y x : Str} {st : Stmt} {p pos : Pos} {e : Expr} {es : List Expr} {ua : Env → Res (List Arg)}
theorem go_fa_call (F : FnA c X.prog X.w X.K X.mg X.base y x st k n ps den) (hr : Room k X.A) (tk : Takes X W) (ha : GAA c X W (e :: es) ua) (hg : Gl X y := by rfl)
    (hdb : (y == ("__debug__" : Str)) = false := by decide) (he : starEach (e :: es) X.env = (false, eval e X.env) :: starEach es X.env := by rfl) (hpl : (backTo pos (starEach es X.env)).any (·.1) = false := by rfl) :
    GO c X W (.Call (.Name y p) (e :: es) [] pos) (dCall n den ua) := by
  obtain ⟨f, fd, F, hm, hb, G⟩ := F
  exact go_call G hr hg hm F.kp hb tk ha hdb he hpl
end
section
variable {K : PySem.W.Frag} {h : Heap} {mg : Str → Option Value} {y x : Str} {st : Stmt} {ps : List Str} {f : Addr} {oc : Value} {od an : Option Addr} {osl : Array (Option Value)} {kV doc pm cdv ct : Value}
theorem F0A.of (X : K.In h) (G : h.Ns mainGlobals mg) (bd : BindEq x x st ps) (a : PySem.W.nsIn K mainGlobals y = some (some (.ref f)))
    (l : K.lookup f = some ⟨oc, od, .func (PySem.W.fnOf x x (defArgs st) (defBody st) (defScope st) .none kV doc pm an cdv ct), osl⟩) (c : PySem.W.codeIn K cdv x = true) (k : PySem.W.keepIn K (.ref f) = true) : F0A K mg y x st ps :=
  ⟨f, _, fun_mk l c k, PySem.W.mg_of X G a, (fun_mk l c k).binds bd⟩
end
end DV

set_option Elab.async false
set_option linter.all false
set_option autoImplicit false
set_option maxRecDepth 100000
set_option maxHeartbeats 2000000
/-! V22: owned things that are read for a while, and owned again behind it. -/
namespace DV
open PySem PySem.Spec L2
open PyProof.Rows hiding St

def isAtom : D → Bool
  | .non => true
  | .bl _ => true
  | .int _ => true
  | .str _ => true
  | _ => false
/-- what a slot shows while it is read -/
def frS : S → S
  | .own _ c => .fz c.toD
  | s => s
def hdS : S → S
  | .own _ _ => .no
  | s => s
def freezeE : List Nat → Env → Env
  | [], e => e.map hdS
  | i :: is, e => freezeE is (match e[i]? with
    | some (.own _ c) => e.set i (.fz c.toD)
    | _ => e)
/-- the things in the slots is are read; all others are out of sight -/
def dThaw (is : List Nat) (f : Env → Res D) : Env → Res D := fun e => match f (freezeE is e) with
  | .ok d _ => if isAtom d = true then .ok d e else .no
  | _ => .no
section
variable {g : Γ} {B F : Hp} {A : Nat → V} {H H' : Hp} {σ : L2.St} {env : Env}
/-- the owned objects stand as they stood -/
def Keep (σ : L2.St) (env : Env) (H H' : Hp) : Prop := ∀ (j : Nat) (og : Option Nat) (ct : Ct) (a : Addr), env[j]? = some (.own og ct) → σ[j]? = some (some (.ref a)) → H' a = H a
theorem SI.kept (I : SI g B F A H σ env) (b : Same B H') (f : Same F H') (k : Keep σ env H H') : SI g B F A H' σ env := by
  refine ⟨b, f, I.len, fun j s q => ?_, I.dj⟩
  have z := I.sl j s q
  cases s with
  | no => trivial
  | fz d => exact z
  | own og ct =>
    obtain ⟨a, ea, ho, cr, b1, f1⟩ := I.own q
    rw [ea]
    exact ⟨a, rfl, ho, cr.up (.of (Same.refl F)) (k j og ct a q ea), b1, f1⟩
/-- the owned objects, as they lie -/
noncomputable def hidB (B : Hp) (σ : L2.St) (env : Env) (H : Hp) : Hp := fun a => by
  classical
  exact if ∃ (j : Nat) (og : Option Nat) (ct : Ct), env[j]? = some (.own og ct) ∧ σ[j]? = some (some (.ref a)) then H a else B a
theorem SI.hide (I : SI g B F A H σ env) : SI g (hidB B σ env H) F A H σ (env.map hdS) ∧ Same B (hidB B σ env H) ∧ ∀ H', Same (hidB B σ env H) H' → Keep σ env H H' := by
  have own : ∀ a, (∃ (j : Nat) (og : Option Nat) (ct : Ct), env[j]? = some (.own og ct) ∧ σ[j]? = some (some (.ref a))) → (∃ o, H a = some o) ∧ B a = none := by
    rintro a ⟨j, og, ct, e1, e2⟩
    obtain ⟨b, eb, _, cr, b1, f1⟩ := I.own e1
    rw [eb] at e2
    cases e2
    exact ⟨cr.there, b1⟩
  refine ⟨⟨fun a o e => ?_, I.f, by rw [List.length_map]; exact I.len, fun j s q => ?_, fun i j s t a e1 e2 o1 o2 s1 s2 => ?_⟩, fun a o e => ?_, fun H' h j og ct a e1 e2 => ?_⟩
  · unfold hidB at e
    split at e
    · exact e
    · exact I.b a o e
  · rw [List.getElem?_map] at q
    obtain ⟨s0, e0, rfl⟩ := Option.map_eq_some_iff.mp q
    have z := I.sl j s0 e0
    cases s0 with
    | no => trivial
    | fz d => exact z
    | own og ct => trivial
  · rw [List.getElem?_map] at e1
    obtain ⟨s0, e0, rfl⟩ := Option.map_eq_some_iff.mp e1
    cases s0 <;> cases o1
  · unfold hidB
    split
    · rename_i h
      rw [(own a h).2] at e; cases e
    · exact e
  · obtain ⟨⟨o, ho⟩, _⟩ := own a ⟨j, og, ct, e1, e2⟩
    rw [ho]
    refine h a o ?_
    unfold hidB
    rw [if_pos ⟨j, og, ct, e1, e2⟩]
    exact ho
end
section
variable {c : Nat → Addr} {X : Cx} {W : WX} {e : Expr} {f : Env → Res D} {pins : List (Addr × Obj)} {σ : L2.St} {A : Nat → V}
theorem thaw_run {t : TE} (h : PE X e t) {P : V → Prop} : ∀ (is : List Nat) {B F H : Hp} {env : Env} {s : Shared}, Inv X pins σ H s → SI ⟨X.K, c⟩ B F A H σ env →
    (∀ B1 F1 H1, SI ⟨X.K, c⟩ B1 F1 A H1 σ (freezeE is env) → t σ H1 fun v H' => Same B1 H' ∧ Same F1 H' ∧ P v) →
    wpAny (model X.prog X.w) X.A (eval e X.env) (EP X pins σ fun v H' => P v ∧ Same B H' ∧ Same F H' ∧ Keep σ env H H') X.xe s
  | [], B, F, H, env, s, I, S, k => by
    obtain ⟨S1, sb, kp⟩ := S.hide
    refine thn (h.run pins s σ H _ I (k _ F H S1)) fun u s1 ⟨v, H', I', r, b1, f1, p⟩ => ?_
    exact ⟨v, H', I', r, p, sb.trans b1, f1, kp H' b1⟩
  | i :: is, B, F, H, env, s, I, S, k => by
    cases q : env[i]? with
    | none => exact thaw_run h is I S fun B1 F1 H1 S1 => k B1 F1 H1 (by simp only [freezeE, q]; exact S1)
    | some sl =>
      cases sl with
      | no => exact thaw_run h is I S fun B1 F1 H1 S1 => k B1 F1 H1 (by simp only [freezeE, q]; exact S1)
      | fz d => exact thaw_run h is I S fun B1 F1 H1 S1 => k B1 F1 H1 (by simp only [freezeE, q]; exact S1)
      | own og ct =>
        obtain ⟨a, o, ea, ha, cr, fz⟩ := S.freeze q
        obtain ⟨_, _, _, _, b1, f1⟩ := S.own q
        rename_i a' ea' ho' cr'
        have eaa : a' = a := by rw [ea] at ea'; cases ea'; rfl
        subst eaa
        -- what is left, once the thing is as lk says
        have rest : ∀ od, Inv X pins σ (upd H a' (lk ct od o)) s → wpAny (model X.prog X.w) X.A (eval e X.env) (EP X pins σ fun v H' => P v ∧ Same B H' ∧ Same (upd F a' (lk ct od o)) H' ∧ Keep σ (env.set i (.fz ct.toD)) (upd H a' (lk ct od o)) H') X.xe s := fun od I1 => by
          obtain ⟨_, S1, _⟩ := fz od
          exact thaw_run h is I1 S1 fun B1 F1 H1 S2 => k B1 F1 H1 (by simp only [freezeE, q]; exact S2)
        have fin : ∀ (od : Obj) (v : V) (H' H2 : Hp), (P v ∧ Same B H' ∧ Same (upd F a' (lk ct od o)) H' ∧ Keep σ (env.set i (.fz ct.toD)) (upd H a' (lk ct od o)) H') → H2 = upd H' a' o → P v ∧ Same B H2 ∧ Same F H2 ∧ Keep σ env H H2 := by
          rintro od v H' H2 ⟨p, sb, sf, kp⟩ rfl
          refine ⟨p, fun b u z => ?_, fun b u z => ?_, fun j og' ct' b e1 e2 => ?_⟩
          · rw [upd_ne (ne_of_none z b1)]; exact sb b u z
          · have n := ne_of_none z f1
            rw [upd_ne n]; exact sf b u (by rw [upd_ne n]; exact z)
          · by_cases hj : i = j
            · subst hj
              rw [ea] at e2; cases e2
              rw [upd_same, ha]
            · have hb : b ≠ a' := fun z => hj (S.dj i j _ _ a' q e1 rfl rfl ea (by rw [e2, z]))
              rw [upd_ne hb, kp j og' ct' b (by rw [List.getElem?_set_ne hj]; exact e1) e2, upd_ne hb]
        have plain : lk ct default o = o → wpAny (model X.prog X.w) X.A (eval e X.env) (EP X pins σ fun v H' => P v ∧ Same B H' ∧ Same F H' ∧ Keep σ env H H') X.xe s := fun e0 => by
          refine thn (rest default (by rw [e0, upd_self ha]; exact I)) fun u s1 ⟨v, H', I', r, q'⟩ => ?_
          have hh : H' a' = some o := by rw [← e0]; exact q'.2.2.1 a' _ upd_same
          exact ⟨v, H', I', r, fin default v H' H' q' (upd_self hh).symm⟩
        have locked : (∀ od, lk ct od o = .frz od o) → Mut (some o) → wpAny (model X.prog X.w) X.A (eval e X.env) (EP X pins σ fun v H' => P v ∧ Same B H' ∧ Same F H' ∧ Keep σ env H H') X.xe s := fun e0 mu => by
          obtain ⟨od, I1⟩ := I.lock ha mu
          refine thn (rest od (by rw [e0]; exact I1)) fun u s1 ⟨v, H', I', r, q'⟩ => ?_
          have hh : H' a' = some (.frz od o) := by rw [← e0]; exact q'.2.2.1 a' _ upd_same
          exact ⟨v, _, I'.unlock hh (I.nofrz ha mu), r, fin od v H' _ q' rfl⟩
        cases ct with
        | l ds => exact plain rfl
        | o k ds => exact plain rfl
        | d ds =>
          obtain ⟨_, z, _⟩ := cr
          rw [ha] at z; cases z
          exact locked (fun _ => rfl) trivial
        | t ds =>
          obtain ⟨_, z, _⟩ := cr
          rw [ha] at z; cases z
          exact locked (fun _ => rfl) trivial
theorem atom_rep {g : Γ} {F F' : Hp} {v : V} {d : D} (h : isAtom d = true) (r : Rep g F v d) : Rep g F' v d := by
  cases r with
  | non => exact .non
  | bl b => exact .bl b
  | int i => exact .int i
  | str x => exact .str x
  | _ => cases h
theorem ge_thaw (is : List Nat) (h : GE c X W e f) : GE c X W e (dThaw is f) := by
  refine ⟨fun pins s σ H Q I hq => ?_⟩
  obtain ⟨B, F, A, env, S, w⟩ := hq
  unfold dThaw at w
  cases q : f (freezeE is env) with
  | no => rw [q] at w; exact w.elim
  | ex x e1 => rw [q] at w; exact w.elim
  | ok d e1 =>
    rw [q] at w
    simp only at w
    by_cases at1 : isAtom d = true
    · rw [if_pos at1] at w
      refine thn (thaw_run (c := c) (A := A) h (P := fun v => Rep ⟨X.K, c⟩ F v d) is I S fun B1 F1 H1 S1 => ⟨B1, F1, A, _, S1, ?_⟩) fun u s1 ⟨v, H', I', r, p, sb, sf, kp⟩ => ⟨v, H', I', r, w v F H' (.refl B F) (S.kept sb sf kp) p⟩
      rw [q]
      exact fun v F' H' m S2 r2 => ⟨S2.b, m.1.trans S2.f, atom_rep at1 r2⟩
    · rw [if_neg at1] at w; exact w.elim
end
end DV

set_option Elab.async false
set_option linter.all false
set_option autoImplicit false
set_option maxRecDepth 100000
set_option maxHeartbeats 2000000
/-! V23: x, y = a, b by way of a new tuple (names that comprehensions use). -/
namespace DV
open PySem PySem.Spec L2
open PyProof.Rows hiding St

def gNs : List Nat → TGs
  | [] => gNil
  | i :: is => gCons (gName i) (gNs is)
def setAll : List Nat → List V → L2.St → L2.St
  | i :: is, v :: vs, σ => setAll is vs (σ.set i (some v))
  | _, _, σ => σ
def stAll : List Nat → List S → Env → Option Env
  | [], [], e => some e
  | i :: is, s :: ss, e => (stS i s e).bind fun e => stAll is ss e
  | _, _, _ => none
theorem gNs_of : ∀ (is : List Nat) (vs : List V) (σ : L2.St) (H : Hp) (Q : L2.St → Hp → Prop), is.length = vs.length → Q (setAll is vs σ) H → gNs is vs σ H Q
  | [], [], σ, H, Q, _, q => ⟨rfl, q⟩
  | [], _ :: _, _, _, _, h, _ => by cases h
  | _ :: _, [], _, _, _, h, _ => by cases h
  | i :: is, v :: vs, σ, H, Q, h, q => ⟨v, vs, rfl, gNs_of is vs _ H Q (Nat.succ.inj h) q⟩
section
variable {g : Γ} {B F : Hp} {A : Nat → V} {H H' : Hp}
theorem SlotsR.kept {σ : L2.St} {e : Env} {vs : List V} {ss : List S} (r : SlotsR g B F A H σ e vs ss) (k : ∀ a o, H a = some o → H' a = some o) : SlotsR g B F A H' σ e vs ss := by
  refine ⟨r.len, fun i v s h1 h2 => ?_, r.ap, r.dj⟩
  have z := r.sl i v s h1 h2
  cases s with
  | no => trivial
  | fz d => exact z
  | own og ct =>
    obtain ⟨a, ea, ho, cr, b1, f1⟩ := z
    obtain ⟨o, ha⟩ := cr.there
    exact ⟨a, ea, ho, cr.up (.of (Same.refl F)) (by rw [ha]; exact k a o ha), b1, f1⟩
theorem store_all : ∀ (is : List Nat) (vs : List V) (ss : List S) {σ : L2.St} {e e' : Env}, SI g B F A H σ e → SlotsR g B F A H σ e vs ss → stAll is ss e = some e' → is.length = vs.length ∧ SI g B F A H (setAll is vs σ) e'
  | [], [], [], _, _, _, I, _, h => by cases h; exact ⟨rfl, I⟩
  | [], _ :: _, [], _, _, _, _, r, _ => by have := r.len; simp at this
  | [], _, _ :: _, _, _, _, _, _, h => by cases h
  | _ :: _, _, [], _, _, _, _, _, h => by cases h
  | _ :: _, [], _ :: _, _, _, _, _, r, _ => by have := r.len; simp at this
  | i :: is, v :: vs, s :: ss, σ, e, e', I, r, h => by
    obtain ⟨e1, h1, h2⟩ := Option.bind_eq_some_iff.mp h
    obtain ⟨I1, r1⟩ := r.store I i h1
    obtain ⟨hl, I2⟩ := store_all is vs ss I1 r1 h2
    exact ⟨by rw [List.length_cons, List.length_cons, hl], I2⟩
end
def parN (is : List Nat) (ss : List S) (e : Env) : Res Fl := if ss.length ≤ 1000000 then (lift (stAll is ss e) e).bind fun e' _ => .ok .nx e' else .no
def sParN (is : List Nat) (fl : Env → Res (List S)) : Env → Res Fl := fun e => (fl e).bind (parN is)
section
variable {c : Nat → Addr} {X : Cx} {W : WX} {es names : List Expr} {fl : Env → Res (List S)} {kt k2 i : Nat} {is : List Nat} {pt pt2 pos p : Pos} {x : Str}
theorem pgn_nil : PGs X [] (gNs []) := pgs_nil
theorem pgn_cons (i : Nat) (hN : X.N.Nodup) (h : PGs X names (gNs is)) (hi : X.N[i]? = some x := by rfl) (hx : Loc X.env.scope x := by first | exact Or.inl rfl | exact Or.inr rfl) (hf : X.fn x = true ∨ X.env.scope.names.lookup x = some .local := by first | exact .inl rfl | exact .inr rfl | assumption)
    (hs : (assignEach (.Name x p :: names) X.env).map (·.2) = assign (.Name x p) X.env :: (assignEach names X.env).map (·.2) := by rfl) : PGs X (.Name x p :: names) (gNs (i :: is)) := pgs_cons (pg_name hN hi hx hf) h hs
theorem gs_parN (is : List Nat) (ha : GOs c X W es fl) (hg : PGs X names (gNs is)) (hc : X.calm = true := by rfl) (hn : (assignEach names X.env).length = is.length := by rfl) (hst : (assignEach names X.env).findIdx? (·.1) = none := by rfl)
    (hs : swapsWithSole [.Tuple names kt pt] (.Tuple es k2 pt2) pos.line X.env = pure false := by rfl) (hw : swappedStores [.Tuple names kt pt] (.Tuple es k2 pt2) X.env = pure none := by rfl)
    (h1 : (assignEach [.Tuple names kt pt] X.env).map (·.2) = [assign (.Tuple names kt pt) X.env] := by rfl) :
    GS c X W (.Assign [.Tuple names kt pt] (.Tuple es k2 pt2) pos) (sParN is fl) := PS.of (ps_asg (pe_tup ha) (pg_tup hc hg hn hst) hs hw h1) fun D σ H ⟨B, F, A, e, I, w⟩ =>
  runOss (.refl B F) I w fun ss e1 vs F1 H1 m1 _ I1 r1 w1 => by
    unfold parN at w1
    split at w1
    · rename_i hl
      obtain ⟨e', he, w2⟩ := w1.lift
      refine ⟨by rw [r1.len, sizeLine_eq]; omega, fun q hq => ?_⟩
      have al := All.newO (o := .tup vs) I1.f hq
      have r2 : SlotsR _ B F1 A (upd H1 q (.tup vs)) σ e1 vs ss := r1.kept fun a o z => al.h a o z
      obtain ⟨hlen, I3⟩ := store_all is vs ss (I1.all al) r2 he
      exact ⟨q, vs, rfl, .of upd_same, hlen.symm, gNs_of is vs σ _ _ hlen (w2 F1 _ _ m1 I3)⟩
    · exact w1.elim
end
end DV

set_option Elab.async false
set_option linter.all false
set_option autoImplicit false
set_option maxRecDepth 100000
set_option maxHeartbeats 2000000
/-! V24: .. that give a new list of plain things; set to a name. -/
namespace DV
open PySem PySem.Spec L2
open PyProof.Rows hiding St

/-- what may be handed out while things are read: an atom, a new list of atoms -/
def okS : S → Bool
  | .fz d => isAtom d
  | .own none (.l ds) => ds.all isAtom
  | _ => false
def oThaw (is : List Nat) (f : Env → Res S) : Env → Res S := fun e => match f (freezeE is e) with
  | .ok s _ => if okS s = true then .ok s e else .no
  | _ => .no
section
variable {X : Cx} {pins : List (Addr × Obj)} {σ : L2.St} {A : Nat → V} {g : Γ}
/-- a run that ends in a value and slots -/
structure Rn (X : Cx) (pins : List (Addr × Obj)) (Run : Shared → (L2.St → V → Hp → Prop) → Prop) : Prop where
  mono : ∀ s post post2, Run s post → (∀ σ' v H' s', Inv X pins σ' H' s' → post σ' v H' → ∃ H2, Inv X pins σ' H2 s' ∧ post2 σ' v H2) → Run s post2
/-- the owned addresses are in B1 or in F1 -/
def OwnIn (σ : L2.St) (env : Env) (B1 F1 : Hp) : Prop := ∀ (j : Nat) (og : Option Nat) (ct : Ct) (b : Addr), env[j]? = some (.own og ct) → σ[j]? = some (some (.ref b)) → B1 b ≠ none ∨ F1 b ≠ none
theorem thaw_gen {Run : Shared → (L2.St → V → Hp → Prop) → Prop} (R : Rn X pins Run) {P : Hp → L2.St → V → Hp → Prop} (stab : ∀ F1 σ' v H' a o, F1 a ≠ none → P F1 σ' v H' → P F1 σ' v (upd H' a o)) : ∀ (is : List Nat) {B F H : Hp} {env : Env} {s : Shared}, Inv X pins σ H s → SI g B F A H σ env →
    (∀ B1 F1 H1, Inv X pins σ H1 s → SI g B1 F1 A H1 σ (freezeE is env) → Same B B1 → Same F F1 → OwnIn σ env B1 F1 → Run s fun σ' v H' => Same B1 H' ∧ Same F1 H' ∧ P F1 σ' v H') →
    Run s fun σ' v H' => ∃ F1, Same F F1 ∧ P F1 σ' v H' ∧ Same B H' ∧ Same F H' ∧ Keep σ env H H'
  | [], B, F, H, env, s, I, S, k => by
    obtain ⟨S1, sb, kp⟩ := S.hide
    refine R.mono s _ _ (k _ F H I S1 sb (.refl F) fun j og ct b e1 e2 => .inl ?_) fun σ' v H' s' I' ⟨b1, f1, p⟩ => ⟨H', I', F, .refl F, p, sb.trans b1, f1, kp H' b1⟩
    obtain ⟨a, ea, _, cr, _, _⟩ := S.own e1
    rw [ea] at e2; cases e2
    obtain ⟨o, ho⟩ := cr.there
    unfold hidB
    rw [if_pos ⟨j, og, ct, e1, ea⟩, ho]
    exact fun z => by cases z
  | i :: is, B, F, H, env, s, I, S, k => by
    cases q : env[i]? with
    | none => exact thaw_gen R stab is I S fun B1 F1 H1 I1 S1 => k B1 F1 H1 I1 (by simp only [freezeE, q]; exact S1)
    | some sl =>
      cases sl with
      | no => exact thaw_gen R stab is I S fun B1 F1 H1 I1 S1 => k B1 F1 H1 I1 (by simp only [freezeE, q]; exact S1)
      | fz d => exact thaw_gen R stab is I S fun B1 F1 H1 I1 S1 => k B1 F1 H1 I1 (by simp only [freezeE, q]; exact S1)
      | own og ct =>
        obtain ⟨a, o, ea, ha, cr, fz⟩ := S.freeze q
        obtain ⟨a', ea', _, _, b1, f1⟩ := S.own q
        have eaa : a' = a := by rw [ea] at ea'; cases ea'; rfl
        subst eaa
        have sF : ∀ od, Same F (upd F a' (lk ct od o)) := fun od => same_upd f1
        have rest : ∀ od, Inv X pins σ (upd H a' (lk ct od o)) s → Run s fun σ' v H' => ∃ F1, Same (upd F a' (lk ct od o)) F1 ∧ P F1 σ' v H' ∧ Same B H' ∧ Same (upd F a' (lk ct od o)) H' ∧ Keep σ (env.set i (.fz ct.toD)) (upd H a' (lk ct od o)) H' := fun od I1 => by
          obtain ⟨_, S1, _⟩ := fz od
          refine thaw_gen R stab is I1 S1 fun B1 F1 H1 I2 S2 sb sf ow => k B1 F1 H1 I2 (by simp only [freezeE, q]; exact S2) sb ((sF od).trans sf) fun j og' ct' b e1 e2 => ?_
          by_cases hj : i = j
          · subst hj
            rw [ea] at e2; cases e2
            exact .inr (by rw [sf a' _ upd_same]; exact fun z => by cases z)
          · exact ow j og' ct' b (by rw [List.getElem?_set_ne hj]; exact e1) e2
        have fin : ∀ (od : Obj) (σ' : L2.St) (v : V) (H' H2 : Hp), (∃ F1, Same (upd F a' (lk ct od o)) F1 ∧ P F1 σ' v H' ∧ Same B H' ∧ Same (upd F a' (lk ct od o)) H' ∧ Keep σ (env.set i (.fz ct.toD)) (upd H a' (lk ct od o)) H') → H2 = upd H' a' o →
            ∃ F1, Same F F1 ∧ P F1 σ' v H2 ∧ Same B H2 ∧ Same F H2 ∧ Keep σ env H H2 := by
          rintro od σ' v H' H2 ⟨F1, s1, p, sb, sf, kp⟩ rfl
          refine ⟨F1, (sF od).trans s1, stab F1 σ' v H' a' o (by rw [s1 a' _ upd_same]; exact fun z => by cases z) p, fun b u z => ?_, fun b u z => ?_, fun j og' ct' b e1 e2 => ?_⟩
          · rw [upd_ne (ne_of_none z b1)]; exact sb b u z
          · have n := ne_of_none z f1
            rw [upd_ne n]; exact sf b u (by rw [upd_ne n]; exact z)
          · by_cases hj : i = j
            · subst hj
              rw [ea] at e2; cases e2
              rw [upd_same, ha]
            · have hb : b ≠ a' := fun z => hj (S.dj i j _ _ a' q e1 rfl rfl ea (by rw [e2, z]))
              rw [upd_ne hb, kp j og' ct' b (by rw [List.getElem?_set_ne hj]; exact e1) e2, upd_ne hb]
        have plain : lk ct default o = o → Run s fun σ' v H' => ∃ F1, Same F F1 ∧ P F1 σ' v H' ∧ Same B H' ∧ Same F H' ∧ Keep σ env H H' := fun e0 => by
          refine R.mono s _ _ (rest default (by rw [e0, upd_self ha]; exact I)) fun σ' v H' s' I' q' => ?_
          have hh : H' a' = some o := by
            obtain ⟨_, _, _, _, sf, _⟩ := q'
            have := sf a' _ upd_same
            rw [e0] at this; exact this
          exact ⟨H', I', fin default σ' v H' H' q' (upd_self hh).symm⟩
        have locked : (∀ od, lk ct od o = .frz od o) → Mut (some o) → Run s fun σ' v H' => ∃ F1, Same F F1 ∧ P F1 σ' v H' ∧ Same B H' ∧ Same F H' ∧ Keep σ env H H' := fun e0 mu => by
          obtain ⟨od, I1⟩ := I.lock ha mu
          refine R.mono s _ _ (rest od (by rw [e0]; exact I1)) fun σ' v H' s' I' q' => ?_
          have hh : H' a' = some (.frz od o) := by
            obtain ⟨_, _, _, _, sf, _⟩ := q'
            have := sf a' _ upd_same
            rw [e0] at this; exact this
          exact ⟨_, I'.unlock hh (I.nofrz ha mu), fin od σ' v H' _ q' rfl⟩
        cases ct with
        | l ds => exact plain rfl
        | o k ds => exact plain rfl
        | d ds =>
          obtain ⟨_, z, _⟩ := cr
          rw [ha] at z; cases z
          exact locked (fun _ => rfl) trivial
        | t ds =>
          obtain ⟨_, z, _⟩ := cr
          rw [ha] at z; cases z
          exact locked (fun _ => rfl) trivial
/-- what came out -/
def OutS (g : Γ) (B F : Hp) (σ : L2.St) (env : Env) (s : S) (F1 : Hp) (v : V) (H' : Hp) : Prop := match s with
  | .fz d => Rep g F v d
  | .own none (.l ds) => ∃ p vs, v = .ref p ∧ H' p = some (.lst vs) ∧ Reps g F vs ds ∧ F1 p = none ∧ B p = none ∧ F p = none ∧ Apart σ env p
  | _ => False
theorem OutS.stab {B F : Hp} {env : Env} {s : S} {F1 : Hp} {v : V} {H' : Hp} {a : Addr} {o : HO} (ha : F1 a ≠ none) (h : OutS g B F σ env s F1 v H') : OutS g B F σ env s F1 v (upd H' a o) := by
  cases s with
  | no => exact h
  | fz d => exact h
  | own og c =>
    cases og with
    | some k => exact h
    | none =>
      cases c with
      | l ds =>
        obtain ⟨p, vs, e, h1, h2, h3, h4⟩ := h
        exact ⟨p, vs, e, by rw [upd_ne (fun z => ha (by rw [← z]; exact h3))]; exact h1, h2, h3, h4⟩
      | d ds => exact h
      | t ds => exact h
      | o k ds => exact h
theorem reps_atom {F F' : Hp} : ∀ {vs : List V} {ds : List D}, ds.all isAtom = true → Reps g F vs ds → Reps g F' vs ds
  | _, _, _, .nil => .nil
  | _, _, h, .cons r rs => by
    rw [List.all_cons, Bool.and_eq_true] at h
    exact .cons (atom_rep h.1 r) (reps_atom h.2 rs)
theorem out_of {B F B1 F1 F' H' : Hp} {env e1 : Env} {s : S} {v : V} (ok : okS s = true) (sb : Same B B1) (sf : Same F F1) (ow : OwnIn σ env B1 F1) (m : Ext B1 F1 F') (r : SlotR g B1 F' A H' (some v) s) : OutS g B F σ env s F1 v H' := by
  cases s with
  | no => cases ok
  | fz d =>
    obtain ⟨x, ex, rr⟩ := r
    cases ex
    exact atom_rep ok rr
  | own og c =>
    cases og with
    | some k => cases ok
    | none =>
      cases c with
      | l ds =>
        obtain ⟨p, ep, _, ⟨vs, h1, h2⟩, h3, h4⟩ := r
        cases ep
        have f1 : F1 p = none := by
          cases q : F1 p with
          | none => rfl
          | some o => have := m.1 p o q; rw [h4] at this; cases this
        refine ⟨p, vs, rfl, h1, reps_atom ok h2, f1, ?_, ?_, fun j s' e1 o1 e2 => ?_⟩
        · exact sb.free h3
        · exact sf.free f1
        · cases s' with
          | no => cases o1
          | fz d => cases o1
          | own og' ct' =>
            rcases ow j og' ct' p e1 e2 with z | z
            · exact z h3
            · exact z f1
      | d ds => cases ok
      | t ds => cases ok
      | o k ds => cases ok
theorem OutS.slot {B F F1 H' : Hp} {env : Env} {s : S} {v : V} (h : OutS g B F σ env s F1 v H') : SlotR g B F A H' (some v) s ∧ ∀ a, v = .ref a → s.isOwn = true → Apart σ env a := by
  cases s with
  | no => cases h
  | fz d => exact ⟨⟨v, rfl, h⟩, fun a _ z => by cases z⟩
  | own og c =>
    cases og with
    | some k => cases h
    | none =>
      cases c with
      | l ds =>
        obtain ⟨p, vs, rfl, h1, h2, h3, h4, h5, h6⟩ := h
        exact ⟨⟨p, rfl, (fun k z => by cases z), ⟨vs, h1, h2⟩, h4, h5⟩, fun a e _ => by cases e; exact h6⟩
      | d ds => cases h
      | t ds => cases h
      | o k ds => cases h
end
section
variable {c : Nat → Addr} {X : Cx} {W : WX} {e : Expr} {st : Stmt} {f : Env → Res S} {te : TE}
theorem go_thaw (is : List Nat) (h : GO c X W e f) : GO c X W e (oThaw is f) := by
  refine ⟨fun pins s σ H Q I hq => ?_⟩
  obtain ⟨B, F, A, env, S, w⟩ := hq
  unfold oThaw at w
  cases q : f (freezeE is env) with
  | no => rw [q] at w; exact w.elim
  | ex x e1 => rw [q] at w; exact w.elim
  | ok d e1 =>
    rw [q] at w
    simp only at w
    by_cases at1 : okS d = true
    · rw [if_pos at1] at w
      have R : Rn X pins (fun s post => wpAny (model X.prog X.w) X.A (eval e X.env) (fun u s' => ∃ v H', Inv X pins σ H' s' ∧ RelV v u ∧ post σ v H') X.xe s) := ⟨fun s post post2 h hm => thn h fun u s' ⟨v, H', I', r, p⟩ => let ⟨H2, I2, p2⟩ := hm σ v H' s' I' p; ⟨v, H2, I2, r, p2⟩⟩
      have key := thaw_gen (g := ⟨X.K, c⟩) (A := A) R (P := fun F1 σ' v H' => OutS ⟨X.K, c⟩ B F σ env d F1 v H') (fun F1 σ' v H' a o ha p => p.stab ha) is I S fun B1 F1 H1 I1 S1 sb sf ow =>
        thn (h.run pins s σ H1 (fun v H' => Same B1 H' ∧ Same F1 H' ∧ OutS ⟨X.K, c⟩ B F σ env d F1 v H') I1 ⟨B1, F1, A, _, S1, by
          rw [q]
          exact fun v F' H' m S2 r2 _ => ⟨S2.b, m.1.trans S2.f, out_of (e1 := e1) at1 sb sf ow m r2⟩⟩) fun u s' ⟨v, H', I', r, p⟩ => ⟨v, H', I', r, p⟩
      exact thn key fun u s' ⟨v, H', I', r, F1, _, p, sb, sf, kp⟩ => ⟨v, H', I', r, w v F H' (.refl B F) (S.kept sb sf kp) (p.slot (A := A)).1 (p.slot (A := A)).2⟩
    · rw [if_neg at1] at w; exact w.elim
/-- .. set to the name in slot i -/
theorem gs_thaw (is : List Nat) {i : Nat} (h : PS X st (tAsg te (gName i))) (hs : ∀ σ H Q, tO ⟨X.K, c⟩ W f σ H Q → te σ H Q) : GS c X W st (sSet i (oThaw is f)) := by
  refine ⟨fun pins s σ H D I hq => ?_⟩
  obtain ⟨B, F, A, env, S, w⟩ := hq
  unfold sSet oThaw at w
  cases q : f (freezeE is env) with
  | no => rw [q] at w; exact w.elim
  | ex x e1 => rw [q] at w; exact w.elim
  | ok d e1 =>
    rw [q] at w
    simp only at w
    by_cases at1 : okS d = true
    · rw [if_pos at1, Res.bind_ok] at w
      cases he : stS i d env with
      | none => rw [he] at w; exact w.elim
      | some e' =>
        rw [he] at w
        have w : FlW ⟨X.K, c⟩ B F A D .nx e' := w
        have R : Rn X pins (fun s post => wpAny (model X.prog X.w) X.A (exec st X.env) (fun fl s' => ∃ σ' v H', fl = .next ∧ Inv X pins σ' H' s' ∧ post σ' v H') X.xe s) := ⟨fun s post post2 h hm => thn h fun u s' ⟨σ', v, H', z, I', p⟩ => let ⟨H2, I2, p2⟩ := hm σ' v H' s' I' p; ⟨σ', v, H2, z, I2, p2⟩⟩
        have key := thaw_gen (g := ⟨X.K, c⟩) (A := A) R (P := fun F1 σ' v H' => σ' = σ.set i (some v) ∧ OutS ⟨X.K, c⟩ B F σ env d F1 v H') (fun F1 σ' v H' a o ha p => ⟨p.1, p.2.stab ha⟩) is I S fun B1 F1 H1 I1 S1 sb sf ow =>
          thn (h.run pins s σ H1 ⟨fun σ' H' => ∃ v, σ' = σ.set i (some v) ∧ Same B1 H' ∧ Same F1 H' ∧ OutS ⟨X.K, c⟩ B F σ env d F1 v H', fun _ _ => False, fun _ _ => False, fun _ _ => False⟩ I1 (hs _ _ _ ⟨B1, F1, A, _, S1, by
            rw [q]
            exact fun v F' H' m S2 r2 _ => ⟨v, rfl, S2.b, m.1.trans S2.f, out_of (e1 := e1) at1 sb sf ow m r2⟩⟩)) fun fl s' hq => by
            cases fl with
            | next => obtain ⟨σ', H', I', v, z, p1, p2, p3⟩ := hq; exact ⟨σ', v, H', rfl, I', p1, p2, z, p3⟩
            | brk => obtain ⟨_, _, _, z⟩ := hq; exact z.elim
            | cont => obtain ⟨_, _, _, z⟩ := hq; exact z.elim
            | ret u => obtain ⟨_, _, _, _, _, z⟩ := hq; exact z.elim
        refine thn key fun fl s' ⟨σ', v, H', z, I', F1, _, ⟨ez, p⟩, sb, sf, kp⟩ => ?_
        subst z ez
        obtain ⟨r1, ap⟩ := p.slot (A := A)
        exact ⟨_, H', I', w F H' _ (.refl B F) ((S.kept sb sf kp).setS i r1 ap he).1⟩
    · rw [if_neg at1] at w; exact w.elim
end
section
variable {c : Nat → Addr} {X : Cx} {W : WX} {elt kx tg iter : Expr} {ifs : List Expr} {scope : Scope} {own : List (Str × Nat)} {is : List Nat} {pos spos : Pos} {fi : Env → Res (List DV.D)} {gt : DV.D → Env → Option Env} {ft : Env → Res Bool} {fe fk : Env → Res DV.D}
theorem gs_setLcT (ts : List Nat) (i : Nat) {y : Str} {py : Pos} (hN : X.N.Nodup) (ok : BlkOk X.N X.env.scope scope own) (his : ∀ i ∈ is, i ∈ own.map (·.2)) (hi : GI c X W tg iter fi)
    (hg : ∀ (s : Shared) (H : Hp) (C : Addr) (cl : List (Str × Addr)) (fp : List Addr), GG c (X.blk s H scope (compEnvC scope cl C X.env) fp) tg is gt) (ht : ∀ (s : Shared) (H : Hp) (C : Addr) (cl : List (Str × Addr)) (fp : List Addr), GTs c (X.blk s H scope (compEnvC scope cl C X.env) fp) W0 ifs ft)
    (he : ∀ (s : Shared) (H : Hp) (C : Addr) (cl : List (Str × Addr)) (fp : List Addr), GE c (X.blk s H scope (compEnvC scope cl C X.env) fp) W0 elt fe)
    (hy : X.N[i]? = some y := by rfl) (hyl : X.env.scope.names.lookup y = some .local := by rfl) (hc : X.calm = true := by rfl) (hsw : swapsWith (.ListComp elt [⟨tg, iter, ifs, 0⟩] scope pos) (some (.Name y py)) spos.line X.env = pure true := by rfl) (hs : ∀ x, foldedSetIterable iter X.env x = pure x := by intro _; rfl) :
    GS c X W (.Assign [.Name y py] (.ListComp elt [⟨tg, iter, ifs, 0⟩] scope pos) spos) (sSet i (oThaw ts (oLc (own.map (·.2)) fi gt ft fe))) := gs_thaw ts (ps_setLc hc hN hy hyl hsw hi ok hg ht he hs) (sem_lc his)
end
def bThaw (is : List Nat) (ft : Env → Res Bool) : Env → Res Bool := fun e => match ft (freezeE is e) with
  | .ok b _ => .ok b e
  | _ => .no
/-- a test -/
theorem gt_thaw {c : Nat → Addr} {X : Cx} {W : WX} {e : Expr} {ft : Env → Res Bool} (is : List Nat) (h : GT c X W e ft) : GT c X W e (bThaw is ft) := by
  refine ⟨fun pins s σ H Q I hq => ?_⟩
  obtain ⟨B, F, A, env, S, w⟩ := hq
  unfold bThaw at w
  cases q : ft (freezeE is env) with
  | no => rw [q] at w; exact w.elim
  | ex x e1 => rw [q] at w; exact w.elim
  | ok b e1 =>
    rw [q] at w
    have w : FinT ⟨X.K, c⟩ B F A σ Q b env := w
    have R : Rn X pins (fun s post => wpAny (model X.prog X.w) X.A (isTrue e X.env (eval e X.env)) (fun b' s' => ∃ H', Inv X pins σ H' s' ∧ post σ (.bl b') H') X.xe s) := ⟨fun s post post2 h hm => thn h fun u s' ⟨H', I', p⟩ => let ⟨H2, I2, p2⟩ := hm σ _ H' s' I' p; ⟨H2, I2, p2⟩⟩
    have key := thaw_gen (g := ⟨X.K, c⟩) (A := A) R (P := fun F1 σ' v H' => v = .bl b) (fun F1 σ' v H' a o ha p => p) is I S fun B1 F1 H1 I1 S1 sb sf ow =>
      thn (h.run pins s σ H1 (fun b' H' => Same B1 H' ∧ Same F1 H' ∧ V.bl b' = .bl b) I1 ⟨B1, F1, A, _, S1, by
        rw [q]
        exact fun F' H' m S2 => ⟨S2.b, m.1.trans S2.f, rfl⟩⟩) fun u s' ⟨H', I', p⟩ => ⟨H', I', p⟩
    exact thn key fun u s' ⟨H', I', F1, _, ez, sb, sf, kp⟩ => by
      cases ez
      exact ⟨H', I', w F H' (.refl B F) (S.kept sb sf kp)⟩
end DV

set_option Elab.async false
set_option linter.all false
set_option autoImplicit false
set_option maxRecDepth 100000
set_option maxHeartbeats 2000000
/-! V25: max of a list of data; d.update(d2). -/
namespace DV
open PySem PySem.Spec L2
open PyProof.Rows hiding St

def maxL (d : D) : Option D := match d with
  | .lst ds => match toPys ds with
    | some (p :: ps) => if ordOk (p :: ps) = true then some (ofPy (PySem.W.maxD p ps)) else none
    | _ => none
  | _ => none
def rMaxL (K : PySem.W.Frag) : List V → Hp → VK → Prop := fun xs H Q => ∃ a vs p ps, xs = [.ref a] ∧ SqL K H a vs ∧ DpAll K H vs (p :: ps) ∧ ordOk (p :: ps) = true ∧ ndPys (p :: ps) = true ∧ ∀ (i : Nat) (v : V), vs[i]? = some v → (p :: ps)[i]? = some (PySem.W.maxD p ps) → Q v H
theorem call_maxL {X : Cx} (hc : X.calm = true) (hr : Room 0 X.A) : CallR X (.builtin "max") (rMaxL X.K) := by
  intro pins s σ H xs us Q I r h
  obtain ⟨a, vs, p, ps, rfl, hq, dp, ho, hn, q⟩ := h
  obtain ⟨u, rfl, rx⟩ := vals1 r
  obtain rfl : u = Value.ref a := rx
  obtain ⟨its, rv, pl, hz⟩ := I.list hq
  obtain ⟨as, rs⟩ := Dp.readsAll I _ _ _ dp rv
  obtain ⟨al, hd⟩ := ordOk_alike ho
  refine PySem.W.max_list_data (I.ok.hd hc) pl.isList (by simpa using rs) al (by have := hr.un; omega) fun i v h' tk bs hi rd hk => ?_
  obtain ⟨bs', r1, hl, _⟩ := PySem.W.readsAll_atA (vs := its.toArray) (by simpa using rs) i v hi
  have hp := getD_get hl
  have e1 := reads_one _ _ _ _ _ (ndPys_at hn hp) (PySem.W.reads_keeps hk r1) rd
  rw [e1] at hp
  have hi' : its[i]? = some v := by simpa using hi
  obtain ⟨w, hw, rw'⟩ := vals_get' rv hi'
  exact ⟨w, H, I.kept hk, rw', q i w hw hp⟩
theorem snd_maxL {g : Γ} : SVC g (rMaxL g.K) maxL := fun F H x dx d Q s rx e q => by
  cases rx with
  | lst h r =>
    simp only [maxL] at e
    split at e
    · rename_i p ps hp
      split at e
      · rename_i ho
        cases e
        refine ⟨_, _, p, ps, rfl, .of h, toPys_dp s r hp, ho, toPys_nd hp, fun i v hv hm => ?_⟩
        obtain ⟨d', hd', hpy⟩ := toPys_at hp hm
        obtain ⟨v', hv', rv⟩ := r.get hd'
        rw [hv] at hv'; cases hv'
        exact q.here s (rep_ofPy rv hpy)
      · cases e
    · cases e
  | _ => cases e
section
variable {c : Nat → Addr} {X : Cx} {W : WX} {a : Expr} {fa : Env → Res D} {pos p : Pos}
theorem ge_maxL (T : BI X.mg) (hr : Room 0 X.A) (ha : GE c X W a fa) (hs : starEach (a :: []) X.env = (false, eval a X.env) :: starEach [] X.env := by rfl) (hc : X.calm = true := by rfl) (hg : Gl X "max" := by rfl) : GE c X W (.Call (.Name "max" p) [a] [] pos) (d1v maxL fa) :=
  PE.of (pe_callB (call_maxL hc hr) hg T.max boot_max (pa_cons ha pa_nil hs) (he := hs)) (sem_c1 snd_maxL)
end

/-! ### d.update(d2) -/
def rUpd : V → List V → Hp → VK → Prop := fun x vs H Q => ∃ (a o : Addr) (kvs more : List (Key × V)), x = .ref a ∧ vs = [.ref o] ∧ a ≠ o ∧ H a = some (.dK kvs) ∧ Rd H o (.dK more) ∧ kvs.length + more.length ≤ sizeLine ∧ Q .non (upd H a (.dK (mergeK kvs more)))
theorem mt_upd {X : Cx} : MtR X "dict.update" rUpd := by
  intro pins s σ H x vs v us Q I rx rv h
  obtain ⟨a, o, kvs, more, ex, ev, ne, ea, eo, hl, q⟩ := h
  subst ex
  subst ev
  obtain rfl : v = Value.ref a := rx
  obtain ⟨u, rfl, ru⟩ := vals1 rv
  obtain rfl : u = Value.ref o := ru
  obtain ⟨z, hd, vs0, rel, dd⟩ := dk_of I.hok ea
  obtain ⟨z2, hd2, ws, rel2, dd2⟩ := dk_rd I.hok eo
  have l1 : kvs.length = vs0.length := Paired.length rel
  have l2 : more.length = ws.length := Paired.length rel2
  refine call_meetsIn PySem.F.slot_dict_update dd.typeIs PySem.F.entry_dict_update (PySem.F.args_dict_update_2 _ _) (meets_dict_update (mixKind X.prog X.w) a o ne hd2) ⟨vs0, ws, dd, dd2, by omega, fun h' d1 _ hs => ?_⟩
  have m := KV.merge rel2 rel
  have l3 : (mergeK kvs more).length = (merged vs0 ws).length := Paired.length m
  have l4 := merged_length_le vs0 ws
  exact ⟨.non, _, d_write (t' := s.toks) I (by rw [ea]; exact True.intro) hs (let ⟨q, _, _, hq, _⟩ := d1; ⟨q, hq⟩) (dk_new (by omega) hd m d1), rfl, q⟩
def mUpd (kds : List (Key × D)) (y : D) : Option (List (Key × D)) := match y with
  | .dct mds => if kds.length + mds.length ≤ 1000000 then some (mergeD kds mds) else none
  | _ => none
def ownK (e : Env) (i : Nat) : Option (Option Nat × List (Key × D)) := match e[i]? with
  | some (.own og (.d ds)) => some (og, ds)
  | _ => none
theorem ownK_eq {e : Env} {i : Nat} {og : Option Nat} {ds : List (Key × D)} (h : ownK e i = some (og, ds)) : e[i]? = some (.own og (.d ds)) := by
  unfold ownK at h
  split at h
  · cases h; assumption
  · cases h
def dUpd (i : Nat) (fb : Env → Res D) : Env → Res D := fun e => (lift (ownK e i) e).bind fun _ e => (fb e).bind fun y e => (lift (ownK e i) e).bind fun p e => (lift (mUpd p.2 y.un) e).bind fun r e => .ok .non (e.set i (.own p.1 (.d r)))
section
variable {c : Nat → Addr} {X : Cx} {W : WX} {g : Γ} {o a : Expr} {fb : Env → Res D} {apos cpos : Pos}
theorem sem_upd {i : Nat} : ∀ σ H Q, tD g W (dUpd i fb) σ H Q → tBM g.K "dict" rUpd (tVar i) (tCons (tD g W fb) tNil) σ H Q := fun σ H Q ⟨B, F, A, e, I, w⟩ => by
  obtain ⟨⟨og0, kds0⟩, hp0, w0⟩ := (Want.bind w).lift
  obtain ⟨a, ea, _, ⟨kvs0, hv0, _⟩, _⟩ := I.own (ownK_eq hp0)
  refine ⟨_, ea, .inr (.inr (.inl ⟨rfl, .inl ⟨_, hv0⟩⟩)), ?_⟩
  refine runD (.refl B F) I w0 fun y e2 v F2 H2 m2 s2 I2 r2 w2 => ?_
  obtain ⟨⟨og, kds⟩, hp, w3⟩ := w2.bind.lift
  obtain ⟨kds', hd, w4⟩ := w3.bind.lift
  have q := ownK_eq hp
  obtain ⟨_, ⟨kvs, hv, k1, k2⟩, _, hf⟩ := I2.at_own q ea
  have ry := r2.un
  unfold mUpd at hd
  revert hd ry
  generalize y.un = y'
  intro hd ry
  cases ry with
  | dct h k3 k4 =>
    simp only at hd
    split at hd
    · rename_i hl
      cases hd
      have kr : KR g F2 kvs kds := ⟨k1, k2⟩
      have kr2 : KR g F2 _ _ := ⟨k3, k4⟩
      have l1 := kr.length
      have l2 := kr2.length
      have m := kr2.merge kr
      refine ⟨a, _, kvs, _, rfl, rfl, fun z => ?_, hv, .inr ⟨_, I2.f _ _ h⟩, by rw [sizeLine_eq]; omega, ?_⟩
      · subst z; rw [hf] at h; cases h
      · exact w4 _ F2 _ m2 (I2.write q ea ⟨_, upd_same, m.e, m.r⟩) .non
    · cases hd
  | _ => cases hd
theorem ge_upd (i : Nat) (ho : PE X o (tVar i)) (ha : GE c X W a fb)
    (hbase : attributeBase o "update" X.env (eval o X.env) = eval o X.env := by rfl)
    (hfew : ((backTo cpos (starEach (a :: []) X.env)).all (fun x => !x.1) && (backToKw cpos (keywordEach [] X.env)).all (fun x => x.1.isSome)
      && decide ((a :: ([] : List Expr)).length + ([] : List Keyword).length + (if ([] : List Keyword).isEmpty then 0 else 1) < 30)) = true := by rfl)
    (hline : (apos.endLine == cpos.line) = true := by rfl) (hst : starEach (a :: []) X.env = (false, eval a X.env) :: starEach [] X.env := by rfl) (hplain : (backTo cpos (starEach [] X.env)).any (·.1) = false := by rfl) :
    GE c X W (.Call (.Attribute o "update" apos) (a :: []) [] cpos) (dUpd i fb) := PE.of (pe_bm PySem.F.plainAttrs_dict PySem.F.slot_dict_update PySem.F.type_dict_update mt_upd ho (pa_cons ha pa_nil hst) hbase hfew hline hst hplain) sem_upd
end
end DV

set_option Elab.async false
set_option linter.all false
set_option autoImplicit false
set_option maxRecDepth 100000
set_option maxHeartbeats 4000000
namespace DV
open PySem PySem.Spec L2
open PyProof.Rows hiding St
abbrev big : Nat := 1000000
def b_f__law_spring : Env → Res Fl := sSeq (sPar2 2 3 (osCons (oF (dIf (b2 ltD (dV 1) (d1s lenD 0)) (d2s ixD 0 (dV 1)) (d2 addD (d2 mulD (dC (.int 7)) (dV 1)) (d1s lenD 0)))) (osCons (oF (d2 addD (dC (.int 1009)) (d2 mulD (dC (.int 97)) (dV 1)))) (osNil)))) (sSeq (sFor (lArgs enumL (dCons (dSlS 0 (pNo) (pSome (dC (.int 63)))) (dNil))) (gtTup 2 (gtCons (gtN 4) (gtCons (gtN 5) (gtNil)))) (sSet 3 (oF (d2 modD (d1v toIntD (d2 addD (d2 addD (d2 addD (d2 mulD (dV 3) (dC (.int 69069))) (dV 5)) (d2 mulD (dC (.int 5)) (dV 4))) (dC (.int 1)))) (dC (.int 2147483629)))))) (sRet (oLst (dCons (dIf (b2 geD (dV 2) (d2 powD (dC (.int 10)) (dC (.int 18)))) (dV 2) (dC (.int 0))) (dCons (d2 modD (d1v toIntD (d2 addD (dV 3) (d2 mulD (dV 2) (dC (.int 31))))) (dC (.int 2147483647))) (dCons (dC (.int 0)) (dNil)))))))
def m_f__law_spring : Env → Res S := denF 2 6 b_f__law_spring
def b_f__law_draw : Env → Res Fl := sSeq (sIf (b2 gtD (d2s ixD 0 (dC (.int 0))) (dC (.int 0))) (sSeq (sSet 2 (oF (d2 modD (d1v toIntD (d2s ixD 0 (dC (.int 0)))) (dV 1)))) (sSeq (sPut 0 (dC (.int 0)) (d2 fdivD (d2s ixD 0 (dC (.int 0))) (dV 1))) (sRet (oV 2)))) (sPass)) (sSeq (sPut 0 (dC (.int 2)) (d2 addD (d2s ixD 0 (dC (.int 2))) (dC (.int 1)))) (sSeq (sSet 3 (oF (d2 modD (d2 powD (d1v toIntD (d2 addD (d2 addD (d2s ixD 0 (dC (.int 1))) (d2 mulD (dC (.int 6364137)) (d2s ixD 0 (dC (.int 2))))) (dC (.int 1442695)))) (dC (.int 3))) (dC (.int 2147483647))))) (sRet (oF (d2 modD (d2 fdivD (d2 modD (d2 powD (d1v toIntD (d2 addD (d2 mulD (dV 3) (dC (.int 48271))) (d2 mulD (dC (.int 11)) (d2s ixD 0 (dC (.int 2)))))) (dC (.int 3))) (dC (.int 2147483629))) (dC (.int 8))) (dV 1))))))
def m_f__law_draw : Env → Res S := denF 2 4 b_f__law_draw
def b_f__law_pick : Env → Res Fl := sRet (oF (d2s ixD 1 (dF (dCall 2 m_f__law_draw (aS 0 (aV (d1s lenD 1) (aNil)))))))
def m_f__law_pick : Env → Res S := denF 2 2 b_f__law_pick
def b_f__law_w_name : Env → Res Fl := sSeq (sSet 1 (oF (dC (.str "abcdefghijklmnopqrstuvwxyz0123456789")))) (sSeq (sSet 2 (oF (d2s ixD 1 (dF (dCall 2 m_f__law_draw (aS 0 (aV (dC (.int 26)) (aNil)))))))) (sSeq (sFor (lArgs range1D (dCons (dF (dCall 2 m_f__law_pick (aS 0 (aV (dLst (dCons (dC (.int 0)) (dCons (dC (.int 1)) (dCons (dC (.int 1)) (dCons (dC (.int 2)) (dCons (dC (.int 3)) (dCons (dC (.int 7)) (dNil)))))))) (aNil))))) (dNil))) (gtN 3) (sSet 2 (oF (d2 addD (dV 2) (d2s ixD 1 (dF (dCall 2 m_f__law_draw (aS 0 (aV (dC (.int 36)) (aNil)))))))))) (sRet (oV 2))))
def m_f__law_w_name : Env → Res S := denF 1 4 b_f__law_w_name
def b_f__law_w_names : Env → Res Fl := sSeq (sSet 2 (oLst (dNil))) (sSeq (sFor (lArgs range1D (dCons (dV 1) (dNil))) (gtN 3) (sSeq (sSet 4 (dCall 1 m_f__law_w_name (aS 0 (aNil)))) (sSeq (sIf (bAnd (bTs 2) (b2 eqD (dF (dCall 2 m_f__law_draw (aS 0 (aV (dC (.int 4)) (aNil))))) (dC (.int 0)))) (sSet 4 (oF (d2 addD (dSl (dF (dCall 2 m_f__law_pick (aS 0 (aS 2 (aNil))))) (pNo) (pSome (dC (.int 7)))) (dF (dCall 2 m_f__law_pick (aS 0 (aV (dLst (dCons (dC (.str "a")) (dCons (dC (.str "m")) (dCons (dC (.str "z")) (dCons (dC (.str "0")) (dCons (dC (.str "9")) (dNil))))))) (aNil)))))))) (sPass)) (sSeq (sSet 5 (oF (dC (.int 0)))) (sSeq (sWhile big (b2r inD (dV 4) 2) (sSeq (sSet 4 (oF (d2 addD (d2v ixD (dC (.str "abcdefghijklmnopqrstuvwxyz")) (d2 modD (dV 5) (dC (.int 26)))) (d1v strIntD (d2 addD (d2 fdivD (dV 5) (dC (.int 26))) (dV 3)))))) (sSet 5 (oF (d2 addD (dV 5) (dC (.int 1))))))) (sDrop (dMut mApp 2 (dCons (dV 4) (dNil))))))))) (sRet (oV 2)))
def m_f__law_w_names : Env → Res S := denF 2 6 b_f__law_w_names
def b_f_is_integer : Env → Res Fl := sRet (oF (dAnd (d1s (isiD [.int]) 0) (dNot (d1s (isiD [.bool]) 0))))
def m_f_is_integer : Env → Res S := denF 1 1 b_f_is_integer
def b_f_is_between : Env → Res Fl := sRet (oF (dAnd (dF (dCall 1 m_f_is_integer (aS 0 (aNil)))) (dB (bCh leD leD (dV 1) (dV 0) (dV 2)))))
def m_f_is_between : Env → Res S := denF 3 3 b_f_is_between
def b_f_check_hours : Env → Res Fl := sIf (bNot (bTv (dF (dCall 3 m_f_is_between (aV (dV 0) (aV (dC (.int 1)) (aV (dC (.int 1000)) (aNil)))))))) (sNo) (sPass)
def m_f_check_hours : Env → Res S := denF 1 1 b_f_check_hours
def b_f_is_name : Env → Res Fl := sSeq (sIf (bOr (bNot (bTv (d1s (isiD [.str]) 0))) (bNot (bCh leD leD (dC (.int 1)) (d1s lenD 0) (dC (.int 8))))) (sRet (oF (dC (.bl false)))) (sPass)) (sSeq (sIf (b2v notInD (d2s ixD 0 (dC (.int 0))) (dC (.str "abcdefghijklmnopqrstuvwxyz"))) (sRet (oF (dC (.bl false)))) (sPass)) (sRet (oF (d1v allD (dF (oLc [1] (lItems (dV 0)) (gtN 1) (bYes) (dB (b2v inD (dV 1) (dC (.str "abcdefghijklmnopqrstuvwxyz0123456789"))))))))))
def m_f_is_name : Env → Res S := denF 1 2 b_f_is_name
def b_f_is_list : Env → Res Fl := sRet (oF (d1s (isiD [.list, .tuple]) 0))
def m_f_is_list : Env → Res S := denF 1 1 b_f_is_list
def b_f_are_arcs : Env → Res Fl := sSeq (sIf (bOr (bNot (bTv (d1s (isiD [.dict]) 1))) (b2 gtD (d1s lenD 1) (dC (.int 40)))) (sRet (oF (dC (.bl false)))) (sPass)) (sSeq (sFor (lItems (dV 1)) (gtN 2) (sSeq (sIf (bOr (bNot (bTv (dF (dCall 1 m_f_is_name (aV (dV 2) (aNil)))))) (bOr (bNot (bTv (dF (dCall 1 m_f_is_list (aV (d2s ixD 1 (dV 2)) (aNil)))))) (b2 neD (d1v lenD (d2s ixD 1 (dV 2))) (dC (.int 2))))) (sRet (oF (dC (.bl false)))) (sPass)) (sSeq (sAsg (d2s ixD 1 (dV 2)) (gtTup 2 (gtCons (gtN 3) (gtCons (gtN 4) (gtNil))))) (sIf (bOr (bNot (bTv (dF (dCall 3 m_f_is_between (aV (dV 3) (aV (dC (.int 0)) (aV (d2 subD (dV 0) (dC (.int 1))) (aNil)))))))) (bNot (bTv (dF (dCall 3 m_f_is_between (aV (dV 4) (aV (dC (.int 1)) (aV (dV 0) (aNil))))))))) (sRet (oF (dC (.bl false)))) (sPass))))) (sRet (oF (dC (.bl true)))))
def m_f_are_arcs : Env → Res S := denF 2 5 b_f_are_arcs
def b_f_Ring___init__ : Env → Res Fl := sSeq (sDrop (dF (dCall 1 m_f_check_hours (aV (dV 1) (aNil))))) (sSeq (sIf (bNot (bTv (dF (dCall 2 m_f_are_arcs (aV (dV 1) (aV (dV 2) (aNil))))))) (sNo) (sPass)) (sSeq (sFld 0 "own_hours" 0 (dV 1)) (sFld 0 "own_arcs" 0 (dF (oDc [3] (lItems (dF (o1s sortedO 2))) (gtN 3) (bYes) (dV 3) (dTup (dCons (d2v ixD (d2s ixD 2 (dV 3)) (dC (.int 0))) (dCons (d2v ixD (d2s ixD 2 (dV 3)) (dC (.int 1))) (dNil)))))))))
def m_f_Ring___init__ : Env → Res S := denF 3 4 b_f_Ring___init__
def b_f__law_mixed : Env → Res Fl := sSeq (sSet 2 (o1s listO 1)) (sRet (oLc [3] (lArgs range1D (dCons (d1s lenD 2) (dNil))) (gtN 3) (bYes) (dMut mPopAt 2 (dCons (dF (dCall 2 m_f__law_draw (aS 0 (aV (d1s lenD 2) (aNil))))) (dNil)))))
def m_f__law_mixed : Env → Res S := denF 2 4 b_f__law_mixed
def b_f__law_loose (rc : Env → Res S) : Env → Res Fl := sSeq (sIf (bTv (d1s (isiD [.dict]) 1)) (sRet (o1v dictO (dF (oLc [3] (lItems (dF (dCall 2 m_f__law_mixed (aS 0 (aV (dF (o1s listO 1)) (aNil)))))) (gtN 3) (bYes) (dTup (dCons (dV 3) (dCons (dF (dCall 2 rc (aS 0 (aV (d2s ixD 1 (dV 3)) (aNil))))) (dNil)))))))) (sPass)) (sSeq (sIf (bNot (bTv (d1s (isiD [.list, .tuple]) 1))) (sRet (oV 1)) (sPass)) (sSeq (sSet 2 (oLc [4] (lItems (dV 1)) (gtN 4) (bYes) (dF (dCall 2 rc (aS 0 (aV (dV 4) (aNil))))))) (sRet (oF (dIf (b2 gtD (dF (dCall 2 m_f__law_draw (aS 0 (aV (dC (.int 2)) (aNil))))) (dC (.int 0))) (dV 2) (d1s tupleD 2))))))
def m_f__law_loose : Nat → Env → Res S
  | 0 => denNo
  | n + 1 => denF 2 5 (b_f__law_loose (m_f__law_loose n))
def b_f__law_r_most : Env → Res Fl := sSeq (sParN [3, 4] (osCons (oLst (dNil)) (osCons (oF (d2 mulD (dV 2) (dV 0))) (osNil)))) (sSeq (sFor (lItems (dF (o1s sortedO 1))) (gtN 5) (sFor (lArgs range1D (dCons (dV 2) (dNil))) (gtN 6) (sSeq (sSet 7 (oF (d2 addD (d2 mulD (dV 6) (dV 0)) (d2v ixD (d2s ixD 1 (dV 5)) (dC (.int 0)))))) (sDrop (dMut mApp 3 (dCons (dF (o1v sortedO (dF (oLc [10] (lArgs range1D (dCons (d2v ixD (d2s ixD 1 (dV 5)) (dC (.int 1))) (dNil))) (gtN 10) (bYes) (d2 modD (d2 addD (dV 7) (dV 10)) (dV 4)))))) (dNil))))))) (sSeq (sSet 8 (oLst (dCons (dTup (dCons (dLst (dNil)) (dCons (dC (.int 0)) (dNil)))) (dNil)))) (sSeq (sFor (lItems (dV 3)) (gtN 9) (sSet 8 (oF (d2 addD (dV 8) (dF (oLc [11, 12] (lItems (dV 8)) (gtTup 2 (gtCons (gtN 11) (gtCons (gtN 12) (gtNil)))) (bNot (bTv (d1v anyD (dF (oLc [13] (lItems (dV 9)) (gtN 13) (bYes) (dB (b2r inD (dV 13) 11))))))) (dTup (dCons (d2 addD (dV 11) (dV 9)) (dCons (d2 addD (dV 12) (dC (.int 1))) (dNil)))))))))) (sRet (oF (d1v maxL (dF (oLc [11, 12] (lItems (dV 8)) (gtTup 2 (gtCons (gtN 11) (gtCons (gtN 12) (gtNil)))) (bYes) (dV 12)))))))))
def m_f__law_r_most : Env → Res S := denF 3 14 b_f__law_r_most
def b_f__law_r_unseen : Env → Res Fl := sSeq (sPar2 4 5 (osCons (oLst (dNil)) (osCons (oF (d2 mulD (dV 2) (dV 0))) (osNil)))) (sSeq (sIf (bNot (bTs 3)) (sRet (oF (dIf (bTs 1) (dTup (dCons (d2v ixD (dF (o1s sortedO 1)) (dC (.int 0))) (dCons (dC (.int 0)) (dNil)))) (dC .non)))) (sPass)) (sSeq (sFor (lArgs zip2L (dCons (dV 3) (dCons (d2 addD (dF (o1v listO (dSlS 3 (pSome (dC (.int 1))) (pNo)))) (dLst (dCons (d2 addD (d2s ixD 3 (dC (.int 0))) (dV 5)) (dNil)))) (dNil)))) (gtTup 2 (gtCons (gtN 6) (gtCons (gtN 7) (gtNil)))) (sFor (lItems (dF (o1s sortedO 1))) (gtN 8) (sSeq (sAsg (d2s ixD 1 (dV 8)) (gtTup 2 (gtCons (gtN 9) (gtCons (gtN 10) (gtNil))))) (sSeq (sPar2 11 12 (osCons (oF (d2 addD (d2 fdivD (d2 subD (dV 6) (dV 9)) (dV 0)) (dC (.int 1)))) (osCons (oF (d2 fdivD (d2 subD (d2 subD (dV 7) (dV 10)) (dV 9)) (dV 0))) (osNil)))) (sIf (b2 leD (dV 11) (dV 12)) (sDrop (dMut mApp 4 (dCons (dTup (dCons (dIf (bCh ltD leD (dV 11) (dV 2) (dV 12)) (dC (.int 0)) (d2 modD (dV 11) (dV 2))) (dCons (dV 8) (dNil)))) (dNil)))) (sPass)))))) (sRet (oF (dIf (bTs 4) (dTup (dCons (d2v ixD (d1v minL (dV 4)) (dC (.int 1))) (dCons (d2v ixD (d1v minL (dV 4)) (dC (.int 0))) (dNil)))) (dC .non))))))
def m_f__law_r_unseen : Env → Res S := denF 4 13 b_f__law_r_unseen
def b_f__law_r_looks : Env → Res Fl := sSeq (sSet 3 (oF (d2 mulD (dV 2) (dV 0)))) (sSeq (sSet 4 (oLst (dCons (dLst (dNil)) (dNil)))) (sSeq (sFor (lArgs range1D (dCons (d2 addD (dV 3) (dC (.int 1))) (dNil))) (gtN 5) (sSeq (sFor (lItems (dV 4)) (gtN 6) (sIf (b2 isD (dF (dCall 4 m_f__law_r_unseen (aV (dV 0) (aV (dV 1) (aV (dV 2) (aV (dV 6) (aNil))))))) (dC .non)) (sRet (oV 5)) (sPass))) (sSeq (sSet 7 (oLst (dNil))) (sSeq (sFor (lItems (dV 4)) (gtN 6) (sSeq (sSet 8 (oF (dIf (bTs 6) (d2 addD (d2s ixD 6 (d1 negD (dC (.int 1)))) (dC (.int 1))) (dC (.int 0))))) (sSet 7 (oF (d2 addD (dV 7) (dF (oLc [9] (lArgs range2D (dCons (dV 8) (dCons (dV 3) (dNil)))) (gtN 9) (bYes) (d2 addD (dV 6) (dLst (dCons (dV 9) (dNil))))))))))) (sSet 4 (oV 7)))))) (sRet (oF (dC .non)))))
def m_f__law_r_looks : Env → Res S := denF 3 10 b_f__law_r_looks
def b_f_check_days : Env → Res Fl := sIf (bNot (bTv (dF (dCall 3 m_f_is_between (aV (dV 0) (aV (dC (.int 1)) (aV (dC (.int 1000000)) (aNil)))))))) (sNo) (sPass)
def m_f_check_days : Env → Res S := denF 1 1 b_f_check_days
def b_f_Ring___len__ : Env → Res Fl := sRet (oF (d1v lenD (dFldS 0 "own_arcs" 0)))
def m_f_Ring___len__ : Env → Res S := denF 1 1 b_f_Ring___len__
def b_f_Ring_hours : Env → Res Fl := sRet (oF (dFldS 0 "own_hours" 0))
def m_f_Ring_hours : Env → Res S := denF 1 1 b_f_Ring_hours
def b_f_Ring_names : Env → Res Fl := sRet (o1v sortedO (dFldS 0 "own_arcs" 0))
def m_f_Ring_names : Env → Res S := denF 1 1 b_f_Ring_names
def b_f_Ring___contains__ : Env → Res Fl := sRet (oF (dAnd (d1s (isiD [.str]) 1) (dB (b2v inD (dV 1) (dFldS 0 "own_arcs" 0)))))
def m_f_Ring___contains__ : Env → Res S := denF 2 2 b_f_Ring___contains__
def b_f_Ring_arc : Env → Res Fl := sSeq (sIf (bInO 0 m_f_Ring___contains__ true (dV 1) (dV 0)) (sNo) (sPass)) (sRet (oF (d2v ixD (dFldS 0 "own_arcs" 0) (dV 1))))
def m_f_Ring_arc : Env → Res S := denF 2 2 b_f_Ring_arc
def b_f_step_from : Env → Res Fl := sSeq (sSet 2 (oF (dC .non))) (sSeq (sSet 3 (dMethS 0 "hours" 1 m_f_Ring_hours 0 aNil)) (sSeq (sFor (lItems (dF (dMethS 0 "names" 1 m_f_Ring_names 0 aNil))) (gtN 4) (sSeq (sAsg (dF (dMethV 0 "arc" 2 m_f_Ring_arc (dV 0) (aV (dV 4) (aNil)))) (gtTup 2 (gtCons (gtN 5) (gtCons (gtN 6) (gtNil))))) (sSeq (sSet 7 (oF (d2 addD (d2 fdivD (d2 subD (dV 1) (dV 5)) (dV 3)) (dC (.int 1))))) (sSeq (sSet 8 (oF (d2 subD (d2 addD (d2 addD (d2 mulD (dV 7) (dV 3)) (dV 5)) (dV 6)) (dC (.int 1))))) (sIf (bOr (b2 isD (dV 2) (dC .non)) (b2 ltD (dV 8) (d2s ixD 2 (dC (.int 0))))) (sSet 2 (oF (dTup (dCons (dV 8) (dCons (dV 4) (dCons (dV 7) (dNil))))))) (sPass)))))) (sRet (oV 2))))
def m_f_step_from : Env → Res S := denF 2 9 b_f_step_from
def b_f_walk_from : Env → Res Fl := sSeq (sSet 2 (dMethS 0 "hours" 1 m_f_Ring_hours 0 aNil)) (sSeq (sSet 3 (oDict)) (sSeq (sSet 4 (oLst (dCons (dV 1) (dNil)))) (sSeq (sWhile big (b2r notInD (d2 modD (d2s ixD 4 (d1 negD (dC (.int 1)))) (dV 2)) 3) (sSeq (sPut 3 (d2 modD (d2s ixD 4 (d1 negD (dC (.int 1)))) (dV 2)) (d2 subD (d1s lenD 4) (dC (.int 1)))) (sDrop (dMut mApp 4 (dCons (d2v ixD (dF (dCall 2 m_f_step_from (aV (dV 0) (aV (d2s ixD 4 (d1 negD (dC (.int 1)))) (aNil))))) (dC (.int 0))) (dNil)))))) (sRet (oF (dTup (dCons (dV 4) (dCons (d2s ixD 3 (d2 modD (d2s ixD 4 (d1 negD (dC (.int 1)))) (dV 2))) (dNil)))))))))
def m_f_walk_from : Env → Res S := denF 2 5 b_f_walk_from
def b_f_round_from : Env → Res Fl := sSeq (sAsg (dF (dCall 2 m_f_walk_from (aV (dV 0) (aV (dC (.int 0)) (aNil))))) (gtTup 2 (gtCons (gtN 1) (gtCons (gtN 2) (gtNil))))) (sSeq (sSet 3 (oF (d2 subD (d2 subD (d1s lenD 1) (dC (.int 1))) (dV 2)))) (sSeq (sSet 4 (oF (d2 fdivD (d2 subD (d2s ixD 1 (d1 negD (dC (.int 1)))) (d2s ixD 1 (dV 2))) (dF (dMethS 0 "hours" 1 m_f_Ring_hours 0 aNil))))) (sRet (oF (dTup (dCons (d2 modD (d2s ixD 1 (dV 2)) (dF (dMethS 0 "hours" 1 m_f_Ring_hours 0 aNil))) (dCons (dV 3) (dCons (dV 4) (dNil)))))))))
def m_f_round_from : Env → Res S := denF 1 5 b_f_round_from
def b_f_common : Env → Res Fl := sSeq (sWhile big (b2 gtD (dV 1) (dC (.int 0))) (sPar2 0 1 (osCons (oV 1) (osCons (oF (d2 modD (dV 0) (dV 1))) (osNil))))) (sRet (oV 0))
def m_f_common : Env → Res S := denF 2 2 b_f_common
def b_f_lowest : Env → Res Fl := sSeq (sSet 2 (dCall 2 m_f_common (aV (dV 0) (aV (dV 1) (aNil))))) (sRet (oF (dTup (dCons (d2 fdivD (dV 0) (dV 2)) (dCons (d2 fdivD (dV 1) (dV 2)) (dNil))))))
def m_f_lowest : Env → Res S := denF 2 3 b_f_lowest
def b_f_ring_number : Env → Res Fl := sSeq (sIf (b2 eqD (dLenO 0 m_f_Ring___len__ (dV 0)) (dC (.int 0))) (sRet (oF (dTup (dCons (dC (.int 0)) (dCons (dC (.int 1)) (dNil)))))) (sPass)) (sSeq (sAsg (dF (dCall 1 m_f_round_from (aV (dV 0) (aNil)))) (gtTup 3 (gtCons (gtN 1) (gtCons (gtN 2) (gtCons (gtN 3) (gtNil)))))) (sRet (dCall 2 m_f_lowest (aV (dV 2) (aV (dV 3) (aNil))))))
def m_f_ring_number : Env → Res S := denF 1 4 b_f_ring_number
def b_f_fewest_looks : Env → Res Fl := sSeq (sDrop (dF (dCall 1 m_f_check_days (aV (dV 1) (aNil))))) (sSeq (sAsg (dF (dCall 1 m_f_ring_number (aV (dV 0) (aNil)))) (gtTup 2 (gtCons (gtN 2) (gtCons (gtN 3) (gtNil))))) (sRet (oF (d2 fdivD (d2 subD (d2 addD (d2 mulD (dV 1) (dV 2)) (dV 3)) (dC (.int 1))) (dV 3)))))
def m_f_fewest_looks : Env → Res S := denF 2 4 b_f_fewest_looks
def b_f__law_same (rc : Env → Res S) : Env → Res Fl := sSeq (sIf (bTv (d1s (isiD [.dict]) 1)) (sRet (oF (dAnd (d1s (isiD [.dict]) 0) (dF (dCall 2 rc (aV (dF (o1s itemsO 0)) (aV (dF (o1s itemsO 1)) (aNil)))))))) (sPass)) (sSeq (sIf (bTv (d1s (isiD [.list, .tuple]) 1)) (sSeq (sIf (bOr (b2 neD (d1s (isiD [.list]) 0) (d1s (isiD [.list]) 1)) (b2 neD (d1s (isiD [.tuple]) 0) (d1s (isiD [.tuple]) 1))) (sRet (oF (dC (.bl false)))) (sPass)) (sRet (oF (dAnd (dB (b2 eqD (d1s lenD 0) (d1s lenD 1))) (d1v allD (dF (oLc [3, 4] (lArgs zip2L (dCons (dV 0) (dCons (dV 1) (dNil)))) (gtTup 2 (gtCons (gtN 3) (gtCons (gtN 4) (gtNil)))) (bYes) (dF (dCall 2 rc (aV (dV 3) (aV (dV 4) (aNil)))))))))))) (sPass)) (sSeq (sSet 2 (oF (dAnd (dB (b2 eqD (d1s (isiD [.bool]) 0) (d1s (isiD [.bool]) 1))) (dB (b2 eqD (d1s (isiD [.int]) 0) (d1s (isiD [.int]) 1)))))) (sSeq (sIf (bOr (bTv (d1s (isiD [.dict, .list, .tuple]) 0)) (bOr (bNot (bTs 2)) (b2 neD (d1s (isiD [.str]) 0) (d1s (isiD [.str]) 1)))) (sRet (oF (dC (.bl false)))) (sPass)) (sRet (oF (dIf (b2 isD (dV 1) (dC .non)) (dB (b2 isD (dV 0) (dC .non))) (dB (b2 eqD (dV 0) (dV 1)))))))))
def m_f__law_same : Nat → Env → Res S
  | 0 => denNo
  | n + 1 => denF 2 5 (b_f__law_same (m_f__law_same n))
def b_f_most_apart : Env → Res Fl := sSeq (sDrop (dF (dCall 1 m_f_check_days (aV (dV 1) (aNil))))) (sSeq (sAsg (dF (dCall 1 m_f_ring_number (aV (dV 0) (aNil)))) (gtTup 2 (gtCons (gtN 2) (gtCons (gtN 3) (gtNil))))) (sRet (oF (d2 fdivD (d2 mulD (dV 1) (dV 2)) (dV 3)))))
def m_f_most_apart : Env → Res S := denF 2 4 b_f_most_apart
def b_f__law_r_lowest : Env → Res Fl := sSeq (sPar2 2 3 (osCons (oV 0) (osCons (oV 1) (osNil)))) (sSeq (sFor (lArgs range1D (dCons (dC (.int 200)) (dNil))) (gtN 4) (sIf (b2 gtD (dV 3) (dC (.int 0))) (sPar2 2 3 (osCons (oV 3) (osCons (oF (d2 modD (dV 2) (dV 3))) (osNil)))) (sPass))) (sRet (oF (dTup (dCons (d2 fdivD (dV 0) (dV 2)) (dCons (d2 fdivD (dV 1) (dV 2)) (dNil)))))))
def m_f__law_r_lowest : Env → Res S := denF 2 5 b_f__law_r_lowest
def b_f__law_r_known : Env → Res Fl := sSeq (sPar2 1 2 (osCons (oF (d2 addD (dC (.int 1)) (dF (dCall 2 m_f__law_draw (aS 0 (aV (dC (.int 9)) (aNil))))))) (osCons (oF (d2 addD (dC (.int 2)) (dF (dCall 2 m_f__law_draw (aS 0 (aV (dC (.int 39)) (aNil))))))) (osNil)))) (sSeq (sSet 3 (oF (d2 addD (dC (.int 1)) (dF (dCall 2 m_f__law_draw (aS 0 (aV (d2 mulD (dV 1) (dV 2)) (aNil)))))))) (sSeq (sSet 4 (oF (d1 negD (d2 fdivD (d1 negD (dV 3)) (dV 1))))) (sSeq (sPar2 5 6 (osCons (dCall 2 m_f__law_w_names (aS 0 (aV (dV 2) (aNil)))) (osCons (oDict) (osNil)))) (sSeq (sFor (lArgs enumL (dCons (dV 5) (dNil))) (gtTup 2 (gtCons (gtN 7) (gtCons (gtN 8) (gtNil)))) (sPut 6 (dV 8) (dTup (dCons (d2 mulD (dV 1) (dV 7)) (dCons (dV 3) (dNil)))))) (sRet (oF (dTup (dCons (d2 mulD (dV 1) (dV 2)) (dCons (dV 6) (dCons (dF (dCall 2 m_f__law_r_lowest (aV (dV 2) (aV (dV 4) (aNil))))) (dNil)))))))))))
def m_f__law_r_known : Env → Res S := denF 1 9 b_f__law_r_known
def b_f_Ring_joined : Env → Res Fl := sSeq (sIf (bOr (bNot (bTv (dF (dCall 2 m_f_are_arcs (aV (dFldS 0 "own_hours" 0) (aV (dV 1) (aNil))))))) (b2 gtD (d2 addD (d1s lenD 1) (d1v lenD (dFldS 0 "own_arcs" 0))) (dC (.int 40)))) (sNo) (sPass)) (sSeq (sIf (bTv (d1v anyD (dF (oLc [3] (lItems (dV 1)) (gtN 3) (bYes) (dB (b2v inD (dV 3) (dFldS 0 "own_arcs" 0))))))) (sNo) (sPass)) (sSeq (sSet 2 (o1v dictO (dFldS 0 "own_arcs" 0))) (sSeq (sDrop (dUpd 2 (dV 1))) (sRet (dMake 0 3 m_f_Ring___init__ (aV (dFldS 0 "own_hours" 0) (aV (dV 2) (aNil))))))))
def m_f_Ring_joined : Env → Res S := denF 2 4 b_f_Ring_joined
def b_f_law : Env → Res Fl := sSeq (sFor (lArgs range1D (dCons (dC (.int 4)) (dNil))) (gtN 1) (sSeq (sSet 2 (dCall 2 m_f__law_spring (aS 0 (aV (dV 1) (aNil))))) (sSeq (sSet 3 (oF (d2 addD (dC (.int 1)) (dF (dCall 2 m_f__law_draw (aS 2 (aV (dC (.int 6)) (aNil)))))))) (sSeq (sSet 4 (o1v dictO (dF (oLc [16] (lItems (dF (dCall 2 m_f__law_w_names (aS 2 (aV (dF (dCall 2 m_f__law_draw (aS 2 (aV (dC (.int 4)) (aNil))))) (aNil)))))) (gtN 16) (bYes) (dTup (dCons (dV 16) (dCons (dTup (dCons (dF (dCall 2 m_f__law_draw (aS 2 (aV (dV 3) (aNil))))) (dCons (d2 addD (dC (.int 1)) (dF (dCall 2 m_f__law_draw (aS 2 (aV (dV 3) (aNil)))))) (dNil)))) (dNil)))))))) (sSeq (sPar3 5 6 7 (osCons (dMake 0 3 m_f_Ring___init__ (aV (dV 3) (aV (dF (dCall 2 (m_f__law_loose 6) (aS 2 (aV (dV 4) (aNil))))) (aNil)))) (osCons (oLst (dNil)) (osCons (oLst (dNil)) (osNil))))) (sSeq (sFor (lItems (dLst (dCons (dC (.int 1)) (dCons (dC (.int 2)) (dNil))))) (gtN 8) (sIf (b2 ltD (d2 mulD (d2 mulD (dV 8) (dV 3)) (d1s lenD 4)) (dC (.int 30))) (sSeq (sDrop (dMut mApp 6 (dCons (dF (dCall 3 m_f__law_r_most (aV (dV 3) (aS 4 (aV (dV 8) (aNil)))))) (dNil)))) (sSeq (sDrop (dMut mApp 7 (dCons (dIf (b2 ltD (d2 mulD (dV 8) (dV 3)) (dC (.int 11))) (dF (dCall 3 m_f__law_r_looks (aV (dV 3) (aV (dV 4) (aV (dV 8) (aNil)))))) (dF (dCall 2 m_f_fewest_looks (aV (dV 5) (aV (dV 8) (aNil)))))) (dNil)))) (sSeq (sIf (bOr (bNot (bTv (dThaw [5, 8, 6] (dF (dCall 2 (m_f__law_same 6) (aV (dF (dCall 2 m_f_most_apart (aV (dV 5) (aV (dV 8) (aNil))))) (aV (d2s ixD 6 (d1 negD (dC (.int 1)))) (aNil)))))))) (bNot (bTv (dThaw [5, 8, 7] (dF (dCall 2 (m_f__law_same 6) (aV (dF (dCall 2 m_f_fewest_looks (aV (dV 5) (aV (dV 8) (aNil))))) (aV (d2s ixD 7 (d1 negD (dC (.int 1)))) (aNil))))))))) (sRet (oF (dC (.bl false)))) (sPass)) (sIf (bNot (bCh leD leD (d2s ixD 6 (d1 negD (dC (.int 1)))) (d2s ixD 7 (d1 negD (dC (.int 1)))) (d2 addD (d2s ixD 6 (d1 negD (dC (.int 1)))) (dC (.int 1))))) (sRet (oF (dC (.bl false)))) (sPass))))) (sPass))) (sSeq (sAsg (dF (dCall 1 m_f__law_r_known (aS 2 (aNil)))) (gtTup 3 (gtCons (gtN 9) (gtCons (gtN 10) (gtCons (gtN 11) (gtNil)))))) (sSeq (sSet 12 (dMake 0 3 m_f_Ring___init__ (aV (dV 9) (aV (dF (dCall 2 (m_f__law_loose 6) (aS 2 (aV (dV 10) (aNil))))) (aNil))))) (sSeq (sIf (bNot (bTv (dF (dCall 2 (m_f__law_same 6) (aV (dF (dCall 1 m_f_ring_number (aV (dV 12) (aNil)))) (aV (dV 11) (aNil))))))) (sRet (oF (dC (.bl false)))) (sPass)) (sFor (lItems (dLst (dCons (dC (.int 1)) (dCons (d2 addD (dC (.int 1)) (dF (dCall 2 m_f__law_draw (aS 2 (aV (dC (.int 99)) (aNil)))))) (dCons (dC (.int 999999)) (dNil)))))) (gtN 8) (sSeq (sSet 13 (oLst (dCons (dF (dCall 2 m_f_most_apart (aV (dV 12) (aV (dV 8) (aNil))))) (dCons (dF (dCall 2 m_f_fewest_looks (aV (dV 12) (aV (dV 8) (aNil))))) (dNil))))) (sSeq (sIf (bNot (bTv (dF (dCall 2 (m_f__law_same 6) (aV (dV 13) (aV (dLst (dCons (d2 fdivD (d2 mulD (dV 8) (d2s ixD 11 (dC (.int 0)))) (d2s ixD 11 (dC (.int 1)))) (dCons (d1 negD (d2 fdivD (d2 mulD (d1 negD (dV 8)) (d2s ixD 11 (dC (.int 0)))) (d2s ixD 11 (dC (.int 1))))) (dNil)))) (aNil))))))) (sRet (oF (dC (.bl false)))) (sPass)) (sIf (b2 ltD (d1s lenD 10) (dC (.int 40))) (sSeq (sSet 14 (dMethS 0 "joined" 2 m_f_Ring_joined 12 (aV (dF (oDisp (dpCons (dC (.str "qq9qq9q")) (dTup (dCons (dF (dCall 2 m_f__law_draw (aS 2 (aV (dV 9) (aNil))))) (dCons (d2 addD (dC (.int 1)) (dF (dCall 2 m_f__law_draw (aS 2 (aV (dV 9) (aNil)))))) (dNil)))) (dpNil)))) (aNil)))) (sSeq (sSet 15 (oLst (dCons (dF (dCall 2 m_f_most_apart (aV (dV 14) (aV (dV 8) (aNil))))) (dCons (dF (dCall 2 m_f_fewest_looks (aV (dV 14) (aV (dV 8) (aNil))))) (dNil))))) (sSeq (sIf (bNot (bTv (d1v allD (dF (oLc [20, 21] (lArgs zip2L (dCons (dV 13) (dCons (dV 15) (dNil)))) (gtTup 2 (gtCons (gtN 20) (gtCons (gtN 21) (gtNil)))) (bYes) (dB (bCh leD leD (dV 20) (dV 21) (d2 addD (dV 20) (dV 8))))))))) (sRet (oF (dC (.bl false)))) (sPass)) (sSeq (sSet 16 (dCall 2 m_f__law_pick (aS 2 (aV (dF (o1s sortedO 10)) (aNil))))) (sSeq (sAsg (d2s ixD 10 (dV 16)) (gtTup 2 (gtCons (gtN 17) (gtCons (gtN 18) (gtNil))))) (sSeq (sSet 19 (dMethS 0 "joined" 2 m_f_Ring_joined 12 (aV (dF (oDisp (dpCons (dC (.str "qq9qq9q")) (dTup (dCons (dIf (b2 ltD (dV 18) (dV 9)) (d2 modD (d2 subD (dV 17) (dC (.int 1))) (dV 9)) (dV 17)) (dCons (d2v min2D (dV 9) (d2 addD (dV 18) (dC (.int 1)))) (dNil)))) (dpNil)))) (aNil)))) (sIf (b2 neD (dLst (dCons (dF (dCall 2 m_f_most_apart (aV (dV 19) (aV (dV 8) (aNil))))) (dCons (dF (dCall 2 m_f_fewest_looks (aV (dV 19) (aV (dV 8) (aNil))))) (dNil)))) (dV 13)) (sRet (oF (dC (.bl false)))) (sPass)))))))) (sPass)))))))))))))) (sRet (oF (dC (.bl true))))
def m_f_law : Env → Res S := denF 1 22 b_f_law
end DV

set_option Elab.async false
set_option linter.all false
set_option autoImplicit false
set_option maxRecDepth 100000
set_option maxHeartbeats 4000000
namespace DV
open PySem PySem.Spec L2
open PyProof.Rows hiding St
def top (i : Nat) : Stmt := PySem.Challenge.pw_ringnumber_k10_whole_numbers_by_going_th.main.body.getD i (.Pass ⟨0, 0, 0, 0⟩)
abbrev st_f__law_spring : Stmt := top 34
abbrev N_f__law_spring : List Str := ["script", "turn", "cell", "mix", "at", "one"]
abbrev P_f__law_spring : List Str := ["script", "turn"]
theorem sc_f__law_spring : FnScope N_f__law_spring P_f__law_spring (defScope st_f__law_spring) := ⟨rfl, rfl, rfl, by decide +kernel, rfl, by decide +kernel, by decide +kernel⟩
abbrev st_f__law_draw : Stmt := top 35
abbrev N_f__law_draw : List Str := ["spring", "many", "digit", "mixed"]
abbrev P_f__law_draw : List Str := ["spring", "many"]
theorem sc_f__law_draw : FnScope N_f__law_draw P_f__law_draw (defScope st_f__law_draw) := ⟨rfl, rfl, rfl, by decide +kernel, rfl, by decide +kernel, by decide +kernel⟩
abbrev st_f__law_pick : Stmt := top 36
abbrev N_f__law_pick : List Str := ["spring", "some"]
abbrev P_f__law_pick : List Str := ["spring", "some"]
theorem sc_f__law_pick : FnScope N_f__law_pick P_f__law_pick (defScope st_f__law_pick) := ⟨rfl, rfl, rfl, by decide +kernel, rfl, by decide +kernel, by decide +kernel⟩
abbrev st_f__law_w_name : Stmt := top 40
abbrev N_f__law_w_name : List Str := ["spring", "letters", "told", "k"]
abbrev P_f__law_w_name : List Str := ["spring"]
theorem sc_f__law_w_name : FnScope N_f__law_w_name P_f__law_w_name (defScope st_f__law_w_name) := ⟨rfl, rfl, rfl, by decide +kernel, rfl, by decide +kernel, by decide +kernel⟩
abbrev st_f__law_w_names : Stmt := top 41
abbrev N_f__law_w_names : List Str := ["spring", "many", "told", "k", "one", "at"]
abbrev P_f__law_w_names : List Str := ["spring", "many"]
theorem sc_f__law_w_names : FnScope N_f__law_w_names P_f__law_w_names (defScope st_f__law_w_names) := ⟨rfl, rfl, rfl, by decide +kernel, rfl, by decide +kernel, by decide +kernel⟩
abbrev st_f_is_integer : Stmt := top 4
abbrev N_f_is_integer : List Str := ["thing"]
abbrev P_f_is_integer : List Str := ["thing"]
theorem sc_f_is_integer : FnScope N_f_is_integer P_f_is_integer (defScope st_f_is_integer) := ⟨rfl, rfl, rfl, by decide +kernel, rfl, by decide +kernel, by decide +kernel⟩
abbrev st_f_is_between : Stmt := top 5
abbrev N_f_is_between : List Str := ["thing", "low", "high"]
abbrev P_f_is_between : List Str := ["thing", "low", "high"]
theorem sc_f_is_between : FnScope N_f_is_between P_f_is_between (defScope st_f_is_between) := ⟨rfl, rfl, rfl, by decide +kernel, rfl, by decide +kernel, by decide +kernel⟩
abbrev st_f_check_hours : Stmt := top 30
abbrev N_f_check_hours : List Str := ["hours"]
abbrev P_f_check_hours : List Str := ["hours"]
theorem sc_f_check_hours : FnScope N_f_check_hours P_f_check_hours (defScope st_f_check_hours) := ⟨rfl, rfl, rfl, by decide +kernel, rfl, by decide +kernel, by decide +kernel⟩
abbrev st_f_is_name : Stmt := top 7
abbrev N_f_is_name : List Str := ["thing", "sign"]
abbrev P_f_is_name : List Str := ["thing"]
theorem sc_f_is_name : FnScope N_f_is_name P_f_is_name (defScope st_f_is_name) := ⟨rfl, rfl, rfl, by decide +kernel, rfl, by decide +kernel, by decide +kernel⟩
abbrev st_f_is_list : Stmt := top 6
abbrev N_f_is_list : List Str := ["thing"]
abbrev P_f_is_list : List Str := ["thing"]
theorem sc_f_is_list : FnScope N_f_is_list P_f_is_list (defScope st_f_is_list) := ⟨rfl, rfl, rfl, by decide +kernel, rfl, by decide +kernel, by decide +kernel⟩
abbrev st_f_are_arcs : Stmt := top 31
abbrev N_f_are_arcs : List Str := ["hours", "thing", "name", "start", "length"]
abbrev P_f_are_arcs : List Str := ["hours", "thing"]
theorem sc_f_are_arcs : FnScope N_f_are_arcs P_f_are_arcs (defScope st_f_are_arcs) := ⟨rfl, rfl, rfl, by decide +kernel, rfl, by decide +kernel, by decide +kernel⟩
abbrev st_f_Ring___init__ : Stmt := inClass (top 32) 0
abbrev N_f_Ring___init__ : List Str := ["self", "hours", "arcs", "name"]
abbrev P_f_Ring___init__ : List Str := ["self", "hours", "arcs"]
theorem sc_f_Ring___init__ : FnScope N_f_Ring___init__ P_f_Ring___init__ (defScope st_f_Ring___init__) := ⟨rfl, rfl, rfl, by decide +kernel, rfl, by decide +kernel, by decide +kernel⟩
abbrev st_f__law_mixed : Stmt := top 37
abbrev N_f__law_mixed : List Str := ["spring", "some", "left", "k"]
abbrev P_f__law_mixed : List Str := ["spring", "some"]
theorem sc_f__law_mixed : FnScope N_f__law_mixed P_f__law_mixed (defScope st_f__law_mixed) := ⟨rfl, rfl, rfl, by decide +kernel, rfl, by decide +kernel, by decide +kernel⟩
abbrev st_f__law_loose : Stmt := top 39
abbrev N_f__law_loose : List Str := ["spring", "thing", "found", "key", "part"]
abbrev P_f__law_loose : List Str := ["spring", "thing"]
theorem sc_f__law_loose : FnScope N_f__law_loose P_f__law_loose (defScope st_f__law_loose) := ⟨rfl, rfl, rfl, by decide +kernel, rfl, by decide +kernel, by decide +kernel⟩
abbrev st_f__law_r_most : Stmt := top 58
abbrev N_f__law_r_most : List Str := ["hours", "arcs", "days", "masks", "whole", "name", "day", "first", "reached", "mask", "k", "held", "count", "place"]
abbrev P_f__law_r_most : List Str := ["hours", "arcs", "days"]
theorem sc_f__law_r_most : FnScope N_f__law_r_most P_f__law_r_most (defScope st_f__law_r_most) := ⟨rfl, rfl, rfl, by decide +kernel, rfl, by decide +kernel, by decide +kernel⟩
abbrev st_f__law_r_unseen : Stmt := top 52
abbrev N_f__law_r_unseen : List Str := ["hours", "arcs", "days", "looks", "found", "whole", "look", "after", "name", "start", "length", "day", "last"]
abbrev P_f__law_r_unseen : List Str := ["hours", "arcs", "days", "looks"]
theorem sc_f__law_r_unseen : FnScope N_f__law_r_unseen P_f__law_r_unseen (defScope st_f__law_r_unseen) := ⟨rfl, rfl, rfl, by decide +kernel, rfl, by decide +kernel, by decide +kernel⟩
abbrev st_f__law_r_looks : Stmt := top 59
abbrev N_f__law_r_looks : List Str := ["hours", "arcs", "days", "whole", "reached", "many", "looks", "later", "low", "place"]
abbrev P_f__law_r_looks : List Str := ["hours", "arcs", "days"]
theorem sc_f__law_r_looks : FnScope N_f__law_r_looks P_f__law_r_looks (defScope st_f__law_r_looks) := ⟨rfl, rfl, rfl, by decide +kernel, rfl, by decide +kernel, by decide +kernel⟩
abbrev st_f_check_days : Stmt := top 16
abbrev N_f_check_days : List Str := ["days"]
abbrev P_f_check_days : List Str := ["days"]
theorem sc_f_check_days : FnScope N_f_check_days P_f_check_days (defScope st_f_check_days) := ⟨rfl, rfl, rfl, by decide +kernel, rfl, by decide +kernel, by decide +kernel⟩
abbrev st_f_Ring___len__ : Stmt := inClass (top 32) 1
abbrev N_f_Ring___len__ : List Str := ["self"]
abbrev P_f_Ring___len__ : List Str := ["self"]
theorem sc_f_Ring___len__ : FnScope N_f_Ring___len__ P_f_Ring___len__ (defScope st_f_Ring___len__) := ⟨rfl, rfl, rfl, by decide +kernel, rfl, by decide +kernel, by decide +kernel⟩
abbrev st_f_Ring_hours : Stmt := inClass (top 32) 5
abbrev N_f_Ring_hours : List Str := ["self"]
abbrev P_f_Ring_hours : List Str := ["self"]
theorem sc_f_Ring_hours : FnScope N_f_Ring_hours P_f_Ring_hours (defScope st_f_Ring_hours) := ⟨rfl, rfl, rfl, by decide +kernel, rfl, by decide +kernel, by decide +kernel⟩
abbrev st_f_Ring_names : Stmt := inClass (top 32) 7
abbrev N_f_Ring_names : List Str := ["self"]
abbrev P_f_Ring_names : List Str := ["self"]
theorem sc_f_Ring_names : FnScope N_f_Ring_names P_f_Ring_names (defScope st_f_Ring_names) := ⟨rfl, rfl, rfl, by decide +kernel, rfl, by decide +kernel, by decide +kernel⟩
abbrev st_f_Ring___contains__ : Stmt := inClass (top 32) 3
abbrev N_f_Ring___contains__ : List Str := ["self", "name"]
abbrev P_f_Ring___contains__ : List Str := ["self", "name"]
theorem sc_f_Ring___contains__ : FnScope N_f_Ring___contains__ P_f_Ring___contains__ (defScope st_f_Ring___contains__) := ⟨rfl, rfl, rfl, by decide +kernel, rfl, by decide +kernel, by decide +kernel⟩
abbrev st_f_Ring_arc : Stmt := inClass (top 32) 8
abbrev N_f_Ring_arc : List Str := ["self", "name"]
abbrev P_f_Ring_arc : List Str := ["self", "name"]
theorem sc_f_Ring_arc : FnScope N_f_Ring_arc P_f_Ring_arc (defScope st_f_Ring_arc) := ⟨rfl, rfl, rfl, by decide +kernel, rfl, by decide +kernel, by decide +kernel⟩
abbrev st_f_step_from : Stmt := top 18
abbrev N_f_step_from : List Str := ["ring", "place", "best", "hours", "name", "start", "length", "day", "end"]
abbrev P_f_step_from : List Str := ["ring", "place"]
theorem sc_f_step_from : FnScope N_f_step_from P_f_step_from (defScope st_f_step_from) := ⟨rfl, rfl, rfl, by decide +kernel, rfl, by decide +kernel, by decide +kernel⟩
abbrev st_f_walk_from : Stmt := top 19
abbrev N_f_walk_from : List Str := ["ring", "place", "hours", "seen", "places"]
abbrev P_f_walk_from : List Str := ["ring", "place"]
theorem sc_f_walk_from : FnScope N_f_walk_from P_f_walk_from (defScope st_f_walk_from) := ⟨rfl, rfl, rfl, by decide +kernel, rfl, by decide +kernel, by decide +kernel⟩
abbrev st_f_round_from : Stmt := top 20
abbrev N_f_round_from : List Str := ["ring", "places", "index", "steps", "days"]
abbrev P_f_round_from : List Str := ["ring"]
theorem sc_f_round_from : FnScope N_f_round_from P_f_round_from (defScope st_f_round_from) := ⟨rfl, rfl, rfl, by decide +kernel, rfl, by decide +kernel, by decide +kernel⟩
abbrev st_f_common : Stmt := top 21
abbrev N_f_common : List Str := ["one", "other"]
abbrev P_f_common : List Str := ["one", "other"]
theorem sc_f_common : FnScope N_f_common P_f_common (defScope st_f_common) := ⟨rfl, rfl, rfl, by decide +kernel, rfl, by decide +kernel, by decide +kernel⟩
abbrev st_f_lowest : Stmt := top 22
abbrev N_f_lowest : List Str := ["steps", "days", "part"]
abbrev P_f_lowest : List Str := ["steps", "days"]
theorem sc_f_lowest : FnScope N_f_lowest P_f_lowest (defScope st_f_lowest) := ⟨rfl, rfl, rfl, by decide +kernel, rfl, by decide +kernel, by decide +kernel⟩
abbrev st_f_ring_number : Stmt := top 23
abbrev N_f_ring_number : List Str := ["ring", "_", "steps", "days"]
abbrev P_f_ring_number : List Str := ["ring"]
theorem sc_f_ring_number : FnScope N_f_ring_number P_f_ring_number (defScope st_f_ring_number) := ⟨rfl, rfl, rfl, by decide +kernel, rfl, by decide +kernel, by decide +kernel⟩
abbrev st_f_fewest_looks : Stmt := top 26
abbrev N_f_fewest_looks : List Str := ["ring", "days", "steps", "turns"]
abbrev P_f_fewest_looks : List Str := ["ring", "days"]
theorem sc_f_fewest_looks : FnScope N_f_fewest_looks P_f_fewest_looks (defScope st_f_fewest_looks) := ⟨rfl, rfl, rfl, by decide +kernel, rfl, by decide +kernel, by decide +kernel⟩
abbrev st_f__law_same : Stmt := top 38
abbrev N_f__law_same : List Str := ["found", "due", "is_alike", "one", "other"]
abbrev P_f__law_same : List Str := ["found", "due"]
theorem sc_f__law_same : FnScope N_f__law_same P_f__law_same (defScope st_f__law_same) := ⟨rfl, rfl, rfl, by decide +kernel, rfl, by decide +kernel, by decide +kernel⟩
abbrev st_f_most_apart : Stmt := top 25
abbrev N_f_most_apart : List Str := ["ring", "days", "steps", "turns"]
abbrev P_f_most_apart : List Str := ["ring", "days"]
theorem sc_f_most_apart : FnScope N_f_most_apart P_f_most_apart (defScope st_f_most_apart) := ⟨rfl, rfl, rfl, by decide +kernel, rfl, by decide +kernel, by decide +kernel⟩
abbrev st_f__law_r_lowest : Stmt := top 54
abbrev N_f__law_r_lowest : List Str := ["steps", "days", "one", "other", "turn"]
abbrev P_f__law_r_lowest : List Str := ["steps", "days"]
theorem sc_f__law_r_lowest : FnScope N_f__law_r_lowest P_f__law_r_lowest (defScope st_f__law_r_lowest) := ⟨rfl, rfl, rfl, by decide +kernel, rfl, by decide +kernel, by decide +kernel⟩
abbrev st_f__law_r_known : Stmt := top 60
abbrev N_f__law_r_known : List Str := ["spring", "step", "many", "length", "reach", "names", "arcs", "at", "name"]
abbrev P_f__law_r_known : List Str := ["spring"]
theorem sc_f__law_r_known : FnScope N_f__law_r_known P_f__law_r_known (defScope st_f__law_r_known) := ⟨rfl, rfl, rfl, by decide +kernel, rfl, by decide +kernel, by decide +kernel⟩
abbrev st_f_Ring_joined : Stmt := inClass (top 32) 15
abbrev N_f_Ring_joined : List Str := ["self", "arcs", "told", "name"]
abbrev P_f_Ring_joined : List Str := ["self", "arcs"]
theorem sc_f_Ring_joined : FnScope N_f_Ring_joined P_f_Ring_joined (defScope st_f_Ring_joined) := ⟨rfl, rfl, rfl, by decide +kernel, rfl, by decide +kernel, by decide +kernel⟩
abbrev st_f_law : Stmt := top 61
abbrev N_f_law : List Str := ["script", "turn", "spring", "hours", "arcs", "ring", "most", "fewest", "days", "big", "held", "number", "great", "one", "more", "two", "name", "start", "length", "wide", "here", "there"]
abbrev P_f_law : List Str := ["script"]
theorem sc_f_law : FnScope N_f_law P_f_law (defScope st_f_law) := ⟨rfl, rfl, rfl, by decide +kernel, rfl, by decide +kernel, by decide +kernel⟩
structure Facts (K : PySem.W.Frag) (mg : Str → Option Value) (c : Nat → Addr) : Prop where
  T : BI mg
  k_Ring : C0 K mg "Ring" (c 0)
  n_Ring_own_hours : NoAttr K (c 0) "own_hours"
  n_Ring_own_arcs : NoAttr K (c 0) "own_arcs"
  c_FORTY : ∃ t, mg "FORTY" = some (.int 40 t)
  c_LETTERS : ∃ t, mg "LETTERS" = some (.str "abcdefghijklmnopqrstuvwxyz" t)
  c_MILLION : ∃ t, mg "MILLION" = some (.int 1000000 t)
  c_MOST_HOURS : ∃ t, mg "MOST_HOURS" = some (.int 1000 t)
  c_SIGNS : ∃ t, mg "SIGNS" = some (.str "abcdefghijklmnopqrstuvwxyz0123456789" t)
  f__law_spring : F0 K mg "_law_spring" st_f__law_spring P_f__law_spring
  f__law_draw : F0 K mg "_law_draw" st_f__law_draw P_f__law_draw
  f__law_pick : F0 K mg "_law_pick" st_f__law_pick P_f__law_pick
  f__law_w_name : F0 K mg "_law_w_name" st_f__law_w_name P_f__law_w_name
  f__law_w_names : F0 K mg "_law_w_names" st_f__law_w_names P_f__law_w_names
  f_is_integer : F0 K mg "is_integer" st_f_is_integer P_f_is_integer
  f_is_between : F0 K mg "is_between" st_f_is_between P_f_is_between
  f_check_hours : F0 K mg "check_hours" st_f_check_hours P_f_check_hours
  f_is_name : F0 K mg "is_name" st_f_is_name P_f_is_name
  f_is_list : F0 K mg "is_list" st_f_is_list P_f_is_list
  f_are_arcs : F0 K mg "are_arcs" st_f_are_arcs P_f_are_arcs
  f_Ring___init__ : M0 K (c 0) "__init__" "Ring.__init__" st_f_Ring___init__ P_f_Ring___init__
  f__law_mixed : F0 K mg "_law_mixed" st_f__law_mixed P_f__law_mixed
  f__law_loose : F0 K mg "_law_loose" st_f__law_loose P_f__law_loose
  f__law_r_most : F0 K mg "_law_r_most" st_f__law_r_most P_f__law_r_most
  f__law_r_unseen : F0 K mg "_law_r_unseen" st_f__law_r_unseen P_f__law_r_unseen
  f__law_r_looks : F0 K mg "_law_r_looks" st_f__law_r_looks P_f__law_r_looks
  f_check_days : F0 K mg "check_days" st_f_check_days P_f_check_days
  f_Ring___len__ : M0 K (c 0) "__len__" "Ring.__len__" st_f_Ring___len__ P_f_Ring___len__
  f_Ring_hours : M0 K (c 0) "hours" "Ring.hours" st_f_Ring_hours P_f_Ring_hours
  f_Ring_names : M0 K (c 0) "names" "Ring.names" st_f_Ring_names P_f_Ring_names
  f_Ring___contains__ : M0 K (c 0) "__contains__" "Ring.__contains__" st_f_Ring___contains__ P_f_Ring___contains__
  f_Ring_arc : M0 K (c 0) "arc" "Ring.arc" st_f_Ring_arc P_f_Ring_arc
  f_step_from : F0 K mg "step_from" st_f_step_from P_f_step_from
  f_walk_from : F0 K mg "walk_from" st_f_walk_from P_f_walk_from
  f_round_from : F0 K mg "round_from" st_f_round_from P_f_round_from
  f_common : F0 K mg "common" st_f_common P_f_common
  f_lowest : F0 K mg "lowest" st_f_lowest P_f_lowest
  f_ring_number : F0 K mg "ring_number" st_f_ring_number P_f_ring_number
  f_fewest_looks : F0 K mg "fewest_looks" st_f_fewest_looks P_f_fewest_looks
  f__law_same : F0 K mg "_law_same" st_f__law_same P_f__law_same
  f_most_apart : F0 K mg "most_apart" st_f_most_apart P_f_most_apart
  f__law_r_lowest : F0 K mg "_law_r_lowest" st_f__law_r_lowest P_f__law_r_lowest
  f__law_r_known : F0 K mg "_law_r_known" st_f__law_r_known P_f__law_r_known
  f_Ring_joined : M0 K (c 0) "joined" "Ring.joined" st_f_Ring_joined P_f_Ring_joined
  f_law : F0 K mg "law" st_f_law P_f_law
section
variable {c : Nat → Addr} {P : Program} {w : World} {K : PySem.W.Frag} {mg : Str → Option Value} {base : Heap}
theorem f__law_spring_ok (Fa : Facts K mg c) : Fn c P w K mg base "_law_spring" st_f__law_spring 1 2 P_f__law_spring m_f__law_spring := by
  refine Fn.mk' Fa.f__law_spring sc_f__law_spring fun f cdv A outer s H E hr => ?_
  show GSs c _ _ _ b_f__law_spring
  exact (gss_cons (gs_par2 2 3 sc_f__law_spring.nd (by decide) (gos_cons (go_f (ge_if (gt_cmp op_lt snd_ord (ge_v 1) (ge_lenS 0 Fa.T (pv 0))) (ge_ixs 0 (hu1 hr) (pv 0) (ge_v 1)) (ge_op op_addA snd_add (ge_op op_mulA snd_mul ge_int (ge_v 1)) (ge_lenS 0 Fa.T (pv 0))))) (gos_cons (go_f (ge_op op_addA snd_add ge_int (ge_op op_mulA snd_mul ge_int (ge_v 1)))) gos_nil)) (by rfl)) (gss_cons (gs_for ppOf (gi_enum Fa.T (ga_cons (ge_slS 0 (pv 0) gp_no (gp_some ge_int)) ga_nil)) (gg_tup (ggs_cons (gg_name 4 sc_f__law_spring.nd) (ggs_cons (gg_name 5 sc_f__law_spring.nd) ggs_nil))) (gss_one (gs_set 3 sc_f__law_spring.nd (go_f (ge_op op_mod snd_mod (ge_toInt Fa.T (ge_op op_addA snd_add (ge_op op_addA snd_add (ge_op op_addA snd_add (ge_op op_mulA snd_mul (ge_v 3) ge_int) (ge_v 5)) (ge_op op_mulA snd_mul ge_int (ge_v 4))) ge_int) (by rfl)) ge_int))))) (gss_one (gs_ret (go_lst (ga_cons (ge_if (gt_cmp op_ge snd_ord (ge_v 2) (ge_op op_pow snd_pow ge_int ge_int)) (ge_v 2) ge_int) (ga_cons (ge_op op_mod snd_mod (ge_toInt Fa.T (ge_op op_addA snd_add (ge_v 3) (ge_op op_mulA snd_mul (ge_v 2) ge_int)) (by rfl)) ge_int) (ga_cons ge_int ga_nil))))))))
theorem f__law_draw_ok (Fa : Facts K mg c) : Fn c P w K mg base "_law_draw" st_f__law_draw 1 2 P_f__law_draw m_f__law_draw := by
  refine Fn.mk' Fa.f__law_draw sc_f__law_draw fun f cdv A outer s H E hr => ?_
  show GSs c _ _ _ b_f__law_draw
  exact (gss_cons (gs_if (gt_cmp op_gt snd_ord (ge_ixs 0 (hu1 hr) (pv 0) ge_int) ge_int) (gss_cons (gs_set 2 sc_f__law_draw.nd (go_f (ge_op op_mod snd_mod (ge_toInt Fa.T (ge_ixs 0 (hu1 hr) (pv 0) ge_int) (by rfl)) (ge_v 1)))) (gss_cons (gs_put 0 (hu1 hr) (pv 0) ge_int (ge_op op_fdivW snd_fdiv (ge_ixs 0 (hu1 hr) (pv 0) ge_int) (ge_v 1))) (gss_one (gs_ret (go_v 2 (pv 2)))))) gss_nil) (gss_cons (gs_put 0 (hu1 hr) (pv 0) ge_int (ge_op op_addA snd_add (ge_ixs 0 (hu1 hr) (pv 0) ge_int) ge_int)) (gss_cons (gs_set 3 sc_f__law_draw.nd (go_f (ge_op op_mod snd_mod (ge_op op_pow snd_pow (ge_toInt Fa.T (ge_op op_addA snd_add (ge_op op_addA snd_add (ge_ixs 0 (hu1 hr) (pv 0) ge_int) (ge_op op_mulA snd_mul ge_int (ge_ixs 0 (hu1 hr) (pv 0) ge_int))) ge_int) (by rfl)) ge_int) ge_int))) (gss_one (gs_ret (go_f (ge_op op_mod snd_mod (ge_op op_fdivW snd_fdiv (ge_op op_mod snd_mod (ge_op op_pow snd_pow (ge_toInt Fa.T (ge_op op_addA snd_add (ge_op op_mulA snd_mul (ge_v 3) ge_int) (ge_op op_mulA snd_mul ge_int (ge_ixs 0 (hu1 hr) (pv 0) ge_int))) (by rfl)) ge_int) ge_int) ge_int) (ge_v 1))))))))
theorem f__law_pick_ok (Fa : Facts K mg c) : Fn c P w K mg base "_law_pick" st_f__law_pick 2 2 P_f__law_pick m_f__law_pick := by
  refine Fn.mk' Fa.f__law_pick sc_f__law_pick fun f cdv A outer s H E hr => ?_
  show GSs c _ _ _ b_f__law_pick
  exact (gss_one (gs_ret (go_f (ge_ixs 1 (hu1 hr) (pv 1) (ge_o (go_f_call (f__law_draw_ok Fa) (hr.mono (by omega)) tkOf (aa_s 0 (pv 0) (aa_v (ge_lenS 1 Fa.T (pv 1)) aa_nil))))))))
theorem f__law_w_name_ok (Fa : Facts K mg c) : Fn c P w K mg base "_law_w_name" st_f__law_w_name 3 1 P_f__law_w_name m_f__law_w_name := by
  refine Fn.mk' Fa.f__law_w_name sc_f__law_w_name fun f cdv A outer s H E hr => ?_
  show GSs c _ _ _ b_f__law_w_name
  exact (gss_cons (gs_set 1 sc_f__law_w_name.nd (go_f ge_str)) (gss_cons (gs_set 2 sc_f__law_w_name.nd (go_f (ge_ixs 1 (hu1 hr) (pv 1) (ge_o (go_f_call (f__law_draw_ok Fa) (hr.mono (by omega)) tkOf (aa_s 0 (pv 0) (aa_v ge_int aa_nil))))))) (gss_cons (gs_for ppOf (gi_range1 Fa.T (ga_cons (ge_o (go_f_call (f__law_pick_ok Fa) (hr.mono (by omega)) tkOf (aa_s 0 (pv 0) (aa_v (ge_lst (ga_cons ge_int (ga_cons ge_int (ga_cons ge_int (ga_cons ge_int (ga_cons ge_int (ga_cons ge_int ga_nil))))))) aa_nil)))) ga_nil)) (gg_name 3 sc_f__law_w_name.nd) (gss_one (gs_set 2 sc_f__law_w_name.nd (go_f (ge_op op_addA snd_add (ge_v 2) (ge_ixs 1 (hu1 hr) (pv 1) (ge_o (go_f_call (f__law_draw_ok Fa) (hr.mono (by omega)) tkOf (aa_s 0 (pv 0) (aa_v ge_int aa_nil)))))))))) (gss_one (gs_ret (go_v 2 (pv 2)))))))
theorem f__law_w_names_ok (Fa : Facts K mg c) : Fn c P w K mg base "_law_w_names" st_f__law_w_names 4 2 P_f__law_w_names m_f__law_w_names := by
  refine Fn.mk' Fa.f__law_w_names sc_f__law_w_names fun f cdv A outer s H E hr => ?_
  show GSs c _ _ _ b_f__law_w_names
  exact (gss_cons (gs_set 2 sc_f__law_w_names.nd (go_lst ga_nil)) (gss_cons (gs_for ppOf (gi_range1 Fa.T (ga_cons (ge_v 1) ga_nil)) (gg_name 3 sc_f__law_w_names.nd) (gss_cons (gs_set 4 sc_f__law_w_names.nd (go_f_call (f__law_w_name_ok Fa) (hr.mono (by omega)) tkOf (aa_s 0 (pv 0) aa_nil))) (gss_cons (gs_if (gt_w (gw_and (gt_s 2 (pv 2)) (gw_and1 (gt_cmp (op_eqA (hu64 hr)) snd_eq (ge_o (go_f_call (f__law_draw_ok Fa) (hr.mono (by omega)) tkOf (aa_s 0 (pv 0) (aa_v ge_int aa_nil)))) ge_int)))) (gss_one (gs_set 4 sc_f__law_w_names.nd (go_f (ge_op op_addA snd_add (ge_sl (ge_o (go_f_call (f__law_pick_ok Fa) (hr.mono (by omega)) tkOf (aa_s 0 (pv 0) (aa_s 2 (pv 2) aa_nil)))) gp_no (gp_some ge_int)) (ge_o (go_f_call (f__law_pick_ok Fa) (hr.mono (by omega)) tkOf (aa_s 0 (pv 0) (aa_v (ge_lst (ga_cons ge_str (ga_cons ge_str (ga_cons ge_str (ga_cons ge_str (ga_cons ge_str ga_nil)))))) aa_nil)))))))) gss_nil) (gss_cons (gs_set 5 sc_f__law_w_names.nd (go_f ge_int)) (gss_cons (gs_while ppOf (gt_inS 2 (hu65 hr) (ge_v 4) (pv 2)) (gss_cons (gs_set 4 sc_f__law_w_names.nd (go_f (ge_op op_addA snd_add (ge_ix (hu1 hr) ge_str (ge_op op_mod snd_mod (ge_v 5) ge_int)) (ge_strInt Fa.T (ge_op op_addA snd_add (ge_op op_fdivW snd_fdiv (ge_v 5) ge_int) (ge_v 3)) (by rfl))))) (gss_one (gs_set 5 sc_f__law_w_names.nd (go_f (ge_op op_addA snd_add (ge_v 5) ge_int)))))) (gss_one (gs_expr (ge_mut 2 PySem.F.slot_list_append PySem.F.type_list_append mt_append mu_app (pv 2) (ga_cons (ge_v 4) ga_nil))))))))) (gss_one (gs_ret (go_v 2 (pv 2))))))
theorem f_is_integer_ok (Fa : Facts K mg c) : Fn c P w K mg base "is_integer" st_f_is_integer 1 1 P_f_is_integer m_f_is_integer := by
  refine Fn.mk' Fa.f_is_integer sc_f_is_integer fun f cdv A outer s H E hr => ?_
  show GSs c _ _ _ b_f_is_integer
  exact (gss_one (gs_ret (go_f (ge_and (ge_isiS 0 .int Fa.T (pv 0) (pe_ty "int" (by rfl) Fa.T.int boot_intT)) (ge_one (ge_not (ge_isiS 0 .bool Fa.T (pv 0) (pe_ty "bool" (by rfl) Fa.T.bool boot_boolT))))))))
theorem f_is_between_ok (Fa : Facts K mg c) : Fn c P w K mg base "is_between" st_f_is_between 2 3 P_f_is_between m_f_is_between := by
  refine Fn.mk' Fa.f_is_between sc_f_is_between fun f cdv A outer s H E hr => ?_
  show GSs c _ _ _ b_f_is_between
  exact (gss_one (gs_ret (go_f (ge_and (ge_o (go_f_call (f_is_integer_ok Fa) (hr.mono (by omega)) tkOf (aa_s 0 (pv 0) aa_nil))) (ge_one (ge_chain op_le op_le snd_ord snd_ord (ge_v 1) (ge_v 0) (ge_v 2)))))))
theorem f_check_hours_ok (Fa : Facts K mg c) : Fn c P w K mg base "check_hours" st_f_check_hours 3 1 P_f_check_hours m_f_check_hours := by
  refine Fn.mk' Fa.f_check_hours sc_f_check_hours fun f cdv A outer s H E hr => ?_
  show GSs c _ _ _ b_f_check_hours
  exact (gss_one (gs_if (gt_nt (gt_v (ge_o (go_f_call (f_is_between_ok Fa) (hr.mono (by omega)) tkOf (aa_v (ge_v 0) (aa_v ge_int (aa_v (ge_cI Fa.c_MOST_HOURS) aa_nil))))))) (gss_one gs_never) gss_nil))
theorem f_is_name_ok (Fa : Facts K mg c) : Fn c P w K mg base "is_name" st_f_is_name 1 1 P_f_is_name m_f_is_name := by
  refine Fn.mk' Fa.f_is_name sc_f_is_name fun f cdv A outer s H E hr => ?_
  show GSs c _ _ _ b_f_is_name
  exact (gss_cons (gs_if (gt_w (gw_or (gt_nt (gt_v (ge_isiS 0 .str Fa.T (pv 0) (pe_ty "str" (by rfl) Fa.T.str boot_strT)))) (gw_or1 (gt_nt (gt_chain op_le op_le snd_ord snd_ord ge_int (ge_lenS 0 Fa.T (pv 0)) ge_int))))) (gss_one (gs_ret (go_f ge_bl))) gss_nil) (gss_cons (gs_if (gt_notIn (hu65 hr) (ge_ixs 0 (hu1 hr) (pv 0) ge_int) (ge_cS Fa.c_LETTERS)) (gss_one (gs_ret (go_f ge_bl))) gss_nil) (gss_one (gs_ret (go_f (ge_all Fa.T (ge_o (go_lc (own := [("sign", 1)]) (is := [1]) sc_f_is_name.nd (blkOk_by (own := [("sign", 1)]) (N := N_f_is_name) (sc := defScope st_f_is_name) (by decide +kernel)) (by decide) (gi_e (ge_v 0)) (fun _ _ _ _ _ => (gg_name 1 sc_f_is_name.nd)) (fun _ _ _ _ _ => gts_nil) (fun _ _ _ _ _ => (ge_in (hu65 hr) (ge_v 1) (ge_cS Fa.c_SIGNS))))) (by rfl)))))))
theorem f_is_list_ok (Fa : Facts K mg c) : Fn c P w K mg base "is_list" st_f_is_list 1 1 P_f_is_list m_f_is_list := by
  refine Fn.mk' Fa.f_is_list sc_f_is_list fun f cdv A outer s H E hr => ?_
  show GSs c _ _ _ b_f_is_list
  exact (gss_one (gs_ret (go_f (ge_isiTS 0 [.list, .tuple] Fa.T (pv 0) (pa_tys_cons (t := .list) (pe_ty "list" (by rfl) Fa.T.list boot_listT) (pa_tys_cons (t := .tuple) (pe_ty "tuple" (by rfl) Fa.T.tuple boot_tupleT) pa_tys_nil))))))
theorem f_are_arcs_ok (Fa : Facts K mg c) : Fn c P w K mg base "are_arcs" st_f_are_arcs 3 2 P_f_are_arcs m_f_are_arcs := by
  refine Fn.mk' Fa.f_are_arcs sc_f_are_arcs fun f cdv A outer s H E hr => ?_
  show GSs c _ _ _ b_f_are_arcs
  exact (gss_cons (gs_if (gt_w (gw_or (gt_nt (gt_v (ge_isiS 1 .dict Fa.T (pv 1) (pe_ty "dict" (by rfl) Fa.T.dict boot_dictT)))) (gw_or1 (gt_cmp op_gt snd_ord (ge_lenS 1 Fa.T (pv 1)) (ge_cI Fa.c_FORTY))))) (gss_one (gs_ret (go_f ge_bl))) gss_nil) (gss_cons (gs_for ppOf (gi_e (ge_v 1)) (gg_name 2 sc_f_are_arcs.nd) (gss_cons (gs_if (gt_w (gw_or (gt_nt (gt_v (ge_o (go_f_call (f_is_name_ok Fa) (hr.mono (by omega)) tkOf (aa_v (ge_v 2) aa_nil))))) (gw_or (gt_nt (gt_v (ge_o (go_f_call (f_is_list_ok Fa) (hr.mono (by omega)) tkOf (aa_v (ge_ixs 1 (hu1 hr) (pv 1) (ge_v 2)) aa_nil))))) (gw_or1 (gt_cmp (op_neA (hu64 hr)) snd_ne (ge_len Fa.T (ge_ixs 1 (hu1 hr) (pv 1) (ge_v 2))) ge_int))))) (gss_one (gs_ret (go_f ge_bl))) gss_nil) (gss_cons (gs_asg (ge_ixs 1 (hu1 hr) (pv 1) (ge_v 2)) (gg_tup (ggs_cons (gg_name 3 sc_f_are_arcs.nd) (ggs_cons (gg_name 4 sc_f_are_arcs.nd) ggs_nil)))) (gss_one (gs_if (gt_w (gw_or (gt_nt (gt_v (ge_o (go_f_call (f_is_between_ok Fa) (hr.mono (by omega)) tkOf (aa_v (ge_v 3) (aa_v ge_int (aa_v (ge_op op_sub snd_sub (ge_v 0) ge_int) aa_nil))))))) (gw_or1 (gt_nt (gt_v (ge_o (go_f_call (f_is_between_ok Fa) (hr.mono (by omega)) tkOf (aa_v (ge_v 4) (aa_v ge_int (aa_v (ge_v 0) aa_nil)))))))))) (gss_one (gs_ret (go_f ge_bl))) gss_nil))))) (gss_one (gs_ret (go_f ge_bl)))))
theorem f_Ring___init___ok (Fa : Facts K mg c) : Mt c P w K mg base 0 "__init__" 4 3 P_f_Ring___init__ m_f_Ring___init__ := by
  refine Mt.mk' Fa.f_Ring___init__ sc_f_Ring___init__ fun f cdv A outer s H E hr => ?_
  show GSs c _ _ _ b_f_Ring___init__
  exact (gss_cons (gs_expr (ge_o (go_f_call (f_check_hours_ok Fa) (hr.mono (by omega)) tkOf (aa_v (ge_v 1) aa_nil)))) (gss_cons (gs_if (gt_nt (gt_v (ge_o (go_f_call (f_are_arcs_ok Fa) (hr.mono (by omega)) tkOf (aa_v (ge_v 1) (aa_v (ge_v 2) aa_nil)))))) (gss_one gs_never) gss_nil) (gss_cons (gs_fld 0 Fa.k_Ring.cl Fa.n_Ring_own_hours (pv 0) (ge_v 1)) (gss_one (gs_fld 0 Fa.k_Ring.cl Fa.n_Ring_own_arcs (pv 0) (ge_o (go_dc (own := [("name", 3)]) (is := [3]) sc_f_Ring___init__.nd (blkOk_by (own := [("name", 3)]) (N := N_f_Ring___init__) (sc := defScope st_f_Ring___init__) (by decide +kernel)) (by decide) (gi_e (ge_o (go_sortedS 2 Fa.T (pv 2) (by rfl)))) (fun _ _ _ _ _ => (gg_name 3 sc_f_Ring___init__.nd)) (fun _ _ _ _ _ => gts_nil) (fun _ _ _ _ _ => (ge_v 3)) (fun _ _ _ _ _ => (ge_tup (ga_cons (ge_ix (hu1 hr) (ge_ixs 2 (hu1 hr) (pv 2) (ge_v 3)) ge_int) (ga_cons (ge_ix (hu1 hr) (ge_ixs 2 (hu1 hr) (pv 2) (ge_v 3)) ge_int) ga_nil)))))))))))
theorem f__law_mixed_ok (Fa : Facts K mg c) : Fn c P w K mg base "_law_mixed" st_f__law_mixed 2 2 P_f__law_mixed m_f__law_mixed := by
  refine Fn.mk' Fa.f__law_mixed sc_f__law_mixed fun f cdv A outer s H E hr => ?_
  show GSs c _ _ _ b_f__law_mixed
  exact (gss_cons (gs_set 2 sc_f__law_mixed.nd (go_listS 1 Fa.T (pv 1) (by rfl))) (gss_one (gs_ret (go_lc (own := [("k", 3)]) (is := [3]) sc_f__law_mixed.nd (blkOk_by (own := [("k", 3)]) (N := N_f__law_mixed) (sc := defScope st_f__law_mixed) (by decide +kernel)) (by decide) (gi_range1 Fa.T (ga_cons (ge_lenS 2 Fa.T (pv 2)) ga_nil)) (fun _ _ _ _ _ => (gg_name 3 sc_f__law_mixed.nd)) (fun _ _ _ _ _ => gts_nil) (fun _ _ _ _ _ => (ge_mut 2 PySem.F.slot_list_pop PySem.F.type_list_pop mt_popAt mu_popAt (pv 2) (ga_cons (ge_o (go_f_call (f__law_draw_ok Fa) (hr.mono (by omega)) takes0 (aa_s 0 (pv 0) (aa_v (ge_lenS 2 Fa.T (pv 2)) aa_nil)))) ga_nil)))))))
theorem f__law_loose_ok (Fa : Facts K mg c) : ∀ n : Nat, Fn c P w K mg base "_law_loose" st_f__law_loose (2 + n) 2 P_f__law_loose (m_f__law_loose n)
  | 0 => (Fn.no Fa.f__law_loose).up (by omega)
  | n + 1 => by
    have hrec := f__law_loose_ok Fa n
    refine Fn.mk' Fa.f__law_loose sc_f__law_loose fun f cdv A outer s H E hr => ?_
    have hr : Room (2 + n) _ := hr
    show GSs c _ _ _ (b_f__law_loose (m_f__law_loose n))
    exact (gss_cons (gs_if (gt_v (ge_isiS 1 .dict Fa.T (pv 1) (pe_ty "dict" (by rfl) Fa.T.dict boot_dictT))) (gss_one (gs_ret (go_dict Fa.T (ge_o (go_lc (own := [("key", 3)]) (is := [3]) sc_f__law_loose.nd (blkOk_by (own := [("key", 3)]) (N := N_f__law_loose) (sc := defScope st_f__law_loose) (by decide +kernel)) (by decide) (gi_e (ge_o (go_f_call (f__law_mixed_ok Fa) (hr.mono (by omega)) tkOf (aa_s 0 (pv 0) (aa_v (ge_o (go_listS 1 Fa.T (pv 1) (by rfl))) aa_nil))))) (fun _ _ _ _ _ => (gg_name 3 sc_f__law_loose.nd)) (fun _ _ _ _ _ => gts_nil) (fun _ _ _ _ _ => (ge_tup (ga_cons (ge_v 3) (ga_cons (ge_o (go_f_call hrec (hr.mono (by omega)) takes0 (aa_s 0 (pv 0) (aa_v (ge_ixs 1 (hu1 hr) (pv 1) (ge_v 3)) aa_nil)))) ga_nil)))))) (by rfl)))) gss_nil) (gss_cons (gs_if (gt_nt (gt_v (ge_isiTS 1 [.list, .tuple] Fa.T (pv 1) (pa_tys_cons (t := .list) (pe_ty "list" (by rfl) Fa.T.list boot_listT) (pa_tys_cons (t := .tuple) (pe_ty "tuple" (by rfl) Fa.T.tuple boot_tupleT) pa_tys_nil))))) (gss_one (gs_ret (go_v 1 (pv 1)))) gss_nil) (gss_cons (gs_setLc 2 (own := [("part", 4)]) (is := [4]) sc_f__law_loose.nd (blkOk_by (own := [("part", 4)]) (N := N_f__law_loose) (sc := defScope st_f__law_loose) (by decide +kernel)) (by decide) (gi_e (ge_v 1)) (fun _ _ _ _ _ => (gg_name 4 sc_f__law_loose.nd)) (fun _ _ _ _ _ => gts_nil) (fun _ _ _ _ _ => (ge_o (go_f_call hrec (hr.mono (by omega)) takes0 (aa_s 0 (pv 0) (aa_v (ge_v 4) aa_nil)))))) (gss_one (gs_ret (go_f (ge_if (gt_cmp op_gt snd_ord (ge_o (go_f_call (f__law_draw_ok Fa) (hr.mono (by omega)) tkOf (aa_s 0 (pv 0) (aa_v ge_int aa_nil)))) ge_int) (ge_v 2) (ge_tupleS 2 Fa.T (pv 2) (by rfl)))))))))
theorem f__law_r_most_ok (Fa : Facts K mg c) : Fn c P w K mg base "_law_r_most" st_f__law_r_most 1 3 P_f__law_r_most m_f__law_r_most := by
  refine Fn.mk' Fa.f__law_r_most sc_f__law_r_most fun f cdv A outer s H E hr => ?_
  show GSs c _ _ _ b_f__law_r_most
  exact (gss_cons (gs_parN [3, 4] (gos_cons (go_lst ga_nil) (gos_cons (go_f (ge_op op_mulA snd_mul (ge_v 2) (ge_v 0))) gos_nil)) (pgn_cons 3 sc_f__law_r_most.nd (pgn_cons 4 sc_f__law_r_most.nd pgn_nil))) (gss_cons (gs_for ppOf (gi_e (ge_o (go_sortedS 1 Fa.T (pv 1) (by rfl)))) (gg_name 5 sc_f__law_r_most.nd) (gss_one (gs_for ppOf (gi_range1 Fa.T (ga_cons (ge_v 2) ga_nil)) (gg_name 6 sc_f__law_r_most.nd) (gss_cons (gs_set 7 sc_f__law_r_most.nd (go_f (ge_op op_addA snd_add (ge_op op_mulA snd_mul (ge_v 6) (ge_v 0)) (ge_ix (hu1 hr) (ge_ixs 1 (hu1 hr) (pv 1) (ge_v 5)) ge_int)))) (gss_one (gs_expr (ge_mut 3 PySem.F.slot_list_append PySem.F.type_list_append mt_append mu_app (pv 3) (ga_cons (ge_o (go_sorted Fa.T (ge_o (go_lc (own := [("k", 10)]) (is := [10]) sc_f__law_r_most.nd (blkOk_by (own := [("k", 10)]) (N := N_f__law_r_most) (sc := defScope st_f__law_r_most) (by decide +kernel)) (by decide) (gi_range1 Fa.T (ga_cons (ge_ix (hu1 hr) (ge_ixs 1 (hu1 hr) (pv 1) (ge_v 5)) ge_int) ga_nil)) (fun _ _ _ _ _ => (gg_name 10 sc_f__law_r_most.nd)) (fun _ _ _ _ _ => gts_nil) (fun _ _ _ _ _ => (ge_op op_mod snd_mod (ge_op op_addA snd_add (ge_v 7) (ge_v 10)) (ge_v 4))))) (by rfl))) ga_nil)))))))) (gss_cons (gs_set 8 sc_f__law_r_most.nd (go_lst (ga_cons (ge_tup (ga_cons (ge_lst ga_nil) (ga_cons ge_int ga_nil))) ga_nil))) (gss_cons (gs_for ppOf (gi_e (ge_v 3)) (gg_name 9 sc_f__law_r_most.nd) (gss_one (gs_set 8 sc_f__law_r_most.nd (go_f (ge_op op_addA snd_add (ge_v 8) (ge_o (go_lc (own := [("held", 11), ("count", 12)]) (is := [11, 12]) sc_f__law_r_most.nd (blkOk_by (own := [("held", 11), ("count", 12)]) (N := N_f__law_r_most) (sc := defScope st_f__law_r_most) (by decide +kernel)) (by decide) (gi_e (ge_v 8)) (fun _ _ _ _ _ => (gg_tup (ggs_cons (gg_name 11 sc_f__law_r_most.nd) (ggs_cons (gg_name 12 sc_f__law_r_most.nd) ggs_nil)))) (fun _ _ _ _ _ => (gts_one (gt_nt (gt_v (ge_any Fa.T (ge_o (go_lc (own := [("place", 13)]) (is := [13]) sc_f__law_r_most.nd (blkOk_by (own := [("place", 13)]) (N := N_f__law_r_most) (sc := relS _ (defScope st_f__law_r_most)) (by decide +kernel)) (by decide) (gi_e (ge_v 9)) (fun _ _ _ _ _ => (gg_name 13 sc_f__law_r_most.nd)) (fun _ _ _ _ _ => gts_nil) (fun _ _ _ _ _ => (ge_inS 11 (hu65 hr) (ge_v 13) (pv 11))))) (by rfl)))))) (fun _ _ _ _ _ => (ge_tup (ga_cons (ge_op op_addA snd_add (ge_v 11) (ge_v 9)) (ga_cons (ge_op op_addA snd_add (ge_v 12) ge_int) ga_nil))))))))))) (gss_one (gs_ret (go_f (ge_maxL Fa.T (hr.mono (Nat.zero_le _)) (ge_o (go_lc (own := [("held", 11), ("count", 12)]) (is := [11, 12]) sc_f__law_r_most.nd (blkOk_by (own := [("held", 11), ("count", 12)]) (N := N_f__law_r_most) (sc := defScope st_f__law_r_most) (by decide +kernel)) (by decide) (gi_e (ge_v 8)) (fun _ _ _ _ _ => (gg_tup (ggs_cons (gg_name 11 sc_f__law_r_most.nd) (ggs_cons (gg_name 12 sc_f__law_r_most.nd) ggs_nil)))) (fun _ _ _ _ _ => gts_nil) (fun _ _ _ _ _ => (ge_v 12))))))))))))
theorem f__law_r_unseen_ok (Fa : Facts K mg c) : Fn c P w K mg base "_law_r_unseen" st_f__law_r_unseen 1 4 P_f__law_r_unseen m_f__law_r_unseen := by
  refine Fn.mk' Fa.f__law_r_unseen sc_f__law_r_unseen fun f cdv A outer s H E hr => ?_
  show GSs c _ _ _ b_f__law_r_unseen
  exact (gss_cons (gs_par2 4 5 sc_f__law_r_unseen.nd (by decide) (gos_cons (go_lst ga_nil) (gos_cons (go_f (ge_op op_mulA snd_mul (ge_v 2) (ge_v 0))) gos_nil)) (by rfl)) (gss_cons (gs_if (gt_nt (gt_s 3 (pv 3))) (gss_one (gs_ret (go_f (ge_if (gt_s 1 (pv 1)) (ge_tup (ga_cons (ge_ix (hu1 hr) (ge_o (go_sortedS 1 Fa.T (pv 1) (by rfl))) ge_int) (ga_cons ge_int ga_nil))) ge_non)))) gss_nil) (gss_cons (gs_for ppOf (gi_zip Fa.T (ga_cons (ge_v 3) (ga_cons (ge_op op_addA snd_add (ge_o (go_list Fa.T (ge_slS 3 (pv 3) (gp_some ge_int) gp_no) (by rfl))) (ge_lst (ga_cons (ge_op op_addA snd_add (ge_ixs 3 (hu1 hr) (pv 3) ge_int) (ge_v 5)) ga_nil))) ga_nil))) (gg_tup (ggs_cons (gg_name 6 sc_f__law_r_unseen.nd) (ggs_cons (gg_name 7 sc_f__law_r_unseen.nd) ggs_nil))) (gss_one (gs_for ppOf (gi_e (ge_o (go_sortedS 1 Fa.T (pv 1) (by rfl)))) (gg_name 8 sc_f__law_r_unseen.nd) (gss_cons (gs_asg (ge_ixs 1 (hu1 hr) (pv 1) (ge_v 8)) (gg_tup (ggs_cons (gg_name 9 sc_f__law_r_unseen.nd) (ggs_cons (gg_name 10 sc_f__law_r_unseen.nd) ggs_nil)))) (gss_cons (gs_par2 11 12 sc_f__law_r_unseen.nd (by decide) (gos_cons (go_f (ge_op op_addA snd_add (ge_op op_fdivW snd_fdiv (ge_op op_sub snd_sub (ge_v 6) (ge_v 9)) (ge_v 0)) ge_int)) (gos_cons (go_f (ge_op op_fdivW snd_fdiv (ge_op op_sub snd_sub (ge_op op_sub snd_sub (ge_v 7) (ge_v 10)) (ge_v 9)) (ge_v 0))) gos_nil)) (by rfl)) (gss_one (gs_if (gt_cmp op_le snd_ord (ge_v 11) (ge_v 12)) (gss_one (gs_expr (ge_mut 4 PySem.F.slot_list_append PySem.F.type_list_append mt_append mu_app (pv 4) (ga_cons (ge_tup (ga_cons (ge_if (gt_chain op_lt op_le snd_ord snd_ord (ge_v 11) (ge_v 2) (ge_v 12)) ge_int (ge_op op_mod snd_mod (ge_v 11) (ge_v 2))) (ga_cons (ge_v 8) ga_nil))) ga_nil)))) gss_nil))))))) (gss_one (gs_ret (go_f (ge_if (gt_s 4 (pv 4)) (ge_tup (ga_cons (ge_ix (hu1 hr) (ge_minL Fa.T (hr.mono (Nat.zero_le _)) (ge_v 4)) ge_int) (ga_cons (ge_ix (hu1 hr) (ge_minL Fa.T (hr.mono (Nat.zero_le _)) (ge_v 4)) ge_int) ga_nil))) ge_non)))))))
theorem f__law_r_looks_ok (Fa : Facts K mg c) : Fn c P w K mg base "_law_r_looks" st_f__law_r_looks 2 3 P_f__law_r_looks m_f__law_r_looks := by
  refine Fn.mk' Fa.f__law_r_looks sc_f__law_r_looks fun f cdv A outer s H E hr => ?_
  show GSs c _ _ _ b_f__law_r_looks
  exact (gss_cons (gs_set 3 sc_f__law_r_looks.nd (go_f (ge_op op_mulA snd_mul (ge_v 2) (ge_v 0)))) (gss_cons (gs_set 4 sc_f__law_r_looks.nd (go_lst (ga_cons (ge_lst ga_nil) ga_nil))) (gss_cons (gs_for ppOf (gi_range1 Fa.T (ga_cons (ge_op op_addA snd_add (ge_v 3) ge_int) ga_nil)) (gg_name 5 sc_f__law_r_looks.nd) (gss_cons (gs_for ppOf (gi_e (ge_v 4)) (gg_name 6 sc_f__law_r_looks.nd) (gss_one (gs_if (gt_cmp op_isN snd_isN (ge_o (go_f_call (f__law_r_unseen_ok Fa) (hr.mono (by omega)) tkOf (aa_v (ge_v 0) (aa_v (ge_v 1) (aa_v (ge_v 2) (aa_v (ge_v 6) aa_nil)))))) ge_non) (gss_one (gs_ret (go_v 5 (pv 5)))) gss_nil))) (gss_cons (gs_set 7 sc_f__law_r_looks.nd (go_lst ga_nil)) (gss_cons (gs_for ppOf (gi_e (ge_v 4)) (gg_name 6 sc_f__law_r_looks.nd) (gss_cons (gs_set 8 sc_f__law_r_looks.nd (go_f (ge_if (gt_s 6 (pv 6)) (ge_op op_addA snd_add (ge_ixs 6 (hu1 hr) (pv 6) (ge_un un_neg snd_neg ge_int)) ge_int) ge_int))) (gss_one (gs_set 7 sc_f__law_r_looks.nd (go_f (ge_op op_addA snd_add (ge_v 7) (ge_o (go_lc (own := [("place", 9)]) (is := [9]) sc_f__law_r_looks.nd (blkOk_by (own := [("place", 9)]) (N := N_f__law_r_looks) (sc := defScope st_f__law_r_looks) (by decide +kernel)) (by decide) (gi_range2 Fa.T (ga_cons (ge_v 8) (ga_cons (ge_v 3) ga_nil))) (fun _ _ _ _ _ => (gg_name 9 sc_f__law_r_looks.nd)) (fun _ _ _ _ _ => gts_nil) (fun _ _ _ _ _ => (ge_op op_addA snd_add (ge_v 6) (ge_lst (ga_cons (ge_v 9) ga_nil)))))))))))) (gss_one (gs_set 4 sc_f__law_r_looks.nd (go_v 7 (pv 7)))))))) (gss_one (gs_ret (go_f ge_non))))))
theorem f_check_days_ok (Fa : Facts K mg c) : Fn c P w K mg base "check_days" st_f_check_days 3 1 P_f_check_days m_f_check_days := by
  refine Fn.mk' Fa.f_check_days sc_f_check_days fun f cdv A outer s H E hr => ?_
  show GSs c _ _ _ b_f_check_days
  exact (gss_one (gs_if (gt_nt (gt_v (ge_o (go_f_call (f_is_between_ok Fa) (hr.mono (by omega)) tkOf (aa_v (ge_v 0) (aa_v ge_int (aa_v (ge_cI Fa.c_MILLION) aa_nil))))))) (gss_one gs_never) gss_nil))
theorem f_Ring___len___ok (Fa : Facts K mg c) : Mt c P w K mg base 0 "__len__" 1 1 P_f_Ring___len__ m_f_Ring___len__ := by
  refine Mt.mk' Fa.f_Ring___len__ sc_f_Ring___len__ fun f cdv A outer s H E hr => ?_
  show GSs c _ _ _ b_f_Ring___len__
  exact (gss_one (gs_ret (go_f (ge_len Fa.T (ge_fldS 0 Fa.k_Ring.cl Fa.n_Ring_own_arcs (pv 0))))))
theorem f_Ring_hours_ok (Fa : Facts K mg c) : Mt c P w K mg base 0 "hours" 1 1 P_f_Ring_hours m_f_Ring_hours := by
  refine Mt.mk' Fa.f_Ring_hours sc_f_Ring_hours fun f cdv A outer s H E hr => ?_
  show GSs c _ _ _ b_f_Ring_hours
  exact (gss_one (gs_ret (go_f (ge_fldS 0 Fa.k_Ring.cl Fa.n_Ring_own_hours (pv 0)))))
theorem f_Ring_names_ok (Fa : Facts K mg c) : Mt c P w K mg base 0 "names" 1 1 P_f_Ring_names m_f_Ring_names := by
  refine Mt.mk' Fa.f_Ring_names sc_f_Ring_names fun f cdv A outer s H E hr => ?_
  show GSs c _ _ _ b_f_Ring_names
  exact (gss_one (gs_ret (go_sorted Fa.T (ge_fldS 0 Fa.k_Ring.cl Fa.n_Ring_own_arcs (pv 0)) (by rfl))))
theorem f_Ring___contains___ok (Fa : Facts K mg c) : Mt c P w K mg base 0 "__contains__" 1 2 P_f_Ring___contains__ m_f_Ring___contains__ := by
  refine Mt.mk' Fa.f_Ring___contains__ sc_f_Ring___contains__ fun f cdv A outer s H E hr => ?_
  show GSs c _ _ _ b_f_Ring___contains__
  exact (gss_one (gs_ret (go_f (ge_and (ge_isiS 1 .str Fa.T (pv 1) (pe_ty "str" (by rfl) Fa.T.str boot_strT)) (ge_one (ge_in (hu65 hr) (ge_v 1) (ge_fldS 0 Fa.k_Ring.cl Fa.n_Ring_own_arcs (pv 0))))))))
theorem f_Ring_arc_ok (Fa : Facts K mg c) : Mt c P w K mg base 0 "arc" 2 2 P_f_Ring_arc m_f_Ring_arc := by
  refine Mt.mk' Fa.f_Ring_arc sc_f_Ring_arc fun f cdv A outer s H E hr => ?_
  show GSs c _ _ _ b_f_Ring_arc
  exact (gss_cons (gs_if (gt_m_notIn (f_Ring___contains___ok Fa) (hr.mono (by omega)) (ge_v 1) (ge_v 0)) (gss_one gs_never) gss_nil) (gss_one (gs_ret (go_f (ge_ix (hu1 hr) (ge_fldS 0 Fa.k_Ring.cl Fa.n_Ring_own_arcs (pv 0)) (ge_v 1))))))
theorem f_step_from_ok (Fa : Facts K mg c) : Fn c P w K mg base "step_from" st_f_step_from 3 2 P_f_step_from m_f_step_from := by
  refine Fn.mk' Fa.f_step_from sc_f_step_from fun f cdv A outer s H E hr => ?_
  show GSs c _ _ _ b_f_step_from
  exact (gss_cons (gs_set 2 sc_f_step_from.nd (go_f ge_non)) (gss_cons (gs_set 3 sc_f_step_from.nd (go_m_callS0 0 (f_Ring_hours_ok Fa) Fa.k_Ring.cl (hr.mono (by omega)) tkOf (pv 0))) (gss_cons (gs_for ppOf (gi_e (ge_o (go_m_callS0 0 (f_Ring_names_ok Fa) Fa.k_Ring.cl (hr.mono (by omega)) tkOf (pv 0)))) (gg_name 4 sc_f_step_from.nd) (gss_cons (gs_asg (ge_o (go_m_call (f_Ring_arc_ok Fa) Fa.k_Ring.cl (hr.mono (by omega)) tkOf (ge_v 0) (aa_v (ge_v 4) aa_nil))) (gg_tup (ggs_cons (gg_name 5 sc_f_step_from.nd) (ggs_cons (gg_name 6 sc_f_step_from.nd) ggs_nil)))) (gss_cons (gs_set 7 sc_f_step_from.nd (go_f (ge_op op_addA snd_add (ge_op op_fdivW snd_fdiv (ge_op op_sub snd_sub (ge_v 1) (ge_v 5)) (ge_v 3)) ge_int))) (gss_cons (gs_set 8 sc_f_step_from.nd (go_f (ge_op op_sub snd_sub (ge_op op_addA snd_add (ge_op op_addA snd_add (ge_op op_mulA snd_mul (ge_v 7) (ge_v 3)) (ge_v 5)) (ge_v 6)) ge_int))) (gss_one (gs_if (gt_w (gw_or (gt_cmp op_isN snd_isN (ge_v 2) ge_non) (gw_or1 (gt_cmp op_lt snd_ord (ge_v 8) (ge_ixs 2 (hu1 hr) (pv 2) ge_int))))) (gss_one (gs_set 2 sc_f_step_from.nd (go_f (ge_tup (ga_cons (ge_v 8) (ga_cons (ge_v 4) (ga_cons (ge_v 7) ga_nil))))))) gss_nil)))))) (gss_one (gs_ret (go_v 2 (pv 2)))))))
theorem f_walk_from_ok (Fa : Facts K mg c) : Fn c P w K mg base "walk_from" st_f_walk_from 4 2 P_f_walk_from m_f_walk_from := by
  refine Fn.mk' Fa.f_walk_from sc_f_walk_from fun f cdv A outer s H E hr => ?_
  show GSs c _ _ _ b_f_walk_from
  exact (gss_cons (gs_set 2 sc_f_walk_from.nd (go_m_callS0 0 (f_Ring_hours_ok Fa) Fa.k_Ring.cl (hr.mono (by omega)) tkOf (pv 0))) (gss_cons (gs_set 3 sc_f_walk_from.nd go_dict0) (gss_cons (gs_set 4 sc_f_walk_from.nd (go_lst (ga_cons (ge_v 1) ga_nil))) (gss_cons (gs_while ppOf (gt_notInS 3 (hu65 hr) (ge_op op_mod snd_mod (ge_ixs 4 (hu1 hr) (pv 4) (ge_un un_neg snd_neg ge_int)) (ge_v 2)) (pv 3)) (gss_cons (gs_put 3 (hu1 hr) (pv 3) (ge_op op_mod snd_mod (ge_ixs 4 (hu1 hr) (pv 4) (ge_un un_neg snd_neg ge_int)) (ge_v 2)) (ge_op op_sub snd_sub (ge_lenS 4 Fa.T (pv 4)) ge_int)) (gss_one (gs_expr (ge_mut 4 PySem.F.slot_list_append PySem.F.type_list_append mt_append mu_app (pv 4) (ga_cons (ge_ix (hu1 hr) (ge_o (go_f_call (f_step_from_ok Fa) (hr.mono (by omega)) tkOf (aa_v (ge_v 0) (aa_v (ge_ixs 4 (hu1 hr) (pv 4) (ge_un un_neg snd_neg ge_int)) aa_nil)))) ge_int) ga_nil)))))) (gss_one (gs_ret (go_f (ge_tup (ga_cons (ge_v 4) (ga_cons (ge_ixs 3 (hu1 hr) (pv 3) (ge_op op_mod snd_mod (ge_ixs 4 (hu1 hr) (pv 4) (ge_un un_neg snd_neg ge_int)) (ge_v 2))) ga_nil))))))))))
theorem f_round_from_ok (Fa : Facts K mg c) : Fn c P w K mg base "round_from" st_f_round_from 5 1 P_f_round_from m_f_round_from := by
  refine Fn.mk' Fa.f_round_from sc_f_round_from fun f cdv A outer s H E hr => ?_
  show GSs c _ _ _ b_f_round_from
  exact (gss_cons (gs_asg (ge_o (go_f_call (f_walk_from_ok Fa) (hr.mono (by omega)) tkOf (aa_v (ge_v 0) (aa_v ge_int aa_nil)))) (gg_tup (ggs_cons (gg_name 1 sc_f_round_from.nd) (ggs_cons (gg_name 2 sc_f_round_from.nd) ggs_nil)))) (gss_cons (gs_set 3 sc_f_round_from.nd (go_f (ge_op op_sub snd_sub (ge_op op_sub snd_sub (ge_lenS 1 Fa.T (pv 1)) ge_int) (ge_v 2)))) (gss_cons (gs_set 4 sc_f_round_from.nd (go_f (ge_op op_fdivW snd_fdiv (ge_op op_sub snd_sub (ge_ixs 1 (hu1 hr) (pv 1) (ge_un un_neg snd_neg ge_int)) (ge_ixs 1 (hu1 hr) (pv 1) (ge_v 2))) (ge_o (go_m_callS0 0 (f_Ring_hours_ok Fa) Fa.k_Ring.cl (hr.mono (by omega)) tkOf (pv 0)))))) (gss_one (gs_ret (go_f (ge_tup (ga_cons (ge_op op_mod snd_mod (ge_ixs 1 (hu1 hr) (pv 1) (ge_v 2)) (ge_o (go_m_callS0 0 (f_Ring_hours_ok Fa) Fa.k_Ring.cl (hr.mono (by omega)) tkOf (pv 0)))) (ga_cons (ge_v 3) (ga_cons (ge_v 4) ga_nil))))))))))
theorem f_common_ok (Fa : Facts K mg c) : Fn c P w K mg base "common" st_f_common 1 2 P_f_common m_f_common := by
  refine Fn.mk' Fa.f_common sc_f_common fun f cdv A outer s H E hr => ?_
  show GSs c _ _ _ b_f_common
  exact (gss_cons (gs_while ppOf (gt_cmp op_gt snd_ord (ge_v 1) ge_int) (gss_one (gs_par2 0 1 sc_f_common.nd (by decide) (gos_cons (go_v 1 (pv 1)) (gos_cons (go_f (ge_op op_mod snd_mod (ge_v 0) (ge_v 1))) gos_nil)) (by rfl)))) (gss_one (gs_ret (go_v 0 (pv 0)))))
theorem f_lowest_ok (Fa : Facts K mg c) : Fn c P w K mg base "lowest" st_f_lowest 2 2 P_f_lowest m_f_lowest := by
  refine Fn.mk' Fa.f_lowest sc_f_lowest fun f cdv A outer s H E hr => ?_
  show GSs c _ _ _ b_f_lowest
  exact (gss_cons (gs_set 2 sc_f_lowest.nd (go_f_call (f_common_ok Fa) (hr.mono (by omega)) tkOf (aa_v (ge_v 0) (aa_v (ge_v 1) aa_nil)))) (gss_one (gs_ret (go_f (ge_tup (ga_cons (ge_op op_fdivW snd_fdiv (ge_v 0) (ge_v 2)) (ga_cons (ge_op op_fdivW snd_fdiv (ge_v 1) (ge_v 2)) ga_nil)))))))
theorem f_ring_number_ok (Fa : Facts K mg c) : Fn c P w K mg base "ring_number" st_f_ring_number 6 1 P_f_ring_number m_f_ring_number := by
  refine Fn.mk' Fa.f_ring_number sc_f_ring_number fun f cdv A outer s H E hr => ?_
  show GSs c _ _ _ b_f_ring_number
  exact (gss_cons (gs_if (gt_cmp (op_eqA (hu64 hr)) snd_eq (ge_m_len (f_Ring___len___ok Fa) Fa.T (hr.mono (by omega)) (ge_v 0)) ge_int) (gss_one (gs_ret (go_f (ge_tup (ga_cons ge_int (ga_cons ge_int ga_nil)))))) gss_nil) (gss_cons (gs_asg (ge_o (go_f_call (f_round_from_ok Fa) (hr.mono (by omega)) tkOf (aa_v (ge_v 0) aa_nil))) (gg_tup (ggs_cons (gg_name 1 sc_f_ring_number.nd) (ggs_cons (gg_name 2 sc_f_ring_number.nd) (ggs_cons (gg_name 3 sc_f_ring_number.nd) ggs_nil))))) (gss_one (gs_ret (go_f_call (f_lowest_ok Fa) (hr.mono (by omega)) tkOf (aa_v (ge_v 2) (aa_v (ge_v 3) aa_nil)))))))
theorem f_fewest_looks_ok (Fa : Facts K mg c) : Fn c P w K mg base "fewest_looks" st_f_fewest_looks 7 2 P_f_fewest_looks m_f_fewest_looks := by
  refine Fn.mk' Fa.f_fewest_looks sc_f_fewest_looks fun f cdv A outer s H E hr => ?_
  show GSs c _ _ _ b_f_fewest_looks
  exact (gss_cons (gs_expr (ge_o (go_f_call (f_check_days_ok Fa) (hr.mono (by omega)) tkOf (aa_v (ge_v 1) aa_nil)))) (gss_cons (gs_asg (ge_o (go_f_call (f_ring_number_ok Fa) (hr.mono (by omega)) tkOf (aa_v (ge_v 0) aa_nil))) (gg_tup (ggs_cons (gg_name 2 sc_f_fewest_looks.nd) (ggs_cons (gg_name 3 sc_f_fewest_looks.nd) ggs_nil)))) (gss_one (gs_ret (go_f (ge_op op_fdivW snd_fdiv (ge_op op_sub snd_sub (ge_op op_addA snd_add (ge_op op_mulA snd_mul (ge_v 1) (ge_v 2)) (ge_v 3)) ge_int) (ge_v 3)))))))
theorem f__law_same_ok (Fa : Facts K mg c) : ∀ n : Nat, Fn c P w K mg base "_law_same" st_f__law_same (0 + n) 2 P_f__law_same (m_f__law_same n)
  | 0 => (Fn.no Fa.f__law_same).up (by omega)
  | n + 1 => by
    have hrec := f__law_same_ok Fa n
    refine Fn.mk' Fa.f__law_same sc_f__law_same fun f cdv A outer s H E hr => ?_
    have hr : Room (0 + n) _ := hr
    show GSs c _ _ _ (b_f__law_same (m_f__law_same n))
    exact (gss_cons (gs_if (gt_v (ge_isiS 1 .dict Fa.T (pv 1) (pe_ty "dict" (by rfl) Fa.T.dict boot_dictT))) (gss_one (gs_ret (go_f (ge_and (ge_isiS 0 .dict Fa.T (pv 0) (pe_ty "dict" (by rfl) Fa.T.dict boot_dictT)) (ge_one (ge_o (go_f_call hrec (hr.mono (by omega)) tkOf (aa_v (ge_o (go_liS 0 Fa.T (pv 0))) (aa_v (ge_o (go_liS 1 Fa.T (pv 1))) aa_nil))))))))) gss_nil) (gss_cons (gs_if (gt_v (ge_isiTS 1 [.list, .tuple] Fa.T (pv 1) (pa_tys_cons (t := .list) (pe_ty "list" (by rfl) Fa.T.list boot_listT) (pa_tys_cons (t := .tuple) (pe_ty "tuple" (by rfl) Fa.T.tuple boot_tupleT) pa_tys_nil)))) (gss_cons (gs_if (gt_w (gw_or (gt_cmp (op_neA (hu64 hr)) snd_ne (ge_isiS 0 .list Fa.T (pv 0) (pe_ty "list" (by rfl) Fa.T.list boot_listT)) (ge_isiS 1 .list Fa.T (pv 1) (pe_ty "list" (by rfl) Fa.T.list boot_listT))) (gw_or1 (gt_cmp (op_neA (hu64 hr)) snd_ne (ge_isiS 0 .tuple Fa.T (pv 0) (pe_ty "tuple" (by rfl) Fa.T.tuple boot_tupleT)) (ge_isiS 1 .tuple Fa.T (pv 1) (pe_ty "tuple" (by rfl) Fa.T.tuple boot_tupleT)))))) (gss_one (gs_ret (go_f ge_bl))) gss_nil) (gss_one (gs_ret (go_f (ge_and (ge_cmp (op_eqA (hu64 hr)) snd_eq (ge_lenS 0 Fa.T (pv 0)) (ge_lenS 1 Fa.T (pv 1))) (ge_one (ge_all Fa.T (ge_o (go_lc (own := [("one", 3), ("other", 4)]) (is := [3, 4]) sc_f__law_same.nd (blkOk_by (own := [("one", 3), ("other", 4)]) (N := N_f__law_same) (sc := defScope st_f__law_same) (by decide +kernel)) (by decide) (gi_zip Fa.T (ga_cons (ge_v 0) (ga_cons (ge_v 1) ga_nil))) (fun _ _ _ _ _ => (gg_tup (ggs_cons (gg_name 3 sc_f__law_same.nd) (ggs_cons (gg_name 4 sc_f__law_same.nd) ggs_nil)))) (fun _ _ _ _ _ => gts_nil) (fun _ _ _ _ _ => (ge_o (go_f_call hrec (hr.mono (by omega)) takes0 (aa_v (ge_v 3) (aa_v (ge_v 4) aa_nil))))))) (by rfl)))))))) gss_nil) (gss_cons (gs_set 2 sc_f__law_same.nd (go_f (ge_and (ge_cmp (op_eqA (hu64 hr)) snd_eq (ge_isiS 0 .bool Fa.T (pv 0) (pe_ty "bool" (by rfl) Fa.T.bool boot_boolT)) (ge_isiS 1 .bool Fa.T (pv 1) (pe_ty "bool" (by rfl) Fa.T.bool boot_boolT))) (ge_one (ge_cmp (op_eqA (hu64 hr)) snd_eq (ge_isiS 0 .int Fa.T (pv 0) (pe_ty "int" (by rfl) Fa.T.int boot_intT)) (ge_isiS 1 .int Fa.T (pv 1) (pe_ty "int" (by rfl) Fa.T.int boot_intT))))))) (gss_cons (gs_if (gt_w (gw_or (gt_v (ge_isiTS 0 [.dict, .list, .tuple] Fa.T (pv 0) (pa_tys_cons (t := .dict) (pe_ty "dict" (by rfl) Fa.T.dict boot_dictT) (pa_tys_cons (t := .list) (pe_ty "list" (by rfl) Fa.T.list boot_listT) (pa_tys_cons (t := .tuple) (pe_ty "tuple" (by rfl) Fa.T.tuple boot_tupleT) pa_tys_nil))))) (gw_or (gt_nt (gt_s 2 (pv 2))) (gw_or1 (gt_cmp (op_neA (hu64 hr)) snd_ne (ge_isiS 0 .str Fa.T (pv 0) (pe_ty "str" (by rfl) Fa.T.str boot_strT)) (ge_isiS 1 .str Fa.T (pv 1) (pe_ty "str" (by rfl) Fa.T.str boot_strT))))))) (gss_one (gs_ret (go_f ge_bl))) gss_nil) (gss_one (gs_ret (go_f (ge_if (gt_cmp op_isN snd_isN (ge_v 1) ge_non) (ge_cmp op_isN snd_isN (ge_v 0) ge_non) (ge_cmp (op_eqA (hu64 hr)) snd_eq (ge_v 0) (ge_v 1))))))))))
theorem f_most_apart_ok (Fa : Facts K mg c) : Fn c P w K mg base "most_apart" st_f_most_apart 7 2 P_f_most_apart m_f_most_apart := by
  refine Fn.mk' Fa.f_most_apart sc_f_most_apart fun f cdv A outer s H E hr => ?_
  show GSs c _ _ _ b_f_most_apart
  exact (gss_cons (gs_expr (ge_o (go_f_call (f_check_days_ok Fa) (hr.mono (by omega)) tkOf (aa_v (ge_v 1) aa_nil)))) (gss_cons (gs_asg (ge_o (go_f_call (f_ring_number_ok Fa) (hr.mono (by omega)) tkOf (aa_v (ge_v 0) aa_nil))) (gg_tup (ggs_cons (gg_name 2 sc_f_most_apart.nd) (ggs_cons (gg_name 3 sc_f_most_apart.nd) ggs_nil)))) (gss_one (gs_ret (go_f (ge_op op_fdivW snd_fdiv (ge_op op_mulA snd_mul (ge_v 1) (ge_v 2)) (ge_v 3)))))))
theorem f__law_r_lowest_ok (Fa : Facts K mg c) : Fn c P w K mg base "_law_r_lowest" st_f__law_r_lowest 1 2 P_f__law_r_lowest m_f__law_r_lowest := by
  refine Fn.mk' Fa.f__law_r_lowest sc_f__law_r_lowest fun f cdv A outer s H E hr => ?_
  show GSs c _ _ _ b_f__law_r_lowest
  exact (gss_cons (gs_par2 2 3 sc_f__law_r_lowest.nd (by decide) (gos_cons (go_v 0 (pv 0)) (gos_cons (go_v 1 (pv 1)) gos_nil)) (by rfl)) (gss_cons (gs_for ppOf (gi_range1 Fa.T (ga_cons ge_int ga_nil)) (gg_name 4 sc_f__law_r_lowest.nd) (gss_one (gs_if (gt_cmp op_gt snd_ord (ge_v 3) ge_int) (gss_one (gs_par2 2 3 sc_f__law_r_lowest.nd (by decide) (gos_cons (go_v 3 (pv 3)) (gos_cons (go_f (ge_op op_mod snd_mod (ge_v 2) (ge_v 3))) gos_nil)) (by rfl))) gss_nil))) (gss_one (gs_ret (go_f (ge_tup (ga_cons (ge_op op_fdivW snd_fdiv (ge_v 0) (ge_v 2)) (ga_cons (ge_op op_fdivW snd_fdiv (ge_v 1) (ge_v 2)) ga_nil))))))))
theorem f__law_r_known_ok (Fa : Facts K mg c) : Fn c P w K mg base "_law_r_known" st_f__law_r_known 5 1 P_f__law_r_known m_f__law_r_known := by
  refine Fn.mk' Fa.f__law_r_known sc_f__law_r_known fun f cdv A outer s H E hr => ?_
  show GSs c _ _ _ b_f__law_r_known
  exact (gss_cons (gs_par2 1 2 sc_f__law_r_known.nd (by decide) (gos_cons (go_f (ge_op op_addA snd_add ge_int (ge_o (go_f_call (f__law_draw_ok Fa) (hr.mono (by omega)) tkOf (aa_s 0 (pv 0) (aa_v ge_int aa_nil)))))) (gos_cons (go_f (ge_op op_addA snd_add ge_int (ge_o (go_f_call (f__law_draw_ok Fa) (hr.mono (by omega)) tkOf (aa_s 0 (pv 0) (aa_v ge_int aa_nil)))))) gos_nil)) (by rfl)) (gss_cons (gs_set 3 sc_f__law_r_known.nd (go_f (ge_op op_addA snd_add ge_int (ge_o (go_f_call (f__law_draw_ok Fa) (hr.mono (by omega)) tkOf (aa_s 0 (pv 0) (aa_v (ge_op op_mulA snd_mul (ge_v 1) (ge_v 2)) aa_nil))))))) (gss_cons (gs_set 4 sc_f__law_r_known.nd (go_f (ge_un un_neg snd_neg (ge_op op_fdivW snd_fdiv (ge_un un_neg snd_neg (ge_v 3)) (ge_v 1))))) (gss_cons (gs_par2 5 6 sc_f__law_r_known.nd (by decide) (gos_cons (go_f_call (f__law_w_names_ok Fa) (hr.mono (by omega)) tkOf (aa_s 0 (pv 0) (aa_v (ge_v 2) aa_nil))) (gos_cons go_dict0 gos_nil)) (by rfl)) (gss_cons (gs_for ppOf (gi_enum Fa.T (ga_cons (ge_v 5) ga_nil)) (gg_tup (ggs_cons (gg_name 7 sc_f__law_r_known.nd) (ggs_cons (gg_name 8 sc_f__law_r_known.nd) ggs_nil))) (gss_one (gs_put 6 (hu1 hr) (pv 6) (ge_v 8) (ge_tup (ga_cons (ge_op op_mulA snd_mul (ge_v 1) (ge_v 7)) (ga_cons (ge_v 3) ga_nil)))))) (gss_one (gs_ret (go_f (ge_tup (ga_cons (ge_op op_mulA snd_mul (ge_v 1) (ge_v 2)) (ga_cons (ge_v 6) (ga_cons (ge_o (go_f_call (f__law_r_lowest_ok Fa) (hr.mono (by omega)) tkOf (aa_v (ge_v 2) (aa_v (ge_v 4) aa_nil)))) ga_nil))))))))))))
theorem f_Ring_joined_ok (Fa : Facts K mg c) : Mt c P w K mg base 0 "joined" 6 2 P_f_Ring_joined m_f_Ring_joined := by
  refine Mt.mk' Fa.f_Ring_joined sc_f_Ring_joined fun f cdv A outer s H E hr => ?_
  show GSs c _ _ _ b_f_Ring_joined
  exact (gss_cons (gs_if (gt_w (gw_or (gt_nt (gt_v (ge_o (go_f_call (f_are_arcs_ok Fa) (hr.mono (by omega)) tkOf (aa_v (ge_fldS 0 Fa.k_Ring.cl Fa.n_Ring_own_hours (pv 0)) (aa_v (ge_v 1) aa_nil)))))) (gw_or1 (gt_cmp op_gt snd_ord (ge_op op_addA snd_add (ge_lenS 1 Fa.T (pv 1)) (ge_len Fa.T (ge_fldS 0 Fa.k_Ring.cl Fa.n_Ring_own_arcs (pv 0)))) (ge_cI Fa.c_FORTY))))) (gss_one gs_never) gss_nil) (gss_cons (gs_if (gt_v (ge_any Fa.T (ge_o (go_lc (own := [("name", 3)]) (is := [3]) sc_f_Ring_joined.nd (blkOk_by (own := [("name", 3)]) (N := N_f_Ring_joined) (sc := defScope st_f_Ring_joined) (by decide +kernel)) (by decide) (gi_e (ge_v 1)) (fun _ _ _ _ _ => (gg_name 3 sc_f_Ring_joined.nd)) (fun _ _ _ _ _ => gts_nil) (fun _ _ _ _ _ => (ge_in (hu65 hr) (ge_v 3) (ge_fldS 0 Fa.k_Ring.cl Fa.n_Ring_own_arcs (pv 0)))))) (by rfl))) (gss_one gs_never) gss_nil) (gss_cons (gs_set 2 sc_f_Ring_joined.nd (go_dict Fa.T (ge_fldS 0 Fa.k_Ring.cl Fa.n_Ring_own_arcs (pv 0)) (by rfl))) (gss_cons (gs_expr (ge_upd 2 (pv 2) (ge_v 1))) (gss_one (gs_ret (go_c_make (f_Ring___init___ok Fa) Fa.k_Ring (hr.mono (by omega)) tkOf (aa_v (ge_fldS 0 Fa.k_Ring.cl Fa.n_Ring_own_hours (pv 0)) (aa_v (ge_v 2) aa_nil)))))))))
theorem f_law_ok (Fa : Facts K mg c) : Fn c P w K mg base "law" st_f_law 9 1 P_f_law m_f_law := by
  refine Fn.mk' Fa.f_law sc_f_law fun f cdv A outer s H E hr => ?_
  show GSs c _ _ _ b_f_law
  exact (gss_cons (gs_for ppOf (gi_range1 Fa.T (ga_cons ge_int ga_nil)) (gg_name 1 sc_f_law.nd) (gss_cons (gs_set 2 sc_f_law.nd (go_f_call (f__law_spring_ok Fa) (hr.mono (by omega)) tkOf (aa_s 0 (pv 0) (aa_v (ge_v 1) aa_nil)))) (gss_cons (gs_set 3 sc_f_law.nd (go_f (ge_op op_addA snd_add ge_int (ge_o (go_f_call (f__law_draw_ok Fa) (hr.mono (by omega)) tkOf (aa_s 2 (pv 2) (aa_v ge_int aa_nil))))))) (gss_cons (gs_set 4 sc_f_law.nd (go_dict Fa.T (ge_o (go_lc (own := [("name", 16)]) (is := [16]) sc_f_law.nd (blkOk_by (own := [("name", 16)]) (N := N_f_law) (sc := defScope st_f_law) (by decide +kernel)) (by decide) (gi_e (ge_o (go_f_call (f__law_w_names_ok Fa) (hr.mono (by omega)) tkOf (aa_s 2 (pv 2) (aa_v (ge_o (go_f_call (f__law_draw_ok Fa) (hr.mono (by omega)) tkOf (aa_s 2 (pv 2) (aa_v ge_int aa_nil)))) aa_nil))))) (fun _ _ _ _ _ => (gg_name 16 sc_f_law.nd)) (fun _ _ _ _ _ => gts_nil) (fun _ _ _ _ _ => (ge_tup (ga_cons (ge_v 16) (ga_cons (ge_tup (ga_cons (ge_o (go_f_call (f__law_draw_ok Fa) (hr.mono (by omega)) takes0 (aa_s 2 (pv 2) (aa_v (ge_v 3) aa_nil)))) (ga_cons (ge_op op_addA snd_add ge_int (ge_o (go_f_call (f__law_draw_ok Fa) (hr.mono (by omega)) takes0 (aa_s 2 (pv 2) (aa_v (ge_v 3) aa_nil))))) ga_nil))) ga_nil)))))) (by rfl))) (gss_cons (gs_par3 5 6 7 sc_f_law.nd (by decide) (by decide) (by decide) (gos_cons (go_c_make (f_Ring___init___ok Fa) Fa.k_Ring (hr.mono (by omega)) tkOf (aa_v (ge_v 3) (aa_v (ge_o (go_f_call (f__law_loose_ok Fa 6) (hr.mono (by omega)) tkOf (aa_s 2 (pv 2) (aa_v (ge_v 4) aa_nil)))) aa_nil))) (gos_cons (go_lst ga_nil) (gos_cons (go_lst ga_nil) gos_nil))) (by rfl)) (gss_cons (gs_for ppOf (gi_e (ge_lst (ga_cons ge_int (ga_cons ge_int ga_nil)))) (gg_name 8 sc_f_law.nd) (gss_one (gs_if (gt_cmp op_lt snd_ord (ge_op op_mulA snd_mul (ge_op op_mulA snd_mul (ge_v 8) (ge_v 3)) (ge_lenS 4 Fa.T (pv 4))) ge_int) (gss_cons (gs_expr (ge_mut 6 PySem.F.slot_list_append PySem.F.type_list_append mt_append mu_app (pv 6) (ga_cons (ge_o (go_f_call (f__law_r_most_ok Fa) (hr.mono (by omega)) tkOf (aa_v (ge_v 3) (aa_s 4 (pv 4) (aa_v (ge_v 8) aa_nil))))) ga_nil))) (gss_cons (gs_expr (ge_mut 7 PySem.F.slot_list_append PySem.F.type_list_append mt_append mu_app (pv 7) (ga_cons (ge_if (gt_cmp op_lt snd_ord (ge_op op_mulA snd_mul (ge_v 8) (ge_v 3)) ge_int) (ge_o (go_f_call (f__law_r_looks_ok Fa) (hr.mono (by omega)) tkOf (aa_v (ge_v 3) (aa_v (ge_v 4) (aa_v (ge_v 8) aa_nil))))) (ge_o (go_f_call (f_fewest_looks_ok Fa) (hr.mono (by omega)) tkOf (aa_v (ge_v 5) (aa_v (ge_v 8) aa_nil))))) ga_nil))) (gss_cons (gs_if (gt_w (gw_or (gt_nt (gt_v (ge_thaw [5, 8, 6] (ge_o (go_f_call (f__law_same_ok Fa 6) (hr.mono (by omega)) tkOf (aa_v (ge_o (go_f_call (f_most_apart_ok Fa) (hr.mono (by omega)) tkOf (aa_v (ge_v 5) (aa_v (ge_v 8) aa_nil)))) (aa_v (ge_ixs 6 (hu1 hr) (pv 6) (ge_un un_neg snd_neg ge_int)) aa_nil))))))) (gw_or1 (gt_nt (gt_v (ge_thaw [5, 8, 7] (ge_o (go_f_call (f__law_same_ok Fa 6) (hr.mono (by omega)) tkOf (aa_v (ge_o (go_f_call (f_fewest_looks_ok Fa) (hr.mono (by omega)) tkOf (aa_v (ge_v 5) (aa_v (ge_v 8) aa_nil)))) (aa_v (ge_ixs 7 (hu1 hr) (pv 7) (ge_un un_neg snd_neg ge_int)) aa_nil)))))))))) (gss_one (gs_ret (go_f ge_bl))) gss_nil) (gss_one (gs_if (gt_nt (gt_chain op_le op_le snd_ord snd_ord (ge_ixs 6 (hu1 hr) (pv 6) (ge_un un_neg snd_neg ge_int)) (ge_ixs 7 (hu1 hr) (pv 7) (ge_un un_neg snd_neg ge_int)) (ge_op op_addA snd_add (ge_ixs 6 (hu1 hr) (pv 6) (ge_un un_neg snd_neg ge_int)) ge_int))) (gss_one (gs_ret (go_f ge_bl))) gss_nil))))) gss_nil))) (gss_cons (gs_asg (ge_o (go_f_call (f__law_r_known_ok Fa) (hr.mono (by omega)) tkOf (aa_s 2 (pv 2) aa_nil))) (gg_tup (ggs_cons (gg_name 9 sc_f_law.nd) (ggs_cons (gg_name 10 sc_f_law.nd) (ggs_cons (gg_name 11 sc_f_law.nd) ggs_nil))))) (gss_cons (gs_set 12 sc_f_law.nd (go_c_make (f_Ring___init___ok Fa) Fa.k_Ring (hr.mono (by omega)) tkOf (aa_v (ge_v 9) (aa_v (ge_o (go_f_call (f__law_loose_ok Fa 6) (hr.mono (by omega)) tkOf (aa_s 2 (pv 2) (aa_v (ge_v 10) aa_nil)))) aa_nil)))) (gss_cons (gs_if (gt_nt (gt_v (ge_o (go_f_call (f__law_same_ok Fa 6) (hr.mono (by omega)) tkOf (aa_v (ge_o (go_f_call (f_ring_number_ok Fa) (hr.mono (by omega)) tkOf (aa_v (ge_v 12) aa_nil))) (aa_v (ge_v 11) aa_nil)))))) (gss_one (gs_ret (go_f ge_bl))) gss_nil) (gss_one (gs_for ppOf (gi_e (ge_lst (ga_cons ge_int (ga_cons (ge_op op_addA snd_add ge_int (ge_o (go_f_call (f__law_draw_ok Fa) (hr.mono (by omega)) tkOf (aa_s 2 (pv 2) (aa_v ge_int aa_nil))))) (ga_cons ge_int ga_nil))))) (gg_name 8 sc_f_law.nd) (gss_cons (gs_set 13 sc_f_law.nd (go_lst (ga_cons (ge_o (go_f_call (f_most_apart_ok Fa) (hr.mono (by omega)) tkOf (aa_v (ge_v 12) (aa_v (ge_v 8) aa_nil)))) (ga_cons (ge_o (go_f_call (f_fewest_looks_ok Fa) (hr.mono (by omega)) tkOf (aa_v (ge_v 12) (aa_v (ge_v 8) aa_nil)))) ga_nil)))) (gss_cons (gs_if (gt_nt (gt_v (ge_o (go_f_call (f__law_same_ok Fa 6) (hr.mono (by omega)) tkOf (aa_v (ge_v 13) (aa_v (ge_lst (ga_cons (ge_op op_fdivW snd_fdiv (ge_op op_mulA snd_mul (ge_v 8) (ge_ixs 11 (hu1 hr) (pv 11) ge_int)) (ge_ixs 11 (hu1 hr) (pv 11) ge_int)) (ga_cons (ge_un un_neg snd_neg (ge_op op_fdivW snd_fdiv (ge_op op_mulA snd_mul (ge_un un_neg snd_neg (ge_v 8)) (ge_ixs 11 (hu1 hr) (pv 11) ge_int)) (ge_ixs 11 (hu1 hr) (pv 11) ge_int))) ga_nil))) aa_nil)))))) (gss_one (gs_ret (go_f ge_bl))) gss_nil) (gss_one (gs_if (gt_cmp op_lt snd_ord (ge_lenS 10 Fa.T (pv 10)) ge_int) (gss_cons (gs_set 14 sc_f_law.nd (go_m_callS 12 (f_Ring_joined_ok Fa) Fa.k_Ring.cl (hr.mono (by omega)) tkOf (pv 12) (aa_v (ge_o (go_disp (gps_cons ge_str (ge_tup (ga_cons (ge_o (go_f_call (f__law_draw_ok Fa) (hr.mono (by omega)) tkOf (aa_s 2 (pv 2) (aa_v (ge_v 9) aa_nil)))) (ga_cons (ge_op op_addA snd_add ge_int (ge_o (go_f_call (f__law_draw_ok Fa) (hr.mono (by omega)) tkOf (aa_s 2 (pv 2) (aa_v (ge_v 9) aa_nil))))) ga_nil))) gps_nil))) aa_nil))) (gss_cons (gs_set 15 sc_f_law.nd (go_lst (ga_cons (ge_o (go_f_call (f_most_apart_ok Fa) (hr.mono (by omega)) tkOf (aa_v (ge_v 14) (aa_v (ge_v 8) aa_nil)))) (ga_cons (ge_o (go_f_call (f_fewest_looks_ok Fa) (hr.mono (by omega)) tkOf (aa_v (ge_v 14) (aa_v (ge_v 8) aa_nil)))) ga_nil)))) (gss_cons (gs_if (gt_nt (gt_v (ge_all Fa.T (ge_o (go_lc (own := [("here", 20), ("there", 21)]) (is := [20, 21]) sc_f_law.nd (blkOk_by (own := [("here", 20), ("there", 21)]) (N := N_f_law) (sc := defScope st_f_law) (by decide +kernel)) (by decide) (gi_zip Fa.T (ga_cons (ge_v 13) (ga_cons (ge_v 15) ga_nil))) (fun _ _ _ _ _ => (gg_tup (ggs_cons (gg_name 20 sc_f_law.nd) (ggs_cons (gg_name 21 sc_f_law.nd) ggs_nil)))) (fun _ _ _ _ _ => gts_nil) (fun _ _ _ _ _ => (ge_chain op_le op_le snd_ord snd_ord (ge_v 20) (ge_v 21) (ge_op op_addA snd_add (ge_v 20) (ge_v 8)))))) (by rfl)))) (gss_one (gs_ret (go_f ge_bl))) gss_nil) (gss_cons (gs_set 16 sc_f_law.nd (go_f_call (f__law_pick_ok Fa) (hr.mono (by omega)) tkOf (aa_s 2 (pv 2) (aa_v (ge_o (go_sortedS 10 Fa.T (pv 10) (by rfl))) aa_nil)))) (gss_cons (gs_asg (ge_ixs 10 (hu1 hr) (pv 10) (ge_v 16)) (gg_tup (ggs_cons (gg_name 17 sc_f_law.nd) (ggs_cons (gg_name 18 sc_f_law.nd) ggs_nil)))) (gss_cons (gs_set 19 sc_f_law.nd (go_m_callS 12 (f_Ring_joined_ok Fa) Fa.k_Ring.cl (hr.mono (by omega)) tkOf (pv 12) (aa_v (ge_o (go_disp (gps_cons ge_str (ge_tup (ga_cons (ge_if (gt_cmp op_lt snd_ord (ge_v 18) (ge_v 9)) (ge_op op_mod snd_mod (ge_op op_sub snd_sub (ge_v 17) ge_int) (ge_v 9)) (ge_v 17)) (ga_cons (ge_min2 Fa.T (ge_v 9) (ge_op op_addA snd_add (ge_v 18) ge_int) (by rfl) (by rfl) (by rfl)) ga_nil))) gps_nil))) aa_nil))) (gss_one (gs_if (gt_cmp (op_neA (hu64 hr)) snd_ne (ge_lst (ga_cons (ge_o (go_f_call (f_most_apart_ok Fa) (hr.mono (by omega)) tkOf (aa_v (ge_v 19) (aa_v (ge_v 8) aa_nil)))) (ga_cons (ge_o (go_f_call (f_fewest_looks_ok Fa) (hr.mono (by omega)) tkOf (aa_v (ge_v 19) (aa_v (ge_v 8) aa_nil)))) ga_nil))) (ge_v 13)) (gss_one (gs_ret (go_f ge_bl))) gss_nil)))))))) gss_nil))))))))))))))) (gss_one (gs_ret (go_f ge_bl))))
end
end DV

set_option Elab.async false
set_option linter.all false
set_option autoImplicit false
set_option maxRecDepth 100000
set_option maxHeartbeats 4000000
namespace DV
open PySem L2
/-! P0: denotations reckoned by a weakest condition. -/
structure wpR {α : Type} (r : Res α) (Q : α → Env → Prop) : Prop where
  out : ∃ a e, r = .ok a e ∧ Q a e
theorem wpR.mono {α : Type} {r : Res α} {Q Q' : α → Env → Prop} (h : wpR r Q) (k : ∀ a e, Q a e → Q' a e) : wpR r Q' := by
  obtain ⟨a, e, h1, h2⟩ := h.out
  exact ⟨a, e, h1, k a e h2⟩
@[simp] theorem wpR_ok {α : Type} {a : α} {e : Env} {Q : α → Env → Prop} : wpR (.ok a e) Q = Q a e := propext (Iff.intro (fun ⟨a', e', h, q⟩ => by cases h; exact q) fun q => ⟨a, e, rfl, q⟩)
@[simp] theorem wpR_ex {α : Type} {x : Exn} {e : Env} {Q : α → Env → Prop} : wpR (.ex x e) Q = False := propext (Iff.intro (fun ⟨a', e', h, q⟩ => by cases h) False.elim)
@[simp] theorem wpR_no {α : Type} {Q : α → Env → Prop} : wpR (.no : Res α) Q = False := propext (Iff.intro (fun ⟨a', e', h, q⟩ => by cases h) False.elim)
def kont {α β : Type} (k : α → Env → Res β) (Q : β → Env → Prop) (a : α) (e : Env) : Prop := wpR (k a e) Q
@[simp] theorem kont_a {α β : Type} {k : α → Env → Res β} {Q : β → Env → Prop} {a : α} {e : Env} : kont k Q a e = wpR (k a e) Q := rfl
@[simp] theorem wpR_bind {α β : Type} {r : Res α} {k : α → Env → Res β} {Q : β → Env → Prop} : wpR (r.bind k) Q = wpR r (kont k Q) := by
  cases r with
  | ok a e => rw [wpR_ok]; rfl
  | ex x e => rw [wpR_ex, Res.bind_ex, wpR_ex]
  | no => rw [wpR_no, Res.bind_no, wpR_no]
def wpL {α : Type} (o : Option α) (e : Env) (Q : α → Env → Prop) : Prop := match o with
  | some a => Q a e
  | none => False
@[simp] theorem wpL_some {α : Type} {a : α} {e : Env} {Q : α → Env → Prop} : wpL (some a) e Q = Q a e := rfl
@[simp] theorem wpR_lift {α : Type} {o : Option α} {e : Env} {Q : α → Env → Prop} : wpR (lift o e) Q = wpL o e Q := by
  cases o with
  | none => rw [lift_none, wpR_no]; rfl
  | some a => rw [lift_some, wpR_ok]; rfl
@[simp] theorem wpR_ite {α : Type} {c : Prop} [Decidable c] {r r' : Res α} {Q : α → Env → Prop} : wpR (if c then r else r') Q = if c then wpR r Q else wpR r' Q := by split <;> rfl
def wpIf {β : Type} (f u : Env → Res β) (Q : β → Env → Prop) (b : Bool) (e : Env) : Prop := if b = true then wpR (f e) Q else wpR (u e) Q
@[simp] theorem wpIf_t {β : Type} {f u : Env → Res β} {Q : β → Env → Prop} {e : Env} : wpIf f u Q true e = wpR (f e) Q := rfl
@[simp] theorem wpIf_f {β : Type} {f u : Env → Res β} {Q : β → Env → Prop} {e : Env} : wpIf f u Q false e = wpR (u e) Q := rfl
def wpS {α : Type} (o : Option S) (F : D → Res α) (G : Option Nat → Ct → Res α) (Q : α → Env → Prop) : Prop := match o with
  | some (.fz d) => wpR (F d) Q
  | some (.own og c) => wpR (G og c) Q
  | _ => False
@[simp] theorem wpS_f {α : Type} {d : D} {F : D → Res α} {G : Option Nat → Ct → Res α} {Q : α → Env → Prop} : wpS (some (.fz d)) F G Q = wpR (F d) Q := rfl
@[simp] theorem wpS_o {α : Type} {og : Option Nat} {c : Ct} {F : D → Res α} {G : Option Nat → Ct → Res α} {Q : α → Env → Prop} : wpS (some (.own og c)) F G Q = wpR (G og c) Q := rfl
def vwS (o : Option S) : Option D := match o with
  | some (.fz d) => some d.un
  | some (.own _ c) => some c.toD
  | _ => none
@[simp] theorem vwS_f {d : D} : vwS (some (.fz d)) = some d.un := rfl
@[simp] theorem vwS_o {og : Option Nat} {c : Ct} : vwS (some (.own og c)) = some c.toD := rfl
def owL (o : Option S) : Option (Option Nat × List D) := match o with
  | some (.own og (.l ds)) => some (og, ds)
  | _ => none
@[simp] theorem owL_o {og : Option Nat} {ds : List D} : owL (some (.own og (.l ds))) = some (og, ds) := rfl
def owC (o : Option S) : Option (Option Nat × Ct) := match o with
  | some (.own og c) => some (og, c)
  | _ => none
@[simp] theorem owC_o {og : Option Nat} {c : Ct} : owC (some (.own og c)) = some (og, c) := rfl
def owO (k : Nat) (o : Option S) : Option (Option Nat × List (Str × D)) := match o with
  | some (.own og (.o c fs)) => if c = k ∧ fs.length < 1000 then some (og, fs) else none
  | _ => none
@[simp] theorem owO_o {k c : Nat} {og : Option Nat} {fs : List (Str × D)} : owO k (some (.own og (.o c fs))) = if c = k ∧ fs.length < 1000 then some (og, fs) else none := rfl
def par2R (i j : Nat) (ss : List S) (e : Env) : Res Fl := match ss with
  | [s, t] => (lift ((stS i s e).bind (stS j t)) e).bind fun e' _ => .ok .nx e'
  | _ => .no
@[simp] theorem par2R_e {i j : Nat} {s t : S} {e : Env} : par2R i j [s, t] e = (lift ((stS i s e).bind (stS j t)) e).bind fun e' _ => .ok .nx e' := rfl
def par3R (i j l : Nat) (ss : List S) (e : Env) : Res Fl := match ss with
  | [s, t, u] => (lift (((stS i s e).bind (stS j t)).bind (stS l u)) e).bind fun e' _ => .ok .nx e'
  | _ => .no
@[simp] theorem par3R_e {i j l : Nat} {s t u : S} {e : Env} : par3R i j l [s, t, u] e = (lift (((stS i s e).bind (stS j t)).bind (stS l u)) e).bind fun e' _ => .ok .nx e' := rfl
/-- the flow of a statement -/
def wpN (u : Env → Res Fl) (Q : Fl → Env → Prop) : Fl → Env → Prop := fun f e => match f with
  | .nx => wpR (u e) Q
  | f => Q f e
@[simp] theorem wpN_nx {u : Env → Res Fl} {Q : Fl → Env → Prop} {e : Env} : wpN u Q .nx e = wpR (u e) Q := rfl
@[simp] theorem wpN_rt {u : Env → Res Fl} {Q : Fl → Env → Prop} {e : Env} {s : S} : wpN u Q (.rt s) e = Q (.rt s) e := rfl
@[simp] theorem wpN_bk {u : Env → Res Fl} {Q : Fl → Env → Prop} {e : Env} : wpN u Q .bk e = Q .bk e := rfl
@[simp] theorem wpN_ct {u : Env → Res Fl} {Q : Fl → Env → Prop} {e : Env} : wpN u Q .ct e = Q .ct e := rfl
@[simp] theorem wp_seq {f u : Env → Res Fl} {e : Env} {Q : Fl → Env → Prop} : wpR (sSeq f u e) Q = wpR (f e) (wpN u Q) := by
  unfold sSeq
  cases f e with
  | ok fl e1 =>
    rw [wpR_ok]
    cases fl with
    | nx => rfl
    | rt s => exact wpR_ok
    | bk => exact wpR_ok
    | ct => exact wpR_ok
  | ex x e1 => rw [wpR_ex]; exact wpR_ex.symm
  | no => rw [wpR_no]; exact wpR_no.symm
@[simp] theorem wp_if {t : Env → Res Bool} {f u : Env → Res Fl} {e : Env} {Q : Fl → Env → Prop} : wpR (sIf t f u e) Q = wpR (t e) (wpIf f u Q) := by
  unfold sIf
  rw [wpR_bind]
  cases t e with
  | ok b e1 => rw [wpR_ok, wpR_ok]; cases b <;> rfl
  | ex x e1 => rw [wpR_ex, wpR_ex]
  | no => rw [wpR_no, wpR_no]
@[simp] theorem wev_pass {e : Env}  {Q} : wpR (sPass e) Q = wpR (.ok .nx e) Q := rfl
@[simp] theorem wev_brk {e : Env}  {Q} : wpR (sBreak e) Q = wpR (.ok .bk e) Q := rfl
@[simp] theorem wev_cont {e : Env}  {Q} : wpR (sCont e) Q = wpR (.ok .ct e) Q := rfl
@[simp] theorem wev_no {e : Env}  {Q} : wpR (sNo e) Q = wpR (.no) Q := rfl
@[simp] theorem wev_retN {e : Env}  {Q} : wpR (sRetN e) Q = wpR (.ok (.rt (.fz .non)) e) Q := rfl
@[simp] theorem wev_ret {f : Env → Res S} {e : Env}  {Q} : wpR (sRet f e) Q = wpR ((f e).bind fun s e => .ok (.rt s) e) Q := rfl
@[simp] theorem wev_drop {f : Env → Res D} {e : Env}  {Q} : wpR (sDrop f e) Q = wpR ((f e).bind fun _ e => .ok .nx e) Q := rfl
@[simp] theorem wev_set {i : Nat} {f : Env → Res S} {e : Env}  {Q} : wpR (sSet i f e) Q = wpR ((f e).bind fun s e => (lift (stS i s e) e).bind fun e' _ => .ok .nx e') Q := rfl
@[simp] theorem wev_asg {f : Env → Res D} {gt : D → Env → Option Env} {e : Env}  {Q} : wpR (sAsg f gt e) Q = wpR ((f e).bind fun d e => (lift (gt d e) e).bind fun e' _ => .ok .nx e') Q := rfl
@[simp] theorem wev_put {i : Nat} {fy fv : Env → Res D} {e : Env}  {Q} : wpR (sPut i fy fv e) Q = wpR ((fv e).bind fun v e => (lift (ownC e i) e).bind fun _ e => (fy e).bind fun y e => (lift (ownC e i) e).bind fun p e => (lift (setC p.2 y v) e).bind fun ct e => .ok .nx (e.set i (.own p.1 ct))) Q := rfl
@[simp] theorem wev_fldst {k i : Nat} {f : Str} {fv : Env → Res D} {e : Env}  {Q} : wpR (sFld k f i fv e) Q = wpR ((fv e).bind fun v e => (lift (ownO k e i) e).bind fun p e => .ok .nx (e.set i (.own p.1 (.o k (putFD f v p.2))))) Q := rfl
@[simp] theorem wev_par2 {i j : Nat} {fl : Env → Res (List S)} {e : Env}  {Q} : wpR (sPar2 i j fl e) Q = wpR ((fl e).bind (par2R i j)) Q := rfl
@[simp] theorem wev_par3 {i j l : Nat} {fl : Env → Res (List S)} {e : Env}  {Q} : wpR (sPar3 i j l fl e) Q = wpR ((fl e).bind (par3R i j l)) Q := rfl
@[simp] theorem wev_for {fi : Env → Res (List D)} {gt : D → Env → Option Env} {fb : Env → Res Fl} {e : Env}  {Q} : wpR (sFor fi gt fb e) Q = wpR ((fi e).bind fun ds e => foD gt fb ds e) Q := rfl
@[simp] theorem stS_f {i : Nat} {d : D} {e : Env} : stS i (.fz d) e = some (e.set i (.fz d)) := rfl
@[simp] theorem stS_o {i : Nat} {c : Ct} {e : Env} : stS i (.own none c) e = some (e.set i (.own none c)) := rfl
-- expressions
@[simp] theorem wev_C {d : D} {e : Env}  {Q} : wpR (dC d e) Q = wpR (.ok d e) Q := rfl
@[simp] theorem wev_2 {o : D → D → Option D} {fa fb : Env → Res D} {e : Env}  {Q} : wpR (d2 o fa fb e) Q = wpR ((fa e).bind fun x e => (fb e).bind fun y e => lift (o x y) e) Q := rfl
@[simp] theorem wev_1 {o : D → Option D} {fa : Env → Res D} {e : Env}  {Q} : wpR (d1 o fa e) Q = wpR ((fa e).bind fun x e => lift (o x) e) Q := rfl
@[simp] theorem wev_b2 {o : D → D → Option Bool} {fa fb : Env → Res D} {e : Env}  {Q} : wpR (b2 o fa fb e) Q = wpR ((fa e).bind fun x e => (fb e).bind fun y e => lift (o x y) e) Q := rfl
@[simp] theorem wev_dB {f : Env → Res Bool} {e : Env}  {Q} : wpR (dB f e) Q = wpR ((f e).bind fun b e => .ok (.bl b) e) Q := rfl
@[simp] theorem wev_bCh {o o' : D → D → Option Bool} {fa fb fc : Env → Res D} {e : Env}  {Q} : wpR (bCh o o' fa fb fc e) Q = wpR ((fa e).bind fun x e => (fb e).bind fun y e => (lift (o x y) e).bind fun k e => if k = true then (fc e).bind fun z e => lift (o' y z) e else .ok false e) Q := rfl
@[simp] theorem wev_bAnd {f u : Env → Res Bool} {e : Env}  {Q} : wpR (bAnd f u e) Q = wpR ((f e).bind fun b e => if b = true then u e else .ok false e) Q := rfl
@[simp] theorem wev_bOr {f u : Env → Res Bool} {e : Env}  {Q} : wpR (bOr f u e) Q = wpR ((f e).bind fun b e => if b = true then .ok true e else u e) Q := rfl
@[simp] theorem wev_bNot {f : Env → Res Bool} {e : Env}  {Q} : wpR (bNot f e) Q = wpR ((f e).bind fun b e => .ok (!b) e) Q := rfl
@[simp] theorem wev_dAnd {f u : Env → Res D} {e : Env}  {Q} : wpR (dAnd f u e) Q = wpR ((f e).bind fun x e => (lift (truD x) e).bind fun k e => if k = true then u e else .ok x e) Q := rfl
@[simp] theorem wev_dOr {f u : Env → Res D} {e : Env}  {Q} : wpR (dOr f u e) Q = wpR ((f e).bind fun x e => (lift (truD x) e).bind fun k e => if k = true then .ok x e else u e) Q := rfl
@[simp] theorem wev_dNot {f : Env → Res D} {e : Env}  {Q} : wpR (dNot f e) Q = wpR ((f e).bind fun x e => lift ((truD x).map fun k => .bl (!k)) e) Q := rfl
@[simp] theorem wev_dIf {ft : Env → Res Bool} {fa fb : Env → Res D} {e : Env}  {Q} : wpR (dIf ft fa fb e) Q = wpR ((ft e).bind fun k e => if k = true then fa e else fb e) Q := rfl
@[simp] theorem wev_nil {e : Env}  {Q} : wpR (dNil e) Q = wpR (.ok [] e) Q := rfl
@[simp] theorem wev_cons {f : Env → Res D} {u : Env → Res (List D)} {e : Env}  {Q} : wpR (dCons f u e) Q = wpR ((f e).bind fun x e => (u e).bind fun xs e => .ok (x :: xs) e) Q := rfl
@[simp] theorem wev_tup {u : Env → Res (List D)} {e : Env}  {Q} : wpR (dTup u e) Q = wpR ((u e).bind fun xs e => if xs.length ≤ 1000000 then .ok (.tup xs) e else .no) Q := rfl
@[simp] theorem wev_lst {u : Env → Res (List D)} {e : Env}  {Q} : wpR (dLst u e) Q = wpR ((u e).bind fun xs e => if xs.length ≤ 1000000 then .ok (.lst xs) e else .no) Q := rfl
@[simp] theorem wev_oLst {u : Env → Res (List D)} {e : Env}  {Q} : wpR (oLst u e) Q = wpR ((u e).bind fun xs e => if xs.length ≤ 1000000 then .ok (.own none (.l xs)) e else .no) Q := rfl
@[simp] theorem wev_oF {f : Env → Res D} {e : Env}  {Q} : wpR (oF f e) Q = wpR ((f e).bind fun d e => .ok (.fz d) e) Q := rfl
def dFs (s : S) (e : Env) : Res D := match s with
  | .fz d => .ok d e
  | .own none ct => .ok ct.toD e
  | _ => .no
@[simp] theorem dFs_f {d : D} {e : Env} : dFs (.fz d) e = .ok d e := rfl
@[simp] theorem dFs_o {c : Ct} {e : Env} : dFs (.own none c) e = .ok c.toD e := rfl
@[simp] theorem wev_dF {f : Env → Res S} {e : Env}  {Q} : wpR (dF f e) Q = wpR ((f e).bind dFs) Q := rfl
@[simp] theorem toD_l {ds : List D} : (Ct.l ds).toD = .lst ds := rfl
@[simp] theorem toD_d {ds : List (Key × D)} : (Ct.d ds).toD = .dct ds := rfl
@[simp] theorem toD_o {c : Nat} {ds : List (Str × D)} : (Ct.o c ds).toD = .obj c ds := rfl
@[simp] theorem wev_2v {o : D → D → Option D} {fa fb : Env → Res D} {e : Env}  {Q} : wpR (d2v o fa fb e) Q = wpR ((fa e).bind fun x e => (fb e).bind fun y e => lift (o x.un y.un) e) Q := rfl
@[simp] theorem wev_2s {o : D → D → Option D} {i : Nat} {fb : Env → Res D} {e : Env}  {Q} : wpR (d2s o i fb e) Q = wpR ((lift (view e i) e).bind fun _ e => (fb e).bind fun y e => lift ((view e i).bind fun x => o x y.un) e) Q := rfl
@[simp] theorem wev_1v {o : D → Option D} {fa : Env → Res D} {e : Env}  {Q} : wpR (d1v o fa e) Q = wpR ((fa e).bind fun x e => lift (o x.un) e) Q := rfl
@[simp] theorem wev_1s {o : D → Option D} {i : Nat} {e : Env}  {Q} : wpR (d1s o i e) Q = wpR (lift ((view e i).bind o) e) Q := rfl
@[simp] theorem wev_b2v {o : D → D → Option Bool} {fa fb : Env → Res D} {e : Env}  {Q} : wpR (b2v o fa fb e) Q = wpR ((fa e).bind fun x e => (fb e).bind fun y e => lift (o x.un y.un) e) Q := rfl
@[simp] theorem wev_b2r {o : D → D → Option Bool} {i : Nat} {fa : Env → Res D} {e : Env}  {Q} : wpR (b2r o fa i e) Q = wpR ((fa e).bind fun x e => lift ((view e i).bind fun y => o x.un y) e) Q := rfl
@[simp] theorem wev_bTv {fa : Env → Res D} {e : Env}  {Q} : wpR (bTv fa e) Q = wpR ((fa e).bind fun x e => lift (truV x.un) e) Q := rfl
@[simp] theorem wev_bTs {i : Nat} {e : Env}  {Q} : wpR (bTs i e) Q = wpR (lift ((view e i).bind truV) e) Q := rfl
@[simp] theorem wev_bYes {e : Env}  {Q} : wpR (bYes e) Q = wpR (.ok true e) Q := rfl
@[simp] theorem wev_call {n : Nat} {den : Env → Res S} {ua : Env → Res (List Arg)} {e : Env}  {Q} : wpR (dCall n den ua e) Q = wpR ((ua e).bind fun as e => callN n den as e) Q := rfl
@[simp] theorem wev_aNil {e : Env}  {Q} : wpR (aNil e) Q = wpR (.ok [] e) Q := rfl
@[simp] theorem wev_aV {f : Env → Res D} {u : Env → Res (List Arg)} {e : Env}  {Q} : wpR (aV f u e) Q = wpR ((f e).bind fun x e => (u e).bind fun xs e => .ok (.v x :: xs) e) Q := rfl
@[simp] theorem wev_aS {i : Nat} {u : Env → Res (List Arg)} {e : Env}  {Q} : wpR (aS i u e) Q = wpR ((lift (view e i) e).bind fun _ e => (u e).bind fun xs e => .ok (.s i :: xs) e) Q := rfl
@[simp] theorem wev_osNil {e : Env}  {Q} : wpR (osNil e) Q = wpR (.ok [] e) Q := rfl
@[simp] theorem wev_osCons {f : Env → Res S} {u : Env → Res (List S)} {e : Env}  {Q} : wpR (osCons f u e) Q = wpR ((f e).bind fun x e => (u e).bind fun xs e => .ok (x :: xs) e) Q := rfl
@[simp] theorem wev_oDict {e : Env}  {Q} : wpR (oDict e) Q = wpR (.ok (.own none (.d [])) e) Q := rfl
@[simp] theorem wev_fld {c : Nat} {f : Str} {fa : Env → Res D} {e : Env}  {Q} : wpR (dFld c f fa e) Q = wpR ((fa e).bind fun x e => lift (fldD c f x.un) e) Q := rfl
@[simp] theorem wev_fldS {c i : Nat} {f : Str} {e : Env}  {Q} : wpR (dFldS c f i e) Q = wpR (lift ((view e i).bind (fldD c f)) e) Q := rfl
@[simp] theorem wev_sl {fa : Env → Res D} {fl fh : Env → Res (Option Int)} {e : Env}  {Q} : wpR (dSl fa fl fh e) Q = wpR ((fa e).bind fun x e => (fl e).bind fun lo e => (fh e).bind fun hi e => lift (slD x.un lo hi) e) Q := rfl
@[simp] theorem wev_slS {i : Nat} {fl fh : Env → Res (Option Int)} {e : Env}  {Q} : wpR (dSlS i fl fh e) Q = wpR ((lift (view e i) e).bind fun _ e => (fl e).bind fun lo e => (fh e).bind fun hi e => lift ((view e i).bind fun x => slD x lo hi) e) Q := rfl
@[simp] theorem wev_pNo {e : Env}  {Q} : wpR (pNo e) Q = wpR (.ok none e) Q := rfl
@[simp] theorem wev_pSome {f : Env → Res D} {e : Env}  {Q} : wpR (pSome f e) Q = wpR ((f e).bind fun d e => lift ((intD d).map some) e) Q := rfl
@[simp] theorem wev_items {fa : Env → Res D} {e : Env}  {Q} : wpR (lItems fa e) Q = wpR ((fa e).bind fun d e => lift (itD d.un) e) Q := rfl
@[simp] theorem wev_lArgs {o : List D → Option (List D)} {fl : Env → Res (List D)} {e : Env}  {Q} : wpR (lArgs o fl e) Q = wpR ((fl e).bind fun ds e => lift (o ds) e) Q := rfl
@[simp] theorem wev_mut {o : List D → List D → Option (D × List D)} {i : Nat} {fl : Env → Res (List D)} {e : Env}  {Q} : wpR (dMut o i fl e) Q = wpR ((lift (ownL e i) e).bind fun _ e => (fl e).bind fun as e => (lift (ownL e i) e).bind fun p e => (lift (o p.2 as) e).bind fun r e => .ok r.1 (e.set i (.own p.1 (.l r.2)))) Q := rfl
@[simp] theorem wp_V {i : Nat} {e : Env} {Q : D → Env → Prop} : wpR (dV i e) Q = wpS e[i]? (fun d => .ok d e) (fun _ c => .ok c.toD (e.set i (.fz c.toD))) Q := by
  unfold dV wpS
  cases e[i]? with
  | none => exact wpR_no
  | some s => cases s <;> first | rfl | exact wpR_no
@[simp] theorem wp_oV {i : Nat} {e : Env} {Q : S → Env → Prop} : wpR (oV i e) Q = wpS e[i]? (fun d => .ok (.fz d) e) (fun _ c => .ok (.own none c) (e.set i .no)) Q := by
  unfold oV wpS
  cases e[i]? with
  | none => exact wpR_no
  | some s => cases s <;> first | rfl | exact wpR_no
@[simp] theorem ev_view {i : Nat} {e : Env} : view e i = vwS e[i]? := by
  unfold view vwS
  cases e[i]? with
  | none => rfl
  | some s => cases s <;> rfl
@[simp] theorem ev_ownL {i : Nat} {e : Env} : ownL e i = owL e[i]? := rfl
@[simp] theorem ev_ownC {i : Nat} {e : Env} : ownC e i = owC e[i]? := by
  unfold ownC owC
  cases e[i]? with
  | none => rfl
  | some s => cases s <;> rfl
@[simp] theorem ev_ownO {k i : Nat} {e : Env} : ownO k e i = owO k e[i]? := rfl
@[simp] theorem un_int {i : Int} : (D.int i).un = .int i := rfl
@[simp] theorem un_bl {i : Bool} : (D.bl i).un = .bl i := rfl
@[simp] theorem un_str {i : Str} : (D.str i).un = .str i := rfl
@[simp] theorem un_lst {i : List D} : (D.lst i).un = .lst i := rfl
@[simp] theorem un_tup {i : List D} : (D.tup i).un = .tup i := rfl
@[simp] theorem un_non : D.non.un = .non := rfl
@[simp] theorem un_scr {i : List Int} : (D.scr i).un = .scr i := rfl
@[simp] theorem un_dct {i : List (Key × D)} : (D.dct i).un = .dct i := rfl
@[simp] theorem un_obj {c : Nat} {i : List (Str × D)} : (D.obj c i).un = .obj c i := rfl
@[simp] theorem intD_i {i : Int} : intD (.int i) = some i := rfl
@[simp] theorem add_i {i j : Int} : addD (.int i) (.int j) = some (.int (i + j)) := rfl
@[simp] theorem add_s {i j : Str} : addD (.str i) (.str j) = if i.length + j.length ≤ 1000000 then some (.str (i ++ j)) else none := rfl
@[simp] theorem sub_i {i j : Int} : subD (.int i) (.int j) = some (.int (i - j)) := rfl
@[simp] theorem mul_i {i j : Int} : mulD (.int i) (.int j) = if (-(2 ^ 64) < i ∧ i < 2 ^ 64) ∨ (-(2 ^ 64) < j ∧ j < 2 ^ 64) then some (.int (i * j)) else none := rfl
@[simp] theorem fdiv_i {i j : Int} : fdivD (.int i) (.int j) = if 0 < j ∧ j < 2 ^ 62 then some (.int (i / j)) else none := rfl
@[simp] theorem mod_i {i j : Int} : modD (.int i) (.int j) = if 0 < j then some (.int (i % j)) else none := rfl
@[simp] theorem pow_i {i j : Int} : powD (.int i) (.int j) = if 0 ≤ j ∧ j ≤ 1000 ∧ i.natAbs < 2 ^ 64 then some (.int (i ^ j.toNat)) else none := rfl
@[simp] theorem neg_i {i : Int} : negD (.int i) = some (.int (-i)) := rfl
@[simp] theorem lt_i {i j : Int} : ltD (.int i) (.int j) = some (decide (i < j)) := rfl
@[simp] theorem le_i {i j : Int} : leD (.int i) (.int j) = some (decide (i ≤ j)) := rfl
@[simp] theorem gt_i {i j : Int} : gtD (.int i) (.int j) = some (decide (j < i)) := rfl
@[simp] theorem ge_i {i j : Int} : geD (.int i) (.int j) = some (decide (j ≤ i)) := rfl
@[simp] theorem toInt_i {i : Int} : toIntD (.int i) = some (.int i) := rfl
@[simp] theorem len_l {ds : List D} : lenD (.lst ds) = some (.int ds.length) := rfl
@[simp] theorem len_t {ds : List D} : lenD (.tup ds) = some (.int ds.length) := rfl
@[simp] theorem len_s {ds : List Int} : lenD (.scr ds) = some (.int ds.length) := rfl
@[simp] theorem len_d {ds : List (Key × D)} : lenD (.dct ds) = some (.int ds.length) := rfl
@[simp] theorem max_i {i j : Int} : max2D (.int i) (.int j) = some (.int (if j > i then j else i)) := rfl
@[simp] theorem min_i {i j : Int} : min2D (.int i) (.int j) = some (.int (if j < i then j else i)) := rfl
@[simp] theorem gtN_e {i : Nat} {d : D} {e : Env} : gtN i d e = some (e.set i (.fz d)) := rfl
@[simp] theorem gtNil_e {e : Env} : gtNil [] e = some e := rfl
@[simp] theorem gtCons_e {f : D → Env → Option Env} {u : List D → Env → Option Env} {d : D} {r : List D} {e : Env} : gtCons f u (d :: r) e = (f d e).bind fun e => u r e := rfl
@[simp] theorem gtTup_e {n : Nat} {u : List D → Env → Option Env} {d : D} {e : Env} : gtTup n u d e = (unpD n d).bind fun ds => u ds e := rfl
@[simp] theorem unp_t {n : Nat} {xs : List D} : unpD n (.tup xs) = if xs.length = n then some xs else none := rfl
@[simp] theorem unp_l {n : Nat} {xs : List D} : unpD n (.lst xs) = if xs.length = n then some xs else none := rfl
end DV

set_option Elab.async false
set_option linter.all false
set_option autoImplicit false
set_option maxRecDepth 100000
set_option maxHeartbeats 4000000
namespace DV
open PySem L2
/-! P1: calls. -/
@[simp] theorem wp_denF {n tot : Nat} {body : Env → Res Fl} {env : Env} {Q : S → Env → Prop} : wpR (denF n tot body env) Q = wpR (body (env ++ List.replicate (tot - n) .no)) (fun f e => match f with | .nx => Q (.fz .non) (outs n e) | .rt s => Q s (outs n e) | _ => False) := by
  unfold denF
  cases body (env ++ List.replicate (tot - n) .no) with
  | ok f e =>
    rw [wpR_ok]
    cases f with
    | nx => exact wpR_ok
    | rt s => exact wpR_ok
    | bk => exact wpR_no
    | ct => exact wpR_no
  | ex x e => rw [wpR_ex]; exact wpR_ex.symm
  | no => rw [wpR_no]; exact wpR_no.symm
/-- a result that is no argument handed back -/
def freeS : S → Prop
  | .own (some _) _ => False
  | _ => True
@[simp] theorem freeS_f {d : D} : freeS (.fz d) = True := rfl
@[simp] theorem freeS_o {c : Ct} : freeS (.own none c) = True := rfl
theorem wp_callN {n : Nat} {den : Env → Res S} {as : List Arg} {e : Env} {Q : S → Env → Prop} (hn : as.length = n) (ho : once e as = true) (h : wpR (den (calleeE e as)) fun s outs => freeS s ∧ Q s (backE e as outs)) : wpR (callN n den as e) Q := by
  unfold callN callD
  rw [if_pos hn, if_pos ho]
  obtain ⟨s, o, e1, hf, q⟩ := h.out
  rw [e1]
  cases s with
  | no => exact ⟨_, _, rfl, q⟩
  | fz d => exact ⟨_, _, rfl, q⟩
  | own og c =>
    cases og with
    | none => exact ⟨_, _, rfl, q⟩
    | some k => exact hf.elim
/-- the data of frozen arguments -/
def argF (e : Env) : Arg → Option D
  | .v d => some d
  | .s i => match e[i]? with
    | some (.fz d) => some d
    | _ => none
def argsF (e : Env) : List Arg → Option (List D)
  | [] => some []
  | a :: as => match argF e a, argsF e as with
    | some d, some ds => some (d :: ds)
    | _, _ => none
theorem argF_own {e : Env} {a : Arg} {d : D} (h : argF e a = some d) (i : Nat) : ownAt e i a = false := by
  cases a with
  | v d => rfl
  | s k =>
    simp only [argF] at h
    simp only [ownAt]
    by_cases hk : k = i
    · subst hk
      cases q : e[k]? with
      | none => simp
      | some s =>
        rw [q] at h
        cases s with
        | no => simp
        | fz d => simp
        | own og c => cases h
    · simp [hk]
theorem argF_callee {e : Env} {a : Arg} {d : D} (h : argF e a = some d) (j : Nat) : calleeS e j a = .fz d := by
  cases a with
  | v d' => cases h; rfl
  | s k =>
    simp only [argF] at h
    simp only [calleeS]
    cases q : e[k]? with
    | none => rw [q] at h; cases h
    | some s =>
      rw [q] at h
      cases s with
      | no => cases h
      | fz d => cases h; rfl
      | own og c => cases h
theorem argsF_mem {e : Env} : ∀ {as : List Arg} {ds : List D}, argsF e as = some ds → (∀ i a, a ∈ as → ownAt e i a = false) ∧ as.length = ds.length ∧ ∀ j, (as.mapIdx fun k a => calleeS e (k + j) a) = ds.map .fz
  | [], _, h => by cases h; exact ⟨fun i a z => by simp at z, rfl, fun j => by simp⟩
  | a :: as, _, h => by
    simp only [argsF] at h
    cases e1 : argF e a with
    | none => rw [e1] at h; cases h
    | some d =>
      cases e2 : argsF e as with
      | none => rw [e1, e2] at h; cases h
      | some ds =>
        rw [e1, e2] at h; cases h
        obtain ⟨h1, h2, h3⟩ := argsF_mem e2
        refine ⟨fun i b z => ?_, by simp [h2], fun j => ?_⟩
        · rcases List.mem_cons.mp z with rfl | z
          · exact argF_own e1 i
          · exact h1 i b z
        · rw [List.mapIdx_cons, List.map_cons, argF_callee e1]
          have := h3 (j + 1)
          rw [← this]
          congr 1
          apply List.ext_getElem?
          intro k
          rw [List.getElem?_mapIdx, List.getElem?_mapIdx]
          rw [show k + 1 + j = k + (j + 1) by omega]
theorem filter_no {e : Env} {as : List Arg} (h : ∀ i a, a ∈ as → ownAt e i a = false) (i : Nat) : as.filter (ownAt e i) = [] := by
  rw [List.filter_eq_nil_iff]
  intro a ha
  rw [h i a ha]; simp
/-- all arguments are frozen -/
theorem wp_callF {n : Nat} {den : Env → Res S} {as : List Arg} {e : Env} {ds : List D} {Q : S → Env → Prop} (ha : argsF e as = some ds) (hn : ds.length = n) (h : wpR (den (ds.map .fz)) fun s _ => freeS s ∧ Q s e) : wpR (callN n den as e) Q := by
  obtain ⟨h1, h2, h3⟩ := argsF_mem ha
  refine wp_callN (h2.trans hn) ?_ ?_
  · unfold once
    rw [List.all_eq_true]
    intro i _
    rw [filter_no h1]; decide
  · have e1 : calleeE e as = ds.map .fz := by
      have := h3 0
      simpa [calleeE] using this
    rw [e1]
    refine h.mono fun s o ⟨hf, q⟩ => ⟨hf, ?_⟩
    have e2 : backE e as o = e := by
      unfold backE
      apply List.ext_getElem?
      intro i
      rw [List.getElem?_mapIdx]
      cases q : e[i]? with
      | none => rfl
      | some s =>
        simp only [Option.map_some]
        congr 1
        cases s with
        | no => rfl
        | fz d => rfl
        | own og c =>
          simp only [backS]
          have : as.findIdx? (ownAt e i) = none := by
            rw [List.findIdx?_eq_none_iff]
            intro a ha
            exact h1 i a ha
          rw [this]
    rw [e2]; exact q
/-- the first argument is an owned object, the others are frozen -/
theorem wp_callO {n i : Nat} {den : Env → Res S} {as : List Arg} {e : Env} {og : Option Nat} {ct : Ct} {ds : List D} {Q : S → Env → Prop} (he : e[i]? = some (.own og ct)) (ha : argsF e as = some ds) (hn : ds.length + 1 = n)
    (h : wpR (den (.own (some 0) ct :: ds.map .fz)) fun s o => freeS s ∧ ∃ ct', o[0]? = some (.own (some 0) ct') ∧ Q s (e.set i (.own og ct'))) : wpR (callN n den (.s i :: as) e) Q := by
  obtain ⟨h1, h2, h3⟩ := argsF_mem ha
  have o0 : ∀ j, ownAt e j (.s i) = decide (i = j) := fun j => by
    simp only [ownAt]
    by_cases hj : i = j
    · subst hj; rw [he]; simp
    · simp [hj]
  refine wp_callN (by rw [List.length_cons, h2, hn]) ?_ ?_
  · unfold once
    rw [List.all_eq_true]
    intro j _
    rw [List.filter_cons, filter_no h1]
    split <;> simp
  · have e1 : calleeE e (.s i :: as) = .own (some 0) ct :: ds.map .fz := by
      have := h3 1
      unfold calleeE
      rw [List.mapIdx_cons, this]
      simp [calleeS, he]
    rw [e1]
    refine h.mono fun s o ⟨hf, ct', ho, q⟩ => ⟨hf, ?_⟩
    have e2 : backE e (.s i :: as) o = e.set i (.own og ct') := by
      unfold backE
      apply List.ext_getElem?
      intro j
      rw [List.getElem?_mapIdx]
      by_cases hj : i = j
      · subst hj
        have hi := (List.getElem?_eq_some_iff.mp he).1
        rw [he, List.getElem?_set_self hi]
        simp only [Option.map_some, backS]
        have : (Arg.s i :: as).findIdx? (ownAt e i) = some 0 := by
          rw [List.findIdx?_cons, o0]; simp
        rw [this]
        simp [ho]
      · rw [List.getElem?_set_ne hj]
        cases q : e[j]? with
        | none => rfl
        | some s =>
          simp only [Option.map_some]
          congr 1
          cases s with
          | no => rfl
          | fz d => rfl
          | own og c =>
            simp only [backS]
            have : (Arg.s i :: as).findIdx? (ownAt e j) = none := by
              rw [List.findIdx?_eq_none_iff]
              intro a ha
              rcases List.mem_cons.mp ha with rfl | ha
              · rw [o0]; simp [hj]
              · exact h1 j a ha
            rw [this]
    rw [e2]; exact q
@[simp] theorem ix_l {ds : List D} {i : Int} : ixD (.lst ds) (.int i) = atI ds i := rfl
@[simp] theorem ix_t {ds : List D} {i : Int} : ixD (.tup ds) (.int i) = atI ds i := rfl
@[simp] theorem setC_l {ds : List D} {i : Int} {v : D} : setC (.l ds) (.int i) v = (ixN ds.length i).map fun j => .l (ds.set j v) := rfl
@[simp] theorem outs_get0 {n : Nat} {e : Env} {c : Ct} (h : e[0]? = some (.own (some 0) c)) (hn : 0 < n) : (outs n e)[0]? = some (.own (some 0) c) := by
  unfold outs
  rw [List.getElem?_map, List.getElem?_range hn]
  simp [List.getD_eq_getElem?_getD, h, outS]
@[simp] theorem argsF_nil {e : Env} : argsF e [] = some [] := rfl

/-- two owned objects are handed -/
theorem wp_callOO {i j : Nat} {den : Env → Res S} {e : Env} {og og' : Option Nat} {ct cu : Ct} {Q : S → Env → Prop} (he : e[i]? = some (.own og ct)) (he' : e[j]? = some (.own og' cu)) (hij : i ≠ j)
    (h : wpR (den [.own (some 0) ct, .own (some 1) cu]) fun s o => freeS s ∧ ∃ ct' cu', o[0]? = some (.own (some 0) ct') ∧ o[1]? = some (.own (some 1) cu') ∧ Q s ((e.set i (.own og ct')).set j (.own og' cu'))) : wpR (callN 2 den [.s i, .s j] e) Q := by
  have o0 : ∀ k, ownAt e k (.s i) = decide (i = k) := fun k => by
    simp only [ownAt]
    by_cases hj : i = k
    · subst hj; rw [he]; simp
    · simp [hj]
  have o1 : ∀ k, ownAt e k (.s j) = decide (j = k) := fun k => by
    simp only [ownAt]
    by_cases hj : j = k
    · subst hj; rw [he']; simp
    · simp [hj]
  refine wp_callN rfl ?_ ?_
  · unfold once
    rw [List.all_eq_true]
    intro k _
    rw [List.filter_cons, List.filter_cons, o0, o1]
    by_cases h1 : i = k
    · subst h1
      simp [Ne.symm hij]
    · by_cases h2 : j = k <;> simp [h1, h2]
  · have e1 : calleeE e [.s i, .s j] = [.own (some 0) ct, .own (some 1) cu] := by
      simp [calleeE, calleeS, he, he']
    rw [e1]
    refine h.mono fun s o ⟨hf, ct', cu', ho, ho', q⟩ => ⟨hf, ?_⟩
    have e2 : backE e [.s i, .s j] o = (e.set i (.own og ct')).set j (.own og' cu') := by
      unfold backE
      apply List.ext_getElem?
      intro k
      rw [List.getElem?_mapIdx]
      have hi := (List.getElem?_eq_some_iff.mp he).1
      have hj := (List.getElem?_eq_some_iff.mp he').1
      by_cases h2 : j = k
      · subst h2
        rw [he', List.getElem?_set_self (by simpa using hj)]
        simp only [Option.map_some, backS]
        have : [Arg.s i, Arg.s j].findIdx? (ownAt e j) = some 1 := by
          simp [List.findIdx?_cons, o0, o1, hij]
        rw [this]
        simp [ho']
      · rw [List.getElem?_set_ne h2]
        by_cases h1 : i = k
        · subst h1
          rw [he, List.getElem?_set_self hi]
          simp only [Option.map_some, backS]
          have : [Arg.s i, Arg.s j].findIdx? (ownAt e i) = some 0 := by
            simp [List.findIdx?_cons, o0]
          rw [this]
          simp [ho]
        · rw [List.getElem?_set_ne h1]
          cases q : e[k]? with
          | none => rfl
          | some s =>
            simp only [Option.map_some]
            congr 1
            cases s with
            | no => rfl
            | fz d => rfl
            | own og c =>
              simp only [backS]
              have : [Arg.s i, Arg.s j].findIdx? (ownAt e k) = none := by
                simp [List.findIdx?_cons, o0, o1, h1, h2]
              rw [this]
    rw [e2]; exact q

/-! ### loops -/
/-- what a turn must reach -/
def tnQ (N : Env → Prop) (Q : Fl → Env → Prop) : Fl → Env → Prop := fun f e => match f with
  | .nx => N e
  | .ct => N e
  | .bk => Q .nx e
  | .rt s => Q (.rt s) e
@[simp] theorem tnQ_nx {N : Env → Prop} {Q : Fl → Env → Prop} {e : Env} : tnQ N Q .nx e = N e := rfl
@[simp] theorem tnQ_ct {N : Env → Prop} {Q : Fl → Env → Prop} {e : Env} : tnQ N Q .ct e = N e := rfl
@[simp] theorem tnQ_bk {N : Env → Prop} {Q : Fl → Env → Prop} {e : Env} : tnQ N Q .bk e = Q .nx e := rfl
@[simp] theorem tnQ_rt {N : Env → Prop} {Q : Fl → Env → Prop} {s : S} {e : Env} : tnQ N Q (.rt s) e = Q (.rt s) e := rfl
theorem wp_turn {r : Res Fl} {k : Env → Res Fl} {N : Env → Prop} {Q : Fl → Env → Prop} (h : wpR r (tnQ N Q)) (hk : ∀ e, N e → wpR (k e) Q) : wpR (turnS r k) Q := by
  obtain ⟨f, e, rfl, q⟩ := h.out
  cases f with
  | nx => exact hk e q
  | ct => exact hk e q
  | bk => exact ⟨_, _, rfl, q⟩
  | rt s => exact ⟨_, _, rfl, q⟩
theorem wp_fo {gt : D → Env → Option Env} {fb : Env → Res Fl} {Q : Fl → Env → Prop} (I : Nat → Env → Prop) : ∀ (ds : List D) (j : Nat) {e : Env}, I j e →
    (∀ k d e, ds[k]? = some d → I (j + k) e → ∃ e', gt d e = some e' ∧ wpR (fb e') (tnQ (I (j + k + 1)) Q)) → (∀ e, I (j + ds.length) e → Q .nx e) → wpR (foD gt fb ds e) Q
  | [], j, e, h0, _, hd => ⟨_, _, rfl, hd e h0⟩
  | d :: ds, j, e, h0, hs, hd => by
    obtain ⟨e', hg, hb⟩ := hs 0 d e rfl h0
    show wpR (match gt d e with | none => .no | some e => turnS (fb e) fun e => foD gt fb ds e) Q
    rw [hg]
    refine wp_turn hb fun e2 h2 => wp_fo I ds (j + 1) h2 (fun k d2 e3 hk h3 => ?_) fun e3 h3 => hd e3 (by rw [List.length_cons, show j + (ds.length + 1) = j + 1 + ds.length by omega]; exact h3)
    obtain ⟨e4, g4, b4⟩ := hs (k + 1) d2 e3 (by simpa using hk) (by rw [show j + (k + 1) = j + 1 + k by omega]; exact h3)
    exact ⟨e4, g4, by rw [show j + 1 + k + 1 = j + (k + 1) + 1 by omega]; exact b4⟩
theorem wp_for {gt : D → Env → Option Env} {fb : Env → Res Fl} {Q : Fl → Env → Prop} (I : Nat → Env → Prop) {ds : List D} {e : Env} (h0 : I 0 e)
    (hs : ∀ k d e, ds[k]? = some d → I k e → ∃ e', gt d e = some e' ∧ wpR (fb e') (tnQ (I (k + 1)) Q)) (hd : ∀ e, I ds.length e → Q .nx e) : wpR (foD gt fb ds e) Q :=
  wp_fo I ds 0 h0 (fun k d e hk h => by have := hs k d e hk (by simpa using h); simpa using this) (fun e h => hd e (by simpa using h))
theorem wp_wh {ft : Env → Res Bool} {fb : Env → Res Fl} {Q : Fl → Env → Prop} (I : Nat → Env → Prop) (hs : ∀ m e, I m e → wpR (ft e) fun b e => if b = true then ∃ m', m = m' + 1 ∧ wpR (fb e) (tnQ (fun e => ∃ j, j ≤ m' ∧ I j e) Q) else Q .nx e) :
    ∀ (n m : Nat) {e : Env}, m < n → I m e → wpR (whD ft fb n e) Q
  | 0, m, e, h, _ => by omega
  | n + 1, m, e, h, i => by
    show wpR ((ft e).bind fun k e => if k = true then turnS (fb e) fun e => whD ft fb n e else .ok .nx e) Q
    rw [wpR_bind]
    refine (hs m e i).mono fun b e2 q => ?_
    show wpR (if b = true then _ else _) Q
    cases b with
    | true =>
      rw [if_pos rfl] at q ⊢
      obtain ⟨m', rfl, q⟩ := q
      exact wp_turn q fun e3 ⟨j, hj, ij⟩ => wp_wh I hs n j (by omega) ij
    | false =>
      rw [if_neg Bool.false_ne_true] at q ⊢
      exact ⟨_, _, rfl, q⟩
theorem wp_while {ft : Env → Res Bool} {fb : Env → Res Fl} {Q : Fl → Env → Prop} {n : Nat} {e : Env} (I : Nat → Env → Prop) (m : Nat) (hm : m < n) (h0 : I m e) (hs : ∀ m e, I m e → wpR (ft e) fun b e => if b = true then ∃ m', m = m' + 1 ∧ wpR (fb e) (tnQ (fun e => ∃ j, j ≤ m' ∧ I j e) Q) else Q .nx e) :
    wpR (sWhile n ft fb e) Q := wp_wh I hs n m hm h0
/-- a list comprehension -/
theorem lc_run {vs : List Nat} {gt : D → Env → Option Env} {ft : Env → Res Bool} {fe : Env → Res D} (I : Nat → Env → List D → Prop) {P : List D → Env → Prop} : ∀ (ds : List D) (j : Nat) {e : Env} {acc : List D}, I j e acc →
    (∀ k d e acc, ds[k]? = some d → I (j + k) e acc → ∃ e', gt d e = some e' ∧ wpR (ft e') fun b e2 => if b = true then wpR (fe e2) fun y e3 => acc.length < 1000000 ∧ I (j + k + 1) (wipeE e3 vs) (acc ++ [y]) else I (j + k + 1) (wipeE e2 vs) acc) →
    (∀ e acc, I (j + ds.length) e acc → P acc e) → ∃ acc' e', lcD vs gt ft fe ds e acc = some (acc', e') ∧ P acc' e'
  | [], j, e, acc, h0, _, hd => ⟨acc, e, rfl, hd e acc h0⟩
  | d :: ds, j, e, acc, h0, hs, hd => by
    obtain ⟨e', hg, hb⟩ := hs 0 d e acc rfl h0
    obtain ⟨b, e2, hft, hb⟩ := hb.out
    unfold lcD
    rw [hg]
    simp only
    rw [hft]
    have nxt : ∀ {e3 : Env} {acc3 : List D}, I (j + 0 + 1) e3 acc3 → ∃ acc' e', lcD vs gt ft fe ds e3 acc3 = some (acc', e') ∧ P acc' e' := fun {e3 acc3} h3 => by
      refine lc_run I ds (j + 1) (by simpa using h3) (fun k d2 e4 acc4 hk h4 => ?_) fun e4 acc4 h4 => hd e4 acc4 (by rw [List.length_cons, show j + (ds.length + 1) = j + 1 + ds.length by omega]; exact h4)
      obtain ⟨e5, g5, b5⟩ := hs (k + 1) d2 e4 acc4 (by simpa using hk) (by rw [show j + (k + 1) = j + 1 + k by omega]; exact h4)
      exact ⟨e5, g5, by rw [show j + 1 + k + 1 = j + (k + 1) + 1 by omega]; exact b5⟩
    cases b with
    | true =>
      rw [if_pos rfl] at hb
      obtain ⟨y, e3, hfe, hl, hi⟩ := hb.out
      simp only
      rw [hfe]
      simp only
      rw [if_pos hl]
      exact nxt hi
    | false =>
      rw [if_neg Bool.false_ne_true] at hb
      exact nxt hb
theorem wp_lc {vs : List Nat} {fi : Env → Res (List D)} {gt : D → Env → Option Env} {ft : Env → Res Bool} {fe : Env → Res D} {e : Env} {Q : S → Env → Prop} (h : wpR (fi e) fun ds e1 => ∃ I : Nat → Env → List D → Prop, I 0 (wipeE e1 vs) [] ∧
    (∀ k d e acc, ds[k]? = some d → I k e acc → ∃ e', gt d e = some e' ∧ wpR (ft e') fun b e2 => if b = true then wpR (fe e2) fun y e3 => acc.length < 1000000 ∧ I (k + 1) (wipeE e3 vs) (acc ++ [y]) else I (k + 1) (wipeE e2 vs) acc) ∧
    ∀ e acc, I ds.length e acc → Q (.own none (.l acc)) e) : wpR (oLc vs fi gt ft fe e) Q := by
  obtain ⟨ds, e1, hfi, I, h0, hs, hd⟩ := h.out
  unfold oLc
  rw [hfi]
  obtain ⟨acc, e2, h1, h2⟩ := lc_run (P := fun acc e => Q (.own none (.l acc)) e) I ds 0 h0 (fun k d e acc hk h => by have := hs k d e acc hk (by simpa using h); simpa using this) (fun e acc h => hd e acc (by simpa using h))
  show wpR (match lcD vs gt ft fe ds (wipeE e1 vs) [] with | some (acc, e) => .ok (.own none (.l acc)) e | none => .no) Q
  rw [h1]
  exact ⟨_, _, rfl, h2⟩
theorem wp_seqM (M : Env → Prop) {f u : Env → Res Fl} {e : Env} {Q : Fl → Env → Prop} (h : wpR (f e) fun fl e => fl = .nx ∧ M e) (k : ∀ e, M e → wpR (u e) Q) : wpR (sSeq f u e) Q := by
  rw [wp_seq]
  exact h.mono fun fl e ⟨h1, h2⟩ => by subst h1; exact k e h2
end DV

set_option Elab.async false
set_option linter.all false
set_option autoImplicit false
set_option maxRecDepth 100000
set_option maxHeartbeats 4000000
namespace DV
open PySem L2
/-! P2: the law's drawing. -/
/-- a spring, at most n drawn -/
def Spr (n : Nat) (ct : Ct) : Prop := ∃ a b c : Int, ct = .l [.int a, .int b, .int c] ∧ 0 ≤ a ∧ 0 ≤ b ∧ b < 2147483647 ∧ 0 ≤ c ∧ c ≤ n
theorem Spr.up {n m : Nat} {ct : Ct} (h : Spr n ct) (hm : n ≤ m) : Spr m ct := by
  obtain ⟨a, b, c, h1, h2, h3, h4, h5, h6⟩ := h
  exact ⟨a, b, c, h1, h2, h3, h4, h5, by omega⟩
theorem draw_den {n : Nat} {ct : Ct} (h : Spr n ct) (hn : n < 1000000000000) {m : Int} (hm : 0 < m) (hm2 : m < 4000000) :
    wpR (m_f__law_draw [.own (some 0) ct, .fz (.int m)]) fun s o => ∃ d : Int, s = .fz (.int d) ∧ 0 ≤ d ∧ d < m ∧ ∃ ct', o[0]? = some (.own (some 0) ct') ∧ Spr (n + 1) ct' := by
  obtain ⟨a, b, c, rfl, ha, hb, hb2, hc, hc2⟩ := h
  by_cases h0 : 0 < a
  · have h1 : m < 4611686018427387904 := by omega
    have h2 : 0 ≤ a % m := Int.emod_nonneg _ (by omega)
    have h3 : a % m < m := Int.emod_lt_of_pos _ hm
    simp [m_f__law_draw, b_f__law_draw, h0, hm, h1, h2, h3, atI, ixN]
    exact ⟨a / m, b, c, rfl, Int.ediv_nonneg ha (by omega), hb, hb2, hc, by omega⟩
  · have h1 : (b + 6364137 * (c + 1) + 1442695).natAbs < 18446744073709551616 := by omega
    have h4 : 0 ≤ (b + 6364137 * (c + 1) + 1442695) ^ 3 % 2147483647 := Int.emod_nonneg _ (by omega)
    have h5 : (b + 6364137 * (c + 1) + 1442695) ^ 3 % 2147483647 < 2147483647 := Int.emod_lt_of_pos _ (by omega)
    have h2 : ((b + 6364137 * (c + 1) + 1442695) ^ 3 % 2147483647 * 48271 + 11 * (c + 1)).natAbs < 18446744073709551616 := by omega
    simp [m_f__law_draw, b_f__law_draw, h0, hm, h1, h2, atI, ixN]
    exact ⟨Int.emod_nonneg _ (by omega), Int.emod_lt_of_pos _ hm, a, b, c + 1, rfl, ha, hb, hb2, by omega, by omega⟩
/-- at a call -/
theorem draw_wp {n i : Nat} {e : Env} {og : Option Nat} {ct : Ct} (he : e[i]? = some (.own og ct)) (h : Spr n ct) (hn : n < 1000000000000) {m : Int} (hm : 0 < m) (hm2 : m < 4000000) {Q : S → Env → Prop}
    (k : ∀ (d : Int) (ct' : Ct), 0 ≤ d → d < m → Spr (n + 1) ct' → Q (.fz (.int d)) (e.set i (.own og ct'))) : wpR (callN 2 m_f__law_draw [.s i, .v (.int m)] e) Q := by
  refine wp_callO he (ds := [.int m]) rfl rfl ((draw_den h hn hm hm2).mono fun s o ⟨d, hs, d0, d1, ct', ho, hsp⟩ => ?_)
  subst hs
  exact ⟨trivial, ct', ho, k d ct' d0 d1 hsp⟩
/-- a member is picked -/
theorem pick_den {n : Nat} {ct : Ct} (h : Spr n ct) (hn : n < 1000000000000) {ds : List D} (h0 : ds ≠ []) (hl : ds.length < 4000000) {s1 : S} (hs : s1 = .fz (.lst ds) ∨ s1 = .own (some 1) (.l ds)) :
    wpR (m_f__law_pick [.own (some 0) ct, s1]) fun s o => ∃ d, d ∈ ds ∧ s = .fz d ∧ o[1]? = some (outS 1 s1) ∧ ∃ ct', o[0]? = some (.own (some 0) ct') ∧ Spr (n + 1) ct' := by
  have hp : 0 < ds.length := List.length_pos_iff.mpr h0
  rcases hs with rfl | rfl
  all_goals
    simp [m_f__law_pick, b_f__law_pick]
    refine draw_wp rfl h hn (by omega) (by omega) fun d ct' d0 d1 hsp => ?_
    have hx : atI ds d = some (ds[d.toNat]'(by omega)) := by
      unfold atI ixN
      rw [if_pos d0, if_pos d1]
      exact List.getElem?_eq_getElem (by omega)
    simp [hx]
    exact ⟨_, List.getElem_mem _, rfl, rfl, hsp⟩
end DV

set_option Elab.async false
set_option linter.all false
set_option autoImplicit false
set_option maxRecDepth 100000
set_option maxHeartbeats 4000000
namespace DV
open PySem L2
/-! P3: names. -/
theorem pick_wp {n i : Nat} {e : Env} {og : Option Nat} {ct : Ct} (he : e[i]? = some (.own og ct)) (h : Spr n ct) (hn : n < 1000000000000) {ds : List D} (h0 : ds ≠ []) (hl : ds.length < 4000000) {Q : S → Env → Prop}
    (k : ∀ (d : D) (ct' : Ct), d ∈ ds → Spr (n + 1) ct' → Q (.fz d) (e.set i (.own og ct'))) : wpR (callN 2 m_f__law_pick [.s i, .v (.lst ds)] e) Q := by
  refine wp_callO he (ds := [.lst ds]) rfl rfl ((pick_den h hn h0 hl (.inl rfl)).mono fun s o ⟨d, hd, hs, _, ct', ho, hsp⟩ => ?_)
  subst hs
  exact ⟨trivial, ct', ho, k d ct' hd hsp⟩
theorem set_same {e : Env} {j : Nat} {s : S} (h : e[j]? = some s) : e.set j s = e := by
  apply List.ext_getElem?
  intro k
  by_cases hk : j = k
  · subst hk
    rw [List.getElem?_set_self (List.getElem?_eq_some_iff.mp h).1, h]
  · rw [List.getElem?_set_ne hk]
theorem pick_wpO {n i j : Nat} {e : Env} {og og' : Option Nat} {ct : Ct} {ds : List D} (he : e[i]? = some (.own og ct)) (he' : e[j]? = some (.own og' (.l ds))) (hij : i ≠ j) (h : Spr n ct) (hn : n < 1000000000000) (h0 : ds ≠ []) (hl : ds.length < 4000000) {Q : S → Env → Prop}
    (k : ∀ (d : D) (ct' : Ct), d ∈ ds → Spr (n + 1) ct' → Q (.fz d) (e.set i (.own og ct'))) : wpR (callN 2 m_f__law_pick [.s i, .s j] e) Q := by
  refine wp_callOO he he' hij ((pick_den h hn h0 hl (.inr rfl)).mono fun s o ⟨d, hd, hs, ho1, ct', ho, hsp⟩ => ?_)
  subst hs
  refine ⟨trivial, ct', .l ds, ho, ho1, ?_⟩
  rw [set_same (by rw [List.getElem?_set_ne hij]; exact he')]
  exact k d ct' hd hsp

/-! ### texts -/
def chs (x : Str) : List Nat := x.cps.toList
theorem chs_len (x : Str) : (chs x).length = x.length := by unfold chs; rw [Array.length_toList]; rfl
theorem chs_app (x y : Str) : chs (x ++ y) = chs x ++ chs y := by
  show (x.cps ++ y.cps).toList = _
  rw [Array.toList_append]; rfl
theorem chs_one (c : Nat) : chs ⟨#[c]⟩ = [c] := rfl
theorem chs_inj {x y : Str} (h : chs x = chs y) : x = y := by
  obtain ⟨a⟩ := x
  obtain ⟨b⟩ := y
  have : a = b := Array.toList_inj.mp h
  rw [this]
abbrev letters : Str := "abcdefghijklmnopqrstuvwxyz"
abbrev signs : Str := "abcdefghijklmnopqrstuvwxyz0123456789"
theorem let_sign : ∀ c ∈ chs letters, c ∈ chs signs := by decide +kernel
/-- a name of a ring -/
structure NameOk (x : Str) : Prop where
  hd : ∃ c r, chs x = c :: r ∧ c ∈ chs letters
  len : (chs x).length ≤ 8
  all : ∀ c ∈ chs x, c ∈ chs signs
abbrev oddN : Str := "qq9qq9q"
theorem odd_len : (chs oddN).length = 7 := by decide +kernel
theorem odd_last : (chs oddN).getLast? = some 113 := by decide +kernel
def NameOd (x : Str) : Prop := NameOk x ∧ chs x ≠ chs oddN
theorem str_app_len (x y : Str) : (x ++ y).length = x.length + y.length := by
  rw [← chs_len, ← chs_len, ← chs_len, chs_app, List.length_append]
@[simp] theorem ix_s {z : Str} {i : Int} : ixD (.str z) (.int i) = if z.length ≤ 1000000 then (atI (chs z) i).map fun c => .str ⟨#[c]⟩ else none := rfl
theorem at_in {α : Type} {xs : List α} {i : Int} (h0 : 0 ≤ i) (h1 : i < xs.length) : ∃ x, atI xs i = some x ∧ x ∈ xs := by
  refine ⟨xs[i.toNat]'(by omega), ?_, List.getElem_mem _⟩
  unfold atI ixN
  rw [if_pos h0, if_pos h1]
  exact List.getElem?_eq_getElem (by omega)
theorem signs_len : signs.length = 36 := by decide +kernel
theorem letters_len : letters.length = 26 := by decide +kernel
@[simp] theorem range1_i {i : Int} : range1D [.int i] = if i62 i = true then some (rangeD 0 i.toNat) else none := rfl
theorem rangeD_len {lo : Int} {n : Nat} : (rangeD lo n).length = n := by unfold rangeD; rw [List.length_map, List.length_range]
theorem rangeD_at {lo : Int} {n k : Nat} {d : D} (h : (rangeD lo n)[k]? = some d) : d = .int (lo + k) ∧ k < n := by
  unfold rangeD at h
  have hk : k < n := by
    have := (List.getElem?_eq_some_iff.mp h).1
    simpa using this
  rw [List.getElem?_map, List.getElem?_range hk] at h
  exact ⟨(Option.some.inj h).symm, hk⟩
def WnI (n k : Nat) (e : Env) : Prop := ∃ ct x s, e = [.own (some 0) ct, .fz (.str signs), .fz (.str x), s] ∧ Spr (n + 2 + k) ct ∧ (chs x).length = 1 + k ∧ (∃ c r, chs x = c :: r ∧ c ∈ chs letters) ∧ ∀ c ∈ chs x, c ∈ chs signs
theorem wname_den {n : Nat} {ct : Ct} (h : Spr n ct) (hn : n < 900000000000) {Q : S → Env → Prop} (kq : ∀ (x : Str) (o : Env) (ct' : Ct), NameOd x → o[0]? = some (.own (some 0) ct') → Spr (n + 10) ct' → Q (.fz (.str x)) o) : wpR (m_f__law_w_name [.own (some 0) ct]) Q := by
  simp [m_f__law_w_name, b_f__law_w_name]
  refine draw_wp rfl h (by omega) (by decide) (by decide) fun d ct1 d0 d1 h1 => ?_
  obtain ⟨c, hc, hcm⟩ := at_in (xs := chs signs) (i := d) d0 (by rw [chs_len, signs_len]; omega)
  have hcl : c ∈ chs letters := by
    have e26 : (chs signs).take 26 = chs letters := by decide +kernel
    unfold atI ixN at hc
    rw [if_pos d0, if_pos (by rw [chs_len, signs_len]; omega)] at hc
    have hc' : (chs signs)[d.toNat]? = some c := hc
    have : ((chs signs).take 26)[d.toNat]? = some c := by rw [List.getElem?_take_of_lt (by omega)]; exact hc'
    rw [e26] at this
    exact List.mem_of_getElem? this
  have hs : signs.length ≤ 1000000 := by rw [signs_len]; decide
  simp [hs, hc]
  refine pick_wp rfl h1 (by omega) (by simp) (by decide) fun d ct2 hd h2 => ?_
  obtain ⟨m, rfl, m0, m7, m6⟩ : ∃ m : Int, d = .int m ∧ 0 ≤ m ∧ m ≤ 7 ∧ m ≠ 6 := by
    simp at hd
    rcases hd with rfl | rfl | rfl | rfl | rfl <;> exact ⟨_, rfl, by decide, by decide, by decide⟩
  have hi : i62 m = true := decide_eq_true ⟨by omega, by omega⟩
  simp [hi]
  refine wp_for (WnI n) ⟨ct2, _, _, rfl, h2, rfl, ⟨c, [], rfl, hcl⟩, fun c' hc' => by rw [chs_one] at hc'; rw [List.mem_singleton.mp hc']; exact hcm⟩ ?_ ?_
  · rintro k d e hk ⟨ct, x, s, rfl, hsp, hl, ⟨c0, r0, hx, hc0⟩, hall⟩
    obtain ⟨rfl, hkm⟩ := rangeD_at hk
    refine ⟨_, rfl, ?_⟩
    simp
    refine draw_wp rfl hsp (by omega) (by decide) (by decide) fun d ct3 d0 d1 h3 => ?_
    obtain ⟨c3, hc3, hcm3⟩ := at_in (xs := chs signs) (i := d) d0 (by rw [chs_len, signs_len]; omega)
    have hx1 : x.length + Str.length ⟨#[c3]⟩ ≤ 1000000 := by
      rw [← chs_len, ← chs_len, hl, chs_one]; simp; omega
    simp [hs, hc3, hx1]
    refine ⟨ct3, _, _, rfl, h3.up (by omega), ?_, ⟨c0, r0 ++ [c3], by rw [chs_app, hx, chs_one]; rfl, hc0⟩, fun c' hc' => ?_⟩
    · rw [chs_app, List.length_append, hl, chs_one]; simp; omega
    · rw [chs_app, chs_one] at hc'
      rcases List.mem_append.mp hc' with z | z
      · exact hall c' z
      · rw [List.mem_singleton.mp z]; exact hcm3
  · rintro e ⟨ct, x, s, rfl, hsp, hl, hhd, hall⟩
    rw [rangeD_len] at hsp hl
    simp
    exact kq x _ ct ⟨⟨hhd, by omega, hall⟩, fun z => by have := congrArg List.length z; rw [odd_len, hl] at this; omega⟩ (outs_get0 rfl (by decide)) (hsp.up (by omega))
theorem wname_wp {n i : Nat} {e : Env} {og : Option Nat} {ct : Ct} (he : e[i]? = some (.own og ct)) (h : Spr n ct) (hn : n < 900000000000) {Q : S → Env → Prop}
    (k : ∀ (x : Str) (ct' : Ct), NameOd x → Spr (n + 10) ct' → Q (.fz (.str x)) (e.set i (.own og ct'))) : wpR (callN 1 m_f__law_w_name [.s i] e) Q := by
  exact wp_callO he (as := []) (ds := []) rfl rfl (wname_den h hn fun x o ct' hx ho hsp => ⟨trivial, ct', ho, k x ct' hx hsp⟩)
end DV

set_option Elab.async false
set_option linter.all false
set_option autoImplicit false
set_option maxRecDepth 100000
set_option maxHeartbeats 4000000
namespace DV
open PySem L2
/-! P4: many names. -/
theorem eqv_ii (i j : Int) : PyData.eqv (.int i) (.int j) = decide (i = j) := by
  simp only [PyData.eqv]
  by_cases h : i = j <;> simp [h]
theorem eqv_ss (i j : Str) : PyData.eqv (.str i) (.str j) = decide (i = j) := by
  simp only [PyData.eqv]
  by_cases h : i = j <;> simp [h]
@[simp] theorem eq_ii {i j : Int} : eqD (.int i) (.int j) = some (decide (i = j)) := by
  simp [eqD, toPy, SeqAt.shaped, PyData.canLay0, PyData.depth, eqv_ii]
@[simp] theorem eq_bb {i j : Bool} : eqD (.bl i) (.bl j) = some (decide (i = j)) := by
  simp [eqD, toPy, SeqAt.shaped, PyData.canLay0, PyData.depth, PyData.eqv]
  cases i <;> cases j <;> rfl
@[simp] theorem ne_ii {i j : Int} : neD (.int i) (.int j) = some (!decide (i = j)) := by simp [neD]
@[simp] theorem ne_bb {i j : Bool} : neD (.bl i) (.bl j) = some (!decide (i = j)) := by simp [neD]
theorem toPys_str : ∀ xs : List Str, toPys (xs.map D.str) = some (xs.map PyData.str)
  | [] => rfl
  | x :: xs => by simp only [List.map_cons, toPys, toPy, toPys_str xs]
@[simp] theorem in_strs {x : Str} {xs : List Str} : inD (.str x) (.lst (xs.map D.str)) = some (decide (x ∈ xs)) := by
  simp only [inD, inL, toPy, toPys_str]
  have h1 : ((xs.map PyData.str).all flatP) = true := by rw [List.all_map, List.all_eq_true]; intro a _; rfl
  rw [if_pos (by rw [h1]; rfl), List.any_map]
  congr 1
  rw [Bool.eq_iff_iff, List.any_eq_true, decide_eq_true_eq]
  constructor
  · rintro ⟨a, ha, h⟩
    have h' : PyData.eqv (.str a) (.str x) = true := h
    rw [eqv_ss, decide_eq_true_eq] at h'
    subst h'; exact ha
  · intro h
    exact ⟨x, h, by show PyData.eqv (.str x) (.str x) = true; rw [eqv_ss]; simp⟩
@[simp] theorem tru_l {ds : List D} : truV (.lst ds) = some (!ds.isEmpty) := rfl
@[simp] theorem tru_b {b : Bool} : truV (.bl b) = some b := rfl
@[simp] theorem mApp_e {ds : List D} {y : D} : mApp ds [y] = if ds.length < 1000000 then some (.non, ds ++ [y]) else none := rfl
@[simp] theorem sl_s {x : Str} {lo hi : Option Int} : slD (.str x) lo hi = if x.length ≤ 1000000 then some (.str (cutS x lo hi)) else none := rfl
theorem chs_cut7 (x : Str) : chs (cutS x none (some 7)) = (chs x).take 7 := by
  show (((x.cps.toList.drop (HT.sIx x.length 0 none)).take (HT.sIx x.length x.length (some 7) - HT.sIx x.length 0 none)).toArray).toList = _
  have e1 : HT.sIx x.length 0 none = 0 := rfl
  have e2 : HT.sIx x.length x.length (some 7) = min 7 x.length := by
    show (if (7 : Int) < 0 then ((7 : Int) + (x.length : Int)).toNat else min (7 : Int).toNat x.length) = _
    rw [if_neg (by decide)]; rfl
  rw [e1, e2]
  simp only [List.drop_zero, Nat.sub_zero]
  show x.cps.toList.take (min 7 x.length) = x.cps.toList.take 7
  rw [← List.take_take, show x.length = x.cps.toList.length from (chs_len x).symm, List.take_length]
/-- the text of a small number -/
def numS (i : Int) : Str := toString i
def numL (n : Nat) : List Nat := chs (numS (n : Int))
theorem num_ok : ∀ n < 64, (numL n).length ≤ 2 ∧ ∀ c ∈ numL n, c ∈ chs signs := by decide +kernel
theorem num_inj : ∀ n < 64, ∀ m < 64, numL n = numL m → n = m := by decide +kernel
theorem strInt_e {i : Int} (h0 : 0 ≤ i) (h1 : i < 64) : strIntD (.int i) = some (.str (numS i)) := by
  show (if i.natAbs.log2 < 1920 then some (D.str (numS i)) else none) = _
  have : i.natAbs.log2 ≤ i.natAbs := Nat.log2_le_self _
  rw [if_pos (by omega)]
/-- the a-th name to be tried -/
def tryN (k a : Nat) : Str := ⟨#[(chs letters).getD (a % 26) 0]⟩ ++ numS ((a / 26 + k : Nat) : Int)
theorem tryN_chs (k a : Nat) : chs (tryN k a) = (chs letters).getD (a % 26) 0 :: numL (a / 26 + k) := by
  unfold tryN numL
  rw [chs_app, chs_one]; rfl
theorem let_inj : ∀ n < 26, ∀ m < 26, (chs letters).getD n 0 = (chs letters).getD m 0 → n = m := by decide +kernel
theorem let_in : ∀ n < 26, (chs letters).getD n 0 ∈ chs letters := by decide +kernel
theorem tryN_inj {k a b : Nat} (hk : k ≤ 41) (ha : a < 200) (hb : b < 200) (h : tryN k a = tryN k b) : a = b := by
  have h' := congrArg chs h
  rw [tryN_chs, tryN_chs] at h'
  injection h' with h1 h2
  have e1 := let_inj _ (Nat.mod_lt _ (by decide)) _ (Nat.mod_lt _ (by decide)) h1
  have e2 := num_inj _ (by omega) _ (by omega) h2
  omega
theorem tryN_ok {k a : Nat} (hk : k ≤ 41) (ha : a < 200) : NameOd (tryN k a) := by
  obtain ⟨h1, h2⟩ := num_ok (a / 26 + k) (by omega)
  have hl := let_in (a % 26) (Nat.mod_lt _ (by decide))
  refine ⟨⟨⟨_, _, tryN_chs k a, hl⟩, ?_, fun c hc => ?_⟩, fun z => by have := congrArg List.length z; rw [odd_len, tryN_chs, List.length_cons] at this; omega⟩
  · rw [tryN_chs, List.length_cons]; omega
  · rw [tryN_chs] at hc
    rcases List.mem_cons.mp hc with rfl | hc
    · exact let_sign _ hl
    · exact h2 c hc
theorem mix_ok {x : Str} (h : NameOk x) {c : Nat} (hc : c ∈ chs signs) (hq : c ≠ 113) : NameOd (cutS x none (some 7) ++ ⟨#[c]⟩) := by
  obtain ⟨⟨c0, r, hx, h0⟩, hl, hall⟩ := h
  refine ⟨⟨⟨c0, r.take 6 ++ [c], ?_, h0⟩, ?_, fun d hd => ?_⟩, fun z => by have := congrArg List.getLast? z; rw [odd_last, chs_app, chs_one, List.getLast?_append] at this; exact hq (by simpa using this)⟩
  · rw [chs_app, chs_one, chs_cut7, hx]; rfl
  · rw [chs_app, chs_one, chs_cut7, List.length_append, List.length_take]
    simp; omega
  · rw [chs_app, chs_one, chs_cut7] at hd
    rcases List.mem_append.mp hd with z | z
    · exact hall d (List.mem_of_mem_take z)
    · rw [List.mem_singleton.mp z]; exact hc
theorem rangeD_at0 {n k : Nat} {d : D} (h : (rangeD 0 n)[k]? = some d) : d = .int k ∧ k < n := by
  have := rangeD_at h
  simpa using this
theorem nodup_sub {α : Type} [DecidableEq α] : ∀ {xs ys : List α}, xs.Nodup → (∀ x ∈ xs, x ∈ ys) → xs.length ≤ ys.length
  | [], ys, _, _ => Nat.zero_le _
  | x :: xs, ys, hn, hs => by
    rw [List.nodup_cons] at hn
    have h1 : x ∈ ys := hs x List.mem_cons_self
    have h2 := nodup_sub (xs := xs) (ys := ys.erase x) hn.2 fun z hz => (List.mem_erase_of_ne (fun e => hn.1 (by rw [← e]; exact hz))).mpr (hs z (List.mem_cons_of_mem _ hz))
    rw [List.length_erase_of_mem h1] at h2
    have := List.length_pos_of_mem h1
    rw [List.length_cons]; omega
/-- the names so far -/
def WsI (n : Nat) (many : Int) (k : Nat) (e : Env) : Prop := ∃ (ct : Ct) (xs : List Str) (s3 s4 s5 : S), e = [.own (some 0) ct, .fz (.int many), .own none (.l (xs.map D.str)), s3, s4, s5] ∧ Spr (n + 13 * k) ct ∧ xs.length = k ∧ xs.Nodup ∧ ∀ x ∈ xs, NameOd x
/-- .. while a name is tried -/
def WtI (n : Nat) (many : Int) (k : Nat) (xs : List Str) (ct : Ct) (m : Nat) (e : Env) : Prop := ∃ (one : Str) (at' : Nat), e = [.own (some 0) ct, .fz (.int many), .own none (.l (xs.map D.str)), .fz (.int k), .fz (.str one), .fz (.int at')] ∧ NameOd one ∧ m + at' = xs.length + 1 ∧
  (0 < at' → one = tryN k (at' - 1)) ∧ ∀ a, a + 1 < at' → tryN k a ∈ xs
def WmI (b n : Nat) (many : Int) (k : Nat) (xs : List Str) (e : Env) : Prop := ∃ (ct : Ct) (one : Str) (s5 : S), e = [.own (some 0) ct, .fz (.int many), .own none (.l (xs.map D.str)), .fz (.int k), .fz (.str one), s5] ∧ NameOd one ∧ Spr (n + 13 * k + b) ct
theorem wnames_den {n : Nat} {ct : Ct} (h : Spr n ct) (hn : n < 800000000000) {many : Int} (h0 : 0 ≤ many) (h1 : many ≤ 41) {Q : S → Env → Prop}
    (kq : ∀ (xs : List Str) (o : Env) (ct' : Ct), xs.length = many.toNat → xs.Nodup → (∀ x ∈ xs, NameOd x) → o[0]? = some (.own (some 0) ct') → Spr (n + 600) ct' → Q (.own none (.l (xs.map D.str))) o) : wpR (m_f__law_w_names [.own (some 0) ct, .fz (.int many)]) Q := by
  have hi : i62 many = true := decide_eq_true ⟨by omega, by omega⟩
  simp [m_f__law_w_names, b_f__law_w_names, hi]
  refine wp_for (WsI n many) ⟨ct, [], _, _, _, rfl, h, rfl, List.nodup_nil, fun x hx => by simp at hx⟩ ?_ ?_
  · rintro k d e hk ⟨ct, xs, s3, s4, s5, rfl, hsp, hl, hnd, hok⟩
    obtain ⟨rfl, hkm⟩ := rangeD_at0 hk
    have hx0 : (xs.map D.str).length < 4000000 := by rw [List.length_map]; omega
    refine ⟨_, rfl, ?_⟩
    refine wp_seqM (WmI 10 n many k xs) ?_ ?_
    · simp
      refine wname_wp rfl hsp (by omega) fun one ct1 hone h1' => ?_
      simp
      exact ⟨ct1, one, s5, rfl, hone, h1'.up (by omega)⟩
    rintro e ⟨ct1, one, s5, rfl, hone, h1'⟩
    refine wp_seqM (WmI 13 n many k xs) ?_ ?_
    · by_cases hxs : xs = []
      · subst hxs
        simp
        exact ⟨ct1, one, s5, rfl, hone, h1'.up (by omega)⟩
      · have hxs' : xs.map D.str ≠ [] := by simpa using hxs
        simp [hxs]
        refine draw_wp rfl h1' (by omega) (by decide) (by decide) fun d ct2 d0 d1 h2 => ?_
        by_cases hd : d = 0
        · subst hd
          simp
          refine pick_wpO rfl rfl (by decide) h2 (by omega) hxs' hx0 fun p ct3 hp h3 => ?_
          obtain ⟨x, hx, rfl⟩ := List.mem_map.mp hp
          have hnx := hok x hx
          have hlx : x.length ≤ 1000000 := by have := hnx.1.len; rw [chs_len] at this; omega
          simp [hlx]
          refine pick_wp rfl h3 (by omega) (by simp) (by decide) fun q ct4 hq h4 => ?_
          obtain ⟨c, rfl, hc, hq1⟩ : ∃ c, q = .str ⟨#[c]⟩ ∧ c ∈ chs signs ∧ c ≠ 113 := by
            simp at hq
            rcases hq with rfl | rfl | rfl | rfl | rfl
            · exact ⟨97, rfl, by decide +kernel, by decide⟩
            · exact ⟨109, rfl, by decide +kernel, by decide⟩
            · exact ⟨122, rfl, by decide +kernel, by decide⟩
            · exact ⟨48, rfl, by decide +kernel, by decide⟩
            · exact ⟨57, rfl, by decide +kernel, by decide⟩
          have hmx := mix_ok hnx.1 hc hq1
          have hl1 : (cutS x none (some 7)).length + Str.length ⟨#[c]⟩ ≤ 1000000 := by
            rw [← str_app_len, ← chs_len]; have := hmx.1.len; omega
          simp [hl1]
          exact ⟨ct4, _, s5, rfl, hmx, h4.up (by omega)⟩
        · simp [hd]
          exact ⟨ct2, one, s5, rfl, hone, h2.up (by omega)⟩
    rintro e ⟨ct2, one, s5, rfl, hone, h2⟩
    simp
    have tin : ∀ {at' : Nat} {one : Str}, (0 < at' → one = tryN k (at' - 1)) → (∀ a, a + 1 < at' → tryN k a ∈ xs) → one ∈ xs → at' ≤ xs.length := fun {at' one} e1 e2 hin => by
      have hall : ∀ a, a < at' → tryN k a ∈ xs := fun a ha => by
        by_cases h3 : a + 1 < at'
        · exact e2 a h3
        · have : a = at' - 1 := by omega
          rw [this, ← e1 (by omega)]; exact hin
      have hb : at' ≤ 200 ∨ 200 < at' := by omega
      have key : ∀ b, b ≤ at' → b ≤ 200 → b ≤ xs.length := fun b h4 h5 => by
        have hnd2 : ((List.range b).map (tryN k)).Nodup := by
          rw [List.nodup_iff_pairwise_ne, List.pairwise_map]
          refine List.Pairwise.imp_of_mem ?_ (List.nodup_iff_pairwise_ne.mp List.nodup_range)
          intro x y hx hy hne e
          rw [List.mem_range] at hx hy
          exact hne (tryN_inj (by omega) (by omega) (by omega) e)
        have := nodup_sub hnd2 (ys := xs) fun x hx => by
          obtain ⟨a, ha, rfl⟩ := List.mem_map.mp hx
          rw [List.mem_range] at ha
          exact hall a (by omega)
        simpa using this
      rcases hb with hb | hb
      · exact key at' (Nat.le_refl _) hb
      · have := key 200 (by omega) (Nat.le_refl _)
        omega
    refine wp_while (WtI n many k xs ct2) (xs.length + 1) (by show _ < 1000000; omega) ⟨one, 0, rfl, hone, rfl, fun z => by omega, fun a z => by omega⟩ ?_
    rintro m e ⟨one, at', rfl, hone, hm, e1, e2⟩
    simp
    by_cases hin : one ∈ xs
    · have hat := tin e1 e2 hin
      have hlet : ∃ c, atI (chs letters) ((at' : Int) % 26) = some c ∧ c = (chs letters).getD (at' % 26) 0 := by
        refine ⟨_, ?_, rfl⟩
        have h26 : (chs letters).length = 26 := by decide +kernel
        unfold atI ixN
        rw [if_pos (by omega), if_pos (by omega)]
        have e3 : ((at' : Int) % 26).toNat = at' % 26 := by omega
        show (chs letters)[((at' : Int) % 26).toNat]? = _
        rw [e3, List.getD_eq_getElem?_getD, List.getElem?_eq_getElem (by omega)]; rfl
      obtain ⟨c, hc, ec⟩ := hlet
      have hll : letters.length ≤ 1000000 := by rw [letters_len]; decide
      have hst : strIntD (.int ((at' : Int) / 26 + k)) = some (.str (numS ((at' : Int) / 26 + k))) := strInt_e (by omega) (by omega)
      have hty : (⟨#[c]⟩ : Str) ++ numS ((at' : Int) / 26 + k) = tryN k at' := by
        unfold tryN
        rw [ec]
        congr 2
      have hok2 := tryN_ok (k := k) (a := at') (by omega) (by omega)
      have hl2 : Str.length ⟨#[c]⟩ + (numS ((at' : Int) / 26 + k)).length ≤ 1000000 := by
        rw [← str_app_len, hty, ← chs_len]; have := hok2.1.len; omega
      rw [if_pos hin]
      refine ⟨m - 1, by omega, ?_⟩
      simp [hll, hc, hst, hl2, hty]
      refine ⟨m - 1, Nat.le_refl _, tryN k at', at' + 1, rfl, hok2, by omega, fun _ => rfl, fun a ha => ?_⟩
      by_cases h3 : a + 1 < at'
      · exact e2 a h3
      · have : a = at' - 1 := by omega
        rw [this, ← e1 (by omega)]; exact hin
    · rw [if_neg hin]
      have hlx : xs.length < 1000000 := by omega
      simp [hlx]
      refine ⟨ct2, xs ++ [one], _, _, _, by rw [List.map_append]; rfl, h2.up (by omega), by simp [hl], ?_, fun x hx => ?_⟩
      · rw [List.nodup_append]
        exact ⟨hnd, by simp, fun a ha b hb => by rw [List.mem_singleton.mp hb]; exact fun z => hin (by rw [← z]; exact ha)⟩
      · rcases List.mem_append.mp hx with z | z
        · exact hok x z
        · rw [List.mem_singleton.mp z]; exact hone
  · rintro e ⟨ct, xs, s3, s4, s5, rfl, hsp, hl, hnd, hok⟩
    rw [rangeD_len] at hl hsp
    simp
    exact kq xs _ ct hl hnd hok (outs_get0 rfl (by decide)) (hsp.up (by omega))
end DV

set_option Elab.async false
set_option linter.all false
set_option autoImplicit false
set_option maxRecDepth 100000
set_option maxHeartbeats 4000000
namespace DV
open PySem L2
/-! P5: lengths, arcs drawn. -/
theorem wnames_wp {n i : Nat} {e : Env} {og : Option Nat} {ct : Ct} (he : e[i]? = some (.own og ct)) (h : Spr n ct) (hn : n < 800000000000) {many : Int} (h0 : 0 ≤ many) (h1 : many ≤ 41) {Q : S → Env → Prop}
    (k : ∀ (xs : List Str) (ct' : Ct), xs.length = many.toNat → xs.Nodup → (∀ x ∈ xs, NameOd x) → Spr (n + 600) ct' → Q (.own none (.l (xs.map D.str))) (e.set i (.own og ct'))) : wpR (callN 2 m_f__law_w_names [.s i, .v (.int many)] e) Q :=
  wp_callO he (ds := [.int many]) rfl rfl (wnames_den h hn h0 h1 fun xs o ct' a b c ho hsp => ⟨trivial, ct', ho, k xs ct' a b c hsp⟩)
@[simp] theorem max2_i {i j : Int} : max2D (.int i) (.int j) = some (.int (if j > i then j else i)) := rfl
@[simp] theorem min2_i {i j : Int} : min2D (.int i) (.int j) = some (.int (if j < i then j else i)) := rfl
end DV

set_option Elab.async false
set_option linter.all false
set_option autoImplicit false
set_option maxRecDepth 100000
set_option maxHeartbeats 4000000
namespace DV
open PySem L2
/-! P6: arcs drawn. -/
abbrev Arc := Str × Int × Int
def arcD (a : Arc) : Key × D := (.inr a.1, .tup [.int a.2.1, .int a.2.2])
def arcsD (A : List Arc) : List (Key × D) := A.map arcD
structure ArcsOk (hours : Int) (A : List Arc) : Prop where
  nd : (A.map (·.1)).Nodup
  nm : ∀ a ∈ A, NameOk a.1
  st : ∀ a ∈ A, 0 ≤ a.2.1 ∧ a.2.1 < hours
  ln : ∀ a ∈ A, 1 ≤ a.2.2 ∧ a.2.2 ≤ hours
@[simp] theorem setC_d {kds : List (Key × D)} {x : Str} {v : D} : setC (.d kds) (.str x) v = if kds.length < 1000000 then some (.d (putD kds (.inr x) v)) else none := rfl
theorem putD_new {κ β : Type} [DecidableEq κ] {kds : List (κ × β)} {k : κ} {v : β} (h : k ∉ kds.map (·.1)) : putD kds k v = kds ++ [(k, v)] := by
  unfold putD
  rw [if_neg]
  intro z
  rw [List.any_eq_true] at z
  obtain ⟨p, hp, e⟩ := z
  exact h (by rw [← of_decide_eq_true e]; exact List.mem_map_of_mem hp)
theorem arcsD_keys (A : List Arc) : (arcsD A).map (·.1) = (A.map (·.1)).map Sum.inr := by
  unfold arcsD arcD
  rw [List.map_map, List.map_map]; rfl
theorem arcsD_new {A : List Arc} {x : Str} {s l : Int} (h : x ∉ A.map (·.1)) : putD (arcsD A) (.inr x) (.tup [.int s, .int l]) = arcsD (A ++ [(x, s, l)]) := by
  rw [putD_new]
  · unfold arcsD; rw [List.map_append]; rfl
  · rw [arcsD_keys]
    intro z
    obtain ⟨y, hy, e⟩ := List.mem_map.mp z
    cases e
    exact h hy
@[simp] theorem enumL_l {ds : List D} : enumL [.lst ds] = some (enumD ds) := rfl
theorem enumD_at {ds : List D} {k : Nat} {d : D} (h : (enumD ds)[k]? = some d) : ∃ y, ds[k]? = some y ∧ d = .tup [.int k, y] := by
  unfold enumD at h
  rw [List.getElem?_map, List.getElem?_zipIdx] at h
  cases q : ds[k]? with
  | none => rw [q] at h; simp at h
  | some y => rw [q] at h; simp at h; exact ⟨y, rfl, h.symm⟩
theorem enumD_len {ds : List D} : (enumD ds).length = ds.length := by unfold enumD; rw [List.length_map, List.length_zipIdx]
theorem atI_nat {α : Type} {xs : List α} {k : Nat} (h : k < xs.length) : atI xs (k : Int) = some xs[k] := by
  unfold atI ixN
  rw [if_pos (by omega), if_pos (by omega)]
  show xs[(k : Int).toNat]? = _
  rw [Int.toNat_natCast, List.getElem?_eq_getElem h]
end DV

set_option Elab.async false
set_option linter.all false
set_option autoImplicit false
set_option maxRecDepth 100000
set_option maxHeartbeats 4000000
namespace DV
open PySem L2
/-! P7: a thing given anew in any form. -/
theorem i62_ok {i : Int} (h : -4000000 ≤ i ∧ i < 4000000) : i62 i = true := decide_eq_true ⟨by omega, by omega⟩
theorem erase_perm {α : Type} : ∀ {xs : List α} {k : Nat} (h : k < xs.length), (xs[k] :: xs.eraseIdx k).Perm xs
  | x :: xs, 0, _ => .refl _
  | x :: xs, k + 1, h => by
    have h' : k < xs.length := by simpa using h
    have ih := erase_perm h'
    show (xs[k] :: x :: xs.eraseIdx k).Perm (x :: xs)
    exact (List.Perm.swap _ _ _).trans (ih.cons x)
@[simp] theorem wp_o1s {o : D → Option Ct} {i : Nat} {e : Env} {Q : S → Env → Prop} : wpR (o1s o i e) Q = wpL ((view e i).bind fun x => (o x).map fun c => .own none c) e Q := by unfold o1s; rw [wpR_lift]
@[simp] theorem wp_o1v {o : D → Option Ct} {fa : Env → Res D} {e : Env} {Q : S → Env → Prop} : wpR (o1v o fa e) Q = wpR (fa e) (kont (fun x e => lift ((o x.un).map fun c => .own none c) e) Q) := by unfold o1v; rw [wpR_bind]
@[simp] theorem listO_l {ds : List D} : listO (.lst ds) = some (.l ds) := rfl
@[simp] theorem listO_d {ds : List (Key × D)} : listO (.dct ds) = some (.l (ds.map fun kv => kD kv.1)) := rfl
theorem mPopAt_e {ds : List D} {i : Int} (h0 : 0 ≤ i) (h1 : i < ds.length) (h2 : ds.length < 4000000) : mPopAt ds [.int i] = some (ds[i.toNat]'(by omega), ds.eraseIdx i.toNat) := by
  simp only [mPopAt, intD_i]
  rw [if_pos (by omega)]
  have : seqIndex? i ds.length = some i.toNat := by
    have e : (if i < 0 then i + (ds.length : Int) else i) = i := if_neg (by omega)
    show (if (decide (0 ≤ (if i < 0 then i + (ds.length : Int) else i)) && decide ((if i < 0 then i + (ds.length : Int) else i) < ds.length)) = true then some (if i < 0 then i + (ds.length : Int) else i).toNat else none) = _
    rw [e, if_pos (by simp; omega)]
  rw [this]
  simp only
  rw [List.getElem?_eq_getElem (by omega)]
  rfl
def MxI (n : Nat) (ds : List D) (k : Nat) (e : Env) (acc : List D) : Prop := ∃ (ct : Ct) (left : List D), e = [.own (some 0) ct, .fz (.lst ds), .own none (.l left), .no] ∧ Spr (n + k) ct ∧ (acc ++ left).Perm ds ∧ acc.length = k ∧ left.length + k = ds.length
theorem mixed_den {n : Nat} {ct : Ct} (h : Spr n ct) (hn : n < 700000000000) {ds : List D} (hl : ds.length ≤ 64) {Q : S → Env → Prop}
    (kq : ∀ (es : List D) (o : Env) (ct' : Ct), es.Perm ds → o[0]? = some (.own (some 0) ct') → Spr (n + ds.length) ct' → Q (.own none (.l es)) o) : wpR (m_f__law_mixed [.own (some 0) ct, .fz (.lst ds)]) Q := by
  have hi : i62 (ds.length : Int) = true := i62_ok ⟨by omega, by omega⟩
  simp [m_f__law_mixed, b_f__law_mixed]
  refine wp_lc ?_
  simp [hi]
  refine ⟨MxI n ds, ⟨ct, ds, rfl, h, .refl _, rfl, by simp⟩, ?_, ?_⟩
  · rintro k d e acc hk ⟨ct, left, rfl, hsp, hp, ha, hll⟩
    obtain ⟨rfl, hkm⟩ := rangeD_at0 hk
    simp
    refine draw_wp rfl hsp (by omega) (by omega) (by omega) fun d ct' d0 d1 hs => ?_
    have hd : d.toNat < left.length := by omega
    simp [mPopAt_e d0 d1 (by omega)]
    refine ⟨by omega, ct', left.eraseIdx d.toNat, rfl, hs.up (by omega), ?_, by simp [ha], by rw [List.length_eraseIdx_of_lt hd]; omega⟩
    rw [List.append_assoc]
    exact (List.Perm.append_left acc (erase_perm hd)).trans hp
  · rintro e acc ⟨ct, left, rfl, hsp, hp, ha, hll⟩
    rw [rangeD_len] at hsp ha hll
    have : left = [] := List.eq_nil_of_length_eq_zero (by omega)
    subst this
    simp at hp
    exact kq acc _ ct hp (outs_get0 rfl (by decide)) hsp
theorem mixed_wp {n i : Nat} {e : Env} {og : Option Nat} {ct : Ct} (he : e[i]? = some (.own og ct)) (h : Spr n ct) (hn : n < 700000000000) {ds : List D} (hl : ds.length ≤ 64) {Q : S → Env → Prop}
    (k : ∀ (es : List D) (ct' : Ct), es.Perm ds → Spr (n + ds.length) ct' → Q (.own none (.l es)) (e.set i (.own og ct'))) : wpR (callN 2 m_f__law_mixed [.s i, .v (.lst ds)] e) Q :=
  wp_callO he (ds := [.lst ds]) rfl rfl (mixed_den h hn hl fun es o ct' a ho hsp => ⟨trivial, ct', ho, k es ct' a hsp⟩)
@[simp] theorem isi_e {ts : List Ty} {d : D} : isiD ts d = ((tyD d).map fun t => D.bl (ts.any fun c => Ty.sub t c)) := by
  unfold isiD isiB
  rw [Option.map_map]; rfl
@[simp] theorem ty_i {i : Int} : tyD (.int i) = some .int := rfl
@[simp] theorem ty_n : tyD .non = some .non := rfl
@[simp] theorem ty_s {i : Str} : tyD (.str i) = some .str := rfl
@[simp] theorem ty_b {i : Bool} : tyD (.bl i) = some .bool := rfl
@[simp] theorem ty_l {i : List D} : tyD (.lst i) = some .list := rfl
@[simp] theorem ty_t {i : List D} : tyD (.tup i) = some .tuple := rfl
@[simp] theorem ty_d {i : List (Key × D)} : tyD (.dct i) = some .dict := rfl
theorem loose_int {n m : Nat} {ct : Ct} (h : Spr n ct) {i : Int} {Q : S → Env → Prop} (kq : ∀ o : Env, o[0]? = some (.own (some 0) ct) → Q (.fz (.int i)) o) : wpR (m_f__law_loose (m + 1) [.own (some 0) ct, .fz (.int i)]) Q := by
  simp [m_f__law_loose, b_f__law_loose, Ty.sub]
  exact kq _ (outs_get0 rfl (by decide))
theorem loose_int_wp {n m i : Nat} {e : Env} {og : Option Nat} {ct : Ct} (he : e[i]? = some (.own og ct)) (h : Spr n ct) {j : Int} {Q : S → Env → Prop} (k : Q (.fz (.int j)) e) : wpR (callN 2 (m_f__law_loose (m + 1)) [.s i, .v (.int j)] e) Q :=
  wp_callO he (ds := [.int j]) rfl rfl (loose_int h fun o ho => ⟨trivial, ct, ho, by rw [set_same he]; exact k⟩)
@[simp] theorem it_l {ds : List D} : itD (.lst ds) = some ds := rfl
@[simp] theorem it_t {ds : List D} : itD (.tup ds) = some ds := rfl
@[simp] theorem it_d {ds : List (Key × D)} : itD (.dct ds) = some (ds.map fun kv => kD kv.1) := rfl
@[simp] theorem tupleD_l {ds : List D} : tupleD (.lst ds) = some (.tup ds) := rfl
def LtI (ct : Ct) (ds : List D) (k : Nat) (e : Env) (acc : List D) : Prop := e = [.own (some 0) ct, .fz (.tup ds), .no, .no, .no] ∧ acc = ds.take k
theorem loose_tup {n m : Nat} {ct : Ct} (h : Spr n ct) (hn : n < 700000000000) {s l : Int} {Q : S → Env → Prop} (kq : ∀ (b : Bool) (o : Env) (ct' : Ct), o[0]? = some (.own (some 0) ct') → Spr (n + 1) ct' → Q (.fz (cond b (.lst [.int s, .int l]) (.tup [.int s, .int l]))) o) :
    wpR (m_f__law_loose (m + 2) [.own (some 0) ct, .fz (.tup [.int s, .int l])]) Q := by
  simp [m_f__law_loose, b_f__law_loose, Ty.sub]
  refine wp_lc ?_
  simp
  refine ⟨LtI ct [.int s, .int l], ⟨rfl, rfl⟩, ?_, ?_⟩
  · rintro k d e acc hk ⟨rfl, rfl⟩
    obtain ⟨i, rfl⟩ : ∃ i, d = .int i := by
      match k, hk with
      | 0, hk => cases hk; exact ⟨_, rfl⟩
      | 1, hk => cases hk; exact ⟨_, rfl⟩
      | k + 2, hk => simp at hk
    simp
    refine loose_int_wp (e := [.own (some 0) ct, .fz (.tup [.int s, .int l]), .no, .no, .fz (.int i)]) (i := 0) rfl h ?_
    simp
    refine ⟨by omega, rfl, ?_⟩
    rw [List.take_succ, hk]; rfl
  · rintro e acc ⟨rfl, rfl⟩
    simp
    refine draw_wp rfl h (by omega) (by decide) (by decide) fun d ct' d0 d1 hs => ?_
    simp
    by_cases hd : 0 < d
    · simp [hd]
      exact kq true _ ct' (outs_get0 rfl (by decide)) hs
    · simp [hd]
      exact kq false _ ct' (outs_get0 rfl (by decide)) hs
end DV

set_option Elab.async false
set_option linter.all false
set_option autoImplicit false
set_option maxRecDepth 100000
set_option maxHeartbeats 4000000
namespace DV
open PySem L2
/-! P8: arcs given anew in any form and order. -/
theorem perm_map_inv {α β : Type} {f : α → β} {es zs : List β} (h : es.Perm zs) : ∀ {A : List α}, zs = A.map f → ∃ A' : List α, es = A'.map f ∧ A'.Perm A := by
  induction h with
  | nil => intro A e; exact ⟨[], rfl, by cases A with | nil => exact .refl _ | cons a A => simp at e⟩
  | cons x h ih =>
    intro A e
    cases A with
    | nil => simp at e
    | cons a A =>
      simp only [List.map_cons, List.cons.injEq] at e
      obtain ⟨A', e1, p⟩ := ih e.2
      exact ⟨a :: A', by rw [List.map_cons, ← e.1, ← e1], p.cons a⟩
  | swap x y l =>
    intro A e
    match A, e with
    | a :: b :: A, e =>
      simp only [List.map_cons, List.cons.injEq] at e
      exact ⟨b :: a :: A, by rw [List.map_cons, List.map_cons, ← e.1, ← e.2.1, ← e.2.2], .swap _ _ _⟩
  | trans h1 h2 ih1 ih2 =>
    intro A e
    obtain ⟨A1, e1, p1⟩ := ih2 e
    obtain ⟨A2, e2, p2⟩ := ih1 e1
    exact ⟨A2, e2, p2.trans p1⟩
@[simp] theorem ix_d {kds : List (Key × D)} {x : Str} : ixD (.dct kds) (.str x) = lookD kds (.inr x) := rfl
theorem lookD_arcs : ∀ {A : List Arc} {a : Arc}, (A.map (·.1)).Nodup → a ∈ A → lookD (arcsD A) (.inr a.1) = some (.tup [.int a.2.1, .int a.2.2])
  | b :: A, a, hn, h => by
    rw [List.map_cons, List.nodup_cons] at hn
    rcases List.mem_cons.mp h with rfl | h
    · simp [arcsD, arcD, lookD]
    · have hne : ¬ b.1 = a.1 := fun z => hn.1 (by rw [z]; exact List.mem_map_of_mem h)
      have ih := lookD_arcs hn.2 h
      simp only [arcsD, arcD, lookD, List.map_cons] at ih ⊢
      rw [List.find?_cons_of_neg (by simpa using hne)]
      exact ih
/-- an arc with its form: list or tuple -/
abbrev LArc := Arc × Bool
def formD (p : LArc) : D := cond p.2 (.lst [.int p.1.2.1, .int p.1.2.2]) (.tup [.int p.1.2.1, .int p.1.2.2])
def lD (p : LArc) : Key × D := (.inr p.1.1, formD p)
def pairD (p : LArc) : D := .tup [.str p.1.1, formD p]
theorem pairsD_l : ∀ L : List LArc, pairsD (L.map pairD) = some (L.map lD)
  | [] => rfl
  | p :: L => by
    rw [List.map_cons, List.map_cons]
    simp only [pairsD, pairD, un_tup, pairsD_l L]
    rfl
theorem mergeD_new : ∀ {more acc : List (Key × D)}, ((acc ++ more).map (·.1)).Nodup → mergeD acc more = acc ++ more
  | [], acc, _ => by simp [mergeD]
  | p :: more, acc, h => by
    have h1 : p.1 ∉ acc.map (·.1) := by
      rw [List.map_append, List.nodup_append] at h
      exact fun z => h.2.2 _ z _ (by rw [List.map_cons]; exact List.mem_cons_self) rfl
    show mergeD (putD acc p.1 p.2) more = _
    rw [putD_new h1, mergeD_new (by rw [List.append_assoc]; exact h), List.append_assoc]
    rfl
@[simp] theorem dictO_d {kds : List (Key × D)} : dictO (.dct kds) = some (.d kds) := rfl
@[simp] theorem dictO_l {ds : List D} : dictO (.lst ds) = (pairsD ds).map fun ps => .d (mergeD [] ps) := rfl
def LdI (n : Nat) (A A' : List Arc) (k : Nat) (e : Env) (acc : List D) : Prop := ∃ (ct : Ct) (L : List LArc), e = [.own (some 0) ct, .fz (.dct (arcsD A)), .no, .no, .no] ∧ Spr (n + k) ct ∧ acc = L.map pairD ∧ L.map (·.1) = A'.take k
theorem loose_tup_wp {n m i : Nat} {e : Env} {og : Option Nat} {ct : Ct} (he : e[i]? = some (.own og ct)) (h : Spr n ct) (hn : n < 700000000000) {s l : Int} {Q : S → Env → Prop}
    (k : ∀ (b : Bool) (ct' : Ct), Spr (n + 1) ct' → Q (.fz (cond b (.lst [.int s, .int l]) (.tup [.int s, .int l]))) (e.set i (.own og ct'))) : wpR (callN 2 (m_f__law_loose (m + 2)) [.s i, .v (.tup [.int s, .int l])] e) Q :=
  wp_callO he (ds := [.tup [.int s, .int l]]) rfl rfl (loose_tup h hn fun b o ct' ho hsp => ⟨trivial, ct', ho, k b ct' hsp⟩)
theorem loose_dct {n m : Nat} {ct : Ct} (h : Spr n ct) (hn : n < 600000000000) {A : List Arc} (hA : (A.map (·.1)).Nodup) (hl : A.length ≤ 41) {Q : S → Env → Prop}
    (kq : ∀ (L : List LArc) (o : Env) (ct' : Ct), (L.map (·.1)).Perm A → o[0]? = some (.own (some 0) ct') → Spr (n + 100) ct' → Q (.own none (.d (L.map lD))) o) : wpR (m_f__law_loose (m + 3) [.own (some 0) ct, .fz (.dct (arcsD A))]) Q := by
  have ek : (arcsD A).map (fun kv => kD kv.1) = A.map fun a => .str a.1 := by
    unfold arcsD arcD
    rw [List.map_map]; rfl
  show wpR (denF 2 5 (b_f__law_loose (m_f__law_loose (m + 2))) _) _
  simp [b_f__law_loose, Ty.sub]
  refine wp_lc ?_
  simp [ek]
  refine mixed_wp rfl h (by omega) (by rw [List.length_map]; omega) fun es ct1 hp hs => ?_
  obtain ⟨A', rfl, pA⟩ := perm_map_inv hp rfl
  simp
  rw [List.length_map] at hs
  have hA' : (A'.map (·.1)).Nodup := ((pA.map (·.1)).nodup_iff).mpr hA
  refine ⟨LdI (n + 41) A A', ⟨ct1, [], rfl, hs.up (by omega), rfl, rfl⟩, ?_, ?_⟩
  · rintro k d e acc x s l ha rfl ⟨ct, L, rfl, hsp, rfl, hL⟩
    have hkl := (List.getElem?_eq_some_iff.mp ha).1
    have hlen := pA.length_eq
    have hm : (x, s, l) ∈ A := pA.mem_iff.mp (List.mem_of_getElem? ha)
    have hlk := lookD_arcs hA hm
    have hLl : L.length = k := by
      have := congrArg List.length hL
      rw [List.length_map, List.length_take] at this; omega
    simp [hlk]
    refine loose_tup_wp rfl hsp (by omega) fun b ct' hs' => ?_
    simp
    refine ⟨by omega, ct', L ++ [((x, s, l), b)], rfl, hs'.up (by omega), by rw [List.map_append]; rfl, ?_⟩
    rw [List.map_append, hL, List.take_succ, ha]; rfl
  · rintro e acc ⟨ct, L, rfl, hsp, rfl, hL⟩
    rw [List.take_length] at hL
    have hmg : mergeD [] (L.map lD) = L.map lD := by
      refine mergeD_new ?_
      rw [List.nil_append, List.map_map]
      have : (List.map ((fun x => x.1) ∘ lD) L) = (A'.map (·.1)).map Sum.inr := by
        rw [← hL, List.map_map, List.map_map]; rfl
      rw [this]
      rw [List.nodup_iff_pairwise_ne, List.pairwise_map]
      exact (List.nodup_iff_pairwise_ne.mp hA').imp fun h z => h (Sum.inr.inj z)
    simp [pairsD_l, hmg]
    exact kq L _ ct (by rw [hL]; exact pA) (outs_get0 rfl (by decide)) (hsp.up (by have := pA.length_eq; omega))
end DV

set_option Elab.async false
set_option linter.all false
set_option autoImplicit false
set_option maxRecDepth 100000
set_option maxHeartbeats 4000000
namespace DV
open PySem L2
/-! P9: a ring is made. -/
@[simp] theorem tru_D {b : Bool} : truD (.bl b) = some b := rfl
theorem isint_wp {as : List Arg} {e : Env} {d : D} (ha : argsF e as = some [d]) {t : Ty} (ht : tyD d.un = some t) {Q : S → Env → Prop} (k : Q (.fz (.bl (decide (t = .int)))) e) : wpR (callN 1 m_f_is_integer as e) Q := by
  refine wp_callF ha rfl ?_
  simp [m_f_is_integer, b_f_is_integer, ht]
  cases t <;> simp [Ty.sub] <;> exact k
theorem btw_den {i lo hi : Int} {Q : S → Env → Prop} (k : ∀ o, Q (.fz (.bl (decide (lo ≤ i ∧ i ≤ hi)))) o) : wpR (m_f_is_between [.fz (.int i), .fz (.int lo), .fz (.int hi)]) Q := by
  simp [m_f_is_between, b_f_is_between]
  refine isint_wp (d := .int i) rfl rfl ?_
  by_cases h : lo ≤ i
  · simp [h]
    by_cases h2 : i ≤ hi
    · have := k (outs 3 [.fz (.int i), .fz (.int lo), .fz (.int hi)])
      simpa [h, h2] using this
    · have := k (outs 3 [.fz (.int i), .fz (.int lo), .fz (.int hi)])
      simpa [h, h2] using this
  · have := k (outs 3 [.fz (.int i), .fz (.int lo), .fz (.int hi)])
    simpa [h] using this
theorem btw_wp {as : List Arg} {e : Env} {i lo hi : Int} (ha : argsF e as = some [.int i, .int lo, .int hi]) {Q : S → Env → Prop} (k : Q (.fz (.bl (decide (lo ≤ i ∧ i ≤ hi)))) e) : wpR (callN 3 m_f_is_between as e) Q :=
  wp_callF ha rfl (btw_den fun o => ⟨trivial, k⟩)
theorem islist_wp {as : List Arg} {e : Env} {ds : List D} {d : D} (ha : argsF e as = some [d]) (hd : d = .lst ds ∨ d = .tup ds) {Q : S → Env → Prop} (k : Q (.fz (.bl true)) e) : wpR (callN 1 m_f_is_list as e) Q := by
  refine wp_callF ha rfl ?_
  rcases hd with rfl | rfl
  · simp [m_f_is_list, b_f_is_list, Ty.sub]; exact k
  · simp [m_f_is_list, b_f_is_list, Ty.sub]; exact k
theorem hours_wp {as : List Arg} {e : Env} {i : Int} (ha : argsF e as = some [.int i]) (h1 : 1 ≤ i) (h2 : i ≤ 1000) {Q : S → Env → Prop} (k : Q (.fz .non) e) : wpR (callN 1 m_f_check_hours as e) Q := by
  refine wp_callF ha rfl ?_
  simp [m_f_check_hours, b_f_check_hours]
  refine btw_wp (i := i) (lo := 1) (hi := 1000) rfl ?_
  simp [h1, h2]
  exact k
@[simp] theorem len_str {x : Str} : lenD (.str x) = if x.length ≤ 1000000 then some (.int x.length) else none := rfl
theorem in_one {c : Nat} {z : Str} : inD (.str ⟨#[c]⟩) (.str z) = some (decide (c ∈ chs z)) := rfl
theorem notIn_one {c : Nat} {z : Str} : notInD (.str ⟨#[c]⟩) (.str z) = some (!decide (c ∈ chs z)) := rfl
@[simp] theorem it_str' {x : Str} : itD (.str x) = some (charsD x) := rfl
theorem boolsOf_true : ∀ n : Nat, boolsOf (List.replicate n (.bl true)) = some (List.replicate n true)
  | 0 => rfl
  | n + 1 => by
    rw [List.replicate_succ, List.replicate_succ]
    simp only [boolsOf, boolsOf_true n]
    rfl
theorem all_true (n : Nat) : allD (.lst (List.replicate n (.bl true))) = some (.bl true) := by
  simp only [allD, boolsOf_true, Option.map_some]
  congr 2
  rw [List.all_eq_true]
  intro x hx
  rw [List.eq_of_mem_replicate hx]; rfl
def NmI (x : Str) (k : Nat) (e : Env) (acc : List D) : Prop := e = [.fz (.str x), .no] ∧ acc = List.replicate k (.bl true)
theorem isname_wp {as : List Arg} {e : Env} {x : Str} (ha : argsF e as = some [.str x]) (h : NameOk x) {Q : S → Env → Prop} (k : Q (.fz (.bl true)) e) : wpR (callN 1 m_f_is_name as e) Q := by
  refine wp_callF ha rfl ?_
  obtain ⟨c, r, hx, hc⟩ := h.hd
  have hl := h.len
  have hlx : (chs x).length = x.length := chs_len x
  have h1 : x.length ≤ 1000000 := by omega
  have h2 : (1 : Int) ≤ (x.length : Int) := by rw [← hlx, hx]; simp; omega
  have h3 : (x.length : Int) ≤ 8 := by omega
  have h4 : atI (chs x) 0 = some c := by
    have := atI_nat (xs := chs x) (k := 0) (by rw [hx]; simp)
    rw [show ((0 : Nat) : Int) = 0 from rfl] at this
    rw [this]
    simp [hx]
  simp [m_f_is_name, b_f_is_name, Ty.sub, h1, h2, h3, h4, notIn_one, hc]
  refine wp_lc ?_
  simp
  refine ⟨NmI x, ⟨rfl, rfl⟩, ?_, ?_⟩
  · rintro j d e acc hk ⟨rfl, rfl⟩
    unfold charsD at hk
    rw [List.getElem?_map] at hk
    obtain ⟨c', hc', rfl⟩ := Option.map_eq_some_iff.mp hk
    have hm : c' ∈ chs signs := h.all c' (List.mem_of_getElem? hc')
    have hj : j < (chs x).length := (List.getElem?_eq_some_iff.mp hc').1
    simp [in_one, hm]
    exact ⟨by omega, rfl, by rw [List.replicate_succ']⟩
  · rintro e acc ⟨rfl, rfl⟩
    simp [all_true]
    exact k
end DV

set_option Elab.async false
set_option linter.all false
set_option autoImplicit false
set_option maxRecDepth 100000
set_option maxHeartbeats 4000000
namespace DV
open PySem L2
/-! P10: are_arcs, the ring's making. -/
theorem lookD_l : ∀ {L : List LArc} {p : LArc}, (L.map (·.1.1)).Nodup → p ∈ L → lookD (L.map lD) (.inr p.1.1) = some (formD p)
  | b :: L, p, hn, h => by
    rw [List.map_cons, List.nodup_cons] at hn
    rcases List.mem_cons.mp h with rfl | h
    · simp [lD, lookD]
    · have hne : ¬ b.1.1 = p.1.1 := fun z => hn.1 (by rw [z]; exact List.mem_map_of_mem (f := fun x : LArc => x.1.1) h)
      have ih := lookD_l hn.2 h
      simp only [lD, lookD, List.map_cons] at ih ⊢
      rw [List.find?_cons_of_neg (by simpa using hne)]
      exact ih
theorem form_un (p : LArc) : (formD p).un = formD p := by
  unfold formD
  cases p.2 <;> rfl
theorem form_len (p : LArc) : lenD (formD p) = some (.int 2) := by
  unfold formD
  cases p.2 <;> rfl
theorem form_unp (p : LArc) : unpD 2 (formD p) = some [.int p.1.2.1, .int p.1.2.2] := by
  unfold formD
  cases p.2 <;> rfl
theorem form_case (p : LArc) : formD p = .lst [.int p.1.2.1, .int p.1.2.2] ∨ formD p = .tup [.int p.1.2.1, .int p.1.2.2] := by
  unfold formD
  cases p.2
  · exact .inr rfl
  · exact .inl rfl
def ArI (hours : Int) (L : List LArc) (e : Env) : Prop := ∃ s2 s3 s4 : S, e = [.fz (.int hours), .fz (.dct (L.map lD)), s2, s3, s4]
theorem arearcs_wp {as : List Arg} {e : Env} {hours : Int} {L : List LArc} (ha : argsF e as = some [.int hours, .dct (L.map lD)]) (h : ArcsOk hours (L.map (·.1))) (hl : L.length ≤ 40) {Q : S → Env → Prop} (k : Q (.fz (.bl true)) e) : wpR (callN 2 m_f_are_arcs as e) Q := by
  refine wp_callF ha rfl ?_
  have h40 : ¬ (40 : Int) < (L.length : Int) := by omega
  simp [m_f_are_arcs, b_f_are_arcs, Ty.sub, h40]
  refine wp_for (fun _ => ArI hours L) ⟨_, _, _, rfl⟩ ?_ ?_
  · rintro j d e hk ⟨s2, s3, s4, rfl⟩
    obtain ⟨p, hp, rfl⟩ : ∃ p ∈ L, d = .str p.1.1 := by
      obtain ⟨p, hp, e⟩ := List.mem_map.mp (List.mem_of_getElem? hk)
      exact ⟨p, hp, e.symm⟩
    have hm : p.1 ∈ L.map (·.1) := List.mem_map_of_mem hp
    have hlk := lookD_l (by have := h.nd; rwa [List.map_map] at this) hp
    have hst := h.st _ hm
    have hln := h.ln _ hm
    refine ⟨_, rfl, ?_⟩
    simp
    refine isname_wp rfl (h.nm _ hm) ?_
    simp [hlk]
    refine islist_wp (d := formD p) rfl (form_case p) ?_
    simp [hlk, form_un, form_len, form_unp]
    refine btw_wp (i := p.1.2.1) (lo := 0) (hi := hours - 1) rfl ?_
    have h1 : p.1.2.1 ≤ hours - 1 := by omega
    simp [hst.1, h1]
    refine btw_wp (i := p.1.2.2) (lo := 1) (hi := hours) rfl ?_
    simp [hln.1, hln.2]
    exact ⟨_, _, _, rfl⟩
  · rintro e ⟨s2, s3, s4, rfl⟩
    simp
    exact k
end DV

set_option Elab.async false
set_option linter.all false
set_option autoImplicit false
set_option maxRecDepth 100000
set_option maxHeartbeats 4000000
namespace DV
open PySem L2
/-! P11: making an object; dict comprehensions; the ring. -/
theorem argF_app {e t : Env} {a : Arg} {d : D} (h : argF e a = some d) : argF (e ++ t) a = some d := by
  cases a with
  | v d => exact h
  | s k =>
    simp only [argF] at h ⊢
    cases q : e[k]? with
    | none => rw [q] at h; cases h
    | some s =>
      rw [q] at h
      rw [List.getElem?_append_left (List.getElem?_eq_some_iff.mp q).1, q]
      exact h
theorem argsF_app {e t : Env} : ∀ {as : List Arg} {ds : List D}, argsF e as = some ds → argsF (e ++ t) as = some ds
  | [], _, h => h
  | a :: as, _, h => by
    simp only [argsF] at h ⊢
    cases e1 : argF e a with
    | none => rw [e1] at h; cases h
    | some d =>
      cases e2 : argsF e as with
      | none => rw [e1, e2] at h; cases h
      | some ds =>
        rw [e1, e2] at h; cases h
        rw [argF_app e1, argsF_app e2]
theorem wp_make {c n : Nat} {den : Env → Res S} {ua : Env → Res (List Arg)} {e : Env} {Q : S → Env → Prop} (h : wpR (ua e) fun as e1 => ∃ ds, argsF e1 as = some ds ∧ ds.length + 1 = n ∧
    wpR (den (.own (some 0) (.o c []) :: ds.map .fz)) fun s o => s = .fz .non ∧ ∃ ct, o[0]? = some (.own (some 0) ct) ∧ Q (.own none ct) e1) : wpR (dMake c n den ua e) Q := by
  obtain ⟨as, e1, hu, ds, ha, hn, hd⟩ := h.out
  unfold dMake
  rw [hu]
  have hi : (e1 ++ [S.own none (.o c [])])[e1.length]? = some (.own none (.o c [])) := by simp
  have key := wp_callO (n := n) (den := den) (Q := fun s e2 => s = .fz .non ∧ ∃ ct, e2 = e1 ++ [.own none ct] ∧ Q (.own none ct) e1) hi (argsF_app ha) hn (hd.mono fun s o ⟨hs, ct, ho, q⟩ => by
    subst hs
    exact ⟨trivial, ct, ho, rfl, ct, by simp, q⟩)
  obtain ⟨s, e2, hc, rfl, ct, rfl, q⟩ := key.out
  rw [Res.bind_ok, hc]
  simp only
  have h2 : (e1 ++ [S.own none ct])[e1.length]? = some (.own none ct) := by simp
  rw [h2]
  simp only
  refine ⟨_, _, rfl, ?_⟩
  rw [List.take_left]
  exact q
theorem dc_run {vs : List Nat} {gt : D → Env → Option Env} {ft : Env → Res Bool} {fk fe : Env → Res D} (I : Nat → Env → List (Key × D) → Prop) {P : List (Key × D) → Env → Prop} : ∀ (ds : List D) (j : Nat) {e : Env} {acc : List (Key × D)}, I j e acc →
    (∀ k d e acc, ds[k]? = some d → I (j + k) e acc → ∃ e', gt d e = some e' ∧ wpR (ft e') fun b e2 => if b = true then wpR (fk e2) fun x e3 => wpR (fe e3) fun y e4 => ∃ kk, keyD x.un = some kk ∧ acc.length < 1000000 ∧ I (j + k + 1) (wipeE e4 vs) (putD acc kk y) else I (j + k + 1) (wipeE e2 vs) acc) →
    (∀ e acc, I (j + ds.length) e acc → P acc e) → ∃ acc' e', dcD vs gt ft fk fe ds e acc = some (acc', e') ∧ P acc' e'
  | [], j, e, acc, h0, _, hd => ⟨acc, e, rfl, hd e acc h0⟩
  | d :: ds, j, e, acc, h0, hs, hd => by
    obtain ⟨e', hg, hb⟩ := hs 0 d e acc rfl h0
    obtain ⟨b, e2, hft, hb⟩ := hb.out
    unfold dcD
    rw [hg]
    simp only
    rw [hft]
    have nxt : ∀ {e3 : Env} {acc3 : List (Key × D)}, I (j + 0 + 1) e3 acc3 → ∃ acc' e', dcD vs gt ft fk fe ds e3 acc3 = some (acc', e') ∧ P acc' e' := fun {e3 acc3} h3 => by
      refine dc_run I ds (j + 1) (by simpa using h3) (fun k d2 e4 acc4 hk h4 => ?_) fun e4 acc4 h4 => hd e4 acc4 (by rw [List.length_cons, show j + (ds.length + 1) = j + 1 + ds.length by omega]; exact h4)
      obtain ⟨e5, g5, b5⟩ := hs (k + 1) d2 e4 acc4 (by simpa using hk) (by rw [show j + (k + 1) = j + 1 + k by omega]; exact h4)
      exact ⟨e5, g5, by rw [show j + 1 + k + 1 = j + (k + 1) + 1 by omega]; exact b5⟩
    cases b with
    | true =>
      rw [if_pos rfl] at hb
      obtain ⟨x, e3, hfk, hb⟩ := hb.out
      obtain ⟨y, e4, hfe, kk, hkk, hl, hi⟩ := hb.out
      simp only
      rw [hfk]
      simp only
      rw [hfe]
      simp only
      rw [hkk]
      simp only
      rw [if_pos hl]
      exact nxt hi
    | false =>
      rw [if_neg Bool.false_ne_true] at hb
      exact nxt hb
theorem wp_dc {vs : List Nat} {fi : Env → Res (List D)} {gt : D → Env → Option Env} {ft : Env → Res Bool} {fk fe : Env → Res D} {e : Env} {Q : S → Env → Prop} (h : wpR (fi e) fun ds e1 => ∃ I : Nat → Env → List (Key × D) → Prop, I 0 (wipeE e1 vs) [] ∧
    (∀ k d e acc, ds[k]? = some d → I k e acc → ∃ e', gt d e = some e' ∧ wpR (ft e') fun b e2 => if b = true then wpR (fk e2) fun x e3 => wpR (fe e3) fun y e4 => ∃ kk, keyD x.un = some kk ∧ acc.length < 1000000 ∧ I (k + 1) (wipeE e4 vs) (putD acc kk y) else I (k + 1) (wipeE e2 vs) acc) ∧
    ∀ e acc, I ds.length e acc → Q (.own none (.d acc)) e) : wpR (oDc vs fi gt ft fk fe e) Q := by
  obtain ⟨ds, e1, hfi, I, h0, hs, hd⟩ := h.out
  unfold oDc
  rw [hfi]
  obtain ⟨acc, e2, h1, h2⟩ := dc_run (P := fun acc e => Q (.own none (.d acc)) e) I ds 0 h0 (fun k d e acc hk h => by have := hs k d e acc hk (by simpa using h); simpa using this) (fun e acc h => hd e acc (by simpa using h))
  show wpR (match dcD vs gt ft fk fe ds (wipeE e1 vs) [] with | some (acc, e) => .ok (.own none (.d acc)) e | none => .no) Q
  rw [h1]
  exact ⟨_, _, rfl, h2⟩
end DV

set_option Elab.async false
set_option linter.all false
set_option autoImplicit false
set_option maxRecDepth 100000
set_option maxHeartbeats 4000000
namespace DV
open PySem L2
/-! P12: the ring. -/
theorem keysS_l : ∀ L : List LArc, keysS (L.map lD) = some (L.map (·.1.1))
  | [] => rfl
  | p :: L => by
    rw [List.map_cons, List.map_cons]
    simp only [lD, keysS]
    rw [show keysS (L.map lD) = _ from keysS_l L]
    rfl
/-- the arcs in their names' order -/
def sortA (A : List Arc) : List Arc := (sortS (A.map (·.1))).filterMap fun x => A.find? fun a => decide (a.1 = x)
theorem fm_names {A : List Arc} : ∀ {xs : List Str}, (∀ x ∈ xs, x ∈ A.map (·.1)) → (xs.filterMap fun x => A.find? fun a => decide (a.1 = x)).map (·.1) = xs
  | [], _ => rfl
  | x :: xs, h => by
    obtain ⟨a, ha, e⟩ := List.mem_map.mp (h x List.mem_cons_self)
    cases q : A.find? fun a => decide (a.1 = x) with
    | none =>
      rw [List.find?_eq_none] at q
      exact absurd (by simpa using e) (q a ha)
    | some b =>
      rw [List.filterMap_cons_some (f := fun x => A.find? fun a => decide (a.1 = x)) q, List.map_cons, fm_names fun z hz => h z (List.mem_cons_of_mem _ hz)]
      have := List.find?_some q
      rw [show b.1 = x by simpa using this]
theorem sortA_names (A : List Arc) : (sortA A).map (·.1) = sortS (A.map (·.1)) := fm_names fun x hx => (sortS_perm _).mem_iff.mp hx
theorem sortA_mem {A : List Arc} {a : Arc} (h : a ∈ sortA A) : a ∈ A := by
  unfold sortA at h
  obtain ⟨x, _, hx⟩ := List.mem_filterMap.mp h
  exact List.mem_of_find?_eq_some hx
theorem sortA_len (A : List Arc) : (sortA A).length = A.length := by
  have := congrArg List.length (sortA_names A)
  rw [List.length_map, (sortS_perm _).length_eq, List.length_map] at this
  exact this
@[simp] theorem sorted_d {kds : List (Key × D)} : sortedO (.dct kds) = match keysS kds with
    | some xs => if xs.length < 64 then some (.l ((sortS xs).map .str)) else none
    | none => match keysI kds with
      | some xs => if xs.length < 64 then some (.l ((sortI xs).map .int)) else none
      | none => none := rfl
theorem form_ix0 (p : LArc) : ixD (formD p) (.int 0) = some (.int p.1.2.1) := by
  rcases form_case p with h | h <;> rw [h] <;> simp [atI, ixN]
theorem form_ix1 (p : LArc) : ixD (formD p) (.int 1) = some (.int p.1.2.2) := by
  rcases form_case p with h | h <;> rw [h] <;> simp [atI, ixN]
/-- a ring, as it stands when it is made -/
def ringC (hours : Int) (A : List Arc) : Ct := .o 0 [("own_hours", .int hours), ("own_arcs", .dct (arcsD (sortA A)))]
def RiI (hours : Int) (L : List LArc) (k : Nat) (e : Env) (acc : List (Key × D)) : Prop := e = [.own (some 0) (.o 0 [("own_hours", .int hours)]), .fz (.int hours), .fz (.dct (L.map lD)), .no] ∧ acc = arcsD ((sortA (L.map (·.1))).take k)
theorem init_den {hours : Int} {L : List LArc} (h : ArcsOk hours (L.map (·.1))) (hl : L.length ≤ 40) (h1 : 1 ≤ hours) (h2 : hours ≤ 1000) {Q : S → Env → Prop} (k : ∀ o, o[0]? = some (.own (some 0) (ringC hours (L.map (·.1)))) → Q (.fz .non) o) :
    wpR (m_f_Ring___init__ [.own (some 0) (.o 0 []), .fz (.int hours), .fz (.dct (L.map lD))]) Q := by
  have hk : (L.map (·.1.1)).length < 64 := by rw [List.length_map]; omega
  simp [m_f_Ring___init__, b_f_Ring___init__]
  refine hours_wp (i := hours) rfl h1 h2 ?_
  simp
  refine arearcs_wp (hours := hours) (L := L) rfl h hl ?_
  simp [putFD]
  refine wp_dc ?_
  have hk' : L.length < 64 := by omega
  simp [keysS_l, hk']
  refine ⟨RiI hours L, ⟨rfl, rfl⟩, ?_, ?_⟩
  · rintro j d e acc x hx rfl ⟨rfl, rfl⟩
    have en : (sortA (L.map (·.1))).map (·.1) = sortS (L.map (·.1.1)) := by rw [sortA_names, List.map_map]; rfl
    have hx2 : ((sortA (L.map (·.1))).map (·.1))[j]? = some x := by rw [en]; exact hx
    rw [List.getElem?_map] at hx2
    obtain ⟨a, ha, rfl⟩ := Option.map_eq_some_iff.mp hx2
    obtain ⟨p, hp, rfl⟩ := List.mem_map.mp (sortA_mem (List.mem_of_getElem? ha))
    have hlk := lookD_l (by have := h.nd; rwa [List.map_map] at this) hp
    have hj := (List.getElem?_eq_some_iff.mp ha).1
    have hlen := sortA_len (L.map (·.1))
    rw [List.length_map] at hlen
    have hnd : ((sortA (L.map (·.1))).map (·.1)).Nodup := by
      rw [sortA_names]
      exact ((sortS_perm _).nodup_iff).mpr h.nd
    have hnew : p.1.1 ∉ ((sortA (L.map (·.1))).take j).map (·.1) := by
      intro z
      obtain ⟨i, hi, e⟩ := List.getElem_of_mem z
      rw [List.length_map, List.length_take] at hi
      rw [List.getElem_map, List.getElem_take] at e
      have hpw := List.pairwise_iff_getElem.mp (List.nodup_iff_pairwise_ne.mp hnd) i j (by rw [List.length_map]; omega) (by rw [List.length_map]; omega) (by omega)
      rw [List.getElem_map, List.getElem_map] at hpw
      have h3 : (sortA (L.map (·.1)))[j] = p.1 := by rw [List.getElem?_eq_getElem hj] at ha; exact Option.some.inj ha
      exact hpw (by rw [e, h3])
    simp [hlk, form_un, form_ix0, form_ix1]
    refine ⟨.inr p.1.1, rfl, by unfold arcsD; rw [List.length_map, List.length_take]; omega, rfl, ?_⟩
    rw [arcsD_new hnew, List.take_succ, ha]
    rfl
  · rintro e acc ⟨rfl, rfl⟩
    have e1 : (sortS (L.map (·.1.1))).length = (sortA (L.map (·.1))).length := by
      rw [sortA_len, (sortS_perm _).length_eq, List.length_map, List.length_map]
    have hne : ¬ (Str.ofString "own_hours" = Str.ofString "own_arcs") := by decide +kernel
    simp [putFD, hne, e1, List.take_length]
    exact k _ (outs_get0 rfl (by decide))
/-- Ring(hours, arcs) -/
theorem ring_wp {ua : Env → Res (List Arg)} {e : Env} {hours : Int} {Q : S → Env → Prop} (h : wpR (ua e) fun as e1 => ∃ L : List LArc, argsF e1 as = some [.int hours, .dct (L.map lD)] ∧ ArcsOk hours (L.map (·.1)) ∧ L.length ≤ 40 ∧ Q (.own none (ringC hours (L.map (·.1)))) e1) (h1 : 1 ≤ hours) (h2 : hours ≤ 1000) :
    wpR (dMake 0 3 m_f_Ring___init__ ua e) Q := by
  refine wp_make (h.mono fun as e1 ⟨L, ha, hok, hl, q⟩ => ⟨_, ha, rfl, ?_⟩)
  exact init_den hok hl h1 h2 fun o ho => ⟨rfl, _, ho, q⟩
end DV

set_option Elab.async false
set_option linter.all false
set_option autoImplicit false
set_option maxRecDepth 100000
set_option maxHeartbeats 4000000
namespace DV
open PySem L2
/-! P13: the ring's methods. -/
theorem sortS_perm_eq {xs ys : List Str} (p : xs.Perm ys) : sortS xs = sortS ys :=
  ((sortS_perm xs).trans (p.trans (sortS_perm ys).symm)).eq_of_pairwise (fun a b _ _ h1 h2 => ltS_total (by unfold leS at h2; simpa using h2) (by unfold leS at h1; simpa using h1)) (sortS_sorted xs) (sortS_sorted ys)
theorem find_perm {A B : List Arc} (p : A.Perm B) (hn : (A.map (·.1)).Nodup) (x : Str) : (A.find? fun a => decide (a.1 = x)) = B.find? fun a => decide (a.1 = x) := by
  have uniq : ∀ {C : List Arc} {a b : Arc}, (C.map (·.1)).Nodup → a ∈ C → b ∈ C → a.1 = b.1 → a = b := fun {C a b} hC ha hb e => by
    induction C with
    | nil => cases ha
    | cons c C ih =>
      rw [List.map_cons, List.nodup_cons] at hC
      rcases List.mem_cons.mp ha with ha2 | ha2
      · rcases List.mem_cons.mp hb with hb2 | hb2
        · rw [ha2, hb2]
        · exact absurd (by rw [← ha2, e]; exact List.mem_map_of_mem hb2) hC.1
      · rcases List.mem_cons.mp hb with hb2 | hb2
        · exact absurd (by rw [← hb2, ← e]; exact List.mem_map_of_mem ha2) hC.1
        · exact ih hC.2 ha2 hb2
  cases q : A.find? fun a => decide (a.1 = x) with
  | none =>
    rw [List.find?_eq_none] at q
    symm
    rw [List.find?_eq_none]
    exact fun b hb => q b (p.mem_iff.mpr hb)
  | some a =>
    have ha := List.mem_of_find?_eq_some q
    have ea : a.1 = x := by simpa using List.find?_some q
    cases q2 : B.find? fun a => decide (a.1 = x) with
    | none =>
      rw [List.find?_eq_none] at q2
      exact absurd (by simpa using ea) (q2 a (p.mem_iff.mp ha))
    | some b =>
      have hb := List.mem_of_find?_eq_some q2
      have eb : b.1 = x := by simpa using List.find?_some q2
      rw [uniq hn ha (p.mem_iff.mpr hb) (ea.trans eb.symm)]
theorem sortA_perm {A B : List Arc} (p : A.Perm B) (hn : (A.map (·.1)).Nodup) : sortA A = sortA B := by
  unfold sortA
  rw [sortS_perm_eq (p.map (·.1))]
  congr 1
  funext x
  exact find_perm p hn x
theorem keysS_arcs : ∀ A : List Arc, keysS (arcsD A) = some (A.map (·.1))
  | [] => rfl
  | a :: A => by
    show (keysS (arcsD A)).map (a.1 :: ·) = _
    rw [keysS_arcs A]; rfl
theorem sort_sort (xs : List Str) : sortS (sortS xs) = sortS xs := sortS_perm_eq (sortS_perm xs)
/-- the ring as data -/
def ringD (hours : Int) (A : List Arc) : D := .obj 0 [("own_hours", .int hours), ("own_arcs", .dct (arcsD (sortA A)))]
theorem ringC_D (hours : Int) (A : List Arc) : (ringC hours A).toD = ringD hours A := rfl
@[simp] theorem ring_un {hours : Int} {A : List Arc} : (ringD hours A).un = ringD hours A := rfl
theorem ring_hours {hours : Int} {A : List Arc} : fldD 0 "own_hours" (ringD hours A) = some (.int hours) := by
  unfold ringD
  simp [fldD, List.lookup]
theorem ring_arcs {hours : Int} {A : List Arc} : fldD 0 "own_arcs" (ringD hours A) = some (.dct (arcsD (sortA A))) := by
  have hne : (("own_arcs" : Str) == ("own_hours" : Str)) = false := by decide +kernel
  unfold ringD
  simp [fldD, List.lookup, hne]
theorem hoursM_den {hours : Int} {A : List Arc} {Q : S → Env → Prop} (k : ∀ o, Q (.fz (.int hours)) o) : wpR (m_f_Ring_hours [.fz (ringD hours A)]) Q := by
  simp [m_f_Ring_hours, b_f_Ring_hours, ring_hours]
  exact k _
theorem namesM_den {hours : Int} {A : List Arc} (hl : A.length ≤ 40) {Q : S → Env → Prop} (k : ∀ o, Q (.own none (.l ((sortS (A.map (·.1))).map .str))) o) : wpR (m_f_Ring_names [.fz (ringD hours A)]) Q := by
  have h64 : ((sortA A).map (·.1)).length < 64 := by rw [List.length_map, sortA_len]; omega
  have h64' : (sortA A).length < 64 := by rw [sortA_len]; omega
  simp [m_f_Ring_names, b_f_Ring_names, ring_arcs, keysS_arcs, h64']
  rw [sortA_names, sort_sort]
  exact k _
theorem lenM_den {hours : Int} {A : List Arc} {Q : S → Env → Prop} (k : ∀ o, Q (.fz (.int A.length)) o) : wpR (m_f_Ring___len__ [.fz (ringD hours A)]) Q := by
  have e : (arcsD (sortA A)).length = A.length := by unfold arcsD; rw [List.length_map, sortA_len]
  simp [m_f_Ring___len__, b_f_Ring___len__, ring_arcs, e]
  exact k _
end DV

set_option Elab.async false
set_option linter.all false
set_option autoImplicit false
set_option maxRecDepth 100000
set_option maxHeartbeats 4000000
namespace DV
open PySem L2
/-! P14: name in ring, ring.arc(name), len(ring). -/
@[simp] theorem wp_inO {kc : Nat} {den : Env → Res S} {neg : Bool} {fa fb : Env → Res D} {e : Env} {Q : Bool → Env → Prop} : wpR (bInO kc den neg fa fb e) Q = wpR (fa e) (kont (fun x e => (fb e).bind fun d e => if isO' kc d.un = true then inR neg (callN 2 den [.v d, .v x] e) else .no) Q) := by
  unfold bInO; rw [wpR_bind]
theorem wp_inR {neg : Bool} {r : Res S} {Q : Bool → Env → Prop} (h : wpR r fun s e => ∃ b, s = .fz (.bl b) ∧ Q (if neg then !b else b) e) : wpR (inR neg r) Q := by
  obtain ⟨s, e, rfl, b, rfl, q⟩ := h.out
  exact ⟨_, _, rfl, q⟩
@[simp] theorem wp_lenO {kc : Nat} {den : Env → Res S} {fa : Env → Res D} {e : Env} {Q : D → Env → Prop} : wpR (dLenO kc den fa e) Q = wpR (fa e) (kont (fun d e => if isO' kc d.un = true then lenR (callN 1 den [.v d] e) else .no) Q) := by
  unfold dLenO; rw [wpR_bind]
theorem wp_lenR {r : Res S} {Q : D → Env → Prop} (h : wpR r fun s e => ∃ i : Int, s = .fz (.int i) ∧ 0 ≤ i ∧ i < 4000000 ∧ Q (.int i) e) : wpR (lenR r) Q := by
  obtain ⟨s, e, rfl, i, rfl, h0, h1, q⟩ := h.out
  unfold lenR
  simp only
  rw [if_pos ⟨h0, by omega⟩]
  exact ⟨_, _, rfl, q⟩
@[simp] theorem isO_ring {hours : Int} {A : List Arc} : isO' 0 (ringD hours A) = true := rfl
@[simp] theorem isM_ring {hours : Int} {A : List Arc} {m : Str} : isO 0 m (ringD hours A) = (List.lookup m [(("own_hours" : Str), D.int hours), ("own_arcs", .dct (arcsD (sortA A)))]).isNone := by
  simp [isO, ringD]
@[simp] theorem in_d {kds : List (Key × D)} {x : Str} : inD (.str x) (.dct kds) = some (hasD kds (.inr x)) := rfl
theorem hasD_arcs {A : List Arc} {x : Str} (h : x ∈ A.map (·.1)) : hasD (arcsD A) (.inr x) = true := by
  obtain ⟨a, ha, rfl⟩ := List.mem_map.mp h
  unfold hasD lookD
  rw [Option.isSome_map]
  rw [List.find?_isSome]
  exact ⟨arcD a, List.mem_map_of_mem ha, by simp [arcD]⟩
theorem contM_den {hours : Int} {A : List Arc} {x : Str} (h : x ∈ A.map (·.1)) {Q : S → Env → Prop} (k : ∀ o, Q (.fz (.bl true)) o) : wpR (m_f_Ring___contains__ [.fz (ringD hours A), .fz (.str x)]) Q := by
  have hx : x ∈ (sortA A).map (·.1) := by rw [sortA_names]; exact (sortS_perm _).mem_iff.mpr h
  simp [m_f_Ring___contains__, b_f_Ring___contains__, Ty.sub, ring_arcs, hasD_arcs hx]
  exact k _
theorem sortA_has {A : List Arc} {a : Arc} (hn : (A.map (·.1)).Nodup) (h : a ∈ A) : a ∈ sortA A := by
  have h1 : a.1 ∈ (sortA A).map (·.1) := by rw [sortA_names]; exact (sortS_perm _).mem_iff.mpr (List.mem_map_of_mem h)
  obtain ⟨b, hb, e⟩ := List.mem_map.mp h1
  have : b = a := by
    have hfa := lookD_arcs hn h
    have hfb := lookD_arcs hn (sortA_mem hb)
    rw [e, hfa] at hfb
    injection hfb with hfb
    injection hfb with hfb
    injection hfb with h3 h4
    injection h4 with h4 _
    injection h3 with h3
    injection h4 with h4
    obtain ⟨b1, b2, b3⟩ := b
    obtain ⟨a1, a2, a3⟩ := a
    simp only at e h3 h4
    rw [e, h3, h4]
  rw [← this]; exact hb
theorem arcM_den {hours : Int} {A : List Arc} {a : Arc} (hn : (A.map (·.1)).Nodup) (h : a ∈ A) {Q : S → Env → Prop} (k : ∀ o, Q (.fz (.tup [.int a.2.1, .int a.2.2])) o) : wpR (m_f_Ring_arc [.fz (ringD hours A), .fz (.str a.1)]) Q := by
  have hns : ((sortA A).map (·.1)).Nodup := by rw [sortA_names]; exact ((sortS_perm _).nodup_iff).mpr hn
  have hlk := lookD_arcs hns (sortA_has hn h)
  simp [m_f_Ring_arc, b_f_Ring_arc]
  refine wp_inR (wp_callF (ds := [ringD hours A, .str a.1]) rfl rfl (contM_den (List.mem_map_of_mem h) fun o => ⟨trivial, true, rfl, ?_⟩))
  simp [ring_arcs, hlk]
  exact k _
end DV

set_option Elab.async false
set_option linter.all false
set_option autoImplicit false
set_option maxRecDepth 100000
set_option maxHeartbeats 4000000
namespace DV
open PySem L2
/-! P15: step_from. -/
def endOf (h p : Int) (a : Arc) : Int := ((p - a.2.1) / h + 1) * h + a.2.1 + a.2.2 - 1
def IsMin (xs : List Int) (m : Int) : Prop := m ∈ xs ∧ ∀ x ∈ xs, m ≤ x
theorem IsMin.uniq {xs ys : List Int} {m k : Int} (h : IsMin xs m) (h' : IsMin ys k) (p : ∀ x, x ∈ xs ↔ x ∈ ys) : m = k := by
  have h1 := h.2 k ((p k).mpr h'.1)
  have h2 := h'.2 m ((p m).mp h.1)
  omega
@[simp] theorem wp_methS {c i n : Nat} {m : Str} {den : Env → Res S} {ua : Env → Res (List Arg)} {e : Env} {Q : S → Env → Prop} : wpR (dMethS c m n den i ua e) Q = wpL (view e i) e (kont (fun d e => if isO c m d = true then (ua e).bind fun as e => callN n den (.s i :: as) e else .no) Q) := by
  unfold dMethS; rw [wpR_bind, wpR_lift]
@[simp] theorem wp_methV {c n : Nat} {m : Str} {den : Env → Res S} {fo : Env → Res D} {ua : Env → Res (List Arg)} {e : Env} {Q : S → Env → Prop} : wpR (dMethV c m n den fo ua e) Q = wpR (fo e) (kont (fun d e => if isO c m d.un = true then (ua e).bind fun as e => callN n den (.v d :: as) e else .no) Q) := by
  unfold dMethV; rw [wpR_bind]
theorem no_hours {h : Int} {B : List (Key × D)} : (List.lookup ("hours" : Str) [(("own_hours" : Str), D.int h), ("own_arcs", .dct B)]).isNone = true := by
  have h1 : (("hours" : Str) == ("own_hours" : Str)) = false := by decide +kernel
  have h2 : (("hours" : Str) == ("own_arcs" : Str)) = false := by decide +kernel
  simp [List.lookup, h1, h2]
theorem no_names {h : Int} {B : List (Key × D)} : (List.lookup ("names" : Str) [(("own_hours" : Str), D.int h), ("own_arcs", .dct B)]).isNone = true := by
  have h1 : (("names" : Str) == ("own_hours" : Str)) = false := by decide +kernel
  have h2 : (("names" : Str) == ("own_arcs" : Str)) = false := by decide +kernel
  simp [List.lookup, h1, h2]
theorem no_arc {h : Int} {B : List (Key × D)} : (List.lookup ("arc" : Str) [(("own_hours" : Str), D.int h), ("own_arcs", .dct B)]).isNone = true := by
  have h1 : (("arc" : Str) == ("own_hours" : Str)) = false := by decide +kernel
  have h2 : (("arc" : Str) == ("own_arcs" : Str)) = false := by decide +kernel
  simp [List.lookup, h1, h2]
@[simp] theorem is_non : isD .non .non = some true := rfl
@[simp] theorem is_nont {ds : List D} : isD (.tup ds) .non = some false := rfl
/-- the best so far -/
def BestI (h p : Int) (B : List Arc) (best : D) : Prop := (B = [] ∧ best = .non) ∨ ∃ m s d, best = .tup [.int m, s, d] ∧ IsMin (B.map (endOf h p)) m
theorem BestI.next {h p : Int} {B : List Arc} {a : Arc} {m : Int} {s d : D} (hm : (B = [] ∧ m = endOf h p a) ∨ (∃ k, IsMin (B.map (endOf h p)) k ∧ m = if endOf h p a < k then endOf h p a else k)) : IsMin ((B ++ [a]).map (endOf h p)) m := by
  rcases hm with ⟨rfl, rfl⟩ | ⟨k, hk, rfl⟩
  · exact ⟨by simp, fun x hx => by simp at hx; omega⟩
  · constructor
    · split
      · simp
      · rw [List.map_append]; exact List.mem_append_left _ hk.1
    · intro x hx
      rw [List.map_append] at hx
      rcases List.mem_append.mp hx with z | z
      · have := hk.2 x z
        split <;> omega
      · simp at z
        subst z
        split <;> omega
def StI (hours p : Int) (A : List Arc) (k : Nat) (e : Env) : Prop := ∃ (best : D) (s4 s5 s6 s7 s8 : S), e = [.fz (ringD hours A), .fz (.int p), .fz best, .fz (.int hours), s4, s5, s6, s7, s8] ∧ BestI hours p ((sortA A).take k) best
theorem step_den {hours p : Int} {A : List Arc} (h1 : 1 ≤ hours) (h2 : hours ≤ 1000) (hn : (A.map (·.1)).Nodup) (hl : A.length ≤ 40) (h0 : A ≠ []) {Q : S → Env → Prop}
    (k : ∀ (m : Int) (s d : D) (o : Env), IsMin ((sortA A).map (endOf hours p)) m → Q (.fz (.tup [.int m, s, d])) o) : wpR (m_f_step_from [.fz (ringD hours A), .fz (.int p)]) Q := by
  simp [m_f_step_from, b_f_step_from, no_hours]
  refine wp_callF (ds := [ringD hours A]) rfl rfl (hoursM_den fun o => ⟨trivial, ?_⟩)
  simp [no_names]
  refine wp_callF (ds := [ringD hours A]) rfl rfl (namesM_den hl fun o => ⟨trivial, ?_⟩)
  simp
  refine wp_for (StI hours p A) ⟨.non, _, _, _, _, _, rfl, .inl ⟨rfl, rfl⟩⟩ ?_ ?_
  · rintro j d e hk ⟨best, s4, s5, s6, s7, s8, rfl, hb⟩
    have hj : (sortA A)[j]?.map (fun a => D.str a.1) = some d := by
      have : (sortA A).map (fun a => D.str a.1) = (sortS (A.map (·.1))).map .str := by rw [← sortA_names, List.map_map]; rfl
      rw [← List.getElem?_map, this]; exact hk
    obtain ⟨a, ha, rfl⟩ := Option.map_eq_some_iff.mp hj
    have hm := sortA_mem (List.mem_of_getElem? ha)
    simp [no_arc]
    refine wp_callF (ds := [ringD hours A, .str a.1]) rfl rfl (arcM_den hn hm fun o => ⟨trivial, ?_⟩)
    have hh : 0 < hours := by omega
    have hhb : hours < 4611686018427387904 := by omega
    have hmb : -18446744073709551616 < hours ∧ hours < 18446744073709551616 := ⟨by omega, by omega⟩
    have hjl := (List.getElem?_eq_some_iff.mp ha).1
    have ht : (sortA A).take (j + 1) = (sortA A).take j ++ [a] := by
      rw [List.take_succ, ha]; rfl
    have fin : ∀ m s d s4 s5 s6 s7 s8, ((((sortA A).take j) = [] ∧ m = endOf hours p a) ∨ (∃ k, IsMin ((((sortA A).take j)).map (endOf hours p)) k ∧ m = if endOf hours p a < k then endOf hours p a else k)) → StI hours p A (j + 1) [.fz (ringD hours A), .fz (.int p), .fz (.tup [.int m, s, d]), .fz (.int hours), s4, s5, s6, s7, s8] := fun m s d s4 s5 s6 s7 s8 hc => by
      refine ⟨_, s4, s5, s6, s7, s8, rfl, .inr ⟨m, s, d, rfl, ?_⟩⟩
      rw [ht]
      exact BestI.next (s := .non) (d := .non) hc
    rcases hb with ⟨hB, rfl⟩ | ⟨m, s, d, rfl, hmin⟩
    · simp [hh, hhb, hmb]
      exact fin _ _ _ _ _ _ _ _ (.inl ⟨hB, rfl⟩)
    · simp [hh, hhb, hmb, atI, ixN]
      by_cases hlt : ((p - a.2.1) / hours + 1) * hours + a.2.1 + a.2.2 - 1 < m
      · simp [hlt]
        exact fin _ _ _ _ _ _ _ _ (.inr ⟨m, hmin, by rw [if_pos (show endOf hours p a < m from hlt)]; rfl⟩)
      · simp [hlt]
        exact fin _ _ _ _ _ _ _ _ (.inr ⟨m, hmin, by rw [if_neg (show ¬ endOf hours p a < m from hlt)]⟩)
  · rintro e ⟨best, s4, s5, s6, s7, s8, rfl, hb⟩
    have hlen : (List.map D.str (sortS (List.map (fun x => x.fst) A))).length = (sortA A).length := by rw [List.length_map, ← sortA_names, List.length_map]
    rw [hlen, List.take_length] at hb
    rcases hb with ⟨hB, rfl⟩ | ⟨m, s, d, rfl, hmin⟩
    · have := sortA_len A
      rw [hB] at this
      exact absurd (List.eq_nil_of_length_eq_zero this.symm) h0
    · simp
      exact k m s d _ hmin
end DV

set_option Elab.async false
set_option linter.all false
set_option autoImplicit false
set_option maxRecDepth 100000
set_option maxHeartbeats 4000000
namespace DV
open PySem L2
/-! P16: the walk round the ring, in plain numbers. -/
def minE : List Int → Int
  | [] => 0
  | [x] => x
  | x :: y :: xs => min x (minE (y :: xs))
theorem minE_is : ∀ {xs : List Int}, xs ≠ [] → IsMin xs (minE xs)
  | [], h => absurd rfl h
  | [x], _ => ⟨by simp [minE], fun z hz => by simp at hz; subst hz; exact Int.le_refl _⟩
  | x :: y :: xs, _ => by
    have ih := minE_is (xs := y :: xs) (by simp)
    have e : minE (x :: y :: xs) = min x (minE (y :: xs)) := rfl
    rw [e]
    constructor
    · rcases Int.le_total x (minE (y :: xs)) with c | c
      · rw [Int.min_eq_left c]; exact List.mem_cons_self
      · rw [Int.min_eq_right c]; exact List.mem_cons_of_mem _ ih.1
    · intro z hz
      rcases List.mem_cons.mp hz with rfl | hz
      · exact Int.min_le_left _ _
      · exact Int.le_trans (Int.min_le_right _ _) (ih.2 z hz)
/-- the end of the copy that ends first -/
def nxt (h : Int) (A : List Arc) (p : Int) : Int := minE (A.map (endOf h p))
theorem nxt_is {h : Int} {A : List Arc} {p : Int} (h0 : A ≠ []) : IsMin (A.map (endOf h p)) (nxt h A p) := minE_is (by simpa using h0)
theorem nxt_sort {h : Int} {A : List Arc} {p m : Int} (hn : (A.map (·.1)).Nodup) (h0 : A ≠ []) (hm : IsMin ((sortA A).map (endOf h p)) m) : m = nxt h A p :=
  hm.uniq (nxt_is h0) fun x => by
    constructor
    · intro hx
      obtain ⟨a, ha, rfl⟩ := List.mem_map.mp hx
      exact List.mem_map_of_mem (sortA_mem ha)
    · intro hx
      obtain ⟨a, ha, rfl⟩ := List.mem_map.mp hx
      exact List.mem_map_of_mem (sortA_has hn ha)
def wk (h : Int) (A : List Arc) : Nat → Int
  | 0 => 0
  | n + 1 => nxt h A (wk h A n)
def hr (h : Int) (A : List Arc) (n : Nat) : Int := wk h A n % h
def Fresh (h : Int) (A : List Arc) (n : Nat) : Prop := ∀ i j, i < j → j < n → hr h A i ≠ hr h A j
structure Rho (h : Int) (A : List Arc) (n i : Nat) : Prop where
  lt : i < n
  eq : hr h A n = hr h A i
  fr : Fresh h A n
theorem Fresh.nodup {h : Int} {A : List Arc} {n : Nat} (f : Fresh h A n) : ((List.range n).map (hr h A)).Nodup := by
  rw [List.Nodup, List.pairwise_map, List.pairwise_iff_getElem]
  intro i j hi hj hij
  simp at hi hj ⊢
  exact f i j hij hj
theorem Fresh.le {h : Int} {A : List Arc} {n : Nat} (f : Fresh h A n) (h1 : 1 ≤ h) : (n : Int) ≤ h := by
  have := nodup_sub f.nodup (ys := (List.range h.toNat).map fun k : Nat => (k : Int)) fun x hx => by
    obtain ⟨k, hk, rfl⟩ := List.mem_map.mp hx
    have h2 : 0 ≤ hr h A k := Int.emod_nonneg _ (by omega)
    have h3 : hr h A k < h := Int.emod_lt_of_pos _ (by omega)
    exact List.mem_map.mpr ⟨(hr h A k).toNat, by rw [List.mem_range]; omega, by omega⟩
  simp at this
  omega
theorem Fresh.nil {h : Int} {A : List Arc} : Fresh h A 0 := fun i j hi hj => by omega
theorem Fresh.succ {h : Int} {A : List Arc} {n : Nat} (f : Fresh h A n) (k : ∀ i, i < n → hr h A n ≠ hr h A i) : Fresh h A (n + 1) := fun i j hi hj => by
  by_cases c : j = n
  · subst c; exact fun e => k i hi e.symm
  · exact f i j hi (by omega)
theorem Rho.uniq {h : Int} {A : List Arc} {n i m j : Nat} (r : Rho h A n i) (s : Rho h A m j) : n = m ∧ i = j := by
  have e : n = m := by
    rcases Nat.lt_trichotomy n m with c | c | c
    · exact absurd r.eq.symm (s.fr i n r.lt c)
    · exact c
    · exact absurd s.eq.symm (r.fr j m s.lt c)
  subst e
  refine ⟨rfl, ?_⟩
  rcases Nat.lt_trichotomy i j with c | c | c
  · exact absurd (r.eq.symm.trans s.eq) (r.fr i j c s.lt)
  · exact c
  · exact absurd (s.eq.symm.trans r.eq) (r.fr j i c r.lt)
/-- the hours seen, told with something of each -/
def seenD (h : Int) (A : List Arc) (f : Nat → D) (n : Nat) : List (Key × D) := (List.range n).map fun k => (.inl (hr h A k), f k)
theorem seen_look {h : Int} {A : List Arc} {f : Nat → D} {n i : Nat} (fr : Fresh h A n) (hi : i < n) : lookD (seenD h A f n) (.inl (hr h A i)) = some (f i) := by
  unfold lookD
  cases q : (seenD h A f n).find? fun kv => decide (kv.1 = (.inl (hr h A i) : Key)) with
  | none =>
    rw [List.find?_eq_none] at q
    have := q (.inl (hr h A i), f i) (List.mem_map.mpr ⟨i, List.mem_range.mpr hi, rfl⟩)
    simp at this
  | some kv =>
    have h1 := List.mem_of_find?_eq_some q
    have h2 := List.find?_some q
    obtain ⟨k, hk, rfl⟩ := List.mem_map.mp h1
    rw [List.mem_range] at hk
    simp at h2
    have : k = i := by
      rcases Nat.lt_trichotomy k i with c | c | c
      · exact absurd h2 (fr k i c hi)
      · exact c
      · exact absurd h2.symm (fr i k c hk)
    subst this
    rfl
theorem seen_has {h : Int} {A : List Arc} {f : Nat → D} {n : Nat} {x : Int} : hasD (seenD h A f n) (.inl x) = true ↔ ∃ i, i < n ∧ x = hr h A i := by
  unfold hasD lookD
  rw [Option.isSome_map, List.find?_isSome]
  constructor
  · rintro ⟨kv, hkv, e⟩
    obtain ⟨k, hk, rfl⟩ := List.mem_map.mp hkv
    simp at e
    exact ⟨k, List.mem_range.mp hk, e.symm⟩
  · rintro ⟨i, hi, rfl⟩
    exact ⟨_, List.mem_map.mpr ⟨i, List.mem_range.mpr hi, rfl⟩, by simp⟩
theorem seen_put {h : Int} {A : List Arc} {f : Nat → D} {n : Nat} (k : ¬ ∃ i, i < n ∧ hr h A n = hr h A i) : putD (seenD h A f n) (.inl (hr h A n)) (f n) = seenD h A f (n + 1) := by
  have : ((seenD h A f n).any fun kv => decide (kv.1 = (.inl (hr h A n) : Key))) = false := by
    rw [List.any_eq_false]
    intro kv hkv
    obtain ⟨i, hi, rfl⟩ := List.mem_map.mp hkv
    simp
    exact fun e => k ⟨i, List.mem_range.mp hi, e.symm⟩
  unfold putD
  rw [this, if_neg Bool.false_ne_true]
  unfold seenD
  rw [List.range_succ, List.map_append]
  rfl
end DV

set_option Elab.async false
set_option linter.all false
set_option autoImplicit false
set_option maxRecDepth 100000
set_option maxHeartbeats 4000000
namespace DV
open PySem L2
/-! P17: walk_from. -/
@[simp] theorem in_di {kds : List (Key × D)} {x : Int} : inD (.int x) (.dct kds) = some (hasD kds (.inl x)) := rfl
@[simp] theorem notin_di {kds : List (Key × D)} {x : Int} : notInD (.int x) (.dct kds) = some (!hasD kds (.inl x)) := rfl
@[simp] theorem ix_di {kds : List (Key × D)} {x : Int} : ixD (.dct kds) (.int x) = lookD kds (.inl x) := rfl
@[simp] theorem setC_di {kds : List (Key × D)} {x : Int} {v : D} : setC (.d kds) (.int x) v = if kds.length < 1000000 then some (.d (putD kds (.inl x) v)) else none := rfl
def plD (h : Int) (A : List Arc) (n : Nat) : List D := (List.range (n + 1)).map fun k => .int (wk h A k)
theorem plD_len {h : Int} {A : List Arc} {n : Nat} : (plD h A n).length = n + 1 := by simp [plD]
theorem plD_last {h : Int} {A : List Arc} {n : Nat} : atI (plD h A n) (-1) = some (.int (wk h A n)) := by
  have e1 : ixN (plD h A n).length (-1) = some n := by
    rw [plD_len]; unfold ixN
    rw [if_neg (by omega), if_pos (by omega)]
    congr 1
    omega
  unfold atI
  rw [e1]
  simp [plD]
def WaI (h : Int) (A : List Arc) (m : Nat) (e : Env) : Prop := ∃ n : Nat, n + m = h.toNat + 1 ∧ Fresh h A n ∧ e = [.fz (ringD h A), .fz (.int 0), .fz (.int h), .own none (.d (seenD h A (fun k => .int k) n)), .own none (.l (plD h A n))]
theorem walk_den {h : Int} {A : List Arc} (h1 : 1 ≤ h) (h2 : h ≤ 1000) (hn : (A.map (·.1)).Nodup) (hl : A.length ≤ 40) (h0 : A ≠ []) {Q : S → Env → Prop}
    (k : ∀ (n i : Nat) (o : Env), Rho h A n i → (n : Int) ≤ h → Q (.fz (.tup [.lst (plD h A n), .int i])) o) : wpR (m_f_walk_from [.fz (ringD h A), .fz (.int 0)]) Q := by
  simp [m_f_walk_from, b_f_walk_from, no_hours]
  refine wp_callF (ds := [ringD h A]) rfl rfl (hoursM_den fun o => ⟨trivial, ?_⟩)
  simp
  refine wp_while (WaI h A) (h.toNat + 1) (by unfold big; omega) ⟨0, by omega, Fresh.nil, rfl⟩ ?_
  rintro m e ⟨n, hm, fr, rfl⟩
  have hh : 0 < h := by omega
  simp [plD_last, hh]
  have hsl : (seenD h A (fun k => D.int ↑k) n).length = n := by simp [seenD]
  have hnh := fr.le h1
  have hx : wk h A n % h = hr h A n := rfl
  rw [hx]
  by_cases c : ∃ i, i < n ∧ hr h A n = hr h A i
  · rw [if_pos (seen_has.mpr c)]
    obtain ⟨i, hi, e⟩ := c
    rw [e, seen_look fr hi]
    simp
    exact k n i _ ⟨hi, e, fr⟩ hnh
  · rw [if_neg fun z => c (seen_has.mp z)]
    have fr' : Fresh h A (n + 1) := fr.succ fun i hi e => c ⟨i, hi, e⟩
    have hle' := fr'.le h1
    obtain ⟨m', rfl⟩ : ∃ m', m = m' + 1 := ⟨m - 1, by omega⟩
    refine ⟨m', rfl, ?_⟩
    have hput : (((plD h A n).length : Int) - 1) = (n : Int) := by rw [plD_len]; omega
    rw [if_pos (by rw [hsl]; omega), hput, seen_put (f := fun k => D.int ↑k) c]
    simp [plD_last]
    refine wp_callF (ds := [ringD h A, .int (wk h A n)]) rfl rfl (step_den h1 h2 hn hl h0 fun m s d o hmin => ⟨trivial, ?_⟩)
    have hlt : (plD h A n).length < 1000000 := by rw [plD_len]; omega
    simp [atI, ixN, hlt]
    refine ⟨m', Nat.le_refl _, n + 1, by omega, fr', ?_⟩
    have : m = wk h A (n + 1) := nxt_sort hn h0 hmin
    rw [this]
    congr 5
    unfold plD
    rw [List.range_succ (n := n + 1), List.map_append]
    rfl
end DV

set_option Elab.async false
set_option linter.all false
set_option autoImplicit false
set_option maxRecDepth 100000
set_option maxHeartbeats 4000000
namespace DV
open PySem L2
/-! P18: common, lowest, round_from, ring_number. -/
def CoI (g : Nat) (m : Nat) (e : Env) : Prop := ∃ x : Nat, e = [.fz (.int x), .fz (.int m)] ∧ Nat.gcd x m = g
theorem common_den {a b : Nat} (hb : b < 1000000) {Q : S → Env → Prop} (k : ∀ o, Q (.fz (.int (Nat.gcd a b))) o) : wpR (m_f_common [.fz (.int a), .fz (.int b)]) Q := by
  simp [m_f_common, b_f_common]
  refine wp_while (CoI (Nat.gcd a b)) b (by unfold big; omega) ⟨a, rfl, rfl⟩ ?_
  rintro m e ⟨x, rfl, hg⟩
  simp
  by_cases c : m = 0
  · subst c
    simp
    simp at hg
    rw [hg]
    exact k _
  · have hm : 0 < m := by omega
    obtain ⟨m', rfl⟩ : ∃ m', m = m' + 1 := ⟨m - 1, by omega⟩
    rw [if_pos hm]
    refine ⟨m', rfl, ?_⟩
    rw [if_pos hm]
    simp
    refine ⟨x % (m' + 1), by have := Nat.mod_lt x hm; omega, m' + 1, ?_, ?_⟩
    · rfl
    · rw [← hg, Nat.gcd_comm x, Nat.gcd_rec (m' + 1) x, Nat.gcd_comm]
theorem lowest_den {a b : Nat} (ha : a < 1000000) (hb : b < 1000000) (h0 : 0 < b) {Q : S → Env → Prop} (k : ∀ o, Q (.fz (.tup [.int (a / Nat.gcd a b : Nat), .int (b / Nat.gcd a b : Nat)])) o) : wpR (m_f_lowest [.fz (.int a), .fz (.int b)]) Q := by
  have hg : 0 < Nat.gcd a b := Nat.gcd_pos_of_pos_right _ h0
  have hg2 : Nat.gcd a b ≤ b := Nat.gcd_le_right _ h0
  have h1 : (0 : Int) < (Nat.gcd a b : Nat) ∧ ((Nat.gcd a b : Nat) : Int) < 4611686018427387904 := ⟨by omega, by omega⟩
  simp [m_f_lowest, b_f_lowest]
  refine wp_callF (ds := [.int a, .int b]) rfl rfl (common_den hb fun o => ⟨trivial, ?_⟩)
  simp [h1]
  rw [if_pos (Or.inr h0)]
  simp [h1]
  rw [if_pos (Or.inr h0)]
  simp
  exact k _
end DV

set_option Elab.async false
set_option linter.all false
set_option autoImplicit false
set_option maxRecDepth 100000
set_option maxHeartbeats 4000000
namespace DV
open PySem L2
/-! P19: round_from, ring_number. -/
theorem endOf_bnd {h p : Int} {a : Arc} (h1 : 1 ≤ h) (hl : 1 ≤ a.2.2 ∧ a.2.2 ≤ h) : p < endOf h p a ∧ endOf h p a ≤ p + 2 * h := by
  unfold endOf
  have e := Int.mul_ediv_add_emod (p - a.2.1) h
  have e1 := Int.emod_nonneg (p - a.2.1) (show h ≠ 0 by omega)
  have e2 := Int.emod_lt_of_pos (p - a.2.1) (show 0 < h by omega)
  rw [Int.add_mul, Int.mul_comm _ h]
  omega
theorem nxt_bnd {h p : Int} {A : List Arc} (h1 : 1 ≤ h) (h0 : A ≠ []) (hl : ∀ a ∈ A, 1 ≤ a.2.2 ∧ a.2.2 ≤ h) : p < nxt h A p ∧ nxt h A p ≤ p + 2 * h := by
  obtain ⟨a, ha, e⟩ := List.mem_map.mp (nxt_is (h := h) (A := A) (p := p) h0).1
  rw [← e]
  exact endOf_bnd h1 (hl a ha)
theorem wk_bnd {h : Int} {A : List Arc} (h1 : 1 ≤ h) (h0 : A ≠ []) (hl : ∀ a ∈ A, 1 ≤ a.2.2 ∧ a.2.2 ≤ h) (i : Nat) : ∀ k : Nat, wk h A i + (k : Int) ≤ wk h A (i + k) ∧ wk h A (i + k) ≤ wk h A i + k * (2 * h)
  | 0 => by simp
  | k + 1 => by
    have ih := wk_bnd h1 h0 hl i k
    have hb := nxt_bnd (p := wk h A (i + k)) h1 h0 hl
    have e : wk h A (i + (k + 1)) = nxt h A (wk h A (i + k)) := rfl
    rw [e]
    have e2 : ((k + 1 : Nat) : Int) * (2 * h) = k * (2 * h) + 2 * h := by
      rw [Int.natCast_add, Int.add_mul]; simp
    rw [e2]
    omega
/-- steps and days of a round -/
def stp (n i : Nat) : Nat := n - i
def dys (h : Int) (A : List Arc) (n i : Nat) : Nat := ((wk h A n - wk h A i) / h).toNat
theorem Rho.days {h : Int} {A : List Arc} {n i : Nat} (r : Rho h A n i) (h1 : 1 ≤ h) (h2 : h ≤ 1000) (h0 : A ≠ []) (hl : ∀ a ∈ A, 1 ≤ a.2.2 ∧ a.2.2 ≤ h) (hn : (n : Int) ≤ h) : ((wk h A n - wk h A i) / h) = (dys h A n i : Int) ∧ 1 ≤ dys h A n i ∧ dys h A n i ≤ 2000 ∧ 1 ≤ stp n i ∧ stp n i ≤ 1000 := by
  have hb := wk_bnd h1 h0 hl i (n - i)
  have hlt := r.lt
  rw [show i + (n - i) = n by omega] at hb
  have hd : h ∣ wk h A n - wk h A i := Int.dvd_of_emod_eq_zero (by
    have := r.eq
    unfold hr at this
    exact Int.emod_eq_emod_iff_emod_sub_eq_zero.mp this)
  obtain ⟨c, hc⟩ := hd
  have hq : (wk h A n - wk h A i) / h = c := by rw [hc, Int.mul_ediv_cancel_left _ (by omega)]
  have hc1 : 1 ≤ c := by
    by_cases z : 1 ≤ c
    · exact z
    · have : h * c ≤ 0 := Int.mul_nonpos_of_nonneg_of_nonpos (by omega) (by omega)
      omega
  have hc2 : c ≤ 2000 := by
    by_cases z : c ≤ 2000
    · exact z
    · have h3 : h * 2001 ≤ h * c := Int.mul_le_mul_of_nonneg_left (by omega) (by omega)
      have h4 : ((n - i : Nat) : Int) * (2 * h) ≤ 1000 * (2 * h) := Int.mul_le_mul_of_nonneg_right (by omega) (by omega)
      omega
  unfold dys stp
  rw [hq]
  refine ⟨by omega, by omega, by omega, by omega, by omega⟩
theorem round_den {h : Int} {A : List Arc} (h1 : 1 ≤ h) (h2 : h ≤ 1000) (hn : (A.map (·.1)).Nodup) (hl : A.length ≤ 40) (h0 : A ≠ []) (hle : ∀ a ∈ A, 1 ≤ a.2.2 ∧ a.2.2 ≤ h) {Q : S → Env → Prop}
    (k : ∀ (n i : Nat) (x : Int) (o : Env), Rho h A n i → (n : Int) ≤ h → Q (.fz (.tup [.int x, .int (stp n i), .int (dys h A n i)])) o) : wpR (m_f_round_from [.fz (ringD h A)]) Q := by
  have hh : 0 < h := by omega
  have hhb : h < 4611686018427387904 := by omega
  simp [m_f_round_from, b_f_round_from]
  refine wp_callF (ds := [ringD h A, .int 0]) rfl rfl (walk_den h1 h2 hn hl h0 fun n i o r hnh => ⟨trivial, ?_⟩)
  have hi : i < (plD h A n).length := by rw [plD_len]; have := r.lt; omega
  have hii : atI (plD h A n) (i : Int) = some (.int (wk h A i)) := by
    rw [atI_nat hi]; simp [plD]
  simp [plD_last, hii, no_hours]
  refine wp_callF (ds := [ringD h A]) rfl rfl (hoursM_den fun o => ⟨trivial, ?_⟩)
  simp [hh, hhb, hii, no_hours]
  refine wp_callF (ds := [ringD h A]) rfl rfl (hoursM_den fun o => ⟨trivial, ?_⟩)
  simp [hh]
  have hs : ((plD h A n).length : Int) - 1 - i = (stp n i : Int) := by rw [plD_len]; unfold stp; have := r.lt; omega
  rw [hs, (r.days h1 h2 h0 hle hnh).1]
  exact k n i _ _ r hnh
/-- the number of a ring -/
structure NumOf (h : Int) (A : List Arc) (s t : Nat) : Prop where
  e : (A = [] ∧ s = 0 ∧ t = 1) ∨ (A ≠ [] ∧ ∃ n i, Rho h A n i ∧ (n : Int) ≤ h ∧ s = stp n i / Nat.gcd (stp n i) (dys h A n i) ∧ t = dys h A n i / Nat.gcd (stp n i) (dys h A n i))
theorem number_den {h : Int} {A : List Arc} (h1 : 1 ≤ h) (h2 : h ≤ 1000) (hn : (A.map (·.1)).Nodup) (hl : A.length ≤ 40) (hle : ∀ a ∈ A, 1 ≤ a.2.2 ∧ a.2.2 ≤ h) {Q : S → Env → Prop}
    (k : ∀ (s t : Nat) (o : Env), NumOf h A s t → Q (.fz (.tup [.int s, .int t])) o) : wpR (m_f_ring_number [.fz (ringD h A)]) Q := by
  simp [m_f_ring_number, b_f_ring_number]
  refine wp_lenR (wp_callF (ds := [ringD h A]) rfl rfl (lenM_den fun o => ⟨trivial, _, rfl, by omega, by omega, ?_⟩))
  simp
  by_cases c : A = []
  · simp [c]
    exact k 0 1 _ ⟨.inl ⟨c, rfl, rfl⟩⟩
  · simp [c]
    refine wp_callF (ds := [ringD h A]) rfl rfl (round_den h1 h2 hn hl c hle fun n i x o r hnh => ⟨trivial, ?_⟩)
    obtain ⟨_, hd1, hd2, hs1, hs2⟩ := r.days h1 h2 c hle hnh
    simp
    refine wp_callF (ds := [.int (stp n i), .int (dys h A n i)]) rfl rfl (lowest_den (by omega) (by omega) (by omega) fun o => ⟨trivial, ?_⟩)
    simp
    exact k _ _ _ ⟨.inr ⟨c, n, i, r, hnh, rfl, rfl⟩⟩
end DV

set_option Elab.async false
set_option linter.all false
set_option autoImplicit false
set_option maxRecDepth 100000
set_option maxHeartbeats 4000000
namespace DV
open PySem L2
/-! P20: the law's step. -/
theorem lt_tup {x y : Int} {xs ys : List PyData} : (PySem.W.dataLt (.tuple (.int x :: xs)) (.tuple (.int y :: ys)) = true → x ≤ y) ∧ (PySem.W.dataLt (.tuple (.int x :: xs)) (.tuple (.int y :: ys)) = false → y ≤ x) := by
  have e : PySem.W.dataLt (.tuple (.int x :: xs)) (.tuple (.int y :: ys)) = (decide (x < y) || (!decide (y < x) && PyProof.Rows.lexLt PyProof.Rows.itemOrd (PySem.W.keyToksAll xs) (PySem.W.keyToksAll ys))) := by
    rw [PySem.W.dataLt_tuple, PySem.W.keyToksAll, PySem.W.keyToksAll, PySem.W.keyToks, PySem.W.keyToks]
    rfl
  rw [e]
  by_cases c : x < y
  · simp [c]; omega
  · by_cases d : y < x
    · simp [c, d]; omega
    · simp [c, d]; omega
/-- an end, its name, its day -/
abbrev Ed := Int × Str × Int
def edD (x : Ed) : D := .tup [.int x.1, .str x.2.1, .int x.2.2]
def edP (x : Ed) : PyData := .tuple [.int x.1, .str x.2.1, .int x.2.2]
theorem minD_ed : ∀ (xs : List Ed) (x : Ed), ∃ y, PySem.W.minD (edP x) (xs.map edP) = edP y ∧ y ∈ x :: xs ∧ ∀ z ∈ x :: xs, y.1 ≤ z.1
  | [], x => ⟨x, rfl, List.mem_cons_self, fun z hz => by simp at hz; subst hz; exact Int.le_refl _⟩
  | q :: qs, x => by
    have hs : PySem.W.minD (edP x) ((q :: qs).map edP) = PySem.W.minD (if PySem.W.dataLt (edP q) (edP x) then edP q else edP x) (qs.map edP) := rfl
    rw [hs]
    by_cases c : PySem.W.dataLt (edP q) (edP x) = true
    · have hl := lt_tup.1 c
      rw [if_pos c]
      obtain ⟨y, hy, h1, h2⟩ := minD_ed qs q
      refine ⟨y, hy, List.mem_cons_of_mem _ h1, fun w hw => ?_⟩
      rcases List.mem_cons.mp hw with rfl | hw
      · have := h2 q List.mem_cons_self; omega
      · exact h2 w hw
    · have hl := lt_tup.2 (show PySem.W.dataLt (edP q) (edP x) = false from Bool.eq_false_iff.mpr c)
      rw [if_neg c]
      obtain ⟨y, hy, h1, h2⟩ := minD_ed qs x
      refine ⟨y, hy, ?_, fun w hw => ?_⟩
      · rcases List.mem_cons.mp h1 with rfl | h1
        · exact List.mem_cons_self
        · exact List.mem_cons_of_mem _ (List.mem_cons_of_mem _ h1)
      · rcases List.mem_cons.mp hw with rfl | hw
        · exact h2 _ List.mem_cons_self
        · rcases List.mem_cons.mp hw with rfl | hw
          · have := h2 x List.mem_cons_self; omega
          · exact h2 w (List.mem_cons_of_mem _ hw)
theorem toPys_ed : ∀ xs : List Ed, toPys (xs.map edD) = some (xs.map edP)
  | [] => rfl
  | x :: xs => by
    have h1 : toPy (edD x) = some (edP x) := rfl
    rw [List.map_cons, toPys, h1, toPys_ed xs]; rfl
theorem depth_ed : ∀ xs : List Ed, PyData.depthAll (xs.map edP) ≤ 64
  | [] => Nat.zero_le _
  | x :: xs => by
    have h1 : PyData.depth (edP x) = 1 := rfl
    have := depth_ed xs
    rw [List.map_cons, PyData.depthAll, h1]
    omega
theorem ord_ed (xs : List Ed) : ordOk (xs.map edP) = true := by
  unfold ordOk
  rw [Bool.and_eq_true, Bool.and_eq_true]
  refine ⟨⟨?_, ?_⟩, decide_eq_true (depth_ed xs)⟩
  · rw [List.all_eq_true]
    intro p hp
    rw [List.all_eq_true]
    intro q hq
    obtain ⟨x, _, rfl⟩ := List.mem_map.mp hp
    obtain ⟨y, _, rfl⟩ := List.mem_map.mp hq
    rfl
  · rw [List.all_eq_true]
    intro p hp
    obtain ⟨x, _, rfl⟩ := List.mem_map.mp hp
    rfl
theorem minL_ed {xs : List Ed} (h : xs ≠ []) : ∃ y, minL (.lst (xs.map edD)) = some (edD y) ∧ IsMin (xs.map (·.1)) y.1 := by
  obtain ⟨x, xs, rfl⟩ := List.exists_cons_of_ne_nil h
  obtain ⟨y, hy, h1, h2⟩ := minD_ed xs x
  refine ⟨y, ?_, List.mem_map_of_mem h1, fun w hw => ?_⟩
  · have ho := ord_ed (x :: xs)
    rw [List.map_cons] at ho
    unfold minL
    simp only [toPys_ed]
    rw [List.map_cons]
    simp only
    rw [if_pos ho, hy]
    rfl
  · obtain ⟨z, hz, rfl⟩ := List.mem_map.mp hw
    exact h2 z hz
@[simp] theorem sorted_d2 {A : List Arc} (h : A.length < 64) : sortedO (.dct (arcsD A)) = some (.l ((sortS (A.map (·.1))).map .str)) := by
  rw [sorted_d, keysS_arcs]
  simp [h]
end DV

set_option Elab.async false
set_option linter.all false
set_option autoImplicit false
set_option maxRecDepth 100000
set_option maxHeartbeats 4000000
namespace DV
open PySem L2
/-! P21: the law's lowest terms and its number. -/
theorem halve {x y : Nat} (h0 : 0 < y) (h : y < x) : 2 * (y * (x % y)) ≤ x * y := by
  have h1 := Nat.mod_lt x h0
  have h2 := Nat.div_add_mod x y
  have h3 : 1 ≤ x / y := (Nat.le_div_iff_mul_le h0).mpr (by omega)
  have h4 : y * 1 ≤ y * (x / y) := Nat.mul_le_mul_left y h3
  have h5 : 2 * (x % y) ≤ x := by omega
  calc 2 * (y * (x % y)) = (2 * (x % y)) * y := by rw [Nat.mul_comm y, Nat.mul_assoc]
    _ ≤ x * y := Nat.mul_le_mul_right y h5
structure LoS (a b x y k : Nat) : Prop where
  g : Nat.gcd x y = Nat.gcd a b
  p : 0 < x
  z : k = 0 → x = a ∧ y = b
  s : 0 < k → y < x ∧ 2 ^ (k - 1) * (x * y) ≤ 2 ^ 100
theorem LoS.next {a b x y k : Nat} (ha : a < 1000000) (hb : b < 1000000) (h : LoS a b x y k) (hy : 0 < y) : LoS a b y (x % y) (k + 1) where
  g := by rw [← h.g, Nat.gcd_comm x y, Nat.gcd_rec y x, Nat.gcd_comm]
  p := hy
  z := fun e => by omega
  s := fun _ => by
    refine ⟨Nat.mod_lt x hy, ?_⟩
    rw [Nat.add_sub_cancel]
    by_cases c : k = 0
    · obtain ⟨rfl, rfl⟩ := h.z c
      subst c
      have h1 : y * (x % y) ≤ 1000000 * 1000000 := Nat.mul_le_mul (by omega) (by have := Nat.mod_lt x hy; omega)
      rw [Nat.pow_zero, Nat.one_mul]
      exact Nat.le_trans h1 (by decide)
    · obtain ⟨h1, h2⟩ := h.s (by omega)
      have h3 : 2 ^ k = 2 ^ (k - 1) * 2 := by rw [← Nat.pow_succ]; congr 1; omega
      rw [h3, Nat.mul_assoc]
      exact Nat.le_trans (Nat.mul_le_mul_left _ (halve hy h1)) h2
theorem LoS.stay {a b x k : Nat} (h : LoS a b x 0 k) : LoS a b x 0 (k + 1) where
  g := h.g
  p := h.p
  z := fun e => by omega
  s := fun _ => ⟨h.p, by simp⟩
theorem LoS.fin {a b x y : Nat} (h : LoS a b x y 200) : y = 0 ∧ x = Nat.gcd a b := by
  have h1 := (h.s (by omega)).2
  have hy : y = 0 := by
    by_cases c : y = 0
    · exact c
    · have h2 : 1 ≤ x * y := Nat.mul_pos h.p (by omega)
      have h3 : 2 ^ (200 - 1) * 1 ≤ 2 ^ (200 - 1) * (x * y) := Nat.mul_le_mul_left _ h2
      have h4 := Nat.le_trans h3 h1
      exact absurd h4 (by decide)
  refine ⟨hy, ?_⟩
  have := h.g
  rw [hy, Nat.gcd_zero_right] at this
  exact this
def LoI (a b : Nat) (k : Nat) (e : Env) : Prop := ∃ (x y : Nat) (s4 : S), e = [.fz (.int a), .fz (.int b), .fz (.int x), .fz (.int y), s4] ∧ LoS a b x y k
theorem llow_den {a b : Nat} (ha : a < 1000000) (hb : b < 1000000) (h0 : 0 < a) {Q : S → Env → Prop} (k : ∀ o, Q (.fz (.tup [.int (a / Nat.gcd a b : Nat), .int (b / Nat.gcd a b : Nat)])) o) : wpR (m_f__law_r_lowest [.fz (.int a), .fz (.int b)]) Q := by
  have hi : i62 200 = true := i62_ok ⟨by omega, by omega⟩
  have hg : 0 < Nat.gcd a b := Nat.gcd_pos_of_pos_left _ h0
  have hg2 : Nat.gcd a b ≤ a := Nat.gcd_le_left _ h0
  have hgb : (0 : Int) < (Nat.gcd a b : Nat) ∧ ((Nat.gcd a b : Nat) : Int) < 4611686018427387904 := ⟨by omega, by omega⟩
  simp [m_f__law_r_lowest, b_f__law_r_lowest]
  rw [if_pos hi]
  simp
  refine wp_for (LoI a b) ⟨a, b, _, rfl, rfl, h0, fun _ => ⟨rfl, rfl⟩, fun z => by omega⟩ ?_ ?_
  · rintro j d e hk ⟨x, y, s4, rfl, hs⟩
    simp
    by_cases c : y = 0
    · subst c
      simp
      exact ⟨x, 0, _, rfl, hs.stay⟩
    · have hy : 0 < y := by omega
      simp [hy]
      exact ⟨y, x % y, _, rfl, hs.next ha hb hy⟩
  · rintro e ⟨x, y, s4, rfl, hs⟩
    have hlen : (rangeD 0 200).length = 200 := by simp [rangeD]
    rw [hlen] at hs
    obtain ⟨rfl, rfl⟩ := hs.fin
    simp
    have hq : (0 < a ∨ 0 < b) ∧ ((Nat.gcd a b : Nat) : Int) < 4611686018427387904 := ⟨.inl h0, hgb.2⟩
    rw [if_pos hq]
    simp
    rw [if_pos hq]
    simp
    exact k _
end DV

set_option Elab.async false
set_option linter.all false
set_option autoImplicit false
set_option maxRecDepth 100000
set_option maxHeartbeats 4000000
namespace DV
open PySem L2
/-! R22: one number, rings in order, calls by names, displays. -/
theorem NumOf.uniq {h : Int} {A : List Arc} {s t s' t' : Nat} (a : NumOf h A s t) (b : NumOf h A s' t') : s = s' ∧ t = t' := by
  rcases a.e with ⟨c, rfl, rfl⟩ | ⟨c, n, i, r, _, rfl, rfl⟩ <;> rcases b.e with ⟨c', rfl, rfl⟩ | ⟨c', n', i', r', _, rfl, rfl⟩
  · exact ⟨rfl, rfl⟩
  · exact absurd c c'
  · exact absurd c' c
  · obtain ⟨rfl, rfl⟩ := r.uniq r'
    exact ⟨rfl, rfl⟩
theorem NumOf.bnd {h : Int} {A : List Arc} {s t : Nat} (a : NumOf h A s t) (h1 : 1 ≤ h) (h2 : h ≤ 1000) (hle : ∀ a ∈ A, 1 ≤ a.2.2 ∧ a.2.2 ≤ h) : s ≤ 1000 ∧ 1 ≤ t ∧ t ≤ 2000 ∧ Nat.gcd s t = 1 := by
  rcases a.e with ⟨c, rfl, rfl⟩ | ⟨c, n, i, r, hn, rfl, rfl⟩
  · decide
  · obtain ⟨hd0, hd1, hd2, hs1, hs2⟩ := r.days h1 h2 c hle hn
    have hg : 0 < Nat.gcd (stp n i) (dys h A n i) := Nat.gcd_pos_of_pos_left _ (by omega)
    refine ⟨Nat.le_trans (Nat.div_le_self _ _) hs2, ?_, Nat.le_trans (Nat.div_le_self _ _) hd2, Nat.coprime_div_gcd_div_gcd hg⟩
    exact (Nat.le_div_iff_mul_le hg).mpr (by rw [Nat.one_mul]; exact Nat.gcd_le_right _ (by omega))
/-- the arcs of a ring that is in order -/
structure RingOk (h : Int) (A : List Arc) : Prop where
  h1 : 1 ≤ h
  h2 : h ≤ 1000
  nd : (A.map (·.1)).Nodup
  ln : A.length ≤ 40
  le : ∀ a ∈ A, 1 ≤ a.2.2 ∧ a.2.2 ≤ h
@[simp] theorem wev_callK {m : Nat} {pm : List Nat} {n : Nat} {den : Env → Res S} {ua uk : Env → Res (List Arg)} {e : Env} {Q} : wpR (dCallK m pm n den ua uk e) Q = wpR ((ua e).bind fun as e => (uk e).bind fun zs e => if as.length = m ∧ as.length + zs.length = pm.length then callN n den (pick pm (as ++ zs)) e else .no) Q := rfl
@[simp] theorem pick_1 {α : Type} {x : α} : pick [0] [x] = [x] := rfl
theorem RingOk.of {h : Int} {A : List Arc} (ok : ArcsOk h A) (h1 : 1 ≤ h) (h2 : h ≤ 1000) (hl : A.length ≤ 40) : RingOk h A := ⟨h1, h2, ok.nd, hl, ok.ln⟩
theorem ringC_perm {h : Int} {A B : List Arc} (p : A.Perm B) (hn : (A.map (·.1)).Nodup) : ringC h A = ringC h B := by unfold ringC; rw [sortA_perm p hn]
theorem ArcsOk.perm {h : Int} {A B : List Arc} (p : A.Perm B) (ok : ArcsOk h B) : ArcsOk h A := ⟨((p.map (·.1)).nodup_iff).mpr ok.nd, fun a ha => ok.nm a (p.mem_iff.mp ha), fun a ha => ok.st a (p.mem_iff.mp ha), fun a ha => ok.ln a (p.mem_iff.mp ha)⟩
theorem num_ex {h : Int} {A : List Arc} (R : RingOk h A) : ∃ s t, NumOf h A s t := by
  obtain ⟨_, _, _, q⟩ := (number_den (Q := fun _ _ => ∃ s t, NumOf h A s t) R.h1 R.h2 R.nd R.ln R.le fun s t o N => ⟨s, t, N⟩).out
  exact q
@[simp] theorem wev_dpCons {fk fv : Env → Res D} {u : Env → Res (List (D × D))} {e : Env} {Q} : wpR (dpCons fk fv u e) Q = wpR ((fk e).bind fun k e => (fv e).bind fun v e => (u e).bind fun r e => .ok ((k, v) :: r) e) Q := rfl
@[simp] theorem wev_dpNil {e : Env} {Q} : wpR (dpNil e) Q = wpR (.ok [] e) Q := rfl
@[simp] theorem wev_oDisp {fp : Env → Res (List (D × D))} {e : Env} {Q} : wpR (oDisp fp e) Q = wpR ((fp e).bind fun ds e => (lift (keyPairs ds) e).bind fun kds e => if kds.length ≤ 15 then .ok (.own none (.d (mergeD [] kds))) e else .no) Q := rfl
theorem arcs_merge {A : List Arc} (h : (A.map (·.1)).Nodup) : mergeD [] (arcsD A) = arcsD A := by
  refine mergeD_new ?_
  rw [List.nil_append, arcsD_keys, List.nodup_iff_pairwise_ne, List.pairwise_map]
  exact (List.nodup_iff_pairwise_ne.mp h).imp fun h z => h (Sum.inr.inj z)
end DV

set_option Elab.async false
set_option linter.all false
set_option autoImplicit false
set_option maxRecDepth 100000
set_option maxHeartbeats 4000000
namespace DV
open PySem L2
/-! P28: _law_spring. -/
def SgI (ns : List Int) (turn : Nat) (cell : Int) (k : Nat) (e : Env) : Prop := ∃ (mix : Int) (s4 s5 : S), e = [.fz (.scr ns), .fz (.int turn), .fz (.int cell), .fz (.int mix), s4, s5]
theorem spring_den {ns : List Int} (hl : ns.length ≤ 63) {turn : Nat} (ht : turn < 1000) {Q : S → Env → Prop} (kq : ∀ (ct : Ct) (o : Env), Spr 0 ct → Q (.own none ct) o) : wpR (m_f__law_spring [.fz (.scr ns), .fz (.int turn)]) Q := by
  simp only [m_f__law_spring, wp_denF]
  unfold b_f__law_spring
  refine wp_seqM (fun e => ∃ cell : Int, SgI ns turn cell 0 e) ?_ ?_
  · by_cases c : turn < ns.length
    · have hix : ixD (.scr ns) (.int turn) = some (.int ns[turn]) := by
        show (atI ns (turn : Int)).map _ = _
        rw [atI_nat c]; rfl
      simp [c, hix]
      exact ⟨_, _, _, _, rfl⟩
    · simp [c]
      exact ⟨_, _, _, _, rfl⟩
  · rintro e ⟨cell, mix, s4, s5, rfl⟩
    have hsl : slD (.scr ns) none (some 63) = some (.lst (ns.map .int)) := by
      show some (D.lst (cutG (ns.map D.int) none (some 63))) = _
      have : cutG (ns.map D.int) none (some 63) = ns.map D.int := by
        have e1 : HT.sIx (ns.map D.int).length (ns.map D.int).length (some 63) = (ns.map D.int).length := by
          rw [show (63 : Int) = ((63 : Nat) : Int) from rfl, HT.sIx_nat, List.length_map]; omega
        unfold cutG
        rw [e1, HT.sIx_none, List.drop_zero, Nat.sub_zero, List.take_length]
      rw [this]
    simp [hsl]
    refine wp_for (SgI ns turn cell) ⟨_, _, _, rfl⟩ ?_ ?_
    · rintro k d e hk ⟨mix, s4, s5, rfl⟩
      obtain ⟨y, hy, rfl⟩ := enumD_at hk
      obtain ⟨x, hx, rfl⟩ : ∃ x, ns[k]? = some x ∧ y = .int x := by
        rw [List.getElem?_map] at hy
        obtain ⟨x, h1, h2⟩ := Option.map_eq_some_iff.mp hy
        exact ⟨x, h1, h2.symm⟩
      simp
      exact ⟨_, _, _, rfl⟩
    · rintro e ⟨mix, s4, s5, rfl⟩
      simp
      have m0 := Int.emod_nonneg (mix + cell * 31) (show (2147483647 : Int) ≠ 0 by decide)
      have m1 := Int.emod_lt_of_pos (mix + cell * 31) (show (0 : Int) < 2147483647 by decide)
      split
      · exact kq _ _ ⟨_, _, _, rfl, by omega, m0, m1, by decide, by decide⟩
      · exact kq _ _ ⟨_, _, _, rfl, by decide, m0, m1, by decide, by decide⟩
theorem spring_wp {ns : List Int} (hl : ns.length ≤ 63) {turn : Nat} (ht : turn < 1000) {as : List Arg} {e : Env} (ha : argsF e as = some [.scr ns, .int turn]) {Q : S → Env → Prop} (k : ∀ ct : Ct, Spr 0 ct → Q (.own none ct) e) : wpR (callN 2 m_f__law_spring as e) Q :=
  wp_callF ha rfl (spring_den hl ht fun ct o h => ⟨trivial, k ct h⟩)
end DV

set_option Elab.async false
set_option linter.all false
set_option autoImplicit false
set_option maxRecDepth 100000
set_option maxHeartbeats 4000000
namespace DV
open PySem L2
/-! M0: the walk is monotone; a ring without an arc: its number. -/
/-- a ring's arcs as the walk wants them -/
structure WkOk (h : Int) (A : List Arc) : Prop where
  h1 : 1 ≤ h
  st : ∀ a ∈ A, 0 ≤ a.2.1 ∧ a.2.1 < h
  le : ∀ a ∈ A, 1 ≤ a.2.2 ∧ a.2.2 ≤ h
theorem WkOk.sub {h : Int} {A B : List Arc} (ok : WkOk h A) (sb : ∀ a ∈ B, a ∈ A) : WkOk h B := ⟨ok.h1, fun a ha => ok.st a (sb a ha), fun a ha => ok.le a (sb a ha)⟩
theorem endOf_mono {h p q : Int} {a : Arc} (h1 : 1 ≤ h) (hp : p ≤ q) : endOf h p a ≤ endOf h q a := by
  unfold endOf
  have e : (p - a.2.1) / h ≤ (q - a.2.1) / h := Int.ediv_le_ediv (by omega) (by omega)
  have := Int.mul_le_mul_of_nonneg_right (show (p - a.2.1) / h + 1 ≤ (q - a.2.1) / h + 1 by omega) (show 0 ≤ h by omega)
  omega
theorem endOf_shift {h p : Int} {a : Arc} (h1 : 1 ≤ h) (d : Int) : endOf h (p + h * d) a = endOf h p a + h * d := by
  unfold endOf
  have e : (p + h * d - a.2.1) / h = (p - a.2.1) / h + d := by
    rw [show p + h * d - a.2.1 = (p - a.2.1) + h * d by omega, Int.add_mul_ediv_left _ _ (by omega)]
  rw [e, show (p - a.2.1) / h + d + 1 = ((p - a.2.1) / h + 1) + d by omega, Int.add_mul, Int.mul_comm d]
  omega
theorem nxt_le {h : Int} {A B : List Arc} {p q : Int} (h1 : 1 ≤ h) (h0 : B ≠ []) (sb : ∀ a ∈ B, a ∈ A) (hp : p ≤ q) : nxt h A p ≤ nxt h B q := by
  have hA : A ≠ [] := fun z => by
    cases B with
    | nil => exact h0 rfl
    | cons b B => have := sb b List.mem_cons_self; rw [z] at this; cases this
  obtain ⟨a, ha, e⟩ := List.mem_map.mp (nxt_is (h := h) (p := q) h0).1
  rw [← e]
  have := (nxt_is (h := h) (p := p) hA).2 _ (List.mem_map_of_mem (sb a ha))
  have := endOf_mono (a := a) h1 hp
  omega
theorem nxt_shift {h p : Int} {A : List Arc} (h1 : 1 ≤ h) (h0 : A ≠ []) (d : Int) : nxt h A (p + h * d) = nxt h A p + h * d := by
  refine IsMin.uniq (nxt_is h0) (ys := (A.map (endOf h (p + h * d)))) ⟨?_, fun x hx => ?_⟩ fun x => Iff.rfl
  · obtain ⟨a, ha, e⟩ := List.mem_map.mp (nxt_is (h := h) (p := p) h0).1
    exact List.mem_map.mpr ⟨a, ha, by rw [endOf_shift h1, e]⟩
  · obtain ⟨a, ha, rfl⟩ := List.mem_map.mp hx
    have := (nxt_is (h := h) (p := p) h0).2 _ (List.mem_map_of_mem ha)
    rw [endOf_shift h1]; omega
theorem wk_lt {h : Int} {A : List Arc} (ok : WkOk h A) (h0 : A ≠ []) (k : Nat) : wk h A k < wk h A (k + 1) := by
  show wk h A k < nxt h A (wk h A k)
  obtain ⟨a, ha, e⟩ := List.mem_map.mp (nxt_is (h := h) (p := wk h A k) h0).1
  rw [← e]
  exact (endOf_bnd ok.h1 (ok.le a ha)).1
theorem wk_mono {h : Int} {A : List Arc} (ok : WkOk h A) (h0 : A ≠ []) : ∀ {i j : Nat}, i ≤ j → wk h A i ≤ wk h A j := fun {i j} hij => by
  obtain ⟨d, rfl⟩ := Nat.exists_eq_add_of_le hij
  clear hij
  induction d with
  | zero => exact Int.le_refl _
  | succ d ih => have := wk_lt ok h0 (i + d); rw [show i + (d + 1) = i + d + 1 by omega]; omega
theorem wk_sub {h : Int} {A B : List Arc} (h1 : 1 ≤ h) (h0 : B ≠ []) (sb : ∀ a ∈ B, a ∈ A) : ∀ k, wk h A k ≤ wk h B k
  | 0 => Int.le_refl _
  | k + 1 => nxt_le h1 h0 sb (wk_sub h1 h0 sb k)
theorem wk_per {h : Int} {A : List Arc} (h1 : 1 ≤ h) (h0 : A ≠ []) {i S : Nat} {D : Int} (e : wk h A (i + S) = wk h A i + h * D) : ∀ m, wk h A (i + m + S) = wk h A (i + m) + h * D
  | 0 => e
  | m + 1 => by
    have ih := wk_per h1 h0 e m
    rw [show i + (m + 1) + S = (i + m + S) + 1 by omega]
    show nxt h A (wk h A (i + m + S)) = nxt h A (wk h A (i + m)) + h * D
    rw [ih, nxt_shift h1 h0]
theorem wk_pers {h : Int} {A : List Arc} (h1 : 1 ≤ h) (h0 : A ≠ []) {i S : Nat} {D : Int} (e : wk h A (i + S) = wk h A i + h * D) {j : Nat} (hj : i ≤ j) : ∀ q : Nat, wk h A (j + q * S) = wk h A j + h * (q * D)
  | 0 => by simp
  | q + 1 => by
    have ih := wk_pers h1 h0 e hj q
    obtain ⟨m, rfl⟩ := Nat.exists_eq_add_of_le hj
    have := wk_per h1 h0 e (m + q * S)
    rw [show i + (m + q * S) = i + m + q * S by omega] at this
    rw [show i + m + (q + 1) * S = i + m + q * S + S by rw [Nat.add_mul]; omega, this, ih]
    rw [Int.natCast_add, Int.add_mul, Int.mul_add, show ((1 : Nat) : Int) = 1 from rfl, Int.one_mul]
    omega
theorem arch {a b x y : Int} (h : ∀ q : Nat, a + q * x ≤ b + q * y) : x ≤ y := by
  refine Decidable.byContradiction fun c => ?_
  have h1 := h ((b - a).toNat + 1)
  generalize hq : (b - a).toNat + 1 = q at h1
  have h2 : (q : Int) * (y + 1) ≤ q * x := Int.mul_le_mul_of_nonneg_left (by omega) (by omega)
  rw [Int.mul_add] at h2
  omega
/-- a turn of the walk -/
theorem Rho.turn {h : Int} {A : List Arc} {n i : Nat} (r : Rho h A n i) (h1 : 1 ≤ h) (h2 : h ≤ 1000) (ok : WkOk h A) (h0 : A ≠ []) (hn : (n : Int) ≤ h) : wk h A (i + stp n i) = wk h A i + h * (dys h A n i : Int) := by
  obtain ⟨d1, -⟩ := r.days h1 h2 h0 ok.le hn
  rw [← d1]
  have e2 := r.eq
  unfold hr at e2
  have := Int.mul_ediv_cancel' (Int.dvd_of_emod_eq_zero (Int.emod_eq_emod_iff_emod_sub_eq_zero.mp e2))
  rw [this]
  unfold stp
  rw [show i + (n - i) = n by have := r.lt; omega]
  omega
theorem turns_le {h : Int} {A B : List Arc} (okA : WkOk h A) (h0 : B ≠ []) (sb : ∀ a ∈ B, a ∈ A) {i S i' S' : Nat} {D D' : Int} (eA : wk h A (i + S) = wk h A i + h * D) (eB : wk h B (i' + S') = wk h B i' + h * D') : (S' : Int) * D ≤ S * D' := by
  have hA : A ≠ [] := fun z => by
    cases B with
    | nil => exact h0 rfl
    | cons b B => have := sb b List.mem_cons_self; rw [z] at this; cases this
  have h1 := okA.h1
  have key : ∀ q : Nat, wk h A (max i i') + q * (h * ((S' : Int) * D)) ≤ wk h B (max i i') + q * (h * (S * D')) := fun q => by
    have a := wk_pers h1 hA eA (Nat.le_max_left i i') (q * S')
    have b := wk_pers h1 h0 eB (Nat.le_max_right i i') (q * S)
    rw [show q * S' * S = q * S * S' by ac_rfl] at a
    have c := wk_sub h1 h0 sb (max i i' + q * S * S')
    rw [a, b] at c
    rw [show (q : Int) * (h * ((S' : Int) * D)) = h * (((q * S' : Nat) : Int) * D) by rw [Int.natCast_mul]; ac_rfl, show (q : Int) * (h * ((S : Int) * D')) = h * (((q * S : Nat) : Int) * D') by rw [Int.natCast_mul]; ac_rfl]
    exact c
  exact Int.le_of_mul_le_mul_left (arch key) (by omega)
/-- without an arc: how far the walk of the others has come -/
theorem drop_k {h : Int} {A B : List Arc} (ok : WkOk h A) (hA : A ≠ []) {x : Arc} (hx : x ∈ A) (sb : ∀ a ∈ B, a ∈ A) (hs : ∀ a ∈ A, a = x ∨ a ∈ B) : ∀ k : Nat, ∃ j m : Nat, j + m = k ∧ (B ≠ [] → wk h B j ≤ wk h A k) ∧ (B = [] → j = 0) ∧ (m = 0 ∨ ((m : Int) - 1) * h + x.2.1 + x.2.2 - 1 ≤ wk h A k) ∧ 0 ≤ wk h A k
  | 0 => ⟨0, 0, rfl, fun _ => Int.le_refl _, fun _ => rfl, .inl rfl, Int.le_refl _⟩
  | k + 1 => by
    obtain ⟨j, m, e, w, z, im, pk⟩ := drop_k ok hA hx sb hs k
    have up := wk_lt ok hA k
    obtain ⟨a, ha, ea⟩ := List.mem_map.mp (nxt_is (h := h) (p := wk h A k) hA).1
    have ea' : endOf h (wk h A k) a = wk h A (k + 1) := ea
    rcases hs a ha with rfl | hb
    · refine ⟨j, m + 1, by omega, fun h0 => by have := w h0; omega, z, .inr ?_, by omega⟩
      rw [← ea']
      obtain ⟨s1, s2⟩ := ok.st a ha
      obtain ⟨l1, l2⟩ := ok.le a ha
      have hb := (endOf_bnd (p := wk h A k) ok.h1 ⟨l1, l2⟩).1
      unfold endOf at hb ⊢
      have q1 := Int.emod_add_mul_ediv (wk h A k - a.2.1) h
      have q2 := Int.emod_lt_of_pos (wk h A k - a.2.1) (show 0 < h by have := ok.h1; omega)
      have q3 := Int.emod_nonneg (wk h A k - a.2.1) (show h ≠ 0 by have := ok.h1; omega)
      generalize (wk h A k - a.2.1) / h = y at *
      have dm : ((m : Int) + 1 - 1) * h ≤ (y + 1) * h := by
        refine Int.mul_le_mul_of_nonneg_right ?_ (by omega)
        rcases im with rfl | im
        · have : h * (-1) < h * (y + 1) := by rw [Int.mul_add]; omega
          have := Int.lt_of_mul_lt_mul_left this (by omega)
          simp; omega
        · have : h * ((m : Int) - 1) < h * (y + 1) := by rw [Int.mul_add h y, Int.mul_comm h ((m : Int) - 1)]; omega
          have := Int.lt_of_mul_lt_mul_left this (by omega)
          omega
      have em : ((m + 1 : Nat) : Int) - 1 = (m : Int) + 1 - 1 := by omega
      rw [em]
      omega
    · have h0 : B ≠ [] := fun z => by rw [z] at hb; cases hb
      refine ⟨j + 1, m, by omega, fun _ => ?_, fun z => absurd z h0, ?_, by omega⟩
      · have h3 := w h0
        have h4 : nxt h B (wk h B j) ≤ nxt h B (wk h A k) := nxt_le ok.h1 h0 (fun a ha => ha) h3
        have h5 := (nxt_is (h := h) (p := wk h A k) h0).2 _ (List.mem_map_of_mem hb)
        show nxt h B (wk h B j) ≤ _
        rw [← ea']; omega
      · rcases im with z | im
        · exact .inl z
        · exact .inr (by omega)

theorem turns_drop {h : Int} {A B : List Arc} (ok : WkOk h A) (h0 : B ≠ []) {x : Arc} (hx : x ∈ A) (sb : ∀ a ∈ B, a ∈ A) (hs : ∀ a ∈ A, a = x ∨ a ∈ B) {i S i' S' : Nat} {D D' : Int} (hD : 0 ≤ D) (hS : 1 ≤ S') (eA : wk h A (i + S) = wk h A i + h * D) (eB : wk h B (i' + S') = wk h B i' + h * D') :
    ((S : Int) - D) * D' ≤ S' * D ∨ (S : Int) ≤ D := by
  refine Decidable.or_iff_not_imp_right.mpr fun hE => ?_
  have hA : A ≠ [] := fun z => by rw [z] at hx; cases hx
  have h1 := ok.h1
  have okB := ok.sub sb
  obtain ⟨E, hE2⟩ : ∃ E : Nat, (S : Int) - D = E := ⟨((S : Int) - D).toNat, by omega⟩
  have hE1 : 1 ≤ E := by omega
  obtain ⟨J, hJ⟩ : ∃ J, J = max i i' := ⟨_, rfl⟩
  have hJ1 : i ≤ J := by omega
  have hJ2 : i' ≤ J := by omega
  -- how far without x, at J + q * S
  obtain ⟨C, hC⟩ : ∃ C : Nat, (C : Int) = wk h A J + 1 := ⟨(wk h A J + 1).toNat, by
    have := wk_mono ok hA (Nat.zero_le J)
    have e0 : wk h A 0 = 0 := rfl
    omega⟩
  have far : ∀ q : Nat, C ≤ J + q * E → wk h B (J + q * E - C) ≤ wk h A J + h * (q * D) := fun q hq => by
    obtain ⟨j, m, e, w, _, im, pk⟩ := drop_k ok hA hx sb hs (J + q * S)
    have w := w h0
    rw [wk_pers h1 hA eA hJ1 q] at w im
    refine Int.le_trans (wk_mono okB h0 ?_) w
    -- m ≤ q * D + C
    have hm : (m : Int) ≤ q * D + C := by
      obtain ⟨s1, s2⟩ := ok.st x hx
      obtain ⟨l1, l2⟩ := ok.le x hx
      rcases im with z | im
      · have : 0 ≤ (q : Int) * D := Int.mul_nonneg (by omega) hD
        omega
      · have b1 : h * ((m : Int) - 1) ≤ h * ((q * D) + wk h A J) := by
          rw [Int.mul_add h, Int.mul_comm h ((m : Int) - 1)]
          have p0 := wk_mono ok hA (Nat.zero_le J)
          have e0 : wk h A 0 = 0 := rfl
          have : wk h A J * 1 ≤ wk h A J * h := Int.mul_le_mul_of_nonneg_left h1 (by omega)
          rw [Int.mul_comm h (wk h A J)]
          omega
        have := Int.le_of_mul_le_mul_left b1 (by omega)
        omega
    have e2 : ((q * S : Nat) : Int) = q * D + (q * E : Nat) := by
      rw [Int.natCast_mul, Int.natCast_mul, ← Int.mul_add]
      congr 1
      omega
    omega
  obtain ⟨r0, hr0⟩ : ∃ r0 : Nat, C ≤ r0 * S' * E := ⟨C, by
    have a1 : C * 1 ≤ C * S' := Nat.mul_le_mul_left _ hS
    have a2 : C * S' * 1 ≤ C * S' * E := Nat.mul_le_mul_left _ hE1
    omega⟩
  have key : ∀ u : Nat, wk h B J + u * (h * ((E : Int) * D')) ≤ (wk h A J + r0 * (h * (S' * D))) + u * (h * (S' * D)) := fun u => by
    have hk : C ≤ J + (r0 + u) * S' * E := by
      rw [Nat.add_mul, Nat.add_mul]; omega
    have f := far ((r0 + u) * S') hk
    have b := wk_pers h1 h0 eB hJ2 (u * E)
    have c : wk h B (J + u * E * S') ≤ wk h B (J + (r0 + u) * S' * E - C) := wk_mono okB h0 (by
      have : (r0 + u) * S' * E = r0 * S' * E + u * E * S' := by rw [Nat.add_mul, Nat.add_mul]; congr 1; ac_rfl
      omega)
    rw [b] at c
    have g1 : (u : Int) * (h * ((E : Int) * D')) = h * (((u * E : Nat) : Int) * D') := by rw [Int.natCast_mul]; ac_rfl
    have g2 : h * ((((r0 + u) * S' : Nat) : Int) * D) = (r0 : Int) * (h * (S' * D)) + u * (h * (S' * D)) := by
      rw [← Int.add_mul, Int.natCast_mul, Int.natCast_add]; ac_rfl
    rw [g2] at f
    rw [g1]
    omega
  have := Int.le_of_mul_le_mul_left (arch key) (show 0 < h by omega)
  rw [hE2]
  exact this
theorem turns_last {h : Int} {A : List Arc} (ok : WkOk h A) {x : Arc} (hx : x ∈ A) (hs : ∀ a ∈ A, a = x) {i S : Nat} {D : Int} (eA : wk h A (i + S) = wk h A i + h * D) : (S : Int) ≤ D := by
  have hA : A ≠ [] := fun z => by rw [z] at hx; cases hx
  have h1 := ok.h1
  have key : ∀ q : Nat, (((i : Int) - 1) * h) + q * (h * S) ≤ wk h A i + q * (h * D) := fun q => by
    obtain ⟨j, m, e, _, z, im, pk⟩ := drop_k (B := []) ok hA hx (fun a z => by cases z) (fun a ha => .inl (hs a ha)) (i + q * S)
    have z := z rfl
    rw [wk_pers h1 hA eA (Nat.le_refl i) q] at im pk
    have g : h * ((q : Int) * D) = q * (h * D) := by ac_rfl
    rw [g] at im pk
    have g2 : (((i + q * S : Nat) : Int) - 1) * h = ((i : Int) - 1) * h + q * (h * S) := by
      rw [Int.natCast_add, Int.natCast_mul, show (i : Int) + q * S - 1 = ((i : Int) - 1) + q * S by omega, Int.add_mul]; congr 1; ac_rfl
    obtain ⟨s1, s2⟩ := ok.st x hx
    obtain ⟨l1, l2⟩ := ok.le x hx
    rw [← g2]
    rcases im with im | im
    · have : i + q * S = 0 := by omega
      rw [this]
      simp
      omega
    · have em : m = i + q * S := by omega
      rw [em] at im
      omega
  exact Int.le_of_mul_le_mul_left (arch key) (show 0 < h by omega)
theorem num_turn {h : Int} {A : List Arc} {s t : Nat} (N : NumOf h A s t) (h2 : h ≤ 1000) (ok : WkOk h A) (h0 : A ≠ []) : ∃ i S D g : Nat, 1 ≤ S ∧ 1 ≤ D ∧ 1 ≤ g ∧ S = s * g ∧ D = t * g ∧ wk h A (i + S) = wk h A i + h * (D : Int) := by
  rcases N.e with ⟨z, -, -⟩ | ⟨-, n, i, r, hn, rfl, rfl⟩
  · exact absurd z h0
  · obtain ⟨d1, d2, d3, d4, d5⟩ := r.days ok.h1 h2 h0 ok.le hn
    have hg : 0 < Nat.gcd (stp n i) (dys h A n i) := Nat.gcd_pos_of_pos_left _ (by omega)
    exact ⟨i, stp n i, dys h A n i, _, d4, d2, hg, (Nat.div_mul_cancel (Nat.gcd_dvd_left _ _)).symm, (Nat.div_mul_cancel (Nat.gcd_dvd_right _ _)).symm, r.turn ok.h1 h2 ok h0 hn⟩
/-- an arc less: not more -/
theorem num_le {h : Int} {A B : List Arc} {s t s' t' : Nat} (h2 : h ≤ 1000) (ok : WkOk h A) (sb : ∀ a ∈ B, a ∈ A) (N : NumOf h A s t) (N' : NumOf h B s' t') : s' * t ≤ s * t' := by
  by_cases h0 : B = []
  · rcases N'.e with ⟨_, rfl, rfl⟩ | ⟨z, _⟩
    · omega
    · exact absurd h0 z
  · have hA : A ≠ [] := fun z => by
      cases B with
      | nil => exact h0 rfl
      | cons b B => have := sb b List.mem_cons_self; rw [z] at this; cases this
    obtain ⟨i, S, D, g, _, _, hg, rfl, rfl, e⟩ := num_turn N h2 ok hA
    obtain ⟨i', S', D', g', _, _, hg', rfl, rfl, e'⟩ := num_turn N' h2 (ok.sub sb) h0
    have := turns_le ok h0 sb e e'
    have t1 : (s' * g') * (t * g) ≤ (s * g) * (t' * g') := by exact_mod_cast this
    have t2 : (g * g') * (s' * t) ≤ (g * g') * (s * t') := by
      rw [show (g * g') * (s' * t) = (s' * g') * (t * g) by ac_rfl, show (g * g') * (s * t') = (s * g) * (t' * g') by ac_rfl]; exact t1
    exact Nat.le_of_mul_le_mul_left t2 (Nat.mul_pos hg hg')
/-- .. less by one at most -/
theorem num_drop {h : Int} {A B : List Arc} {s t s' t' : Nat} (h2 : h ≤ 1000) (ok : WkOk h A) {x : Arc} (hx : x ∈ A) (sb : ∀ a ∈ B, a ∈ A) (hs : ∀ a ∈ A, a = x ∨ a ∈ B) (N : NumOf h A s t) (N' : NumOf h B s' t') : ((s : Int) - t) * t' ≤ s' * t := by
  have hA : A ≠ [] := fun z => by rw [z] at hx; cases hx
  obtain ⟨i, S, D, g, hS1, hD1, hg, rfl, rfl, e⟩ := num_turn N h2 ok hA
  have small : ((s * g : Nat) : Int) ≤ ((t * g : Nat) : Int) → ((s : Int) - t) * t' ≤ s' * t := fun z => by
    have z1 : s * g ≤ t * g := by exact_mod_cast z
    have z2 : s ≤ t := Nat.le_of_mul_le_mul_right z1 hg
    have z3 : ((s : Int) - t) * t' ≤ 0 * t' := Int.mul_le_mul_of_nonneg_right (by omega) (by omega)
    have z4 : 0 ≤ (s' : Int) * t := Int.mul_nonneg (by omega) (by omega)
    omega
  by_cases h0 : B = []
  · exact small (turns_last ok hx (fun a ha => (hs a ha).resolve_right (by rw [h0]; intro z; cases z)) e)
  · obtain ⟨i', S', D', g', hS2, hD2, hg', rfl, rfl, e'⟩ := num_turn N' h2 (ok.sub sb) h0
    rcases turns_drop ok h0 hx sb hs (by omega) hS2 e e' with z | z
    · have t1 : ((g * g' : Nat) : Int) * (((s : Int) - t) * t') ≤ ((g * g' : Nat) : Int) * (s' * t) := by
        rw [Int.natCast_mul] at *
        rw [Int.natCast_mul, Int.natCast_mul, Int.natCast_mul, ← Int.sub_mul] at z
        rw [show (g : Int) * g' * (((s : Int) - t) * t') = ((s : Int) - t) * g * (t' * g') by ac_rfl, show (g : Int) * g' * ((s' : Int) * t) = s' * g' * (t * g) by ac_rfl]
        exact z
      exact Int.le_of_mul_le_mul_left t1 (by have := Nat.mul_pos hg hg'; omega)
    · exact small z
end DV

set_option Elab.async false
set_option linter.all false
set_option autoImplicit false
set_option maxRecDepth 100000
set_option maxHeartbeats 4000000
namespace DV
open PySem L2
/-! M1: closed turns; the arcs of a wound chain. -/
/-- the walk from a place -/
def wkp (h : Int) (A : List Arc) (p : Int) : Nat → Int
  | 0 => p
  | k + 1 => nxt h A (wkp h A p k)
theorem wkp_ge {h : Int} {A : List Arc} (h1 : 1 ≤ h) (h0 : A ≠ []) {p : Int} (hp : 0 ≤ p) : ∀ k, wk h A k ≤ wkp h A p k
  | 0 => hp
  | k + 1 => nxt_le h1 h0 (fun a ha => ha) (wkp_ge h1 h0 hp k)
theorem wkp_per {h : Int} {A : List Arc} (h1 : 1 ≤ h) (h0 : A ≠ []) {p : Int} {S : Nat} {D : Int} (e : wkp h A p S = p + h * D) : ∀ m, wkp h A p (m + S) = wkp h A p m + h * D
  | 0 => by rw [Nat.zero_add]; exact e
  | m + 1 => by
    have ih := wkp_per h1 h0 e m
    rw [show m + 1 + S = (m + S) + 1 by omega]
    show nxt h A (wkp h A p (m + S)) = nxt h A (wkp h A p m) + h * D
    rw [ih, nxt_shift h1 h0]
theorem wkp_pers {h : Int} {A : List Arc} (h1 : 1 ≤ h) (h0 : A ≠ []) {p : Int} {S : Nat} {D : Int} (e : wkp h A p S = p + h * D) (j : Nat) : ∀ q : Nat, wkp h A p (j + q * S) = wkp h A p j + h * (q * D)
  | 0 => by simp
  | q + 1 => by
    have ih := wkp_pers h1 h0 e j q
    have := wkp_per h1 h0 e (j + q * S)
    rw [show j + (q + 1) * S = j + q * S + S by rw [Nat.add_mul]; omega, this, ih]
    rw [Int.natCast_add, Int.add_mul, Int.mul_add, show ((1 : Nat) : Int) = 1 from rfl, Int.one_mul]
    omega
/-- a closed turn of S steps in D days: the number is at least S / D -/
theorem turn_ge {h : Int} {B : List Arc} {s t : Nat} (h2 : h ≤ 1000) (ok : WkOk h B) (h0 : B ≠ []) (N : NumOf h B s t) {p : Int} (hp : 0 ≤ p) {S : Nat} {D : Int} (e : wkp h B p S = p + h * D) : (S : Int) * t ≤ s * D := by
  have h1 := ok.h1
  obtain ⟨i, S', D', g, _, _, hg, rfl, rfl, e'⟩ := num_turn N h2 ok h0
  have key : ∀ q : Nat, wk h B i + q * (h * ((S : Int) * ((t * g : Nat) : Int))) ≤ wkp h B p i + q * (h * (((s * g : Nat) : Int) * D)) := fun q => by
    have a := wk_pers h1 h0 e' (Nat.le_refl i) (q * S)
    have b := wkp_pers h1 h0 e i (q * (s * g))
    rw [show q * (s * g) * S = q * S * (s * g) by ac_rfl] at b
    have c := wkp_ge h1 h0 hp (i + q * S * (s * g))
    rw [a, b] at c
    rw [show (q : Int) * (h * ((S : Int) * ((t * g : Nat) : Int))) = h * (((q * S : Nat) : Int) * ((t * g : Nat) : Int)) by rw [Int.natCast_mul q S]; ac_rfl, show (q : Int) * (h * (((s * g : Nat) : Int) * D)) = h * (((q * (s * g) : Nat) : Int) * D) by rw [Int.natCast_mul q (s * g)]; ac_rfl]
    exact c
  have := Int.le_of_mul_le_mul_left (arch key) (show 0 < h by omega)
  rw [Int.natCast_mul, Int.natCast_mul] at this
  have t2 : (g : Int) * (S * t) ≤ g * (s * D) := by
    rw [show (g : Int) * (S * t) = S * (t * g) by ac_rfl, show (g : Int) * (s * D) = s * g * D by ac_rfl]; exact this
  exact Int.le_of_mul_le_mul_left t2 (by omega)
/-- .. of the ring's own walk: the number is just S / D -/
theorem turn_eq {h : Int} {A : List Arc} {s t : Nat} (h2 : h ≤ 1000) (ok : WkOk h A) (h0 : A ≠ []) (N : NumOf h A s t) {i S : Nat} {D : Int} (e : wk h A (i + S) = wk h A i + h * D) : (S : Int) * t = s * D := by
  obtain ⟨i', S', D', g, _, _, hg, rfl, rfl, e'⟩ := num_turn N h2 ok h0
  have a := turns_le ok h0 (fun a ha => ha) e e'
  have b := turns_le ok h0 (fun a ha => ha) e' e
  rw [Int.natCast_mul, Int.natCast_mul] at a b
  have c : (g : Int) * (s * D) = g * (S * t) := by
    rw [show (g : Int) * (s * D) = s * g * D by ac_rfl, show (g : Int) * (S * t) = S * (t * g) by ac_rfl]; omega
  exact (Int.eq_of_mul_eq_mul_left (by omega) c).symm
/-- a walk of A that arcs of B alone make -/
theorem follow {h : Int} {A B : List Arc} (h1 : 1 ≤ h) (sb : ∀ a ∈ B, a ∈ A) {i : Nat} : ∀ S : Nat, (∀ k, i ≤ k → k < i + S → ∃ a ∈ B, endOf h (wk h A k) a = wk h A (k + 1)) → wkp h B (wk h A i) S = wk h A (i + S)
  | 0, _ => rfl
  | S + 1, hk => by
    have ih := follow h1 sb S fun k k1 k2 => hk k k1 (by omega)
    obtain ⟨a, ha, e⟩ := hk (i + S) (by omega) (by omega)
    show nxt h B (wkp h B (wk h A i) S) = _
    rw [ih]
    have h0 : B ≠ [] := fun z => by rw [z] at ha; cases ha
    have l1 : nxt h A (wk h A (i + S)) ≤ nxt h B (wk h A (i + S)) := nxt_le h1 h0 sb (Int.le_refl _)
    have l2 := (nxt_is (h := h) (p := wk h A (i + S)) h0).2 _ (List.mem_map_of_mem ha)
    have l3 : wk h A (i + S + 1) = nxt h A (wk h A (i + S)) := rfl
    rw [show i + (S + 1) = i + S + 1 by omega]
    omega
/-- the places of the walk have few hours -/
theorem hr_mem {h : Int} {A : List Arc} (h0 : A ≠ []) (k : Nat) : hr h A (k + 1) ∈ A.map fun a => (a.2.1 + a.2.2 - 1) % h := by
  obtain ⟨a, ha, e⟩ := List.mem_map.mp (nxt_is (h := h) (p := wk h A k) h0).1
  refine List.mem_map.mpr ⟨a, ha, ?_⟩
  have e' : endOf h (wk h A k) a = wk h A (k + 1) := e
  unfold hr
  rw [← e']
  unfold endOf
  rw [show ((wk h A k - a.2.1) / h + 1) * h + a.2.1 + a.2.2 - 1 = (a.2.1 + a.2.2 - 1) + ((wk h A k - a.2.1) / h + 1) * h by omega, Int.add_mul_emod_self_right]
theorem again {h : Int} {A : List Arc} (h0 : A ≠ []) (hl : A.length ≤ 40) (m : Nat) : ∃ i j, m + 1 ≤ i ∧ i < j ∧ j ≤ m + 41 ∧ hr h A i = hr h A j := by
  refine Classical.byContradiction fun hn => ?_
  have nd : ((List.range 41).map fun k => hr h A (m + 1 + k)).Nodup := by
    rw [List.Nodup, List.pairwise_map, List.pairwise_iff_getElem]
    intro i j hi hj hij
    simp at hi hj ⊢
    exact fun e => hn ⟨m + 1 + i, m + 1 + j, by omega, by omega, by omega, e⟩
  have := nodup_sub nd (ys := A.map fun a => (a.2.1 + a.2.2 - 1) % h) fun x hx => by
    obtain ⟨k, _, rfl⟩ := List.mem_map.mp hx
    rw [show m + 1 + k = m + k + 1 by omega]
    exact hr_mem h0 (m + k)
  simp at this
  omega
/-- arcs that make the walk from step 50 to step 100 -/
theorem wound_num {h : Int} {A B : List Arc} {s t s' t' : Nat} (h2 : h ≤ 1000) (ok : WkOk h A) (hl : A.length ≤ 40) (h0 : A ≠ []) (sb : ∀ a ∈ B, a ∈ A) (hw : ∀ k, 50 ≤ k → k < 100 → ∃ a ∈ B, endOf h (wk h A k) a = wk h A (k + 1)) (N : NumOf h A s t) (N' : NumOf h B s' t') : s' * t = s * t' := by
  have hB : B ≠ [] := fun z => by obtain ⟨a, ha, _⟩ := hw 50 (by omega) (by omega); rw [z] at ha; cases ha
  obtain ⟨i, j, i1, ij, j1, e⟩ := again (h := h) h0 hl 49
  have h1 := ok.h1
  have hd : wk h A j = wk h A i + h * ((wk h A j - wk h A i) / h) := by
    have : (wk h A j) % h = (wk h A i) % h := e.symm
    have := Int.mul_ediv_cancel' (Int.dvd_of_emod_eq_zero (Int.emod_eq_emod_iff_emod_sub_eq_zero.mp this))
    omega
  obtain ⟨D, hD⟩ : ∃ D, (wk h A j - wk h A i) / h = D := ⟨_, rfl⟩
  rw [hD] at hd
  obtain ⟨S, rfl⟩ : ∃ S, j = i + S := ⟨j - i, by omega⟩
  have f := follow (B := B) (i := i) h1 sb S fun k k1 k2 => hw k (by omega) (by omega)
  rw [hd] at f
  have p0 : 0 ≤ wk h A i := wk_mono ok h0 (Nat.zero_le i)
  have g1 := turn_ge h2 (ok.sub sb) hB N' p0 f
  have g2 := turn_eq h2 ok h0 N hd
  have g3 := num_le h2 ok sb N N'
  -- S * t' ≤ s' * D, S * t = s * D, so s * t' ≤ s' * t
  have Spos : 0 < S := by omega
  have g4 : (S : Int) * (s * t') ≤ S * (s' * t) := by
    have a1 : (S : Int) * (s * t') = s * (S * t') := by ac_rfl
    have a2 : (S : Int) * (s' * t) = s' * (s * D) := by rw [← g2]; ac_rfl
    rw [a1, a2]
    have : (s : Int) * (S * t') ≤ s * (s' * D) := Int.mul_le_mul_of_nonneg_left g1 (by omega)
    rw [show (s' : Int) * (s * D) = s * (s' * D) by ac_rfl]
    exact this
  have g5 := Int.le_of_mul_le_mul_left g4 (by omega)
  have g6 : s * t' ≤ s' * t := by exact_mod_cast g5
  omega
end DV

set_option Elab.async false
set_option linter.all false
set_option autoImplicit false
set_option maxRecDepth 100000
set_option maxHeartbeats 4000000
namespace DV
open PySem L2
/-! M2: steps and days: rot_le, rot_ge, rot_most, rot_few. -/
theorem wkp_mono {h : Int} {A : List Arc} (h1 : 1 ≤ h) (h0 : A ≠ []) {p q : Int} (hp : p ≤ q) : ∀ k, wkp h A p k ≤ wkp h A q k
  | 0 => hp
  | k + 1 => nxt_le h1 h0 (fun a ha => ha) (wkp_mono h1 h0 hp k)
theorem wkp_shift {h : Int} {A : List Arc} (h1 : 1 ≤ h) (h0 : A ≠ []) (p d : Int) : ∀ k, wkp h A (p + h * d) k = wkp h A p k + h * d
  | 0 => rfl
  | k + 1 => by
    show nxt h A (wkp h A (p + h * d) k) = nxt h A (wkp h A p k) + h * d
    rw [wkp_shift h1 h0 p d k, nxt_shift h1 h0]
theorem wkp_add {h : Int} {A : List Arc} (p : Int) (m : Nat) : ∀ k, wkp h A p (m + k) = wkp h A (wkp h A p m) k
  | 0 => rfl
  | k + 1 => by
    show nxt h A (wkp h A p (m + k)) = nxt h A (wkp h A (wkp h A p m) k)
    rw [wkp_add p m k]
theorem wkp_wk {h : Int} {A : List Arc} (i : Nat) : ∀ k, wkp h A (wk h A i) k = wk h A (i + k)
  | 0 => rfl
  | k + 1 => by
    show nxt h A (wkp h A (wk h A i) k) = nxt h A (wk h A (i + k))
    rw [wkp_wk i k]
theorem wkp_zero {h : Int} {A : List Arc} (k : Nat) : wkp h A 0 k = wk h A k := by
  have := wkp_wk (h := h) (A := A) 0 k
  rw [Nat.zero_add] at this; exact this
section
variable {h : Int} {A : List Arc} {s t : Nat} (h2 : h ≤ 1000) (ok : WkOk h A) (h0 : A ≠ []) (N : NumOf h A s t)
include h2 ok h0 N
/-- m copies one behind the other within d days: no more than the number tells -/
theorem rot_le {p : Int} {m : Nat} {d : Int} (hp : 0 ≤ p) (e : wkp h A p m ≤ p + h * d) : (m : Int) * t ≤ s * d := by
  have h1 := ok.h1
  obtain ⟨i, S', D', g, _, _, hg, rfl, rfl, e'⟩ := num_turn N h2 ok h0
  have one : ∀ j, wkp h A p (j + m) ≤ wkp h A p j + h * d := fun j => by
    rw [Nat.add_comm, wkp_add, ← wkp_shift h1 h0]
    exact wkp_mono h1 h0 e j
  have many : ∀ j q : Nat, wkp h A p (j + q * m) ≤ wkp h A p j + h * (q * d) := fun j q => by
    induction q with
    | zero => simp
    | succ q ih =>
      have := one (j + q * m)
      rw [show j + (q + 1) * m = j + q * m + m by rw [Nat.add_mul]; omega]
      rw [Int.natCast_add, Int.add_mul, Int.mul_add, show ((1 : Nat) : Int) = 1 from rfl, Int.one_mul]
      omega
  have key : ∀ q : Nat, wk h A i + q * (h * ((m : Int) * ((t * g : Nat) : Int))) ≤ wkp h A p i + q * (h * (((s * g : Nat) : Int) * d)) := fun q => by
    have a := wk_pers h1 h0 e' (Nat.le_refl i) (q * m)
    have b := many i (q * (s * g))
    rw [show q * (s * g) * m = q * m * (s * g) by ac_rfl] at b
    have c := wkp_ge h1 h0 hp (i + q * m * (s * g))
    rw [a] at c
    rw [show (q : Int) * (h * ((m : Int) * ((t * g : Nat) : Int))) = h * (((q * m : Nat) : Int) * ((t * g : Nat) : Int)) by rw [Int.natCast_mul q m]; ac_rfl, show (q : Int) * (h * (((s * g : Nat) : Int) * d)) = h * (((q * (s * g) : Nat) : Int) * d) by rw [Int.natCast_mul q (s * g)]; ac_rfl]
    omega
  have := Int.le_of_mul_le_mul_left (arch key) (show 0 < h by omega)
  rw [Int.natCast_mul, Int.natCast_mul] at this
  have t2 : (g : Int) * (m * t) ≤ g * (s * d) := by
    rw [show (g : Int) * (m * t) = m * (t * g) by ac_rfl, show (g : Int) * (s * d) = s * g * d by ac_rfl]; exact this
  exact Int.le_of_mul_le_mul_left t2 (by omega)
/-- m steps that come d days further: no fewer than the number tells -/
theorem rot_ge {p : Int} {m : Nat} {d : Int} (e : p + h * d ≤ wkp h A p m) : s * d ≤ (m : Int) * t := by
  have h1 := ok.h1
  obtain ⟨i, S', D', g, _, _, hg, rfl, rfl, e'⟩ := num_turn N h2 ok h0
  obtain ⟨c, hc⟩ : ∃ c : Int, p ≤ h * c := ⟨p.natAbs, by
    have : (1 : Int) * p.natAbs ≤ h * p.natAbs := Int.mul_le_mul_of_nonneg_right h1 (by omega)
    omega⟩
  have up : ∀ k, wkp h A p k ≤ wk h A k + h * c := fun k => by
    have := wkp_mono h1 h0 (show p ≤ 0 + h * c by omega) k
    rw [wkp_shift h1 h0, wkp_zero] at this
    exact this
  have one : ∀ j, wkp h A p j + h * d ≤ wkp h A p (j + m) := fun j => by
    rw [Nat.add_comm, wkp_add, ← wkp_shift h1 h0]
    exact wkp_mono h1 h0 e j
  have many : ∀ j q : Nat, wkp h A p j + h * (q * d) ≤ wkp h A p (j + q * m) := fun j q => by
    induction q with
    | zero => simp
    | succ q ih =>
      have := one (j + q * m)
      rw [show j + (q + 1) * m = j + q * m + m by rw [Nat.add_mul]; omega]
      rw [Int.natCast_add, Int.add_mul, Int.mul_add, show ((1 : Nat) : Int) = 1 from rfl, Int.one_mul]
      omega
  have key : ∀ q : Nat, wkp h A p i + q * (h * (((s * g : Nat) : Int) * d)) ≤ (wk h A i + h * c) + q * (h * ((m : Int) * ((t * g : Nat) : Int))) := fun q => by
    have a := wk_pers h1 h0 e' (Nat.le_refl i) (q * m)
    have b := many i (q * (s * g))
    rw [show q * (s * g) * m = q * m * (s * g) by ac_rfl] at b
    have c := up (i + q * m * (s * g))
    rw [a] at c
    rw [show (q : Int) * (h * ((m : Int) * ((t * g : Nat) : Int))) = h * (((q * m : Nat) : Int) * ((t * g : Nat) : Int)) by rw [Int.natCast_mul q m]; ac_rfl, show (q : Int) * (h * (((s * g : Nat) : Int) * d)) = h * (((q * (s * g) : Nat) : Int) * d) by rw [Int.natCast_mul q (s * g)]; ac_rfl]
    omega
  have := Int.le_of_mul_le_mul_left (arch key) (show 0 < h by omega)
  rw [Int.natCast_mul, Int.natCast_mul] at this
  have t2 : (g : Int) * (s * d) ≤ g * (m * t) := by
    rw [show (g : Int) * (m * t) = m * (t * g) by ac_rfl, show (g : Int) * (s * d) = s * g * d by ac_rfl]; exact this
  exact Int.le_of_mul_le_mul_left t2 (by omega)
/-- as many as the number tells do follow one another within d days, from some place of the walk -/
theorem rot_most {m : Nat} {d : Nat} (e : m * t ≤ s * d) : ∃ j, wk h A (j + m) ≤ wk h A j + h * d := by
  have h1 := ok.h1
  obtain ⟨i, S', D', g, hS, _, hg, rfl, rfl, e'⟩ := num_turn N h2 ok h0
  refine Classical.byContradiction fun hn => ?_
  have one : ∀ j, wk h A j + (h * d + 1) ≤ wk h A (j + m) := fun j => by
    refine Decidable.byContradiction fun z => hn ⟨j, by omega⟩
  have many : ∀ q : Nat, wk h A i + q * (h * d + 1) ≤ wk h A (i + q * m) := fun q => by
    induction q with
    | zero => simp
    | succ q ih =>
      have := one (i + q * m)
      rw [show i + (q + 1) * m = i + q * m + m by rw [Nat.add_mul]; omega]
      rw [Int.natCast_add, Int.add_mul, show ((1 : Nat) : Int) = 1 from rfl, Int.one_mul]
      omega
  have a := many (s * g)
  have b := wk_pers h1 h0 e' (Nat.le_refl i) m
  rw [Nat.mul_comm (s * g) m, b] at a
  have c : ((m : Int) * ((t * g : Nat) : Int)) ≤ ((s * g : Nat) : Int) * d := by
    have : m * (t * g) ≤ s * g * d := by
      have := Nat.mul_le_mul_right g e
      rw [show m * (t * g) = m * t * g by ac_rfl, show s * g * d = s * d * g by ac_rfl]; exact this
    exact_mod_cast this
  have c2 := Int.mul_le_mul_of_nonneg_left c (show 0 ≤ h by omega)
  rw [Int.mul_add, Int.mul_one, show ((s * g : Nat) : Int) * (h * d) = h * (((s * g : Nat) : Int) * d) by ac_rfl] at a
  omega
/-- .. and as few as it tells come d days further -/
theorem rot_few {m : Nat} {d : Nat} (e : s * d ≤ m * t) : ∃ j, wk h A j + h * d ≤ wk h A (j + m) := by
  have h1 := ok.h1
  obtain ⟨i, S', D', g, hS, _, hg, rfl, rfl, e'⟩ := num_turn N h2 ok h0
  refine Classical.byContradiction fun hn => ?_
  have one : ∀ j, wk h A (j + m) ≤ wk h A j + (h * d - 1) := fun j => by
    refine Decidable.byContradiction fun z => hn ⟨j, by omega⟩
  have many : ∀ q : Nat, wk h A (i + q * m) ≤ wk h A i + q * (h * d - 1) := fun q => by
    induction q with
    | zero => simp
    | succ q ih =>
      have := one (i + q * m)
      rw [show i + (q + 1) * m = i + q * m + m by rw [Nat.add_mul]; omega]
      rw [Int.natCast_add, Int.add_mul, show ((1 : Nat) : Int) = 1 from rfl, Int.one_mul]
      omega
  have a := many (s * g)
  have b := wk_pers h1 h0 e' (Nat.le_refl i) m
  rw [Nat.mul_comm (s * g) m, b] at a
  have c : ((s * g : Nat) : Int) * d ≤ ((m : Int) * ((t * g : Nat) : Int)) := by
    have : s * g * d ≤ m * (t * g) := by
      have := Nat.mul_le_mul_right g e
      rw [show m * (t * g) = m * t * g by ac_rfl, show s * g * d = s * d * g by ac_rfl]; exact this
    exact_mod_cast this
  have c2 := Int.mul_le_mul_of_nonneg_left c (show 0 ≤ h by omega)
  rw [Int.mul_sub, Int.mul_one, show ((s * g : Nat) : Int) * (h * d) = h * (((s * g : Nat) : Int) * d) by ac_rfl] at a
  omega
end
end DV

set_option Elab.async false
set_option linter.all false
set_option autoImplicit false
set_option maxRecDepth 100000
set_option maxHeartbeats 4000000
namespace DV
open PySem L2
/-! M3: the most copies without a common place, by all lots. -/
/-! lots that are pairwise without a common place -/
def Disj (m m' : List Int) : Prop := ∀ x ∈ m', x ∉ m
def extR (R : List (List Int × Nat)) (m : List Int) : List (List Int × Nat) := R ++ (R.filter fun r => !(m.any fun x => decide (x ∈ r.1))).map fun r => (r.1 ++ m, r.2 + 1)
def reachR (ms : List (List Int)) : List (List Int × Nat) := ms.foldl extR [([], 0)]
theorem free_iff {m held : List Int} : (!(m.any fun x => decide (x ∈ held))) = true ↔ ∀ x ∈ m, x ∉ held := by
  rw [Bool.not_eq_true', List.any_eq_false]
  constructor
  · intro h x hx z
    exact h x hx (by simpa using z)
  · intro h x hx z
    exact h x hx (by simpa using z)
theorem reach_snoc (ms : List (List Int)) (m : List Int) : reachR (ms ++ [m]) = extR (reachR ms) m := by unfold reachR; rw [List.foldl_append]; rfl
theorem rev_ind {α : Type} {P : List α → Prop} (h0 : P []) (h1 : ∀ xs x, P xs → P (xs ++ [x])) (xs : List α) : P xs := by
  have : ∀ ys : List α, P ys.reverse := fun ys => by
    induction ys with
    | nil => exact h0
    | cons y ys ih => rw [List.reverse_cons]; exact h1 _ _ ih
  have := this xs.reverse
  rw [List.reverse_reverse] at this; exact this
theorem reach_sound (ms : List (List Int)) : ∀ r ∈ reachR ms, ∃ T : List (List Int), T.Sublist ms ∧ T.Pairwise Disj ∧ r = (T.flatten, T.length) := by
  refine rev_ind (P := fun ms => ∀ r ∈ reachR ms, ∃ T : List (List Int), T.Sublist ms ∧ T.Pairwise Disj ∧ r = (T.flatten, T.length)) ?_ ?_ ms
  · intro r hr
    have : r = ([], 0) := by simpa [reachR] using hr
    subst this
    exact ⟨[], .slnil, .nil, rfl⟩
  · intro ms m ih r hr
    rw [reach_snoc] at hr
    rcases List.mem_append.mp hr with z | z
    · obtain ⟨T, h1, h2, h3⟩ := ih r z
      exact ⟨T, h1.trans (List.sublist_append_left _ _), h2, h3⟩
    · obtain ⟨r0, hr0, rfl⟩ := List.mem_map.mp z
      obtain ⟨hm, hf⟩ := List.mem_filter.mp hr0
      obtain ⟨T, h1, h2, rfl⟩ := ih r0 hm
      refine ⟨T ++ [m], h1.append (.refl _), ?_, by simp⟩
      rw [List.pairwise_append]
      refine ⟨h2, List.pairwise_singleton _ _, fun t ht u hu => ?_⟩
      rw [List.mem_singleton.mp hu]
      exact fun x hx z => free_iff.mp hf x hx (List.mem_flatten.mpr ⟨t, ht, z⟩)
theorem reach_all (ms : List (List Int)) : ∀ T : List (List Int), T.Sublist ms → T.Pairwise Disj → (T.flatten, T.length) ∈ reachR ms := by
  refine rev_ind (P := fun ms => ∀ T : List (List Int), T.Sublist ms → T.Pairwise Disj → (T.flatten, T.length) ∈ reachR ms) ?_ ?_ ms
  · intro T h _
    have : T = [] := List.eq_nil_of_sublist_nil h
    subst this
    simp [reachR]
  · intro ms m ih T h hp
    rw [reach_snoc]
    obtain ⟨T1, T2, rfl, s1, s2⟩ := List.sublist_append_iff.mp h
    rw [List.pairwise_append] at hp
    have hT2 : T2 = [] ∨ T2 = [m] := by
      cases s2 with
      | cons _ h => exact .inl (List.eq_nil_of_sublist_nil h)
      | cons_cons _ h => exact .inr (by rw [List.eq_nil_of_sublist_nil h])
    have h1 := ih T1 s1 hp.1
    rcases hT2 with rfl | rfl
    · rw [List.append_nil]
      exact List.mem_append_left _ h1
    · refine List.mem_append_right _ (List.mem_map.mpr ⟨(T1.flatten, T1.length), List.mem_filter.mpr ⟨h1, free_iff.mpr fun x hx z => ?_⟩, by simp⟩)
      obtain ⟨t, ht, hxt⟩ := List.mem_flatten.mp z
      exact hp.2.2 t ht m (List.mem_singleton.mpr rfl) x hx hxt
/-! copies on a round of d days -/
abbrev Cpy := Arc × Nat
def stc (h : Int) (c : Cpy) : Int := (c.2 : Int) * h + c.1.2.1
def enc (h : Int) (c : Cpy) : Int := stc h c + c.1.2.2 - 1
def cpsL (A : List Arc) (d : Nat) : List Cpy := A.flatMap fun a => (List.range d).map fun y => (a, y)
theorem cps_mem {A : List Arc} {d : Nat} {c : Cpy} : c ∈ cpsL A d ↔ c.1 ∈ A ∧ c.2 < d := by
  unfold cpsL
  rw [List.mem_flatMap]
  constructor
  · rintro ⟨a, ha, h⟩
    obtain ⟨y, hy, rfl⟩ := List.mem_map.mp h
    exact ⟨ha, List.mem_range.mp hy⟩
  · rintro ⟨h1, h2⟩
    exact ⟨c.1, h1, List.mem_map.mpr ⟨c.2, List.mem_range.mpr h2, rfl⟩⟩
/-- what a mask holds -/
def MkOk (h : Int) (d : Nat) (mk : Cpy → List Int) : Prop := ∀ c x, x ∈ mk c ↔ ∃ k : Nat, (k : Int) < c.1.2.2 ∧ x = (stc h c + k) % (d * h)
theorem end_le {h p : Int} {c : Cpy} (h1 : 1 ≤ h) (hp : p < stc h c) : endOf h p c.1 ≤ enc h c := by
  unfold endOf enc stc at *
  have q1 := Int.emod_add_mul_ediv (p - c.1.2.1) h
  have q2 := Int.emod_nonneg (p - c.1.2.1) (show h ≠ 0 by omega)
  have : h * ((p - c.1.2.1) / h) < h * c.2 := by rw [Int.mul_comm h (c.2 : Int)]; omega
  have := Int.lt_of_mul_lt_mul_left this (by omega)
  have := Int.mul_le_mul_of_nonneg_right (show (p - c.1.2.1) / h + 1 ≤ (c.2 : Int) by omega) (show 0 ≤ h by omega)
  omega
theorem chain_le {h : Int} {A : List Arc} (h1 : 1 ≤ h) (h0 : A ≠ []) {U : Int} : ∀ (C : List Cpy) (p : Int), (∀ c ∈ C, c.1 ∈ A) → C.Pairwise (fun c c' => enc h c < stc h c') → (∀ c ∈ C, p < stc h c) → (∀ c ∈ C, enc h c ≤ U) → p ≤ U → wkp h A p C.length ≤ U
  | [], p, _, _, _, _, hU => hU
  | c :: C, p, hA, hp, hs, he, hU => by
    rw [List.pairwise_cons] at hp
    have ih := chain_le h1 h0 (U := U) C (enc h c) (fun c' hc => hA c' (List.mem_cons_of_mem _ hc)) hp.2 hp.1 (fun c' hc => he c' (List.mem_cons_of_mem _ hc)) (he c List.mem_cons_self)
    rw [List.length_cons, Nat.add_comm, wkp_add]
    have l1 : wkp h A p 1 ≤ enc h c := by
      show nxt h A p ≤ _
      have := (nxt_is (h := h) (p := p) h0).2 _ (List.mem_map_of_mem (hA c List.mem_cons_self))
      have := end_le h1 (hs c List.mem_cons_self)
      omega
    have := wkp_mono h1 h0 l1 C.length
    omega
/-- copies without a common place: no more than the number tells -/
theorem disj_le {h : Int} {A : List Arc} {s t : Nat} (h2 : h ≤ 1000) (ok : WkOk h A) (h0 : A ≠ []) (N : NumOf h A s t) {d : Nat} (hd : 1 ≤ d) {mk : Cpy → List Int} (hmk : MkOk h d mk) {C : List Cpy} (hC : ∀ c ∈ C, c ∈ cpsL A d) (hdj : C.Pairwise fun c c' => Disj (mk c) (mk c')) : C.length * t ≤ s * d := by
  have h1 := ok.h1
  have hW : h ≤ d * h := by
    have := Int.mul_le_mul_of_nonneg_right (show (1 : Int) ≤ d by omega) (show 0 ≤ h by omega)
    omega
  have bnd : ∀ c ∈ C, 0 ≤ stc h c ∧ stc h c < d * h ∧ 1 ≤ c.1.2.2 ∧ c.1.2.2 ≤ h := fun c hc => by
    obtain ⟨m1, m2⟩ := cps_mem.mp (hC c hc)
    obtain ⟨s1, s2⟩ := ok.st c.1 m1
    obtain ⟨l1, l2⟩ := ok.le c.1 m1
    have a1 := Int.mul_nonneg (show (0 : Int) ≤ c.2 by omega) (show 0 ≤ h by omega)
    have a2 := Int.mul_le_mul_of_nonneg_right (show (c.2 : Int) + 1 ≤ d by omega) (show 0 ≤ h by omega)
    rw [Int.add_mul] at a2
    unfold stc
    exact ⟨by omega, by omega, l1, l2⟩
  -- a place of both is none
  have symm : ∀ c c' : Cpy, Disj (mk c) (mk c') → Disj (mk c') (mk c) := fun c c' hh x hx z => hh x z hx
  -- sorted by starts
  obtain ⟨C', hp⟩ : ∃ C', C' = C.mergeSort (fun a b => decide (stc h a ≤ stc h b)) := ⟨_, rfl⟩
  have perm : C'.Perm C := by rw [hp]; exact List.mergeSort_perm _ _
  have sor : C'.Pairwise (fun a b => stc h a ≤ stc h b) := by
    have := List.pairwise_mergeSort (le := fun a b : Cpy => decide (stc h a ≤ stc h b)) (fun a b c h h' => by simp at *; omega) (fun a b => by simp; omega) C
    rw [← hp] at this
    exact this.imp fun z => by simpa using z
  have dj : C'.Pairwise fun c c' => Disj (mk c) (mk c') := (perm.pairwise_iff (fun {a b} z => symm a b z)).mpr hdj
  have mem : ∀ c ∈ C', c ∈ C := fun c hc => perm.mem_iff.mp hc
  have own : ∀ c ∈ C, stc h c ∈ mk c := fun c hc => by
    obtain ⟨b1, b2, b3, _⟩ := bnd c hc
    exact (hmk c _).mpr ⟨0, by omega, by rw [show stc h c + ((0 : Nat) : Int) = stc h c by omega, Int.emod_eq_of_lt b1 b2]⟩
  have both : C'.Pairwise (fun c c' => enc h c < stc h c' ∧ enc h c' < stc h c + d * h) := by
    refine List.Pairwise.imp_of_mem ?_ (sor.and dj)
    intro c c' hc hc' ⟨z1, z2⟩
    obtain ⟨b1, b2, b3, b4⟩ := bnd c (mem c hc)
    obtain ⟨e1, e2, e3, e4⟩ := bnd c' (mem c' hc')
    constructor
    · refine Decidable.byContradiction fun n => ?_
      unfold enc at n
      refine z2 _ (own c' (mem c' hc')) ((hmk c _).mpr ⟨(stc h c' - stc h c).toNat, by omega, ?_⟩)
      rw [show stc h c + (((stc h c' - stc h c).toNat : Nat) : Int) = stc h c' by omega, Int.emod_eq_of_lt e1 e2]
    · refine Decidable.byContradiction fun n => ?_
      unfold enc at n
      refine symm _ _ z2 _ (own c (mem c hc)) ((hmk c' _).mpr ⟨(stc h c + d * h - stc h c').toNat, by omega, ?_⟩)
      rw [show stc h c' + (((stc h c + d * h - stc h c').toNat : Nat) : Int) = stc h c + d * h by omega, Int.add_emod_right, Int.emod_eq_of_lt b1 b2]
  rw [← perm.length_eq]
  cases hc : C' with
  | nil => simp
  | cons c0 C1 =>
    rw [hc] at both sor
    have m0 : c0 ∈ C := mem c0 (by rw [hc]; exact List.mem_cons_self)
    obtain ⟨b1, b2, b3, b4⟩ := bnd c0 m0
    rw [List.pairwise_cons] at both sor
    have ch := chain_le (A := A) h1 h0 (U := stc h c0 - 1 + d * h) (c0 :: C1) (stc h c0 - 1) (fun c hc' => (cps_mem.mp (hC c (mem c (by rw [hc]; exact hc')))).1)
      (List.pairwise_cons.mpr ⟨fun c hc' => (both.1 c hc').1, both.2.imp fun z => z.1⟩)
      (fun c hc' => by
        rcases List.mem_cons.mp hc' with rfl | z
        · omega
        · have := sor.1 c z; omega)
      (fun c hc' => by
        rcases List.mem_cons.mp hc' with rfl | z
        · unfold enc; omega
        · have := (both.1 c z).2; omega) (by omega)
    have sh := wkp_shift (A := A) h1 h0 (stc h c0 - 1) 1 (c0 :: C1).length
    have := rot_le h2 ok h0 N (p := stc h c0 - 1 + h * 1) (m := (c0 :: C1).length) (d := d) (by omega) (by rw [sh, Int.mul_comm h (d : Int)]; omega)
    exact_mod_cast this

theorem disj_ge {h : Int} {A : List Arc} {s t : Nat} (h2 : h ≤ 1000) (ok : WkOk h A) (h0 : A ≠ []) (N : NumOf h A s t) {d : Nat} (hd : 1 ≤ d) {mk : Cpy → List Int} (hmk : MkOk h d mk) {m : Nat} (hm : m * t ≤ s * d) :
    ∃ C : List Cpy, C.Sublist (cpsL A d) ∧ (∀ c ∈ C, ∀ c' ∈ C, c ≠ c' → Disj (mk c) (mk c')) ∧ ∃ K : List Cpy, K.Nodup ∧ K.length = m ∧ (∀ c ∈ K, c ∈ C) := by
  have h1 := ok.h1
  have hW : 0 < (d : Int) * h := Int.mul_pos (by omega) (by omega)
  obtain ⟨j, hj⟩ := rot_most h2 ok h0 N hm
  have ex : ∀ k, ∃ a ∈ A, endOf h (wk h A (j + k)) a = wk h A (j + k + 1) := fun k => by
    obtain ⟨a, ha, e⟩ := List.mem_map.mp (nxt_is (h := h) (p := wk h A (j + k)) h0).1
    exact ⟨a, ha, e⟩
  let ar : Nat → Arc := fun k => Classical.choose (ex k)
  have arA : ∀ k, ar k ∈ A := fun k => (Classical.choose_spec (ex k)).1
  have arE : ∀ k, endOf h (wk h A (j + k)) (ar k) = wk h A (j + k + 1) := fun k => (Classical.choose_spec (ex k)).2
  let dy : Nat → Int := fun k => (wk h A (j + k) - (ar k).2.1) / h + 1
  let st : Nat → Int := fun k => dy k * h + (ar k).2.1
  have stp : ∀ k, wk h A (j + k) < st k := fun k => by
    have q1 := Int.emod_add_mul_ediv (wk h A (j + k) - (ar k).2.1) h
    have q2 := Int.emod_lt_of_pos (wk h A (j + k) - (ar k).2.1) (show 0 < h by omega)
    show wk h A (j + k) < ((wk h A (j + k) - (ar k).2.1) / h + 1) * h + (ar k).2.1
    rw [Int.add_mul, Int.mul_comm _ h]; omega
  have enp : ∀ k, st k + (ar k).2.2 - 1 = wk h A (j + k + 1) := fun k => arE k
  let key : Nat → Cpy := fun k => (ar k, (dy k % d).toNat)
  have keyD : ∀ k, ((key k).2 : Int) = dy k % d := fun k => by
    have := Int.emod_nonneg (dy k) (show (d : Int) ≠ 0 by omega)
    show (((dy k % d).toNat : Nat) : Int) = _
    omega
  have keyM : ∀ k, key k ∈ cpsL A d := fun k => cps_mem.mpr ⟨arA k, by
    have := Int.emod_lt_of_pos (dy k) (show 0 < (d : Int) by omega)
    have := keyD k
    omega⟩
  -- places of a key
  have stq : ∀ k, ∃ q : Int, stc h (key k) = st k + q * (d * h) := fun k => ⟨-(dy k / d), by
    have e := Int.emod_add_mul_ediv (dy k) d
    unfold stc
    rw [keyD k]
    have : dy k % d = dy k - d * (dy k / d) := by omega
    rw [this, Int.sub_mul]
    show dy k * h - d * (dy k / d) * h + (ar k).2.1 = dy k * h + (ar k).2.1 + -(dy k / d) * (d * h)
    rw [show (d : Int) * (dy k / d) * h = (dy k / d) * (d * h) by ac_rfl, Int.neg_mul]
    omega⟩
  have plc : ∀ k x, x ∈ mk (key k) ↔ ∃ i : Nat, (i : Int) < (ar k).2.2 ∧ x = (st k + i) % (d * h) := fun k x => by
    rw [hmk]
    obtain ⟨q, e⟩ := stq k
    rw [e]
    constructor
    · rintro ⟨i, i1, i2⟩
      exact ⟨i, i1, by rw [i2, show st k + q * (d * h) + i = st k + i + q * (d * h) by omega, Int.add_mul_emod_self_right]⟩
    · rintro ⟨i, i1, i2⟩
      exact ⟨i, i1, by rw [i2, show st k + q * (d * h) + i = st k + i + q * (d * h) by omega, Int.add_mul_emod_self_right]⟩
  have wm : ∀ {i k : Nat}, i ≤ k → wk h A i ≤ wk h A k := fun {i k} z => wk_mono ok h0 z
  have dis : ∀ k k', k < k' → k' < m → Disj (mk (key k)) (mk (key k')) ∧ Disj (mk (key k')) (mk (key k)) := fun k k' hk hk' => by
    have core : ∀ x, x ∈ mk (key k) → x ∈ mk (key k') → False := fun x x1 x2 => by
      obtain ⟨i, i1, i2⟩ := (plc k x).mp x1
      obtain ⟨i', i1', i2'⟩ := (plc k' x).mp x2
      have e : (st k + i) % (d * h) = (st k' + i') % (d * h) := by rw [← i2, ← i2']
      have e2 : (st k' + i' - (st k + i)) % (d * h) = 0 := Int.emod_eq_emod_iff_emod_sub_eq_zero.mp e.symm
      obtain ⟨q, hq⟩ := Int.dvd_of_emod_eq_zero e2
      have a1 := stp k
      have a2 := stp k'
      have a3 := enp k
      have a4 := enp k'
      have a5 := wm (show j + k + 1 ≤ j + k' by omega)
      have a6 := wm (show j ≤ j + k by omega)
      have a7 := wm (show j + k' + 1 ≤ j + m by omega)
      rw [Int.mul_comm h (d : Int)] at hj
      have b1 : 0 < d * h * q := by rw [← hq]; omega
      have b2 : d * h * q < d * h * 1 := by rw [← hq]; omega
      have c1 := Int.lt_of_mul_lt_mul_left b2 (by omega)
      have c2 : d * h * 0 < d * h * q := by rw [Int.mul_zero]; exact b1
      have c3 := Int.lt_of_mul_lt_mul_left c2 (by omega)
      omega
    exact ⟨fun x x2 x1 => core x x1 x2, fun x x1 x2 => core x x1 x2⟩
  have ownk : ∀ k, ∃ x, x ∈ mk (key k) := fun k => ⟨_, (plc k _).mpr ⟨0, by have := (ok.le (ar k) (arA k)).1; omega, rfl⟩⟩
  have K1 : ((List.range m).map key).Nodup := by
    rw [List.Nodup, List.pairwise_map, List.pairwise_iff_getElem]
    intro a b ha hb hab
    simp at ha hb ⊢
    intro e
    obtain ⟨x, hx⟩ := ownk a
    exact (dis a b hab hb).1 x (by rw [← e]; exact hx) hx
  refine ⟨(cpsL A d).filter fun c => decide (c ∈ (List.range m).map key), List.filter_sublist, fun c hc c' hc' ne => ?_, (List.range m).map key, K1, by simp, fun c hc => ?_⟩
  · have k1 := (List.mem_filter.mp hc).2
    have k2 := (List.mem_filter.mp hc').2
    obtain ⟨a, ha, rfl⟩ := List.mem_map.mp (of_decide_eq_true k1)
    obtain ⟨b, hb, rfl⟩ := List.mem_map.mp (of_decide_eq_true k2)
    rw [List.mem_range] at ha hb
    rcases Nat.lt_trichotomy a b with z | z | z
    · exact (dis a b z hb).1
    · subst z; exact absurd rfl ne
    · exact (dis b a z ha).2
  · obtain ⟨a, ha, rfl⟩ := List.mem_map.mp hc
    exact List.mem_filter.mpr ⟨keyM a, decide_eq_true hc⟩
/-- the greatest count of lots without a common place is what the number tells -/
theorem most_is {h : Int} {A : List Arc} {s t : Nat} (h2 : h ≤ 1000) (ok : WkOk h A) (hnd : A.Nodup) (h0 : A ≠ []) (N : NumOf h A s t) (ht : 0 < t) {d : Nat} (hd : 1 ≤ d) {mk : Cpy → List Int} (hmk : MkOk h d mk) :
    (∀ r ∈ reachR ((cpsL A d).map mk), r.2 ≤ d * s / t) ∧ ∃ r ∈ reachR ((cpsL A d).map mk), r.2 = d * s / t := by
  have up : ∀ T : List (List Int), T.Sublist ((cpsL A d).map mk) → T.Pairwise Disj → T.length ≤ d * s / t := fun T hT hp => by
    obtain ⟨C, hC, rfl⟩ := List.sublist_map_iff.mp hT
    rw [List.pairwise_map] at hp
    have := disj_le h2 ok h0 N hd hmk (C := C) (fun c hc => hC.subset hc) hp
    rw [List.length_map, Nat.le_div_iff_mul_le ht, Nat.mul_comm d s]
    exact this
  have cnd : (cpsL A d).Nodup := by
    unfold cpsL
    rw [List.Nodup, List.pairwise_flatMap]
    refine ⟨fun a _ => ?_, ?_⟩
    · rw [List.pairwise_map]
      exact List.nodup_range.imp fun z e => z (by cases e; rfl)
    · refine hnd.imp fun {a b} ne => ?_
      intro c hc c' hc' ec
      obtain ⟨y, _, rfl⟩ := List.mem_map.mp hc
      obtain ⟨z, _, e⟩ := List.mem_map.mp hc'
      rw [← ec] at e
      cases e
      exact ne rfl
  refine ⟨fun r hr => ?_, ?_⟩
  · obtain ⟨T, h1, h2, rfl⟩ := reach_sound _ r hr
    exact up T h1 h2
  · have hm : d * s / t * t ≤ s * d := by rw [Nat.mul_comm s d]; exact Nat.div_mul_le_self _ _
    obtain ⟨C, hC, hdj, K, K1, K2, K3⟩ := disj_ge h2 ok h0 N hd hmk hm
    have Cnd : C.Nodup := cnd.sublist hC
    have hp : (C.map mk).Pairwise Disj := by
      rw [List.pairwise_map]
      exact List.Pairwise.imp_of_mem (fun {a b} ha hb ne => hdj a ha b hb ne) Cnd
    have hs := hC.map mk
    have len := up (C.map mk) hs hp
    have ge := nodup_sub K1 K3
    rw [K2] at ge
    rw [List.length_map] at len
    exact ⟨_, reach_all _ _ hs hp, by rw [List.length_map]; omega⟩
end DV

set_option Elab.async false
set_option linter.all false
set_option autoImplicit false
set_option maxRecDepth 100000
set_option maxHeartbeats 4000000
namespace DV
open PySem L2
/-! M4: the fewest looks, by trying more and more. -/
/-! looks -/
def lowL (L : List Int) : Int := match L.getLast? with
  | some x => x + 1
  | none => 0
def growL (W : Int) (L : List Int) : List (List Int) := (List.range (W - lowL L).toNat).map fun i : Nat => L ++ [lowL L + (i : Int)]
def ascL (W : Int) : Nat → List (List Int)
  | 0 => [[]]
  | n + 1 => (ascL W n).flatMap (growL W)
theorem low_snoc (L : List Int) (x : Int) : lowL (L ++ [x]) = x + 1 := by
  unfold lowL
  rw [List.getLast?_append]
  rfl
theorem mem_asc {W : Int} : ∀ {n : Nat} {L : List Int}, L ∈ ascL W n ↔ L.length = n ∧ L.Pairwise (· < ·) ∧ ∀ x ∈ L, 0 ≤ x ∧ x < W
  | 0, L => by
    show L ∈ [[]] ↔ _
    rw [List.mem_singleton]
    constructor
    · rintro rfl
      exact ⟨rfl, .nil, fun x z => by cases z⟩
    · rintro ⟨h, _⟩
      exact List.eq_nil_of_length_eq_zero h
  | n + 1, L => by
    show L ∈ (ascL W n).flatMap (growL W) ↔ _
    rw [List.mem_flatMap]
    have lowOk : ∀ M : List Int, M.Pairwise (· < ·) → (∀ x ∈ M, 0 ≤ x ∧ x < W) → 0 ≤ lowL M ∧ ∀ x ∈ M, x < lowL M := by
      refine rev_ind (P := fun M : List Int => M.Pairwise (· < ·) → (∀ x ∈ M, 0 ≤ x ∧ x < W) → 0 ≤ lowL M ∧ ∀ x ∈ M, x < lowL M) (fun _ _ => ⟨Int.le_refl _, fun x z => by cases z⟩) fun M y _ hp hb => ?_
      rw [low_snoc]
      rw [List.pairwise_append] at hp
      have hy := hb y (by simp)
      refine ⟨by omega, fun x hx => ?_⟩
      rcases List.mem_append.mp hx with z | z
      · have := hp.2.2 x z y (by simp); omega
      · rw [List.mem_singleton.mp z]; omega
    constructor
    · rintro ⟨M, hM, hL⟩
      obtain ⟨e, p, b⟩ := mem_asc.mp hM
      obtain ⟨i, hi, rfl⟩ := List.mem_map.mp hL
      rw [List.mem_range] at hi
      obtain ⟨l1, l2⟩ := lowOk M p b
      refine ⟨by simp [e], ?_, fun x hx => ?_⟩
      · rw [List.pairwise_append]
        refine ⟨p, List.pairwise_singleton _ _, fun x hx y hy => ?_⟩
        rw [List.mem_singleton.mp hy]
        have := l2 x hx; omega
      · rcases List.mem_append.mp hx with z | z
        · exact b x z
        · rw [List.mem_singleton.mp z]; omega
    · rintro ⟨e, p, b⟩
      have hne : L ≠ [] := fun z => by rw [z] at e; cases e
      obtain ⟨M, y, rfl⟩ : ∃ M y, L = M ++ [y] := ⟨L.dropLast, L.getLast hne, (List.dropLast_concat_getLast hne).symm⟩
      rw [List.pairwise_append] at p
      have bM : ∀ x ∈ M, 0 ≤ x ∧ x < W := fun x hx => b x (List.mem_append_left _ hx)
      have by' := b y (by simp)
      obtain ⟨l1, l2⟩ := lowOk M p.1 bM
      refine ⟨M, mem_asc.mpr ⟨by simpa using e, p.1, bM⟩, List.mem_map.mpr ⟨(y - lowL M).toNat, ?_, ?_⟩⟩
      · have : lowL M ≤ y := by
          rcases List.eq_nil_or_concat M with rfl | ⟨M', z, rfl⟩
          · exact by'.1
          · rw [List.concat_eq_append, low_snoc]
            have := p.2.2 z (by simp) y (by simp); omega
        rw [List.mem_range]; omega
      · have : lowL M ≤ y := by
          rcases List.eq_nil_or_concat M with rfl | ⟨M', z, rfl⟩
          · exact by'.1
          · rw [List.concat_eq_append, low_snoc]
            have := p.2.2 z (by simp) y (by simp); omega
        congr 2
        omega
/-- the look behind, the first one a round later at the end -/
def aftL (W : Int) (L : List Int) (i : Nat) : Int := if i + 1 < L.length then L.getD (i + 1) 0 else L.getD 0 0 + W
/-- the looks see all -/
def SeesL (h W : Int) (A : List Arc) (L : List Int) : Prop := L ≠ [] ∧ ∀ i, i < L.length → aftL W L i ≤ nxt h A (L.getD i 0)
theorem sees_ge {h : Int} {A : List Arc} {s t : Nat} (h2 : h ≤ 1000) (ok : WkOk h A) (h0 : A ≠ []) (N : NumOf h A s t) {d : Nat} {L : List Int} (hs : SeesL h (d * h) A L) : s * d ≤ L.length * t := by
  obtain ⟨hne, hs⟩ := hs
  have h1 := ok.h1
  have hpos : 0 < L.length := by
    cases L with
    | nil => exact absurd rfl hne
    | cons x L => simp
  have key : ∀ k, k < L.length → L.getD k 0 ≤ wkp h A (L.getD 0 0) k := fun k => by
    induction k with
    | zero => intro _; exact Int.le_refl _
    | succ k ih =>
      intro hk
      have a := ih (by omega)
      have b := hs k (by omega)
      unfold aftL at b
      rw [if_pos hk] at b
      have c := nxt_le h1 h0 (fun a ha => ha) a
      show _ ≤ nxt h A (wkp h A (L.getD 0 0) k)
      omega
  have last := hs (L.length - 1) (by omega)
  unfold aftL at last
  rw [if_neg (by omega)] at last
  have a := key (L.length - 1) (by omega)
  have c := nxt_le h1 h0 (fun a ha => ha) a
  have e : wkp h A (L.getD 0 0) L.length = nxt h A (wkp h A (L.getD 0 0) (L.length - 1)) := by
    conv => lhs; rw [show L.length = L.length - 1 + 1 by omega]
    rfl
  have := rot_ge h2 ok h0 N (p := L.getD 0 0) (m := L.length) (d := d) (by rw [e, Int.mul_comm h (d : Int)]; omega)
  exact_mod_cast this
theorem sees_ex {h : Int} {A : List Arc} {s t : Nat} (h2 : h ≤ 1000) (ok : WkOk h A) (h0 : A ≠ []) (N : NumOf h A s t) {d : Nat} (hd : 1 ≤ d) {n : Nat} (hn : 1 ≤ n) (e1 : s * d ≤ n * t) (e2 : ∀ k, k < n → k * t < s * d) : ∃ L ∈ ascL (d * h) n, SeesL h (d * h) A L := by
  have h1 := ok.h1
  obtain ⟨j, hj⟩ := rot_few h2 ok h0 N e1
  have hW : 0 < (d : Int) * h := Int.mul_pos (by omega) (by omega)
  obtain ⟨W, eW⟩ : ∃ W : Int, W = d * h := ⟨_, rfl⟩
  rw [Int.mul_comm h (d : Int), ← eW] at hj
  rw [← eW] at hW ⊢
  -- the places, moved to the first round
  obtain ⟨c, hc⟩ : ∃ c : Int, c = wk h A j / W := ⟨_, rfl⟩
  let u : Nat → Int := fun k => wk h A (j + k) - c * W
  have u0 : 0 ≤ u 0 ∧ u 0 < W := by
    have a := Int.emod_add_mul_ediv (wk h A j) W
    have b := Int.emod_nonneg (wk h A j) (show W ≠ 0 by omega)
    have c' := Int.emod_lt_of_pos (wk h A j) hW
    show 0 ≤ wk h A (j + 0) - c * W ∧ wk h A (j + 0) - c * W < W
    rw [hc, Nat.add_zero, Int.mul_comm _ W]
    omega
  have up : ∀ k, u k < u (k + 1) := fun k => by
    have := wk_lt ok h0 (j + k)
    show wk h A (j + k) - c * W < wk h A (j + (k + 1)) - c * W
    rw [show j + (k + 1) = j + k + 1 by omega]; omega
  have mono : ∀ {a b : Nat}, a ≤ b → u a ≤ u b := fun {a b} z => by
    have := wk_mono ok h0 (show j + a ≤ j + b by omega)
    show wk h A (j + a) - c * W ≤ wk h A (j + b) - c * W
    omega
  have smono : ∀ {a b : Nat}, a < b → u a < u b := fun {a b} z => by
    have := up a
    have := mono (show a + 1 ≤ b by omega)
    omega
  have nx : ∀ (k : Nat) (q : Int), nxt h A (u k - q * W) = u (k + 1) - q * W := fun k q => by
    have := nxt_shift (p := wk h A (j + k)) h1 h0 (-(c + q) * d)
    show nxt h A (wk h A (j + k) - c * W - q * W) = wk h A (j + (k + 1)) - c * W - q * W
    have e : wk h A (j + k) - c * W - q * W = wk h A (j + k) + h * (-(c + q) * d) := by
      rw [eW, show h * (-(c + q) * (d : Int)) = -(c + q) * (d * h) by ac_rfl, Int.neg_mul, Int.add_mul]; omega
    rw [e, this, show j + (k + 1) = j + k + 1 by omega]
    show nxt h A (wk h A (j + k)) + h * (-(c + q) * d) = nxt h A (wk h A (j + k)) - c * W - q * W
    rw [eW, show h * (-(c + q) * (d : Int)) = -(c + q) * (d * h) by ac_rfl, Int.neg_mul, Int.add_mul]; omega
  have un : u 0 + W ≤ u n := by
    show wk h A (j + 0) - c * W + W ≤ wk h A (j + n) - c * W
    rw [Nat.add_zero]; omega
  have below : ∀ k, k < n → u k < u 0 + W := fun k hk => by
    refine Decidable.byContradiction fun z => ?_
    have z' : wk h A j + h * d ≤ wkp h A (wk h A j) k := by
      rw [wkp_wk, Int.mul_comm h (d : Int), ← eW]
      have : ¬ (wk h A (j + k) - c * W < wk h A (j + 0) - c * W + W) := z
      rw [Nat.add_zero] at this; omega
    have := rot_ge h2 ok h0 N z'
    have := e2 k hk
    have g : s * d ≤ k * t := by exact_mod_cast (by assumption : (s : Int) * d ≤ (k : Int) * t)
    omega
  -- the first place that is in the next round
  obtain ⟨K, hK1, hK2, hK3⟩ : ∃ K, K ≤ n ∧ (∀ k, k < K → u k < W) ∧ ∀ k, K ≤ k → k < n → W ≤ u k := by
    have : ∀ m, m ≤ n → (∀ k, k < m → u k < W) ∨ ∃ K, K ≤ n ∧ (∀ k, k < K → u k < W) ∧ ∀ k, K ≤ k → k < n → W ≤ u k := fun m => by
      induction m with
      | zero => intro _; exact .inl fun k hk => by omega
      | succ m ih =>
        intro hm
        rcases ih (by omega) with z | z
        · by_cases q : u m < W
          · exact .inl fun k hk => by
              by_cases e : k = m
              · subst e; exact q
              · exact z k (by omega)
          · exact .inr ⟨m, by omega, z, fun k h1 _ => by have := mono h1; omega⟩
        · exact .inr z
    rcases this n (Nat.le_refl _) with z | z
    · exact ⟨n, Nat.le_refl _, z, fun k a b => by omega⟩
    · exact z
  have K0 : 1 ≤ K := by
    refine Decidable.byContradiction fun z => ?_
    have := hK3 0 (by omega) (by omega)
    omega
  let f : Nat → Int := fun i => if K + i < n then u (K + i) - W else u (K + i - n)
  have fv : ∀ i, i < n → (K + i < n ∧ f i = u (K + i) - W) ∨ (n ≤ K + i ∧ f i = u (K + i - n)) := fun i hi => by
    by_cases z : K + i < n
    · exact .inl ⟨z, if_pos z⟩
    · exact .inr ⟨by omega, if_neg z⟩
  refine ⟨(List.range n).map f, mem_asc.mpr ⟨by simp, ?_, fun x hx => ?_⟩, ?_, fun i hi => ?_⟩
  · rw [List.pairwise_map, List.pairwise_iff_getElem]
    intro a b ha hb hab
    simp at ha hb ⊢
    rcases fv a ha with ⟨p1, p2⟩ | ⟨p1, p2⟩ <;> rcases fv b hb with ⟨q1, q2⟩ | ⟨q1, q2⟩
    · rw [p2, q2]; have := smono (show K + a < K + b by omega); omega
    · rw [p2, q2]
      have := below (K + a) p1
      have := mono (Nat.zero_le (K + b - n))
      omega
    · omega
    · rw [p2, q2]; exact smono (by omega)
  · obtain ⟨i, hi, rfl⟩ := List.mem_map.mp hx
    rw [List.mem_range] at hi
    rcases fv i hi with ⟨p1, p2⟩ | ⟨p1, p2⟩
    · rw [p2]
      have := hK3 (K + i) (by omega) p1
      have := below (K + i) p1
      omega
    · rw [p2]
      have := hK2 (K + i - n) (by omega)
      have := mono (Nat.zero_le (K + i - n))
      omega
  · intro z
    have := congrArg List.length z
    simp at this
    omega
  · have gd : ∀ i, i < n → ((List.range n).map f).getD i 0 = f i := fun i hi => by
      rw [List.getD_eq_getElem?_getD, List.getElem?_map, List.getElem?_range hi]; rfl
    have hl : ((List.range n).map f).length = n := by simp
    rw [hl] at hi
    rw [gd i hi]
    unfold aftL
    rw [hl]
    have n1 := fun k => nx k 1
    have n0 := fun k => nx k 0
    simp only [Int.one_mul, Int.zero_mul, Int.sub_zero] at n1 n0
    by_cases z : i + 1 < n
    · rw [if_pos z, gd (i + 1) z]
      rcases fv i hi with ⟨p1, p2⟩ | ⟨p1, p2⟩ <;> rcases fv (i + 1) z with ⟨q1, q2⟩ | ⟨q1, q2⟩
      · rw [p2, q2, n1, show K + (i + 1) = K + i + 1 by omega]; exact Int.le_refl _
      · rw [p2, q2, n1, show K + (i + 1) - n = 0 by omega, show K + i + 1 = n by omega]; omega
      · omega
      · rw [p2, q2, n0, show K + (i + 1) - n = K + i - n + 1 by omega]; exact Int.le_refl _
    · rw [if_neg z, gd 0 (by omega)]
      rcases fv i hi with ⟨p1, p2⟩ | ⟨p1, p2⟩ <;> rcases fv 0 (by omega) with ⟨q1, q2⟩ | ⟨q1, q2⟩
      · omega
      · rw [p2, q2]
        omega
      · rw [p2, q2, n0, show K + i - n + 1 = K + 0 by omega]; omega
      · rw [p2, q2, n0, show K + i - n + 1 = n by omega, show K + 0 - n = 0 by omega]; exact un
end DV

set_option Elab.async false
set_option linter.all false
set_option autoImplicit false
set_option maxRecDepth 100000
set_option maxHeartbeats 4000000
namespace DV
open PySem L2
/-! Q1: the law's same, of plain data. -/
inductive Pl : Nat → D → Prop
  | non (n : Nat) : Pl (n + 1) .non
  | bl (n : Nat) (b : Bool) : Pl (n + 1) (.bl b)
  | int (n : Nat) (i : Int) : Pl (n + 1) (.int i)
  | str (n : Nat) (x : Str) : Pl (n + 1) (.str x)
  | lst {n : Nat} {ds : List D} (h : ∀ d ∈ ds, Pl n d) (hl : ds.length < 1000000) : Pl (n + 1) (.lst ds)
  | tup {n : Nat} {ds : List D} (h : ∀ d ∈ ds, Pl n d) (hl : ds.length < 1000000) : Pl (n + 1) (.tup ds)
  | dct {n : Nat} {kds : List (Key × D)} (h : Pl n (.lst (kds.map fun kv => .tup [kD kv.1, kv.2]))) : Pl (n + 1) (.dct kds)
@[simp] theorem is_nonl {ds : List D} : isD (.lst ds) .non = some false := rfl
@[simp] theorem is_nonb {b : Bool} : isD (.bl b) .non = some false := rfl
@[simp] theorem is_nons {x : Str} : isD (.str x) .non = some false := rfl
@[simp] theorem is_nond {x : List (Key × D)} : isD (.dct x) .non = some false := rfl
@[simp] theorem is_int {i : Int} : isD (.int i) .non = some false := rfl
@[simp] theorem eq_strs {x y : Str} : eqD (.str x) (.str y) = some (decide (x = y)) := by
  simp [eqD, toPy, eqv_ss, easy]
@[simp] theorem zip_l {a b : List D} : zip2L [.lst a, .lst b] = some (zipD a b) := rfl
@[simp] theorem zip_t {a b : List D} : zip2L [.tup a, .tup b] = some (zipD a b) := rfl
@[simp] theorem items_d {kds : List (Key × D)} : itemsO (.dct kds) = some (.l (kds.map fun kv => .tup [kD kv.1, kv.2])) := rfl
theorem zip_at {ds : List D} {k : Nat} {d : D} (h : (zipD ds ds)[k]? = some d) : ∃ y, y ∈ ds ∧ d = .tup [y, y] ∧ k < ds.length := by
  unfold zipD at h
  rw [List.getElem?_zipWith] at h
  cases q : ds[k]? with
  | none => rw [q] at h; cases h
  | some y => rw [q] at h; cases h; exact ⟨y, List.mem_of_getElem? q, rfl, (List.getElem?_eq_some_iff.mp q).1⟩
/-- a list of True so far -/
def AlI (E : Env) (k : Nat) (e : Env) (acc : List D) : Prop := e = E ∧ acc = List.replicate k (.bl true)
theorem bools_rep : ∀ n : Nat, boolsOf (List.replicate n (D.bl true)) = some (List.replicate n true)
  | 0 => rfl
  | n + 1 => by
    rw [List.replicate_succ, List.replicate_succ]
    show (match boolD (.bl true), boolsOf (List.replicate n (D.bl true)) with | some x, some xs => some (x :: xs) | _, _ => none) = _
    rw [bools_rep n]
    rfl
theorem all_rep (n : Nat) : allD (.lst (List.replicate n (D.bl true))) = some (.bl true) := by
  show (boolsOf (List.replicate n (D.bl true))).map _ = _
  rw [bools_rep]
  simp
theorem sames_den : ∀ (n : Nat) (d : D), Pl n d → ∀ {Q : S → Env → Prop}, (∀ o, Q (.fz (.bl true)) o) → wpR (m_f__law_same n [.fz d, .fz d]) Q
  | 0, d, h, Q, k => by cases h
  | n + 1, d, h, Q, k => by
    show wpR (denF 2 5 (b_f__law_same (m_f__law_same n)) _) _
    cases h with
    | non n => simp [b_f__law_same, Ty.sub]; exact k _
    | bl n b => simp [b_f__law_same, Ty.sub]; exact k _
    | int n i => simp [b_f__law_same, Ty.sub]; exact k _
    | str n x => simp [b_f__law_same, Ty.sub]; exact k _
    | @lst _ ds h hl =>
      simp [b_f__law_same, Ty.sub]
      refine wp_lc ?_
      simp
      refine ⟨AlI _, ⟨rfl, rfl⟩, ?_, ?_⟩
      · rintro j d e acc hd ⟨rfl, rfl⟩
        obtain ⟨y, hy, rfl, hj⟩ := zip_at hd
        simp [wipeE, gtTup, unpD, gtCons, gtN, gtNil]
        refine wp_callF (ds := [y, y]) rfl rfl (sames_den n y (h y hy) fun o => ⟨trivial, ?_⟩)
        simp
        exact ⟨by omega, rfl, List.replicate_succ'.symm⟩
      · rintro e acc ⟨rfl, rfl⟩
        simp [all_rep]
        exact k _
    | @tup _ ds h hl =>
      simp [b_f__law_same, Ty.sub]
      refine wp_lc ?_
      simp
      refine ⟨AlI _, ⟨rfl, rfl⟩, ?_, ?_⟩
      · rintro j d e acc hd ⟨rfl, rfl⟩
        obtain ⟨y, hy, rfl, hj⟩ := zip_at hd
        simp [wipeE, gtTup, unpD, gtCons, gtN, gtNil]
        refine wp_callF (ds := [y, y]) rfl rfl (sames_den n y (h y hy) fun o => ⟨trivial, ?_⟩)
        simp
        exact ⟨by omega, rfl, List.replicate_succ'.symm⟩
      · rintro e acc ⟨rfl, rfl⟩
        simp [all_rep]
        exact k _
    | @dct _ kds h =>
      simp [b_f__law_same, Ty.sub]
      obtain ⟨it, hit⟩ : ∃ it, it = kds.map fun kv => D.tup [kD kv.1, kv.2] := ⟨_, rfl⟩
      rw [← hit] at h ⊢
      refine wp_callF (ds := [.lst it, .lst it]) rfl rfl (sames_den n _ h fun o => ⟨trivial, ?_⟩)
      simp
      exact k _
theorem sames_wp {n : Nat} {d : D} {e : Env} {as : List Arg} {Q : S → Env → Prop} (ha : argsF e as = some [d, d]) (h : Pl n d) (k : Q (.fz (.bl true)) e) : wpR (callN 2 (m_f__law_same n) as e) Q := wp_callF ha rfl (sames_den n d h fun o => ⟨trivial, k⟩)
/-- what is read for a while -/
theorem wp_thaw {is : List Nat} {f : Env → Res D} {e : Env} {Q : D → Env → Prop} (h : wpR (f (freezeE is e)) fun d _ => isAtom d = true ∧ Q d e) : wpR (dThaw is f e) Q := by
  obtain ⟨d, e1, h1, h2, h3⟩ := h.out
  unfold dThaw
  rw [h1]
  simp only
  rw [if_pos h2]
  exact ⟨_, _, rfl, h3⟩
end DV

set_option Elab.async false
set_option linter.all false
set_option autoImplicit false
set_option maxRecDepth 100000
set_option maxHeartbeats 4000000
namespace DV
open PySem L2
/-! K0: the two counts. -/
theorem days_wp {as : List Arg} {e : Env} {i : Int} (ha : argsF e as = some [.int i]) (h1 : 1 ≤ i) (h2 : i ≤ 1000000) {Q : S → Env → Prop} (k : Q (.fz .non) e) : wpR (callN 1 m_f_check_days as e) Q := by
  refine wp_callF ha rfl ?_
  simp [m_f_check_days, b_f_check_days]
  refine btw_wp (i := i) (lo := 1) (hi := 1000000) rfl ?_
  simp [h1, h2]
  exact k
theorem mul_ok {d s : Nat} (hs : s ≤ 1000) : (-18446744073709551616 < (d : Int) ∧ (d : Int) < 18446744073709551616) ∨ (-18446744073709551616 < (s : Int) ∧ (s : Int) < 18446744073709551616) := .inr ⟨by omega, by omega⟩
theorem most_den {h : Int} {A : List Arc} {s t d : Nat} (R : RingOk h A) (N : NumOf h A s t) (hd : 1 ≤ d ∧ d ≤ 1000000) {Q : S → Env → Prop} (k : ∀ o, Q (.fz (.int (d * s / t : Nat))) o) : wpR (m_f_most_apart [.fz (ringD h A), .fz (.int d)]) Q := by
  simp only [m_f_most_apart, b_f_most_apart]
  simp
  refine days_wp (i := d) rfl (by omega) (by omega) ?_
  simp
  refine wp_callF (ds := [ringD h A]) rfl rfl (number_den R.h1 R.h2 R.nd R.ln R.le fun s' t' o N' => ⟨trivial, ?_⟩)
  obtain ⟨rfl, rfl⟩ := N.uniq N'
  obtain ⟨b1, b2, b3, _⟩ := N.bnd R.h1 R.h2 R.le
  have hq : (0 : Int) < t ∧ (t : Int) < 2 ^ 62 := ⟨by omega, by omega⟩
  have hm : mulD (.int d) (.int s) = some (.int (d * s)) := by rw [mul_i]; exact if_pos (mul_ok b1)
  have hf : fdivD (.int (d * s)) (.int t) = some (.int (d * s / t : Nat)) := by rw [fdiv_i]; exact if_pos hq
  simp [-mul_i, -fdiv_i, hm, hf]
  exact k _
theorem few_den {h : Int} {A : List Arc} {s t d : Nat} (R : RingOk h A) (N : NumOf h A s t) (hd : 1 ≤ d ∧ d ≤ 1000000) {Q : S → Env → Prop} (k : ∀ o, Q (.fz (.int ((d * s + t - 1) / t : Nat))) o) : wpR (m_f_fewest_looks [.fz (ringD h A), .fz (.int d)]) Q := by
  simp only [m_f_fewest_looks, b_f_fewest_looks]
  simp
  refine days_wp (i := d) rfl (by omega) (by omega) ?_
  simp
  refine wp_callF (ds := [ringD h A]) rfl rfl (number_den R.h1 R.h2 R.nd R.ln R.le fun s' t' o N' => ⟨trivial, ?_⟩)
  obtain ⟨rfl, rfl⟩ := N.uniq N'
  obtain ⟨b1, b2, b3, _⟩ := N.bnd R.h1 R.h2 R.le
  have hq : (0 : Int) < t ∧ (t : Int) < 2 ^ 62 := ⟨by omega, by omega⟩
  have hm : mulD (.int d) (.int s) = some (.int (d * s)) := by rw [mul_i]; exact if_pos (mul_ok b1)
  have hf : fdivD (.int ((d : Int) * s + t - 1)) (.int t) = some (.int ((d * s + t - 1) / t : Nat)) := by
    rw [fdiv_i, if_pos hq]
    rw [show (d : Int) * s + t - 1 = ((d * s + t - 1 : Nat) : Int) by
      have : ((d * s : Nat) : Int) = (d : Int) * s := rfl
      omega]
    rfl
  simp [-mul_i, -fdiv_i, hm, hf]
  exact k _
end DV

set_option Elab.async false
set_option linter.all false
set_option autoImplicit false
set_option maxRecDepth 100000
set_option maxHeartbeats 4000000
namespace DV
open PySem L2
/-! P26: arcs of one length step by step: the walk and the number. -/
/-- arcs of one length L, step by step -/
def stA (step L : Int) (xs : List Str) : List Arc := xs.zipIdx.map fun p => (p.1, step * (p.2 : Int), L)
theorem stA_names (step L : Int) (xs : List Str) : (stA step L xs).map (·.1) = xs := by
  unfold stA
  rw [List.map_map]
  exact List.zipIdx_map_fst 0 xs
theorem stA_len (step L : Int) (xs : List Str) : (stA step L xs).length = xs.length := by
  unfold stA; rw [List.length_map, List.length_zipIdx]
theorem stA_at {step L : Int} {xs : List Str} {k : Nat} (h : k < xs.length) : (stA step L xs)[k]? = some (xs[k], step * (k : Int), L) := by
  unfold stA
  rw [List.getElem?_map, List.getElem?_zipIdx, List.getElem?_eq_getElem h]
  simp
theorem stA_mem {step L : Int} {xs : List Str} {a : Arc} (h : a ∈ stA step L xs) : ∃ k, k < xs.length ∧ a.1 ∈ xs ∧ a.2.1 = step * (k : Int) ∧ a.2.2 = L := by
  obtain ⟨k, hk, rfl⟩ := List.getElem_of_mem h
  rw [stA_len] at hk
  have := stA_at (step := step) (L := L) hk
  rw [List.getElem?_eq_getElem (by rw [stA_len]; exact hk)] at this
  have := Option.some.inj this
  exact ⟨k, hk, by rw [this]; exact List.getElem_mem hk, by rw [this], by rw [this]⟩
theorem stA_take {step L : Int} {xs : List Str} {k : Nat} (h : k < xs.length) : (stA step L xs).take (k + 1) = (stA step L xs).take k ++ [(xs[k], step * (k : Int), L)] := by
  rw [List.take_succ, stA_at h]; rfl
/-- an arc's next end -/
theorem end_at {step L p z0 : Int} {m : Nat} (hs : 1 ≤ step) (hm : 1 ≤ m) : endOf (step * m) p ("", step * z0, L) = step * (((p - step * z0) / (step * m) + 1) * m + z0) + L - 1 := by
  unfold endOf
  show ((p - step * z0) / (step * m) + 1) * (step * m) + step * z0 + L - 1 = _
  rw [Int.mul_add step, Int.mul_left_comm]
theorem end_bnd {step p z0 : Int} {m : Nat} (hs : 1 ≤ step) (hm : 1 ≤ m) : p < step * (((p - step * z0) / (step * m) + 1) * m + z0) ∧ step * (((p - step * z0) / (step * m) + 1) * m + z0) ≤ p + step * m := by
  have hH : (0 : Int) < step * m := Int.mul_pos (by omega) (by omega)
  have h1 := Int.emod_add_mul_ediv (p - step * z0) (step * m)
  have h2 := Int.emod_nonneg (p - step * z0) (show step * (m : Int) ≠ 0 by omega)
  have h3 := Int.emod_lt_of_pos (p - step * z0) hH
  have e : step * (((p - step * z0) / (step * m) + 1) * m + z0) = step * m * ((p - step * z0) / (step * m)) + step * m + step * z0 := by
    generalize (p - step * z0) / (step * m) = q
    rw [Int.mul_add, Int.add_mul, Int.mul_add, Int.one_mul, Int.mul_assoc, Int.mul_comm q]
  rw [e]
  omega
theorem nxt_steps {step L p q : Int} {xs : List Str} (hs : 1 ≤ step) (hx : 1 ≤ xs.length) (h1 : step * (q - 1) ≤ p) (h2 : p < step * q) : nxt (step * xs.length) (stA step L xs) p = step * q + L - 1 := by
  have hne : stA step L xs ≠ [] := fun z => by have := stA_len step L xs; rw [z] at this; simp at this; omega
  refine IsMin.uniq (nxt_is hne) (ys := (stA step L xs).map (endOf (step * xs.length) p)) ⟨?_, ?_⟩ fun x => Iff.rfl
  · have hm : (0 : Int) < xs.length := by omega
    have h3 := Int.emod_nonneg q (show (xs.length : Int) ≠ 0 by omega)
    have h4 := Int.emod_lt_of_pos q hm
    obtain ⟨k, hk⟩ : ∃ k : Nat, q % xs.length = (k : Int) := ⟨(q % xs.length).toNat, by omega⟩
    have hkl : k < xs.length := by omega
    refine List.mem_map.mpr ⟨_, List.mem_of_getElem? (stA_at hkl), ?_⟩
    have e := end_at (step := step) (L := L) (p := p) (z0 := (k : Int)) (m := xs.length) hs hx
    obtain ⟨b1, b2⟩ := end_bnd (step := step) (p := p) (z0 := (k : Int)) (m := xs.length) hs hx
    refine Eq.trans e ?_
    generalize (p - step * ↑k) / (step * ↑xs.length) = r at *
    have hq := Int.emod_add_mul_ediv q xs.length
    rw [hk] at hq
    generalize q / xs.length = w at *
    have c1 : step * (q - 1) < step * ((r + 1) * xs.length + k) := by omega
    have c2 : step * ((r + 1) * xs.length + k) < step * (q + xs.length) := by rw [Int.mul_add step q]; omega
    have d1 := Int.lt_of_mul_lt_mul_left c1 (by omega)
    have d2 := Int.lt_of_mul_lt_mul_left c2 (by omega)
    have f1 : (xs.length : Int) * (w - 1) < xs.length * (r + 1) := by rw [Int.mul_sub, Int.mul_comm _ (r + 1)]; omega
    have f2 : (xs.length : Int) * (r + 1) < xs.length * (w + 1) := by rw [Int.mul_add _ w, Int.mul_comm _ (r + 1)]; omega
    have g1 := Int.lt_of_mul_lt_mul_left f1 (by omega)
    have g2 := Int.lt_of_mul_lt_mul_left f2 (by omega)
    have e4 : r + 1 = w := by omega
    have e5 : (r + 1) * xs.length + (k : Int) = q := by rw [e4, Int.mul_comm w]; omega
    rw [e5]
  · intro x hx'
    obtain ⟨a, ha, rfl⟩ := List.mem_map.mp hx'
    obtain ⟨k, hk, -, e1, e2⟩ := stA_mem ha
    have e := end_at (step := step) (L := L) (p := p) (z0 := (k : Int)) (m := xs.length) hs hx
    obtain ⟨b1, b2⟩ := end_bnd (step := step) (p := p) (z0 := (k : Int)) (m := xs.length) hs hx
    have e3 : endOf (step * xs.length) p a = endOf (step * xs.length) p ("", step * (k : Int), L) := by
      unfold endOf; rw [e1, e2]
    rw [e3, e]
    generalize ((p - step * ↑k) / (step * ↑xs.length) + 1) * ↑xs.length + (k : Int) = z at *
    have c1 : step * (q - 1) < step * z := by omega
    have d1 := Int.lt_of_mul_lt_mul_left c1 (by omega)
    have : step * q ≤ step * z := Int.mul_le_mul_of_nonneg_left (by omega) (by omega)
    omega
/-- the walk of such arcs -/
theorem wk_steps {step L c : Int} {xs : List Str} (hs : 1 ≤ step) (hx : 1 ≤ xs.length) (hc1 : step * (c - 1) < L) (hc2 : L ≤ step * c) : ∀ k : Nat, wk (step * xs.length) (stA step L xs) (k + 1) = step * (k * c + 1) + L - 1
  | 0 => by
    show nxt _ _ 0 = _
    rw [nxt_steps (q := 1) hs hx (by omega) (by omega)]
    simp
  | k + 1 => by
    show nxt _ _ (wk (step * xs.length) (stA step L xs) (k + 1)) = _
    rw [wk_steps hs hx hc1 hc2 k]
    have e1 : step * (k * c + 1 + c - 1) = step * (k * c + 1) + step * (c - 1) := by rw [← Int.mul_add]; congr 1; omega
    have e2 : step * (k * c + 1 + c) = step * (k * c + 1) + step * c := by rw [← Int.mul_add]
    rw [nxt_steps (q := k * c + 1 + c) hs hx (by omega) (by omega)]
    have : ((k + 1 : Nat) : Int) * c + 1 = k * c + 1 + c := by rw [Int.natCast_add, Int.add_mul]; omega
    rw [this]
/-- a turn of it takes c steps for each copy -/
theorem turn_steps {step L c : Int} {xs : List Str} (hs : 1 ≤ step) (hx : 1 ≤ xs.length) (hc1 : step * (c - 1) < L) (hc2 : L ≤ step * c) {n i : Nat} (hi : i < n) {d : Int} (e : wk (step * xs.length) (stA step L xs) n - wk (step * xs.length) (stA step L xs) i = step * xs.length * d) : (xs.length : Int) * d = ((n - i : Nat) : Int) * c := by
  have hs0 : step ≠ 0 := by omega
  obtain ⟨n, rfl⟩ : ∃ n', n = n' + 1 := ⟨n - 1, by omega⟩
  rw [wk_steps hs hx hc1 hc2] at e
  rw [Int.mul_assoc] at e
  cases i with
  | zero =>
    have e0 : wk (step * xs.length) (stA step L xs) 0 = 0 := rfl
    rw [e0] at e
    -- L - 1 = step * y
    have hy : L - 1 = step * (xs.length * d - (n * c + 1)) := by rw [Int.mul_sub]; omega
    have h3 : step * (c - 1 - 1) < step * (xs.length * d - (n * c + 1)) := by
      rw [← hy, Int.mul_sub step (c - 1)]; omega
    have h4 : step * (xs.length * d - (n * c + 1)) < step * c := by omega
    have g1 := Int.lt_of_mul_lt_mul_left h3 (by omega)
    have g2 := Int.lt_of_mul_lt_mul_left h4 (by omega)
    have : ((n + 1 - 0 : Nat) : Int) * c = n * c + c := by rw [Nat.sub_zero, Int.natCast_add, Int.add_mul]; omega
    rw [this]; omega
  | succ i =>
    rw [wk_steps hs hx hc1 hc2] at e
    have e2 : step * (((n - i : Nat) : Int) * c) = step * (xs.length * d) := by
      rw [← e, Int.ofNat_sub (by omega), Int.sub_mul, Int.mul_sub, Int.mul_add, Int.mul_add]; omega
    have := Int.eq_of_mul_eq_mul_left hs0 e2
    rw [show n + 1 - (i + 1) = n - i by omega]
    exact this.symm
theorem low_same {a b c d : Nat} (hb : 0 < b) (hd : 0 < d) (e : a * d = b * c) : a / Nat.gcd a b = c / Nat.gcd c d ∧ b / Nat.gcd a b = d / Nat.gcd c d := by
  have hg : 0 < Nat.gcd a b := Nat.gcd_pos_of_pos_right _ hb
  have hg' : 0 < Nat.gcd c d := Nat.gcd_pos_of_pos_right _ hd
  have c1 := Nat.coprime_div_gcd_div_gcd hg
  have c2 := Nat.coprime_div_gcd_div_gcd hg'
  have ha := Nat.div_mul_cancel (Nat.gcd_dvd_left a b)
  have hb' := Nat.div_mul_cancel (Nat.gcd_dvd_right a b)
  have hc := Nat.div_mul_cancel (Nat.gcd_dvd_left c d)
  have hd' := Nat.div_mul_cancel (Nat.gcd_dvd_right c d)
  generalize Nat.gcd a b = g at *
  generalize Nat.gcd c d = g' at *
  generalize a / g = a' at *
  generalize b / g = b' at *
  generalize c / g' = c' at *
  generalize d / g' = d' at *
  subst ha hb' hc hd'
  have e2 : a' * d' = b' * c' := by
    have : (g * g') * (a' * d') = (g * g') * (b' * c') := by
      have h1 : a' * g * (d' * g') = (g * g') * (a' * d') := by ac_rfl
      have h2 : b' * g * (c' * g') = (g * g') * (b' * c') := by ac_rfl
      rw [← h1, ← h2]; exact e
    exact Nat.eq_of_mul_eq_mul_left (Nat.mul_pos hg hg') this
  have hb0 : 0 < b' := Nat.pos_of_ne_zero fun z => by subst z; simp at hb
  have d1 : b' ∣ d' := (Nat.Coprime.symm c1).dvd_of_dvd_mul_left (by rw [e2]; exact Nat.dvd_mul_right _ _)
  have d2 : d' ∣ b' := (Nat.Coprime.symm c2).dvd_of_dvd_mul_right (by rw [← e2]; exact Nat.dvd_mul_left _ _)
  have hbd : b' = d' := Nat.dvd_antisymm d1 d2
  subst hbd
  refine ⟨?_, rfl⟩
  exact Nat.eq_of_mul_eq_mul_right hb0 (by rw [e2, Nat.mul_comm])
theorem num_steps {step L : Int} {c : Nat} {xs : List Str} (hs : 1 ≤ step) (hx : 1 ≤ xs.length) (hH : step * xs.length ≤ 1000) (hL1 : 1 ≤ L) (hL2 : L ≤ step * xs.length) (hc1 : step * ((c : Int) - 1) < L) (hc2 : L ≤ step * c) {s t : Nat}
    (N : NumOf (step * xs.length) (stA step L xs) s t) : NumOf (step * xs.length) (stA step L xs) (xs.length / Nat.gcd xs.length c) (c / Nat.gcd xs.length c) := by
  rcases N.e with ⟨h0, -, -⟩ | ⟨h0, n, i, r, hn, rfl, rfl⟩
  · have := stA_len step L xs
    rw [h0] at this
    simp at this
    omega
  · have hH1 : 1 ≤ step * (xs.length : Int) := by have := Int.mul_pos (show 0 < step by omega) (show (0 : Int) < xs.length by omega); omega
    have hle : ∀ a ∈ stA step L xs, 1 ≤ a.2.2 ∧ a.2.2 ≤ step * xs.length := fun a ha => by
      obtain ⟨k, -, -, -, e⟩ := stA_mem ha
      rw [e]; exact ⟨hL1, hL2⟩
    obtain ⟨d1, d2, d3, d4, d5⟩ := r.days hH1 hH h0 hle hn
    have e1 : wk (step * xs.length) (stA step L xs) n - wk (step * xs.length) (stA step L xs) i = step * xs.length * (dys (step * xs.length) (stA step L xs) n i : Int) := by
      rw [← d1]
      have e2 := r.eq
      unfold hr at e2
      exact (Int.mul_ediv_cancel' (Int.dvd_of_emod_eq_zero (Int.emod_eq_emod_iff_emod_sub_eq_zero.mp e2))).symm
    have e3 := turn_steps hs hx hc1 hc2 r.lt e1
    have hc : 0 < c := by
      rcases Nat.eq_zero_or_pos c with z | z
      · subst z; simp at hc2; omega
      · exact z
    have e4 : stp n i * c = dys (step * xs.length) (stA step L xs) n i * xs.length := by
      rw [Nat.mul_comm (dys _ _ _ _)]
      unfold stp
      exact_mod_cast e3.symm
    obtain ⟨f1, f2⟩ := low_same (a := stp n i) (b := dys (step * xs.length) (stA step L xs) n i) (c := xs.length) (d := c) (by omega) hc e4
    exact ⟨.inr ⟨h0, n, i, r, hn, f1.symm, f2.symm⟩⟩
end DV

set_option Elab.async false
set_option linter.all false
set_option autoImplicit false
set_option maxRecDepth 100000
set_option maxHeartbeats 4000000
namespace DV
open PySem L2
/-! K1: Ring.joined with one arc. -/
@[simp] theorem no_joined {h : Int} {B : List (Key × D)} : (List.lookup ("joined" : Str) [(("own_hours" : Str), D.int h), ("own_arcs", .dct B)]).isNone = true := rfl
def JoI (e0 : Env) (k : Nat) (e : Env) (acc : List D) : Prop := e = e0 ∧ acc = List.replicate k (.bl false)
theorem hasD_no {A : List Arc} {x : Str} (h : x ∉ A.map (·.1)) : hasD (arcsD A) (.inr x) = false := by
  cases e : hasD (arcsD A) (.inr x) with
  | false => rfl
  | true =>
    exfalso
    unfold hasD lookD at e
    rw [Option.isSome_map, List.find?_isSome] at e
    obtain ⟨kv, hkv, e⟩ := e
    obtain ⟨a, ha, rfl⟩ := List.mem_map.mp hkv
    simp [arcD] at e
    exact h (by rw [← e]; exact List.mem_map_of_mem ha)
theorem ArcsOk.cons {h : Int} {A : List Arc} {x : Str} {s l : Int} (ok : ArcsOk h A) (hx : NameOk x) (hn : x ∉ A.map (·.1)) (h1 : 0 ≤ s) (h2 : s < h) (h3 : 1 ≤ l) (h4 : l ≤ h) : ArcsOk h ((x, s, l) :: A) := by
  refine ⟨by rw [List.map_cons, List.nodup_cons]; exact ⟨hn, ok.nd⟩, fun a ha => ?_, fun a ha => ?_, fun a ha => ?_⟩
  all_goals rcases List.mem_cons.mp ha with rfl | ha
  · exact hx
  · exact ok.nm a ha
  · exact ⟨h1, h2⟩
  · exact ok.st a ha
  · exact ⟨h3, h4⟩
  · exact ok.ln a ha
theorem perm_nd {α : Type} [DecidableEq α] : ∀ {xs ys : List α}, xs.Nodup → ys.Nodup → (∀ x, x ∈ xs ↔ x ∈ ys) → xs.Perm ys
  | [], ys, _, _, h => by
    cases ys with
    | nil => exact .nil
    | cons y ys => exact absurd ((h y).mpr List.mem_cons_self) (by simp)
  | x :: xs, ys, h1, h2, h => by
    rw [List.nodup_cons] at h1
    have hx : x ∈ ys := (h x).mp List.mem_cons_self
    refine List.Perm.trans (.cons x (perm_nd h1.2 (h2.erase x) fun z => ?_)) (List.perm_cons_erase hx).symm
    rw [h2.mem_erase_iff]
    constructor
    · intro hz
      exact ⟨fun e => h1.1 (by rw [← e]; exact hz), (h z).mp (List.mem_cons_of_mem _ hz)⟩
    · rintro ⟨hz, hy⟩
      exact (List.mem_cons.mp ((h z).mpr hy)).resolve_left hz
theorem nd_of_names {A : List Arc} (hn : (A.map (·.1)).Nodup) : A.Nodup := by
  rw [List.nodup_iff_pairwise_ne, List.pairwise_map] at hn
  rw [List.nodup_iff_pairwise_ne]
  exact hn.imp fun h e => h (by rw [e])
theorem sortA_permA {A : List Arc} (hn : (A.map (·.1)).Nodup) : (sortA A).Perm A := by
  refine perm_nd (nd_of_names ?_) (nd_of_names hn) fun a => ⟨sortA_mem, sortA_has hn⟩
  rw [sortA_names]
  exact ((sortS_perm _).nodup_iff).mpr hn
def owK (o : Option S) : Option (Option Nat × List (Key × D)) := match o with
  | some (.own og (.d ds)) => some (og, ds)
  | _ => none
@[simp] theorem owK_o {og : Option Nat} {ds : List (Key × D)} : owK (some (.own og (.d ds))) = some (og, ds) := rfl
@[simp] theorem ev_ownK {i : Nat} {e : Env} : ownK e i = owK e[i]? := rfl
@[simp] theorem wev_upd {i : Nat} {fb : Env → Res D} {e : Env} {Q} : wpR (dUpd i fb e) Q = wpR ((lift (ownK e i) e).bind fun _ e => (fb e).bind fun y e => (lift (ownK e i) e).bind fun p e => (lift (mUpd p.2 y.un) e).bind fun r e => .ok .non (e.set i (.own p.1 (.d r)))) Q := rfl
@[simp] theorem mUpd_d {kds mds : List (Key × D)} : mUpd kds (.dct mds) = if kds.length + mds.length ≤ 1000000 then some (mergeD kds mds) else none := rfl
theorem any_no : anyD (.lst [.bl false]) = some (.bl false) := rfl
theorem joined_den {h : Int} {A : List Arc} {x : Str} {s l : Int} (ok : ArcsOk h A) (hh1 : 1 ≤ h) (hh2 : h ≤ 1000) (hl : A.length < 40) (hx : NameOk x) (hn : x ∉ A.map (·.1)) (h1 : 0 ≤ s) (h2 : s < h) (h3 : 1 ≤ l) (h4 : l ≤ h) {Q : S → Env → Prop}
    (k : ∀ o, Q (.own none (ringC h ((x, s, l) :: A))) o) : wpR (m_f_Ring_joined [.fz (ringD h A), .fz (.dct [(.inr x, .tup [.int s, .int l])])]) Q := by
  have hl' : ¬ ((40 : Int) < 1 + ((sortA A).length : Int)) := by rw [sortA_len]; omega
  have okc := ok.cons hx hn h1 h2 h3 h4
  have hns : x ∉ (sortA A).map (·.1) := by rw [sortA_names]; exact fun z => hn ((sortS_perm _).mem_iff.mp z)
  have pm : (sortA A ++ [(x, s, l)]).Perm ((x, s, l) :: A) := (List.perm_append_comm).trans (.cons _ (sortA_permA ok.nd))
  have hl6 : (arcsD (sortA A)).length ≤ 999999 := by unfold arcsD; rw [List.length_map, sortA_len]; omega
  simp [m_f_Ring_joined, b_f_Ring_joined, ring_hours, ring_arcs]
  refine arearcs_wp (hours := h) (L := [((x, s, l), false)]) rfl ?_ (by simp) ?_
  · simpa using (ArcsOk.cons (A := []) ⟨by simp, by simp, by simp, by simp⟩ hx (by simp) h1 h2 h3 h4)
  simp [ring_arcs, arcsD]
  rw [decide_eq_false hl']
  simp
  refine wp_lc ?_
  simp
  refine ⟨JoI [.fz (ringD h A), .fz (.dct [(.inr x, .tup [.int s, .int l])]), .no, .no], ⟨rfl, rfl⟩, ?_, ?_⟩
  · rintro j d e acc hj ⟨rfl, rfl⟩
    have hd : d = .str x := by cases j with
      | zero => exact (Option.some.inj hj).symm
      | succ j => cases hj
    subst hd
    simp [ring_arcs, hasD_no hns]
    refine ⟨by have := (List.getElem?_eq_some_iff.mp hj).1; simp at this; omega, rfl, ?_⟩
    rw [List.replicate_succ']
  · rintro e acc ⟨rfl, rfl⟩
    have e3 : mergeD (arcsD (sortA A)) [(Sum.inr x, D.tup [D.int s, D.int l])] = arcsD (sortA A ++ [(x, s, l)]) := arcsD_new hns
    simp [any_no, ring_arcs, ring_hours, hl6, e3]
    refine ring_wp (hours := h) ?_ hh1 hh2
    simp [ring_hours]
    have eL : ((sortA A ++ [(x, s, l)]).map fun a => (a, false)).map (·.1) = sortA A ++ [(x, s, l)] := by rw [List.map_map]; exact List.map_id _
    have eD : ((sortA A ++ [(x, s, l)]).map fun a => (a, false)).map lD = arcsD (sortA A ++ [(x, s, l)]) := by rw [List.map_map]; rfl
    refine ⟨(sortA A ++ [(x, s, l)]).map fun a => (a, false), by rw [eD]; rfl, by rw [eL]; exact okc.perm pm, by rw [List.length_map, List.length_append, sortA_len]; simp; omega, ?_⟩
    rw [eL, ringC_perm pm ((okc.perm pm).nd)]
    exact k _
end DV

set_option Elab.async false
set_option linter.all false
set_option autoImplicit false
set_option maxRecDepth 100000
set_option maxHeartbeats 4000000
namespace DV
open PySem L2
/-! K2: greatest of a list; sorted arcs; places in lists. -/
theorem nxt_same {h p : Int} {A B : List Arc} (m : ∀ a, a ∈ A ↔ a ∈ B) (h0 : A ≠ []) : nxt h A p = nxt h B p := by
  have hB : B ≠ [] := fun z => by
    cases A with
    | nil => exact h0 rfl
    | cons a A => have := (m a).mp List.mem_cons_self; rw [z] at this; cases this
  refine (nxt_is h0).uniq (nxt_is hB) fun x => ⟨fun hx => ?_, fun hx => ?_⟩
  · obtain ⟨a, ha, rfl⟩ := List.mem_map.mp hx
    exact List.mem_map_of_mem ((m a).mp ha)
  · obtain ⟨a, ha, rfl⟩ := List.mem_map.mp hx
    exact List.mem_map_of_mem ((m a).mpr ha)
theorem wk_same {h : Int} {A B : List Arc} (m : ∀ a, a ∈ A ↔ a ∈ B) (h0 : A ≠ []) : wk h A = wk h B := by
  funext k
  induction k with
  | zero => rfl
  | succ k ih =>
    show nxt h A (wk h A k) = nxt h B (wk h B k)
    rw [ih, nxt_same m h0]
theorem num_same {h : Int} {A B : List Arc} {s t : Nat} (m : ∀ a, a ∈ A ↔ a ∈ B) (N : NumOf h A s t) : NumOf h B s t := by
  rcases N.e with ⟨z, hs, ht⟩ | ⟨h0, n, i, r, hn, hs, ht⟩
  · refine ⟨.inl ⟨?_, hs, ht⟩⟩
    cases B with
    | nil => rfl
    | cons b B => have := (m b).mpr List.mem_cons_self; rw [z] at this; cases this
  · have hB : B ≠ [] := fun z => by
      cases A with
      | nil => exact h0 rfl
      | cons a A => have := (m a).mp List.mem_cons_self; rw [z] at this; cases this
    have ew := wk_same (h := h) m h0
    have eh : hr h A = hr h B := by unfold hr; rw [ew]
    have ed : dys h A n i = dys h B n i := by unfold dys; rw [ew]
    exact ⟨.inr ⟨hB, n, i, ⟨r.lt, by rw [← eh]; exact r.eq, fun a b p q => by rw [← eh]; exact r.fr a b p q⟩, hn, by rw [← ed]; exact hs, by rw [← ed]; exact ht⟩⟩
theorem names_at {A : List Arc} {j : Nat} {d : D} (h : ((sortS (A.map (·.1))).map D.str)[j]? = some d) : ∃ a, (sortA A)[j]? = some a ∧ a ∈ A ∧ d = .str a.1 ∧ j < (sortA A).length := by
  have hj : (sortA A)[j]?.map (fun a => D.str a.1) = some d := by
    have : (sortA A).map (fun a => D.str a.1) = (sortS (A.map (·.1))).map .str := by rw [← sortA_names, List.map_map]; rfl
    rw [← List.getElem?_map, this]; exact h
  obtain ⟨a, ha, rfl⟩ := Option.map_eq_some_iff.mp hj
  exact ⟨a, ha, sortA_mem (List.mem_of_getElem? ha), rfl, (List.getElem?_eq_some_iff.mp ha).1⟩
theorem names_at' {A : List Arc} {j : Nat} {y : Str} (h : (sortS (A.map (·.1)))[j]? = some y) : ∃ a, (sortA A)[j]? = some a ∧ a ∈ A ∧ y = a.1 ∧ j < (sortA A).length := by
  rw [← sortA_names, List.getElem?_map] at h
  obtain ⟨a, ha, rfl⟩ := Option.map_eq_some_iff.mp h
  exact ⟨a, ha, sortA_mem (List.mem_of_getElem? ha), rfl, (List.getElem?_eq_some_iff.mp ha).1⟩
theorem names_len' (A : List Arc) : (sortS (A.map (·.1))).length = (sortA A).length := by rw [← sortA_names, List.length_map]
theorem names_len (A : List Arc) : ((sortS (A.map (·.1))).map D.str).length = (sortA A).length := by rw [List.length_map, ← sortA_names, List.length_map]
theorem take_at {α : Type} {xs : List α} {j : Nat} {a : α} (h : xs[j]? = some a) : xs.take (j + 1) = xs.take j ++ [a] := by rw [List.take_succ, h]; rfl
theorem RingOk.wk {h : Int} {A : List Arc} (ok : ArcsOk h A) (h1 : 1 ≤ h) : WkOk h A := ⟨h1, ok.st, ok.ln⟩
@[simp] theorem wev_parN {is : List Nat} {fl : Env → Res (List S)} {e : Env} {Q} : wpR (sParN is fl e) Q = wpR ((fl e).bind (parN is)) Q := rfl
theorem toPys_int : ∀ xs : List Int, toPys (xs.map D.int) = some (xs.map PyData.int)
  | [] => rfl
  | x :: xs => by simp only [List.map_cons, toPys, toPy, toPys_int xs]
@[simp] theorem in_ints {x : Int} {xs : List Int} : inD (.int x) (.lst (xs.map D.int)) = some (decide (x ∈ xs)) := by
  simp only [inD, inL, toPy, toPys_int]
  have h1 : ((xs.map PyData.int).all flatP) = true := by rw [List.all_map, List.all_eq_true]; intro a _; rfl
  rw [if_pos (by rw [h1]; rfl), List.any_map]
  congr 1
  rw [Bool.eq_iff_iff, List.any_eq_true, decide_eq_true_eq]
  constructor
  · rintro ⟨a, ha, h⟩
    have h' : PyData.eqv (.int a) (.int x) = true := h
    rw [eqv_ii, decide_eq_true_eq] at h'
    subst h'; exact ha
  · intro h
    exact ⟨x, h, by show PyData.eqv (.int x) (.int x) = true; rw [eqv_ii]; simp⟩
theorem depth_int : ∀ xs : List Int, PyData.depthAll (xs.map PyData.int) ≤ 64
  | [] => Nat.zero_le _
  | x :: xs => by
    have h1 : PyData.depth (.int x) = 0 := rfl
    have := depth_int xs
    rw [List.map_cons, PyData.depthAll, h1]
    omega
theorem ord_int (xs : List Int) : ordOk (xs.map PyData.int) = true := by
  unfold ordOk
  rw [Bool.and_eq_true, Bool.and_eq_true]
  refine ⟨⟨?_, ?_⟩, decide_eq_true (depth_int xs)⟩
  · rw [List.all_eq_true]
    intro p hp
    rw [List.all_eq_true]
    intro q hq
    obtain ⟨x, _, rfl⟩ := List.mem_map.mp hp
    obtain ⟨y, _, rfl⟩ := List.mem_map.mp hq
    rfl
  · rw [List.all_eq_true]
    intro p hp
    obtain ⟨x, _, rfl⟩ := List.mem_map.mp hp
    rfl
theorem foldl_max : ∀ (xs : List Int) (x : Int), xs.foldl max x ∈ x :: xs ∧ ∀ z ∈ x :: xs, z ≤ xs.foldl max x
  | [], x => ⟨List.mem_cons_self, fun z hz => by simp at hz; subst hz; exact Int.le_refl _⟩
  | y :: xs, x => by
    obtain ⟨h1, h2⟩ := foldl_max xs (max x y)
    rw [List.foldl_cons]
    refine ⟨?_, fun z hz => ?_⟩
    · rcases List.mem_cons.mp h1 with h1 | h1
      · rw [h1]
        by_cases c : x ≤ y
        · rw [Int.max_eq_right c]; exact List.mem_cons_of_mem _ List.mem_cons_self
        · rw [Int.max_eq_left (by omega)]; exact List.mem_cons_self
      · exact List.mem_cons_of_mem _ (List.mem_cons_of_mem _ h1)
    · have := h2 (max x y) List.mem_cons_self
      rcases List.mem_cons.mp hz with rfl | hz
      · have := Int.le_max_left z y; omega
      · rcases List.mem_cons.mp hz with rfl | hz
        · have := Int.le_max_right x z; omega
        · exact h2 z (List.mem_cons_of_mem _ hz)
theorem maxL_ints {xs : List Int} (h : xs ≠ []) : ∃ m, maxL (.lst (xs.map .int)) = some (.int m) ∧ m ∈ xs ∧ ∀ x ∈ xs, x ≤ m := by
  obtain ⟨x, xs, rfl⟩ := List.exists_cons_of_ne_nil h
  obtain ⟨h1, h2⟩ := foldl_max xs x
  refine ⟨xs.foldl max x, ?_, h1, h2⟩
  have ho := ord_int (x :: xs)
  rw [List.map_cons] at ho
  unfold maxL
  simp only [toPys_int]
  rw [List.map_cons]
  simp only
  rw [if_pos ho, PySem.W.maxD_ints]
  rfl
theorem strsOf_int {xs : List Int} (h : xs ≠ []) : strsOf (xs.map .int) = none := by
  obtain ⟨x, xs, rfl⟩ := List.exists_cons_of_ne_nil h
  rfl
theorem intsOf_int : ∀ xs : List Int, intsOf (xs.map .int) = some xs
  | [] => rfl
  | x :: xs => by simp only [List.map_cons, intsOf, intsOf_int xs]; rfl
@[simp] theorem sorted_i {xs : List Int} : sortedO (.lst (xs.map .int)) = some (.l ((sortI xs).map .int)) := by
  by_cases h : xs = []
  · subst h; simp [sortedO, strsOf, sortI, sortS]
  · simp only [sortedO, strsOf_int h, intsOf_int]
    rfl
@[simp] theorem parN_2 {i j : Nat} {s t : S} {e : Env} : parN [i, j] [s, t] e = (lift ((stS i s e).bind (stS j t)) e).bind fun e' _ => .ok .nx e' := by
  unfold parN
  rw [if_pos (by simp)]
  simp only [stAll]
  cases stS i s e with
  | none => rfl
  | some e1 => simp
end DV

set_option Elab.async false
set_option linter.all false
set_option autoImplicit false
set_option maxRecDepth 100000
set_option maxHeartbeats 4000000
namespace DV
open PySem L2
/-! K3: _law_r_most. -/
def mkS (h : Int) (d : Nat) (c : Cpy) : List Int := sortI ((List.range c.1.2.2.toNat).map fun k : Nat => (stc h c + (k : Int)) % (d * h))
theorem mkS_ok (h : Int) (d : Nat) : MkOk h d (mkS h d) := fun c x => by
  unfold mkS
  rw [(sortI_perm _).mem_iff, List.mem_map]
  constructor
  · rintro ⟨k, hk, rfl⟩
    rw [List.mem_range] at hk
    exact ⟨k, by omega, rfl⟩
  · rintro ⟨k, hk, rfl⟩
    exact ⟨k, by rw [List.mem_range]; omega, rfl⟩
theorem mkS_len (h : Int) (d : Nat) (c : Cpy) : (mkS h d c).length = c.1.2.2.toNat := by
  unfold mkS
  rw [(sortI_perm _).length_eq, List.length_map, List.length_range]
def lstI (xs : List Int) : D := .lst (xs.map .int)
theorem cps_take {A : List Arc} {a : Arc} {d k : Nat} (h : A[k]? = some a) : cpsL (A.take (k + 1)) d = cpsL (A.take k) d ++ (List.range d).map fun y => (a, y) := by
  unfold cpsL
  rw [take_at h, List.flatMap_append]
  simp
theorem cps_len (A : List Arc) (d : Nat) : (cpsL A d).length = A.length * d := by
  unfold cpsL
  induction A with
  | nil => simp
  | cons a A ih => rw [List.flatMap_cons, List.length_append, ih, List.length_map, List.length_range, List.length_cons, Nat.succ_mul]; omega
def mks (h : Int) (d : Nat) (C : List Cpy) : List D := C.map fun c => lstI (mkS h d c)
theorem mks_snoc (h : Int) (d : Nat) (C : List Cpy) (c : Cpy) : mks h d C ++ [lstI (mkS h d c)] = mks h d (C ++ [c]) := by unfold mks; rw [List.map_append]; rfl
theorem mks_len (h : Int) (d : Nat) (C : List Cpy) : (mks h d C).length = C.length := by unfold mks; rw [List.length_map]
def MaE (h : Int) (A : List Arc) (d : Nat) (C : List Cpy) (s5 s6 s7 : S) : Env := [.fz (.int h), .fz (.dct (arcsD A)), .fz (.int d), .own none (.l (mks h d C)), .fz (.int (d * h)), s5, s6, s7, .no, .no, .no, .no, .no, .no]
def MaI (h : Int) (A : List Arc) (d : Nat) (k : Nat) (e : Env) : Prop := ∃ s5 s6 s7 : S, e = MaE h A d (cpsL ((sortA A).take k) d) s5 s6 s7
def MbI (h : Int) (A : List Arc) (d : Nat) (a : Arc) (k j : Nat) (e : Env) : Prop := ∃ s6 s7 : S, e = MaE h A d (cpsL ((sortA A).take k) d ++ (List.range j).map fun y => (a, y)) (.fz (.str a.1)) s6 s7
def McI (e0 : Env) (f w : Int) (k : Nat) (e : Env) (acc : List D) : Prop := e = e0 ∧ acc = ((List.range k).map fun j : Nat => (f + (j : Int)) % w).map .int
/-- the reached ones as data -/
def rD (r : List Int × Nat) : D := .tup [lstI r.1, .int r.2]
theorem reach_len (ms : List (List Int)) : (reachR ms).length ≤ 2 ^ ms.length := by
  refine rev_ind (P := fun ms => (reachR ms).length ≤ 2 ^ ms.length) (by decide) (fun xs x ih => ?_) ms
  rw [reach_snoc, List.length_append, List.length_singleton, Nat.pow_succ]
  unfold extR
  rw [List.length_append, List.length_map]
  have := List.length_filter_le (fun r : List Int × Nat => !(x.any fun y => decide (y ∈ r.1))) (reachR xs)
  omega
theorem reach_bnd {B : Nat} (ms : List (List Int)) : (∀ m ∈ ms, m.length ≤ B) → ∀ r ∈ reachR ms, r.1.length ≤ ms.length * B := by
  refine rev_ind (P := fun ms => (∀ m ∈ ms, m.length ≤ B) → ∀ r ∈ reachR ms, r.1.length ≤ ms.length * B) (fun _ r hr => ?_) (fun xs x ih hm r hr => ?_) ms
  · have : r = ([], 0) := by simpa [reachR] using hr
    subst this; simp
  · rw [reach_snoc] at hr
    rw [List.length_append, List.length_singleton, Nat.add_mul]
    have hx := hm x (by simp)
    have ih := ih fun m h => hm m (List.mem_append_left _ h)
    rcases List.mem_append.mp hr with hr | hr
    · have := ih r hr; omega
    · obtain ⟨q, hq, rfl⟩ := List.mem_map.mp hr
      have := ih q (List.mem_filter.mp hq).1
      simp only [List.length_append]
      omega
def MdE (h : Int) (A : List Arc) (d : Nat) (M : List D) (s5 s6 s7 s8 s9 s11 s12 : S) : Env := [.fz (.int h), .fz (.dct (arcsD A)), .fz (.int d), .fz (.lst M), .fz (.int (d * h)), s5, s6, s7, s8, s9, .no, s11, s12, .no]
def rDs (R : List (List Int × Nat)) : List D := R.map rD
theorem rDs_len (R : List (List Int × Nat)) : (rDs R).length = R.length := by unfold rDs; rw [List.length_map]
def MdI (h : Int) (A : List Arc) (d : Nat) (M : List D) (ms : List (List Int)) (k : Nat) (e : Env) : Prop := ∃ s5 s6 s7 s8 s9 : S, e = MdE h A d M s5 s6 s7 s8 s9 .no .no ∧ (s8 = .fz (.lst (rDs (reachR (ms.take k)))) ∨ s8 = .own none (.l (rDs (reachR (ms.take k)))))
/-- the new ones of the first j reached -/
def newR (R : List (List Int × Nat)) (m : List Int) : List (List Int × Nat) := (R.filter fun r => !(m.any fun x => decide (x ∈ r.1))).map fun r => (r.1 ++ m, r.2 + 1)
theorem extR_new (R : List (List Int × Nat)) (m : List Int) : extR R m = R ++ newR R m := rfl
def MeI (e0 : Env) (R : List (List Int × Nat)) (m : List Int) (k : Nat) (e : Env) (acc : List D) : Prop := e = e0 ∧ acc = rDs (newR (R.take k) m)
def MfI (e0 : Env) (H m : List Int) (k : Nat) (e : Env) (acc : List D) : Prop := e = e0 ∧ acc = (m.take k).map fun x => D.bl (decide (x ∈ H))
def MgI (e0 : Env) (R : List (List Int × Nat)) (k : Nat) (e : Env) (acc : List D) : Prop := e = e0 ∧ acc = ((R.take k).map fun r => (r.2 : Int)).map .int
theorem boolsOf_map : ∀ bs : List Bool, boolsOf (bs.map .bl) = some bs
  | [] => rfl
  | b :: bs => by simp only [List.map_cons, boolsOf, boolsOf_map bs]; rfl
@[simp] theorem add_ll {a b : List D} : addD (.lst a) (.lst b) = if a.length + b.length ≤ 1000000 then some (.lst (a ++ b)) else none := rfl
theorem any_mem {H m : List Int} : anyD (.lst (m.map fun x => D.bl (decide (x ∈ H)))) = some (.bl (m.any fun x => decide (x ∈ H))) := by
  have e : (m.map fun x => D.bl (decide (x ∈ H))) = (m.map fun x => decide (x ∈ H)).map .bl := by rw [List.map_map]; rfl
  unfold anyD
  rw [e]
  simp only [boolsOf_map]
  rw [Option.map_some, List.any_map]
  rfl
theorem lmost_den {h : Int} {A : List Arc} {d : Nat} (ok : ArcsOk h A) (h1 : 1 ≤ h) (h6 : h ≤ 6) (hl : A.length ≤ 3) (hd1 : 1 ≤ d) (hd2 : d ≤ 2) {Q : S → Env → Prop}
    (kq : ∀ (m : Int) (o : Env), (∃ r ∈ reachR ((cpsL (sortA A) d).map (mkS h d)), m = (r.2 : Int)) → (∀ r ∈ reachR ((cpsL (sortA A) d).map (mkS h d)), (r.2 : Int) ≤ m) → Q (.fz (.int m)) o) : wpR (m_f__law_r_most [.fz (.int h), .fz (.dct (arcsD A)), .fz (.int d)]) Q := by
  have hl64 : A.length < 64 := by omega
  have hdi : i62 (d : Int) = true := i62_ok ⟨by omega, by omega⟩
  have hW : (1 : Int) ≤ d * h ∧ (d : Int) * h ≤ 12 := by
    have : d = 1 ∨ d = 2 := by omega
    rcases this with rfl | rfl <;> omega
  have hdb : (-18446744073709551616 < (d : Int) ∧ (d : Int) < 18446744073709551616) := ⟨by omega, by omega⟩
  have hWb : (0 : Int) < d * h ∧ (d : Int) * h < 4611686018427387904 := ⟨by omega, by omega⟩
  simp [m_f__law_r_most, b_f__law_r_most, hdb, sorted_d2 hl64]
  refine wp_for (MaI h A d) ⟨_, _, _, rfl⟩ ?_ ?_
  · rintro k x e hk ⟨s5, s6, s7, rfl⟩
    obtain ⟨a, ha, hm, rfl, hkl⟩ := names_at hk
    have hln := ok.ln a hm
    have hlk := lookD_arcs ok.nd hm
    refine ⟨_, rfl, ?_⟩
    simp [MaE, hdi]
    refine wp_for (MbI h A d a k) ⟨s6, s7, by simp [MaE]⟩ ?_ ?_
    · rintro j y e hj ⟨s6, s7, rfl⟩
      obtain ⟨rfl, hjd⟩ := rangeD_at0 hj
      refine ⟨_, rfl, ?_⟩
      have hjb : (-18446744073709551616 < (j : Int) ∧ (j : Int) < 18446744073709551616) := ⟨by omega, by omega⟩
      have hli : i62 a.2.2 = true := i62_ok ⟨by omega, by omega⟩
      generalize hC : (cpsL ((sortA A).take k) d ++ (List.range j).map fun y => (a, y)) = C
      have hCl : C.length < 1000000 := by
        have := sortA_len A
        have : ((sortA A).take k).length * d ≤ 3 * 2 := Nat.mul_le_mul (by rw [List.length_take]; omega) hd2
        rw [← hC, List.length_append, cps_len, List.length_map, List.length_range]; omega
      simp [MaE, hjb, hlk, atI, ixN]
      refine wp_lc ?_
      simp [hlk, hli, atI, ixN]
      refine ⟨McI (MaE h A d C (.fz (.str a.1)) (.fz (.int j)) (.fz (.int (j * h + a.2.1)))) (j * h + a.2.1) (d * h), ⟨by simp [MaE, wipeE], rfl⟩, ?_, ?_⟩
      · rintro z dz e acc hz ⟨rfl, rfl⟩
        obtain ⟨rfl, hzl⟩ := rangeD_at0 hz
        simp [MaE, hWb]
        refine ⟨by omega, by simp [MaE, wipeE], ?_⟩
        rw [List.range_succ, List.map_append, List.map_append, List.map_map]
        rfl
      · rintro e acc ⟨rfl, rfl⟩
        have es : sortedO (.lst (((List.range (rangeD 0 a.2.2.toNat).length).map fun j_1 : Nat => (j * h + a.2.1 + (j_1 : Int)) % (d * h)).map .int)) = some (.l ((mkS h d (a, j)).map .int)) := by
          rw [sorted_i, rangeD_len]; rfl
        simp only [MaE]
        simp [-List.map_map, es, mks_len, hCl]
        refine ⟨.fz (.int j), .fz (.int (j * h + a.2.1)), ?_⟩
        rw [show ((mkS h d (a, j)).map D.int) = ((mkS h d (a, j)).map D.int) from rfl]
        have := mks_snoc h d C (a, j)
        unfold lstI at this
        rw [this, ← hC, List.append_assoc, List.range_succ, List.map_append]
        rfl
    · rintro e ⟨s6, s7, rfl⟩
      rw [rangeD_len, ← cps_take ha]
      exact ⟨_, _, _, rfl⟩
  · rintro e ⟨s5, s6, s7, rfl⟩
    rw [names_len, List.take_length]
    generalize hM : mks h d (cpsL (sortA A) d) = M
    generalize hms : (cpsL (sortA A) d).map (mkS h d) = ms at kq
    have hMm : M = ms.map lstI := by rw [← hM, ← hms]; unfold mks; rw [List.map_map]; rfl
    have hml : ms.length ≤ 6 := by
      have := sortA_len A
      have : (sortA A).length * d ≤ 3 * 2 := Nat.mul_le_mul (by omega) hd2
      rw [← hms, List.length_map, cps_len]; omega
    have hmb : ∀ m ∈ ms, m.length ≤ 6 := fun m hm => by
      rw [← hms] at hm
      obtain ⟨c, hc, rfl⟩ := List.mem_map.mp hm
      have := ok.ln _ (sortA_mem (cps_mem.mp hc).1)
      rw [mkS_len]; omega
    have hR : ∀ k, (reachR (ms.take k)).length ≤ 64 ∧ ∀ r ∈ reachR (ms.take k), r.1.length ≤ 36 := fun k => by
      have hk : (ms.take k).length ≤ 6 := by rw [List.length_take]; omega
      refine ⟨Nat.le_trans (reach_len _) (Nat.le_trans (Nat.pow_le_pow_right (by decide) hk) (by decide)), fun r hr => ?_⟩
      have := reach_bnd (B := 6) (ms.take k) (fun m hm => hmb m (List.mem_of_mem_take hm)) r hr
      omega
    simp [MaE]
    rw [hM]
    refine wp_for (MdI h A d M ms) ⟨_, _, _, _, _, rfl, .inr rfl⟩ ?_ ?_
    · rintro k y e hk ⟨s5, s6, s7, s8, s9, rfl, hs8⟩
      obtain ⟨m, hm, rfl⟩ : ∃ m, ms[k]? = some m ∧ y = lstI m := by
        rw [hMm, List.getElem?_map] at hk
        obtain ⟨m, e1, e2⟩ := Option.map_eq_some_iff.mp hk
        exact ⟨m, e1, e2.symm⟩
      have hmm := hmb m (List.mem_of_getElem? hm)
      obtain ⟨hRl, hRb⟩ := hR k
      refine ⟨_, rfl, ?_⟩
      have hnx : reachR (ms.take (k + 1)) = reachR (ms.take k) ++ newR (reachR (ms.take k)) m := by
        rw [take_at hm, reach_snoc]; rfl
      generalize reachR (ms.take k) = R at hRl hRb hnx hs8
      have key : ∀ s8', s8' = S.fz (.lst (rDs R)) → wpR (oLc [11, 12] (lItems (dV 8)) (gtTup 2 (gtCons (gtN 11) (gtCons (gtN 12) gtNil)))
                (bNot (bTv (d1v anyD (dF (oLc [13] (lItems (dV 9)) (gtN 13) bYes (dB (b2r inD (dV 13) 11)))))))
                (dTup (dCons (d2 addD (dV 11) (dV 9)) (dCons (d2 addD (dV 12) (dC (D.int 1))) dNil))) (MdE h A d M s5 s6 s7 s8' (.fz (lstI m)) .no .no)) fun s e => e = MdE h A d M s5 s6 s7 s8' (.fz (lstI m)) .no .no ∧ s = .own none (.l (rDs (newR R m))) := by
        rintro s8' rfl
        refine wp_lc ?_
        simp [MdE]
        refine ⟨MeI (MdE h A d M s5 s6 s7 (.fz (.lst (rDs R))) (.fz (lstI m)) .no .no) R m, ⟨rfl, by simp [newR, rDs]⟩, ?_, ?_⟩
        · rintro z dz e acc hz ⟨rfl, rfl⟩
          obtain ⟨r, hr, rfl⟩ : ∃ r, R[z]? = some r ∧ dz = rD r := by
            unfold rDs at hz
            rw [List.getElem?_map] at hz
            obtain ⟨r, e1, e2⟩ := Option.map_eq_some_iff.mp hz
            exact ⟨r, e1, e2.symm⟩
          have hzR : z < R.length := (List.getElem?_eq_some_iff.mp hr).1
          have hrb := hRb r (List.mem_of_getElem? hr)
          have hnl : (rDs (newR (R.take z) m)).length < 1000000 := by
            rw [rDs_len]; unfold newR; rw [List.length_map]
            have := List.length_filter_le (fun r : List Int × Nat => !(m.any fun x => decide (x ∈ r.1))) (R.take z)
            rw [List.length_take] at this
            omega
          have hta : newR (R.take (z + 1)) m = newR (R.take z) m ++ newR [r] m := by
            rw [take_at hr]; unfold newR; rw [List.filter_append, List.map_append]
          refine ⟨MdE h A d M s5 s6 s7 (.fz (.lst (rDs R))) (.fz (lstI m)) (.fz (lstI r.1)) (.fz (.int r.2)), rfl, ?_⟩
          refine wp_lc ?_
          simp [MdE, lstI]
          refine ⟨MfI (MdE h A d M s5 s6 s7 (.fz (.lst (rDs R))) (.fz (lstI m)) (.fz (lstI r.1)) (.fz (.int r.2))) r.1 m, ⟨rfl, rfl⟩, ?_, ?_⟩
          · rintro y dy e acc x hx rfl ⟨rfl, rfl⟩
            have hym := (List.getElem?_eq_some_iff.mp hx).1
            simp [MdE, lstI]
            refine ⟨by omega, rfl, ?_⟩
            rw [take_at hx, List.map_append, List.map_take]
            rfl
          · rintro e acc ⟨rfl, rfl⟩
            have eu : (D.lst (m.map fun x => D.bl (decide (x ∈ r.1)))).un = D.lst (m.map fun x => D.bl (decide (x ∈ r.1))) := rfl
            simp only [List.length_map, List.take_length, eu, any_mem]
            cases hany : m.any fun x => decide (x ∈ r.1) with
            | true =>
              have hn0 : newR [r] m = [] := by unfold newR; simp [hany]
              simp
              refine ⟨rfl, ?_⟩
              rw [hta, hn0, List.append_nil]
            | false =>
              have hn1 : newR [r] m = [(r.1 ++ m, r.2 + 1)] := by
                unfold newR
                rw [List.filter_cons_of_pos (by rw [hany]; rfl)]
                rfl
              have hsum : r.1.length + m.length ≤ 1000000 := by omega
              simp [MdE, lstI, hsum]
              refine ⟨hnl, rfl, ?_⟩
              rw [hta, hn1]
              simp [rDs, rD, lstI]
        · rintro e acc ⟨rfl, rfl⟩
          rw [rDs_len, List.take_length]
          exact ⟨rfl, rfl⟩
      have hnl : (newR R m).length ≤ 64 := by
        unfold newR; rw [List.length_map]
        exact Nat.le_trans (List.length_filter_le _ _) hRl
      have hsz : (rDs R).length + (rDs (newR R m)).length ≤ 1000000 := by rw [rDs_len, rDs_len]; omega
      rcases hs8 with rfl | rfl
      all_goals
        simp [MdE]
        refine (key _ rfl).mono fun s e ⟨he, hs⟩ => ?_
        subst he hs
        simp [hsz, MdE]
        refine ⟨s5, s6, s7, _, _, rfl, .inl ?_⟩
        rw [hnx]
        simp [rDs]
    · rintro e ⟨s5, s6, s7, s8, s9, rfl, hs8⟩
      have hnd : ms.take M.length = ms := by rw [hMm, List.length_map, List.take_length]
      rw [hnd] at hs8
      have hRn : (reachR ms).length ≤ 64 := by have := (hR ms.length).1; rwa [List.take_length] at this
      have hne : (reachR ms).map (fun r => (r.2 : Int)) ≠ [] := by
        have := reach_all ms [] (List.nil_sublist _) .nil
        intro z
        rw [List.map_eq_nil_iff] at z
        rw [z] at this
        cases this
      obtain ⟨x, hx, hx1, hx2⟩ := maxL_ints hne
      have hx1' := List.mem_map.mp hx1
      rcases hs8 with rfl | rfl
      all_goals
        simp [MdE]
        refine wp_lc ?_
        simp
        refine ⟨MgI (MdE h A d M s5 s6 s7 (.fz (.lst (rDs (reachR ms)))) s9 .no .no) (reachR ms), ⟨rfl, rfl⟩, ?_, ?_⟩
        · rintro z dz e acc hz ⟨rfl, rfl⟩
          obtain ⟨r, hr, rfl⟩ : ∃ r, (reachR ms)[z]? = some r ∧ dz = rD r := by
            unfold rDs at hz
            rw [List.getElem?_map] at hz
            obtain ⟨r, e1, e2⟩ := Option.map_eq_some_iff.mp hz
            exact ⟨r, e1, e2.symm⟩
          have hzR := (List.getElem?_eq_some_iff.mp hr).1
          refine ⟨MdE h A d M s5 s6 s7 (.fz (.lst (rDs (reachR ms)))) s9 (.fz (lstI r.1)) (.fz (.int r.2)), rfl, ?_⟩
          simp [MdE]
          refine ⟨by omega, rfl, ?_⟩
          rw [take_at hr]
          simp
        · rintro e acc ⟨rfl, rfl⟩
          rw [rDs_len, List.take_length]
          have eu : ∀ xs : List D, (D.lst xs).un = D.lst xs := fun _ => rfl
          simp only [eu, hx]
          simp
          exact kq x _ (by obtain ⟨r, h1, h2⟩ := hx1'; exact ⟨r, h1, h2.symm⟩) fun r hr => hx2 _ (List.mem_map_of_mem hr)
end DV

set_option Elab.async false
set_option linter.all false
set_option autoImplicit false
set_option maxRecDepth 100000
set_option maxHeartbeats 4000000
namespace DV
open PySem L2
/-! K4: _law_r_unseen. -/
abbrev Pr := Int × Str
def prD (x : Pr) : D := .tup [.int x.1, .str x.2]
def prP (x : Pr) : PyData := .tuple [.int x.1, .str x.2]
theorem minD_mem : ∀ (xs : List PyData) (x : PyData), PySem.W.minD x xs ∈ x :: xs
  | [], x => List.mem_cons_self
  | q :: qs, x => by
    have hs : PySem.W.minD x (q :: qs) = PySem.W.minD (if PySem.W.dataLt q x then q else x) qs := rfl
    rw [hs]
    have := minD_mem qs (if PySem.W.dataLt q x then q else x)
    rcases List.mem_cons.mp this with h | h
    · rw [h]
      split
      · exact List.mem_cons_of_mem _ List.mem_cons_self
      · exact List.mem_cons_self
    · exact List.mem_cons_of_mem _ (List.mem_cons_of_mem _ h)
theorem toPys_pr : ∀ xs : List Pr, toPys (xs.map prD) = some (xs.map prP)
  | [] => rfl
  | x :: xs => by
    have h1 : toPy (prD x) = some (prP x) := rfl
    rw [List.map_cons, toPys, h1, toPys_pr xs]; rfl
theorem depth_pr : ∀ xs : List Pr, PyData.depthAll (xs.map prP) ≤ 64
  | [] => Nat.zero_le _
  | x :: xs => by
    have h1 : PyData.depth (prP x) = 1 := rfl
    have := depth_pr xs
    rw [List.map_cons, PyData.depthAll, h1]
    omega
theorem ord_pr (xs : List Pr) : ordOk (xs.map prP) = true := by
  unfold ordOk
  rw [Bool.and_eq_true, Bool.and_eq_true]
  refine ⟨⟨?_, ?_⟩, decide_eq_true (depth_pr xs)⟩
  · rw [List.all_eq_true]
    intro p hp
    rw [List.all_eq_true]
    intro q hq
    obtain ⟨x, _, rfl⟩ := List.mem_map.mp hp
    obtain ⟨y, _, rfl⟩ := List.mem_map.mp hq
    rfl
  · rw [List.all_eq_true]
    intro p hp
    obtain ⟨x, _, rfl⟩ := List.mem_map.mp hp
    rfl
theorem minL_pr {xs : List Pr} (h : xs ≠ []) : ∃ y : Pr, minL (.lst (xs.map prD)) = some (.tup [.int y.1, .str y.2]) := by
  obtain ⟨x, xs, rfl⟩ := List.exists_cons_of_ne_nil h
  have hm := minD_mem (xs.map prP) (prP x)
  rw [← List.map_cons] at hm
  obtain ⟨y, _, hy⟩ := List.mem_map.mp hm
  refine ⟨y, ?_⟩
  have ho := ord_pr (x :: xs)
  rw [List.map_cons] at ho
  unfold minL
  simp only [toPys_pr]
  rw [List.map_cons]
  simp only
  rw [if_pos ho, ← hy]
  rfl
theorem sl_1 {xs : List D} (h : xs ≠ []) : slD (.lst xs) (some 1) none = some (.lst (xs.drop 1)) := by
  obtain ⟨x, xs, rfl⟩ := List.exists_cons_of_ne_nil h
  have e1 : HT.sIx (x :: xs).length 0 (some 1) = 1 := by
    show (if (1 : Int) < 0 then ((1 : Int) + ((x :: xs).length : Int)).toNat else min (1 : Int).toNat (x :: xs).length) = 1
    rw [if_neg (by decide), List.length_cons]
    show min 1 (xs.length + 1) = 1
    omega
  have e2 : HT.sIx (x :: xs).length (x :: xs).length none = xs.length + 1 := rfl
  show some (D.lst (((x :: xs).drop (HT.sIx (x :: xs).length 0 (some 1))).take (HT.sIx (x :: xs).length (x :: xs).length none - HT.sIx (x :: xs).length 0 (some 1)))) = _
  rw [e1, e2]
  simp
def aftsL (W : Int) (L : List Int) : List Int := L.drop 1 ++ [L.getD 0 0 + W]
theorem afts_at {W : Int} {L : List Int} {k : Nat} (h : k < L.length) : (aftsL W L)[k]? = some (aftL W L k) := by
  unfold aftsL aftL
  by_cases c : k + 1 < L.length
  · rw [if_pos c, List.getElem?_append_left (by rw [List.length_drop]; omega), List.getElem?_drop, Nat.add_comm, List.getElem?_eq_getElem c, List.getD_eq_getElem?_getD, List.getElem?_eq_getElem c]; rfl
  · rw [if_neg c, List.getElem?_append_right (by rw [List.length_drop]; omega), List.length_drop, show k - (L.length - 1) = 0 by omega]; rfl
theorem zipD_at {a b : List D} {k : Nat} {d : D} (h : (zipD a b)[k]? = some d) : ∃ x y, a[k]? = some x ∧ b[k]? = some y ∧ d = .tup [x, y] := by
  unfold zipD at h
  rw [List.getElem?_zipWith] at h
  cases q : a[k]? with
  | none => rw [q] at h; cases h
  | some x =>
    cases q' : b[k]? with
    | none => rw [q, q'] at h; cases h
    | some y => rw [q, q'] at h; cases h; exact ⟨x, y, rfl, rfl, rfl⟩
def prs (F : List Pr) : List D := F.map prD
theorem prs_snoc (F : List Pr) (x : Pr) : prs F ++ [.tup [.int x.1, .str x.2]] = prs (F ++ [x]) := by unfold prs; rw [List.map_append]; rfl
theorem prs_len (F : List Pr) : (prs F).length = F.length := by unfold prs; rw [List.length_map]
def UnE (h : Int) (A : List Arc) (d : Nat) (L : List Int) (F : List Pr) (s6 s7 s8 s9 s10 s11 s12 : S) : Env := [.fz (.int h), .fz (.dct (arcsD A)), .fz (.int d), .fz (.lst (L.map .int)), .own none (.l (prs F)), .fz (.int (d * h)), s6, s7, s8, s9, s10, s11, s12]
def ClrI (h W : Int) (A : List Arc) (L : List Int) (i j : Nat) : Prop := (∀ i', i' < i → ∀ a ∈ A, aftL W L i' ≤ endOf h (L.getD i' 0) a) ∧ ∀ a ∈ A.take j, aftL W L i ≤ endOf h (L.getD i 0) a
def UoI (h : Int) (A : List Arc) (d : Nat) (L : List Int) (i : Nat) (e : Env) : Prop := ∃ (F : List Pr) (s6 s7 s8 s9 s10 s11 s12 : S), e = UnE h A d L F s6 s7 s8 s9 s10 s11 s12 ∧ F.length ≤ i * A.length ∧ (F = [] ↔ ClrI h (d * h) (sortA A) L i 0)
def UiI (h : Int) (A : List Arc) (d : Nat) (L : List Int) (i j : Nat) (e : Env) : Prop := ∃ (F : List Pr) (s8 s9 s10 s11 s12 : S), e = UnE h A d L F (.fz (.int (L.getD i 0))) (.fz (.int (aftL (d * h) L i))) s8 s9 s10 s11 s12 ∧ F.length ≤ i * A.length + j ∧ (F = [] ↔ ClrI h (d * h) (sortA A) L i j)
theorem gap_iff {h p q s l : Int} (h1 : 1 ≤ h) : ((p - s) / h + 1 ≤ (q - l - s) / h) ↔ ((p - s) / h + 1) * h + s + l - 1 < q := by
  constructor
  · intro c
    have := Int.mul_le_mul_of_nonneg_right c (show 0 ≤ h by omega)
    have q1 := Int.emod_add_mul_ediv (q - l - s) h
    have q2 := Int.emod_nonneg (q - l - s) (show h ≠ 0 by omega)
    rw [Int.mul_comm h] at q1
    omega
  · intro c
    rw [Int.le_ediv_iff_mul_le (by omega)]
    omega
theorem sees_iff {h W : Int} {A : List Arc} {L : List Int} (hn : (A.map (·.1)).Nodup) (h0 : A ≠ []) (hL : L ≠ []) : ClrI h W (sortA A) L L.length 0 ↔ SeesL h W A L := by
  unfold ClrI SeesL
  simp only [List.take_zero, List.not_mem_nil, false_implies, implies_true, and_true]
  constructor
  · intro c
    refine ⟨hL, fun i hi => ?_⟩
    obtain ⟨hm, _⟩ := nxt_is (h := h) (p := L.getD i 0) h0
    obtain ⟨a, ha, e⟩ := List.mem_map.mp hm
    rw [← e]
    exact c i hi a (sortA_has hn ha)
  · rintro ⟨_, c⟩ i hi a ha
    have := (nxt_is (h := h) (p := L.getD i 0) h0).2 _ (List.mem_map_of_mem (sortA_mem ha))
    have := c i hi
    omega
@[simp] theorem tru_d {kds : List (Key × D)} : truV (.dct kds) = some (!kds.isEmpty) := rfl
theorem unseen_den {h : Int} {A : List Arc} {d : Nat} {L : List Int} (ok : ArcsOk h A) (h1 : 1 ≤ h) (h6 : h ≤ 6) (hl : A.length ≤ 3) (hd1 : 1 ≤ d) (hd2 : d ≤ 2) (hL : L.length ≤ 100) {Q : S → Env → Prop}
    (kq : ∀ (v : D) (o : Env), (v = .non ∨ ∃ ds, v = .tup ds) → (v = .non ↔ A = [] ∨ SeesL h (d * h) A L) → Q (.fz v) o) : wpR (m_f__law_r_unseen [.fz (.int h), .fz (.dct (arcsD A)), .fz (.int d), .fz (.lst (L.map .int))]) Q := by
  have hl64 : A.length < 64 := by omega
  have hdb : (-18446744073709551616 < (d : Int) ∧ (d : Int) < 18446744073709551616) := ⟨by omega, by omega⟩
  have hd0 : 0 < d := hd1
  have hdq : (0 : Int) < d ∧ (d : Int) < 4611686018427387904 := ⟨by omega, by omega⟩
  have hhq : 0 < h ∧ h < 4611686018427387904 := ⟨by omega, by omega⟩
  simp [m_f__law_r_unseen, b_f__law_r_unseen, hdb]
  by_cases hL0 : L = []
  · subst hL0
    by_cases hA : A = []
    · subst hA
      simp [arcsD]
      exact kq _ _ (.inl rfl) ⟨fun _ => .inl rfl, fun _ => rfl⟩
    · have he : (arcsD A).isEmpty = false := by
        cases A with
        | nil => exact absurd rfl hA
        | cons a A => rfl
      have hs : ∃ x, atI ((sortS (A.map (·.1))).map D.str) 0 = some (.str x) := by
        have hp : 0 < (sortS (A.map (·.1))).length := by rw [names_len', sortA_len]; exact List.length_pos_iff.mpr hA
        refine ⟨(sortS (A.map (·.1)))[0], ?_⟩
        unfold atI ixN
        rw [if_pos (by decide), if_pos (by rw [List.length_map]; omega)]
        show ((sortS (A.map (·.1))).map D.str)[0]? = _
        rw [List.getElem?_map, List.getElem?_eq_getElem hp]; rfl
      obtain ⟨x, hx⟩ := hs
      simp [he, sorted_d2 hl64, hx]
      exact kq _ _ (.inr ⟨_, rfl⟩) ⟨(fun z => by cases z), (fun z => z.elim (fun z => absurd z hA) (fun z => absurd rfl z.1))⟩
  · have he : (L.map D.int).isEmpty = false := by
      cases L with
      | nil => exact absurd rfl hL0
      | cons a A => rfl
    have hx0 : atI (L.map D.int) 0 = some (.int (L.getD 0 0)) := by
      obtain ⟨x, L, rfl⟩ := List.exists_cons_of_ne_nil hL0
      unfold atI ixN
      rw [if_pos (by decide), if_pos (by rw [List.length_map, List.length_cons]; omega)]
      rfl
    have hsl : slD (.lst (L.map D.int)) (some 1) none = some (.lst ((L.drop 1).map .int)) := by rw [sl_1 (by simpa using hL0), List.map_drop]
    have hsz : (L.drop 1).length + 1 ≤ 1000000 := by rw [List.length_drop]; omega
    have hLe : L.isEmpty = false := by
      cases L with
      | nil => exact absurd rfl hL0
      | cons a A => rfl
    rw [hLe]
    have hsl' : slD (.lst (L.map D.int)) (some 1) none = some (.lst ((L.drop 1).map .int)) := hsl
    have hsz' : L.length ≤ 1000000 := by omega
    have eaf : (L.map D.int).tail ++ [D.int (L[0]?.getD 0 + d * h)] = (aftsL (d * h) L).map .int := by unfold aftsL; simp
    have hzl : (zipD (L.map D.int) ((aftsL (d * h) L).map .int)).length = L.length := by
      unfold zipD aftsL
      rw [List.length_zipWith, List.length_map, List.length_map, List.length_append, List.length_drop, List.length_singleton]
      have := List.length_pos_iff.mpr hL0
      omega
    simp [hx0, hsl', hsz', eaf]
    refine wp_for (UoI h A d L) ⟨[], _, _, _, _, _, _, _, rfl, by simp, ⟨fun _ => ⟨fun i' hi => by omega, fun a ha => by simp at ha⟩, fun _ => rfl⟩⟩ ?_ ?_
    · rintro i x e hk ⟨F, s6, s7, s8, s9, s10, s11, s12, rfl, hF, hFi⟩
      obtain ⟨u, v, hu, hv, rfl⟩ := zipD_at hk
      have hi : i < L.length := by have := (List.getElem?_eq_some_iff.mp hu).1; simpa using this
      have eu : u = .int (L.getD i 0) := by
        rw [List.getElem?_map, List.getElem?_eq_getElem hi] at hu
        rw [List.getD_eq_getElem?_getD, List.getElem?_eq_getElem hi]
        exact (Option.some.inj hu).symm
      have ev : v = .int (aftL (d * h) L i) := by
        rw [List.getElem?_map, afts_at hi] at hv
        exact (Option.some.inj hv).symm
      subst eu ev
      refine ⟨UnE h A d L F (.fz (.int (L.getD i 0))) (.fz (.int (aftL (d * h) L i))) s8 s9 s10 s11 s12, rfl, ?_⟩
      simp only [wev_for, wpR_bind]
      simp [UnE, sorted_d2 hl64, -List.getD_eq_getElem?_getD]
      generalize hp : L.getD i 0 = p at *
      generalize hq : aftL (d * h) L i = q at *
      refine wp_for (UiI h A d L i) ⟨F, s8, s9, s10, s11, s12, by rw [hp, hq]; rfl, by omega, hFi⟩ ?_ ?_
      · rintro j y e hj ⟨F, s8, s9, s10, s11, s12, rfl, hF, hFi⟩
        obtain ⟨a, ha, hm, rfl, hjl⟩ := names_at hj
        have hlk := lookD_arcs ok.nd hm
        refine ⟨_, rfl, ?_⟩
        have hjl3 : j < 3 := by rw [sortA_len] at hjl; omega
        have hFl : F.length < 1000000 := by
          have : i * A.length ≤ 100 * 3 := Nat.mul_le_mul (by omega) hl
          omega
        have hstep : ClrI h (d * h) (sortA A) L i (j + 1) ↔ ClrI h (d * h) (sortA A) L i j ∧ q ≤ endOf h p a := by
          unfold ClrI
          rw [take_at ha, hp, hq]
          constructor
          · rintro ⟨c1, c2⟩
            exact ⟨⟨c1, fun b hb => c2 b (List.mem_append_left _ hb)⟩, c2 a (by simp)⟩
          · rintro ⟨⟨c1, c2⟩, c3⟩
            refine ⟨c1, fun b hb => ?_⟩
            rcases List.mem_append.mp hb with z | z
            · exact c2 b z
            · rw [List.mem_singleton.mp z]; exact c3
        have hgap := gap_iff (h := h) (p := p) (q := q) (s := a.2.1) (l := a.2.2) h1
        rw [hp, hq]
        by_cases c : (p - a.2.1) / h + 1 ≤ (q - a.2.2 - a.2.1) / h
        · have hno : ¬ q ≤ endOf h p a := by have := hgap.mp c; unfold endOf; omega
          have fin : ∀ (x : Pr) (s9 s10 s11 s12 : S), UiI h A d L i (j + 1) (UnE h A d L (F ++ [x]) (.fz (.int p)) (.fz (.int q)) (.fz (.str a.1)) s9 s10 s11 s12) := fun x s9 s10 s11 s12 =>
            ⟨F ++ [x], _, _, _, _, _, by rw [hp, hq], by rw [List.length_append, List.length_singleton]; omega, ⟨fun z => by simp at z, fun z => absurd (hstep.mp z).2 hno⟩⟩
          by_cases c2 : (p - a.2.1) / h + 1 < (d : Int) ∧ (d : Int) ≤ (q - a.2.2 - a.2.1) / h
          · have := fin (0, a.1) (.fz (.int a.2.1)) (.fz (.int a.2.2)) (.fz (.int ((p - a.2.1) / h + 1))) (.fz (.int ((q - a.2.2 - a.2.1) / h)))
            unfold UnE at this
            rw [← prs_snoc] at this
            simp [UnE, hlk, hhq, c, c2, prs_len, hFl]
            exact this
          · have := fin (((p - a.2.1) / h + 1) % d, a.1) (.fz (.int a.2.1)) (.fz (.int a.2.2)) (.fz (.int ((p - a.2.1) / h + 1))) (.fz (.int ((q - a.2.2 - a.2.1) / h)))
            unfold UnE at this
            rw [← prs_snoc] at this
            by_cases c3 : (p - a.2.1) / h + 1 < (d : Int)
            · have c4 : ¬ (d : Int) ≤ (q - a.2.2 - a.2.1) / h := fun z => c2 ⟨c3, z⟩
              simp [UnE, hlk, hhq, c, c3, c4, hdq, hd0, prs_len, hFl]
              exact this
            · simp [UnE, hlk, hhq, c, c3, hdq, hd0, prs_len, hFl]
              exact this
        · have hyes : q ≤ endOf h p a := by
            have := mt hgap.mpr c
            unfold endOf; omega
          simp [UnE, hlk, hhq, c]
          exact ⟨F, _, _, _, _, _, by rw [hp, hq]; rfl, by omega, by rw [hFi, hstep]; exact ⟨fun z => ⟨z, hyes⟩, fun z => z.1⟩⟩
      · rintro e ⟨F, s8, s9, s10, s11, s12, rfl, hF, hFi⟩
        refine ⟨F, _, _, _, _, _, _, _, rfl, ?_, ?_⟩
        · rw [names_len, sortA_len] at hF
          rw [Nat.succ_mul]; exact hF
        · rw [hFi, names_len]
          unfold ClrI
          rw [List.take_length]
          constructor
          · rintro ⟨c1, c2⟩
            refine ⟨fun i' hi' a ha => ?_, fun a ha => by simp at ha⟩
            by_cases e : i' = i
            · subst e; exact c2 a ha
            · exact c1 i' (by omega) a ha
          · rintro ⟨c1, _⟩
            exact ⟨fun i' hi' a ha => c1 i' (by omega) a ha, fun a ha => c1 i (by omega) a ha⟩
    · rintro e ⟨F, s6, s7, s8, s9, s10, s11, s12, rfl, hF, hFi⟩
      rw [hzl] at hFi
      have hv : F = [] ↔ A = [] ∨ SeesL h (d * h) A L := by
        by_cases hA : A = []
        · have hs : sortA A = [] := by rw [List.eq_nil_iff_length_eq_zero, sortA_len, hA]; rfl
          rw [hFi]
          unfold ClrI
          rw [hs]
          exact ⟨(fun _ => .inl hA), (fun _ => ⟨(fun i2 _ a ha => by cases ha), (fun a ha => by simp at ha)⟩)⟩
        · rw [hFi, sees_iff ok.nd hA hL0]
          exact ⟨.inr, fun z => z.resolve_left hA⟩
      by_cases hF0 : F = []
      · subst hF0
        simp [UnE, prs]
        exact kq _ _ (.inl rfl) ⟨fun _ => hv.mp rfl, fun _ => rfl⟩
      · have hpe : (prs F).isEmpty = false := by
          cases F with
          | nil => exact absurd rfl hF0
          | cons a A => rfl
        obtain ⟨y, hy⟩ := minL_pr hF0
        have hy' : minL (.lst (prs F)) = some (.tup [.int y.1, .str y.2]) := hy
        simp [UnE, hpe, hy', atI, ixN]
        exact kq _ _ (.inr ⟨_, rfl⟩) ⟨(fun z => by cases z), fun z => absurd (hv.mpr z) hF0⟩
end DV

set_option Elab.async false
set_option linter.all false
set_option autoImplicit false
set_option maxRecDepth 100000
set_option maxHeartbeats 4000000
namespace DV
open PySem L2
/-! K5: _law_r_looks. -/
theorem asc_len0 : ∀ W < 11, ∀ n < 11, (ascL ((W : Nat) : Int) n).length ≤ 252 := by decide +kernel
theorem asc_len {W : Int} (h0 : 0 ≤ W) (h1 : W ≤ 10) {n : Nat} (hn : n ≤ 10) : (ascL W n).length ≤ 252 := by
  have := asc_len0 W.toNat (by omega) n (by omega)
  rwa [Int.toNat_of_nonneg h0] at this
def lls (Ls : List (List Int)) : List D := Ls.map lstI
theorem lls_len (Ls : List (List Int)) : (lls Ls).length = Ls.length := by unfold lls; rw [List.length_map]
theorem lls_app (a b : List (List Int)) : lls (a ++ b) = lls a ++ lls b := by unfold lls; rw [List.map_append]
theorem lls_at {Ls : List (List Int)} {k : Nat} {d : D} (h : (lls Ls)[k]? = some d) : ∃ L, Ls[k]? = some L ∧ d = .lst (L.map .int) ∧ k < Ls.length := by
  unfold lls at h
  rw [List.getElem?_map] at h
  obtain ⟨L, e1, e2⟩ := Option.map_eq_some_iff.mp h
  exact ⟨L, e1, e2.symm, (List.getElem?_eq_some_iff.mp e1).1⟩
theorem last_at {L : List Int} (h : L ≠ []) : atI (L.map D.int) (-1) = some (.int (lowL L - 1)) := by
  obtain ⟨M, y, rfl⟩ : ∃ M y, L = M ++ [y] := ⟨L.dropLast, L.getLast h, (List.dropLast_concat_getLast h).symm⟩
  rw [low_snoc]
  unfold atI ixN
  rw [if_neg (by decide), if_pos (by rw [List.length_map, List.length_append, List.length_singleton]; omega)]
  have e : ((-1 : Int) + ((M ++ [y]).map D.int).length).toNat = M.length := by rw [List.length_map, List.length_append, List.length_singleton]; omega
  show ((M ++ [y]).map D.int)[((-1 : Int) + ((M ++ [y]).map D.int).length).toNat]? = _
  rw [e, List.getElem?_map, List.getElem?_append_right (Nat.le_refl _), Nat.sub_self]
  simp
theorem range2_ok {a b : Int} (h1 : -4000000 ≤ a ∧ a < 4000000) (h2 : -4000000 ≤ b ∧ b < 4000000) : range2D [.int a, .int b] = some (rangeD a (b - a).toNat) := by
  have e1 := i62_ok h1
  have e2 := i62_ok h2
  unfold range2D
  simp [e1, e2]
def LoE (h : Int) (A : List Arc) (d : Nat) (s4 s5 s6 s7 s8 : S) : Env := [.fz (.int h), .fz (.dct (arcsD A)), .fz (.int d), .fz (.int (d * h)), s4, s5, s6, s7, s8, .no]
def isL (s : S) (ds : List D) : Prop := s = .fz (.lst ds) ∨ s = .own none (.l ds)
def LmI (h : Int) (A : List Arc) (d M k : Nat) (e : Env) : Prop := k ≤ M ∧ ∃ s4 s5 s6 s7 s8 : S, e = LoE h A d s4 s5 s6 s7 s8 ∧ isL s4 (lls (ascL (d * h) k))
def LsI (h : Int) (A : List Arc) (d k j : Nat) (e : Env) : Prop := (∀ i, i < j → ∀ L, (ascL (d * h) k)[i]? = some L → ¬ (A = [] ∨ SeesL h (d * h) A L)) ∧ ∃ s6 s7 s8 : S, e = LoE h A d (.fz (.lst (lls (ascL (d * h) k)))) (.fz (.int k)) s6 s7 s8
def LgI (h : Int) (A : List Arc) (d k j : Nat) (e : Env) : Prop := ∃ s6 s7 s8 : S, e = LoE h A d (.fz (.lst (lls (ascL (d * h) k)))) (.fz (.int k)) s6 s7 s8 ∧ isL s7 (lls (((ascL (d * h) k).take j).flatMap (growL (d * h))))
def LeI (e0 : Env) (L : List Int) (k : Nat) (e : Env) (acc : List D) : Prop := e = e0 ∧ acc = lls ((List.range k).map fun i : Nat => L ++ [lowL L + (i : Int)])
theorem fm_take {α β : Type} (f : α → List β) (xs : List α) (j : Nat) : ((xs.take j).flatMap f).length ≤ (xs.flatMap f).length := by
  have e : xs.flatMap f = (xs.take j).flatMap f ++ (xs.drop j).flatMap f := by rw [← List.flatMap_append, List.take_append_drop]
  rw [e, List.length_append]; omega
theorem for_isL {h : Int} {A : List Arc} {d : Nat} {s4 s5 s6 s7 s8 : S} {ds : List D} (hs : isL s4 ds) {gt : D → Env → Option Env} {fb : Env → Res Fl} {Q : Fl → Env → Prop} :
    wpR (sFor (lItems (dV 4)) gt fb (LoE h A d s4 s5 s6 s7 s8)) Q = wpR (foD gt fb ds (LoE h A d (.fz (.lst ds)) s5 s6 s7 s8)) Q := by
  rcases hs with rfl | rfl <;> simp [LoE]
theorem looks_den {h : Int} {A : List Arc} {d M : Nat} (ok : ArcsOk h A) (h1 : 1 ≤ h) (h6 : h ≤ 6) (hl : A.length ≤ 3) (hd1 : 1 ≤ d) (hd2 : d ≤ 2) (hW : (d : Int) * h ≤ 10) (hM0 : (M : Int) ≤ d * h)
    (hM1 : ∀ n, n < M → ∀ L ∈ ascL (d * h) n, ¬ (A = [] ∨ SeesL h (d * h) A L)) (hM2 : ∃ L ∈ ascL (d * h) M, A = [] ∨ SeesL h (d * h) A L) {Q : S → Env → Prop} (kq : ∀ o, Q (.fz (.int M)) o) : wpR (m_f__law_r_looks [.fz (.int h), .fz (.dct (arcsD A)), .fz (.int d)]) Q := by
  have hdb : (-18446744073709551616 < (d : Int) ∧ (d : Int) < 18446744073709551616) := ⟨by omega, by omega⟩
  have hW1 : (1 : Int) ≤ d * h := by
    have : d = 1 ∨ d = 2 := by omega
    rcases this with rfl | rfl <;> omega
  have hi : i62 (d * h + 1) = true := i62_ok ⟨by omega, by omega⟩
  have ah : ∀ {n : Nat} {L : List Int}, L ∈ ascL (d * h) n → n ≤ 10 → L.length ≤ 10 ∧ 0 ≤ lowL L ∧ lowL L ≤ 11 := fun {n L} hL hn => by
    obtain ⟨e, p, b⟩ := mem_asc.mp hL
    refine ⟨by omega, ?_⟩
    by_cases z : L = []
    · subst z; exact ⟨by decide, by decide⟩
    · obtain ⟨N, y, rfl⟩ : ∃ N y, L = N ++ [y] := ⟨L.dropLast, L.getLast z, (List.dropLast_concat_getLast z).symm⟩
      rw [low_snoc]
      have := b y (by simp)
      omega
  simp [m_f__law_r_looks, b_f__law_r_looks, hdb, hi]
  refine wp_for (LmI h A d M) ⟨Nat.zero_le _, _, _, _, _, _, rfl, .inr rfl⟩ ?_ ?_
  · rintro k x e hk ⟨hkM, s4, s5, s6, s7, s8, rfl, hs4⟩
    obtain ⟨rfl, hk1⟩ := rangeD_at0 hk
    refine ⟨_, rfl, ?_⟩
    have hl4 := asc_len (W := d * h) (by omega) hW (n := k) (by omega)
    rw [wp_seq]
    show wpR (sFor (lItems (dV 4)) (gtN 6) _ (LoE h A d s4 (.fz (.int k)) s6 s7 s8)) _
    rw [for_isL hs4]
    refine wp_for (LsI h A d k) ⟨fun i hi => by omega, s6, s7, s8, rfl⟩ ?_ ?_
    · rintro j y e hj ⟨hno, s6, s7, s8, rfl⟩
      obtain ⟨L, hL, rfl, hjl⟩ := lls_at hj
      have hLm := List.mem_of_getElem? hL
      obtain ⟨hLl, _, _⟩ := ah hLm (by omega)
      refine ⟨_, rfl, ?_⟩
      simp [LoE]
      refine wp_callF (ds := [.int h, .dct (arcsD A), .int d, .lst (L.map .int)]) rfl rfl (unseen_den ok h1 h6 hl hd1 hd2 (by omega) fun v o hv hvi => ⟨trivial, ?_⟩)
      rcases hv with rfl | ⟨ds, rfl⟩
      · have hs := hvi.mp rfl
        have : k = M := by
          by_cases c : k < M
          · exact absurd hs (hM1 k c L hLm)
          · omega
        subst this
        simp
        exact kq _
      · have hs : ¬ (A = [] ∨ SeesL h (d * h) A L) := fun z => by cases hvi.mpr z
        simp
        refine ⟨fun i hi L' hL' => ?_, _, _, _, rfl⟩
        by_cases e : i = j
        · subst e
          rw [hL] at hL'; cases hL'
          exact hs
        · exact hno i (by omega) L' hL'
    · rintro e ⟨hno, s6, s7, s8, rfl⟩
      have hkM' : k < M := by
        by_cases c : k < M
        · exact c
        · have : k = M := by omega
          subst this
          obtain ⟨L, hL, hs⟩ := hM2
          obtain ⟨i, hi, e⟩ := List.getElem_of_mem hL
          exact absurd hs (hno i (by rw [lls_len]; exact hi) L (by rw [List.getElem?_eq_getElem hi, e]))
      have hl5 := asc_len (W := d * h) (by omega) hW (n := k + 1) (by omega)
      simp [LoE]
      refine wp_for (LgI h A d k) ⟨_, _, _, rfl, .inr rfl⟩ ?_ ?_
      · rintro j y e hj ⟨s6, s7, s8, rfl, hs7⟩
        obtain ⟨L, hL, rfl, hjl⟩ := lls_at hj
        have hLm := List.mem_of_getElem? hL
        obtain ⟨hLl, l0, l1⟩ := ah hLm (by omega)
        refine ⟨_, rfl, ?_⟩
        have hsum : (((ascL (d * h) k).take j).flatMap (growL (d * h))).length + (growL (d * h) L).length ≤ 252 := by
          refine Nat.le_trans ?_ hl5
          show _ ≤ ((ascL (d * h) k).flatMap (growL (d * h))).length
          rw [← List.length_append, show (growL (d * h) L) = [L].flatMap (growL (d * h)) by simp, ← List.flatMap_append, ← take_at hL]
          exact fm_take _ _ _
        have hr2 := range2_ok (a := lowL L) (b := d * h) ⟨by omega, by omega⟩ ⟨by omega, by omega⟩
        have hlow : wpR (dIf (bTs 6) (d2 addD (d2s ixD 6 (d1 negD (dC (D.int 1)))) (dC (D.int 1))) (dC (D.int 0)) (LoE h A d (.fz (.lst (lls (ascL (d * h) k)))) (.fz (.int k)) (.fz (.lst (L.map .int))) s7 s8)) fun v e => v = .int (lowL L) ∧ e = LoE h A d (.fz (.lst (lls (ascL (d * h) k)))) (.fz (.int k)) (.fz (.lst (L.map .int))) s7 s8 := by
          by_cases hL0 : L = []
          · subst hL0
            simp [LoE]
            rfl
          · have hLe : (L.map D.int).isEmpty = false := by
              cases L with
              | nil => exact absurd rfl hL0
              | cons a A => rfl
            simp [LoE, last_at hL0]
            exact fun z => absurd z hL0
        rw [wp_seq]
        simp only [wev_set, wpR_bind, wev_oF]
        refine hlow.mono fun v e ⟨hv, he⟩ => ?_
        subst hv he
        have hgl : (lls (((ascL (d * h) k).take j).flatMap (growL (d * h)))).length + (lls ((List.range (d * h - lowL L).toNat).map fun i : Nat => L ++ [lowL L + (i : Int)])).length ≤ 1000000 := by rw [lls_len, lls_len]; exact Nat.le_trans hsum (by decide)
        have hfin : lls (((ascL (d * h) k).take j).flatMap (growL (d * h))) ++ lls ((List.range (d * h - lowL L).toNat).map fun i : Nat => L ++ [lowL L + (i : Int)]) = lls (((ascL (d * h) k).take (j + 1)).flatMap (growL (d * h))) := by
          rw [← lls_app, take_at hL, List.flatMap_append]
          simp [growL]
        rcases hs7 with rfl | rfl
        all_goals
          simp [LoE]
          refine wp_lc ?_
          simp [hr2]
          refine ⟨LeI (LoE h A d (.fz (.lst (lls (ascL (d * h) k)))) (.fz (.int k)) (.fz (.lst (L.map .int))) (.fz (.lst (lls (((ascL (d * h) k).take j).flatMap (growL (d * h)))))) (.fz (.int (lowL L)))) L, ⟨rfl, rfl⟩, ?_, ?_⟩
          · rintro z dz e acc hz ⟨rfl, rfl⟩
            obtain ⟨rfl, hzl⟩ := rangeD_at hz
            have hll : L.length ≤ 999999 := by omega
            simp [LoE, hll]
            refine ⟨by rw [lls_len, List.length_map, List.length_range]; omega, rfl, ?_⟩
            rw [List.range_succ, List.map_append, lls_app]
            simp [lls, lstI]
          · rintro e acc ⟨rfl, rfl⟩
            rw [rangeD_len]
            rw [if_pos hgl, hfin]
            simp [LoE]
            exact ⟨_, _, _, rfl, .inl rfl⟩
      · rintro e ⟨s6, s7, s8, rfl, hs7⟩
        have eT : ((ascL (d * h) k).take (lls (ascL (d * h) k)).length).flatMap (growL (d * h)) = ascL (d * h) (k + 1) := by
          rw [lls_len, List.take_length]; rfl
        rw [eT] at hs7
        rcases hs7 with rfl | rfl
        · simp [LoE]
          exact ⟨hkM', _, _, _, _, _, rfl, .inl rfl⟩
        · simp [LoE]
          exact ⟨hkM', _, _, _, _, _, rfl, .inr rfl⟩
  · rintro e ⟨hkM, _⟩
    exfalso
    rw [rangeD_len] at hkM
    omega
end DV

set_option Elab.async false
set_option linter.all false
set_option autoImplicit false
set_option maxRecDepth 100000
set_option maxHeartbeats 4000000
namespace DV
open PySem L2
/-! K6: the counts in plain numbers. -/
theorem ceil_le {x t m : Nat} (ht : 0 < t) : (x + t - 1) / t ≤ m ↔ x ≤ m * t := by
  rw [Nat.div_le_iff_le_mul_add_pred ht, Nat.mul_comm t m]
  omega
theorem lt_ceil {x t m : Nat} (ht : 0 < t) : m < (x + t - 1) / t ↔ m * t < x := by
  have := ceil_le (x := x) (m := m) ht
  omega
theorem num_hours {h : Int} {A : List Arc} {s t : Nat} (N : NumOf h A s t) (h2 : h ≤ 1000) (ok : WkOk h A) : (s : Int) ≤ t * h := by
  have h1 := ok.h1
  by_cases h0 : A = []
  · rcases N.e with ⟨_, hs, ht⟩ | ⟨z, _⟩
    · subst hs ht; omega
    · exact absurd h0 z
  · obtain ⟨i, S, D, g, hS, hD, hg, eS, eD, e⟩ := num_turn N h2 ok h0
    have := (wk_bnd h1 h0 ok.le i S).1
    rw [e] at this
    have h3 : (S : Int) ≤ h * D := by omega
    rw [eS, eD] at h3
    have h4 : (s : Int) * g ≤ (t * h) * g := by
      have e1 : ((s * g : Nat) : Int) = (s : Int) * g := by simp
      have e2 : h * ((t * g : Nat) : Int) = (t * h) * g := by rw [Int.natCast_mul, ← Int.mul_assoc, Int.mul_comm h t]
      rw [e1, e2] at h3; exact h3
    exact Int.le_of_mul_le_mul_right h4 (by omega)
theorem few_plain {h : Int} {A : List Arc} {s t d : Nat} (N : NumOf h A s t) (h2 : h ≤ 1000) (ok : WkOk h A) (ht : 0 < t) (hd : 1 ≤ d) :
    (((d * s + t - 1) / t : Nat) : Int) ≤ d * h ∧ (∀ n, n < (d * s + t - 1) / t → ∀ L ∈ ascL (d * h) n, ¬ (A = [] ∨ SeesL h (d * h) A L)) ∧ ∃ L ∈ ascL (d * h) ((d * s + t - 1) / t), A = [] ∨ SeesL h (d * h) A L := by
  have h1 := ok.h1
  have hb := num_hours N h2 ok
  have hW : 0 ≤ (d : Int) * h := Int.mul_nonneg (by omega) (by omega)
  refine ⟨?_, ?_⟩
  · obtain ⟨w, hw⟩ := Int.eq_ofNat_of_zero_le hW
    rw [hw]
    have : (d * s + t - 1) / t ≤ w := by
      rw [ceil_le ht]
      have h3 : (d : Int) * s ≤ d * (t * h) := Int.mul_le_mul_of_nonneg_left hb (by omega)
      have e : (d : Int) * (t * h) = w * t := by rw [← Int.mul_assoc, Int.mul_comm (d : Int) t, Int.mul_assoc, hw, Int.mul_comm]
      rw [e] at h3
      have : ((d * s : Nat) : Int) ≤ ((w * t : Nat) : Int) := by simpa using h3
      omega
    omega
  · by_cases h0 : A = []
    · rcases N.e with ⟨_, hs, ht'⟩ | ⟨z, _⟩
      · subst hs ht'
        have e : (d * 0 + 1 - 1) / 1 = 0 := by simp
        rw [e]
        exact ⟨fun n hn => by omega, [], by rw [mem_asc]; exact ⟨rfl, .nil, fun x z => by cases z⟩, .inl h0⟩
      · exact absurd h0 z
    · have hs1 : 0 < s := by
        obtain ⟨i, S, D, g, hS, hD, hg, eS, eD, e⟩ := num_turn N h2 ok h0
        rcases Nat.eq_zero_or_pos s with z | z
        · rw [z] at eS; omega
        · exact z
      refine ⟨fun n hn L hL z => ?_, ?_⟩
      · have z := z.resolve_left h0
        have := sees_ge h2 ok h0 N z
        rw [lt_ceil ht] at hn
        rw [(mem_asc.mp hL).1, Nat.mul_comm s d] at this
        omega
      · obtain ⟨L, hL, hs⟩ := sees_ex h2 ok h0 N hd (n := (d * s + t - 1) / t) (by
          rcases Nat.eq_zero_or_pos ((d * s + t - 1) / t) with z | z
          · have := (ceil_le (x := d * s) (m := 0) ht).mp (by omega)
            have := Nat.mul_pos (show 0 < d by omega) hs1
            omega
          · exact z) (by have := (ceil_le (x := d * s) (m := (d * s + t - 1) / t) ht).mp (Nat.le_refl _); rw [Nat.mul_comm s d]; exact this) (fun k hk => by rw [lt_ceil ht] at hk; rw [Nat.mul_comm s d]; exact hk)
        exact ⟨L, hL, .inr hs⟩
theorem most_plain {h : Int} {A : List Arc} {s t d : Nat} (N : NumOf h A s t) (h2 : h ≤ 1000) (ok : WkOk h A) (hn : (A.map (·.1)).Nodup) (ht : 0 < t) (hd : 1 ≤ d) {m : Int} (e1 : ∃ r ∈ reachR ((cpsL (sortA A) d).map (mkS h d)), m = (r.2 : Int)) (e2 : ∀ r ∈ reachR ((cpsL (sortA A) d).map (mkS h d)), (r.2 : Int) ≤ m) : m = ((d * s / t : Nat) : Int) := by
  obtain ⟨r, hr, rfl⟩ := e1
  by_cases h0 : A = []
  · rcases N.e with ⟨_, hs, ht'⟩ | ⟨z, _⟩
    · subst hs ht'
      have hs : sortA A = [] := by rw [List.eq_nil_iff_length_eq_zero, sortA_len, h0]; rfl
      rw [hs] at hr
      have : r = ([], 0) := by simpa [cpsL, reachR] using hr
      subst this; simp
    · exact absurd h0 z
  · have pm := sortA_permA hn
    have h0' : sortA A ≠ [] := fun z => h0 (by rw [z] at pm; exact pm.symm.eq_nil)
    have okS : WkOk h (sortA A) := ok.sub fun a ha => sortA_mem ha
    have ndS : (sortA A).Nodup := (pm.nodup_iff).mpr (nd_of_names hn)
    obtain ⟨q1, r', hr', q2⟩ := most_is h2 okS ndS h0' (num_same (fun a => ⟨sortA_has hn, sortA_mem⟩) N) ht hd (mkS_ok h d)
    have a1 := q1 r hr
    have a2 := e2 r' hr'
    omega
theorem near {d s t : Nat} (ht : 0 < t) : d * s / t ≤ (d * s + t - 1) / t ∧ (d * s + t - 1) / t ≤ d * s / t + 1 := by
  constructor
  · exact Nat.div_le_div_right (by omega)
  · rw [ceil_le ht]
    have := Nat.lt_mul_div_succ (d * s) ht
    rw [Nat.mul_comm (d * s / t + 1) t]
    omega
/-- more arcs: not less -/
theorem more_le {d s t s' t' : Nat} (ht : 0 < t) (ht' : 0 < t') (e : s * t' ≤ s' * t) : d * s / t ≤ d * s' / t' ∧ (d * s + t - 1) / t ≤ (d * s' + t' - 1) / t' := by
  have key : ∀ x y : Nat, (d * s) * (x * t') ≤ (d * s') * (x * t) := fun x y => by
    have : d * x * (s * t') ≤ d * x * (s' * t) := Nat.mul_le_mul_left _ e
    calc (d * s) * (x * t') = d * x * (s * t') := by simp [Nat.mul_assoc, Nat.mul_comm, Nat.mul_left_comm]
      _ ≤ d * x * (s' * t) := this
      _ = (d * s') * (x * t) := by simp [Nat.mul_assoc, Nat.mul_comm, Nat.mul_left_comm]
  have k1 : (d * s) * t' ≤ (d * s') * t := by simpa using key 1 1
  constructor
  · rw [Nat.le_div_iff_mul_le ht']
    have h1 := Nat.div_mul_le_self (d * s) t
    have h2 : d * s / t * t' * t ≤ d * s' * t := by
      calc d * s / t * t' * t = d * s / t * t * t' := by simp [Nat.mul_assoc, Nat.mul_comm, Nat.mul_left_comm]
        _ ≤ d * s * t' := Nat.mul_le_mul_right _ h1
        _ ≤ d * s' * t := k1
    exact Nat.le_of_mul_le_mul_right h2 ht
  · rw [ceil_le ht]
    have h1 := (ceil_le (x := d * s') (m := (d * s' + t' - 1) / t') ht').mp (Nat.le_refl _)
    have h2 : d * s * t' ≤ (d * s' + t' - 1) / t' * t * t' := by
      calc d * s * t' ≤ d * s' * t := k1
        _ ≤ (d * s' + t' - 1) / t' * t' * t := Nat.mul_le_mul_right _ h1
        _ = (d * s' + t' - 1) / t' * t * t' := by simp [Nat.mul_assoc, Nat.mul_comm, Nat.mul_left_comm]
    exact Nat.le_of_mul_le_mul_right h2 ht'
/-- one arc more: at most one more each day -/
theorem more_ge {d s t s' t' : Nat} (ht : 0 < t) (ht' : 0 < t') (e : ((s' : Int) - t') * t ≤ s * t') : d * s' / t' ≤ d * s / t + d ∧ (d * s' + t' - 1) / t' ≤ (d * s + t - 1) / t + d := by
  have e' : s' * t ≤ (s + t) * t' := by
    have : ((s' * t : Nat) : Int) ≤ (((s + t) * t' : Nat) : Int) := by
      rw [Int.sub_mul] at e
      have e1 : ((s' * t : Nat) : Int) = (s' : Int) * t := by simp
      have e2 : (((s + t) * t' : Nat) : Int) = (s : Int) * t' + t * t' := by rw [Nat.add_mul]; simp
      rw [e1, e2, Int.mul_comm (t : Int) t']
      omega
    omega
  have q := more_le (d := d) (s := s') (t := t') (s' := s + t) (t' := t) ht' ht e'
  have c1 : d * (s + t) / t = d * s / t + d := by rw [Nat.mul_add, Nat.add_mul_div_right _ _ ht]
  have c2 : (d * (s + t) + t - 1) / t = (d * s + t - 1) / t + d := by
    rw [← Nat.add_mul_div_right _ _ ht]
    congr 1
    rw [Nat.mul_add]
    omega
  rw [c1, c2] at q
  exact q
theorem num_of_nxt {h : Int} {A B : List Arc} {s t : Nat} (h0 : A ≠ []) (hB : B ≠ []) (hx : ∀ p, nxt h A p = nxt h B p) (N : NumOf h A s t) : NumOf h B s t := by
  have ew : wk h A = wk h B := by
    funext k
    induction k with
    | zero => rfl
    | succ k ih =>
      show nxt h A (wk h A k) = nxt h B (wk h B k)
      rw [ih, hx]
  rcases N.e with ⟨z, hs, ht⟩ | ⟨h0, n, i, r, hn, hs, ht⟩
  · exact absurd z h0
  · have eh : hr h A = hr h B := by unfold hr; rw [ew]
    have ed : dys h A n i = dys h B n i := by unfold dys; rw [ew]
    exact ⟨.inr ⟨hB, n, i, ⟨r.lt, by rw [← eh]; exact r.eq, fun a b p q => by rw [← eh]; exact r.fr a b p q⟩, hn, by rw [← ed]; exact hs, by rw [← ed]; exact ht⟩⟩
/-- an arc laid round another one changes nothing -/
theorem num_wide {h : Int} {A : List Arc} {s t : Nat} {a w : Arc} (ha : a ∈ A) (hw : ∀ p, endOf h p a ≤ endOf h p w) (N : NumOf h A s t) : NumOf h (w :: A) s t := by
  have h0 : A ≠ [] := List.ne_nil_of_mem ha
  refine num_of_nxt h0 (by simp) (fun p => ?_) N
  obtain ⟨m1, m2⟩ := nxt_is (h := h) (p := p) h0
  refine IsMin.uniq ⟨List.mem_cons_of_mem (endOf h p w) m1, fun x hx => ?_⟩ (nxt_is (h := h) (A := w :: A) (p := p) (by simp)) fun x => by rw [List.map_cons]
  rcases List.mem_cons.mp hx with rfl | hx
  · have := m2 _ (List.mem_map_of_mem ha)
    have := hw p
    omega
  · exact m2 x hx
theorem end_wide {h p s l : Int} {n x : Str} (h1 : 1 ≤ h) (hs : 0 ≤ s) (hs2 : s < h) : endOf h p (n, s, l) ≤ endOf h p (x, (s - 1) % h, l + 1) := by
  unfold endOf
  simp only
  by_cases c : s = 0
  · subst c
    have e : ((0 : Int) - 1) % h = h - 1 := by
      rw [show (0 : Int) - 1 = (h - 1) + h * (-1) by omega, Int.add_mul_emod_self_left]
      exact Int.emod_eq_of_lt (by omega) (by omega)
    rw [e]
    have e2 : (p - (h - 1)) / h = (p + 1) / h - 1 := by
      rw [show p - (h - 1) = (p + 1) + h * (-1) by omega, Int.add_mul_ediv_left _ _ (by omega)]
      omega
    rw [e2]
    have := Int.ediv_le_ediv (show 0 < h by omega) (show p - 0 ≤ p + 1 by omega)
    have := Int.mul_le_mul_of_nonneg_right this (show 0 ≤ h by omega)
    have e3 : ((p + 1) / h - 1 + 1) * h = (p + 1) / h * h := by rw [Int.sub_add_cancel]
    have e4 : ((p - 0) / h + 1) * h = (p - 0) / h * h + h := by rw [Int.add_mul, Int.one_mul]
    omega
  · have e : (s - 1) % h = s - 1 := Int.emod_eq_of_lt (by omega) (by omega)
    rw [e]
    have := Int.ediv_le_ediv (show 0 < h by omega) (show p - s ≤ p - (s - 1) by omega)
    have := Int.mul_le_mul_of_nonneg_right (Int.add_le_add_right this 1) (show 0 ≤ h by omega)
    omega
end DV

set_option Elab.async false
set_option linter.all false
set_option autoImplicit false
set_option maxRecDepth 100000
set_option maxHeartbeats 4000000
namespace DV
open PySem L2
/-! K7: _law_r_known. -/
theorem stA_ok {step L : Int} {xs : List Str} (hs : 1 ≤ step) (hn : xs.Nodup) (hk : ∀ x ∈ xs, NameOk x) (h1 : 1 ≤ L) (h2 : L ≤ step * xs.length) : ArcsOk (step * xs.length) (stA step L xs) := by
  refine ⟨by rw [stA_names]; exact hn, fun a ha => ?_, fun a ha => ?_, fun a ha => ?_⟩
  · obtain ⟨k, _, e, _, _⟩ := stA_mem ha
    exact hk _ e
  · obtain ⟨k, hk, _, e, _⟩ := stA_mem ha
    rw [e]
    exact ⟨Int.mul_nonneg (by omega) (by omega), Int.mul_lt_mul_of_pos_left (by omega) (by omega)⟩
  · obtain ⟨k, _, _, _, e⟩ := stA_mem ha
    rw [e]; exact ⟨h1, h2⟩
def KnI (n : Nat) (step L : Int) (many c : Nat) (xs : List Str) (j : Nat) (e : Env) : Prop := ∃ (ct : Ct) (s7 s8 : S), e = [.own (some 0) ct, .fz (.int step), .fz (.int many), .fz (.int L), .fz (.int c), .fz (.lst (xs.map .str)), .own none (.d (arcsD ((stA step L xs).take j))), s7, s8] ∧ Spr n ct
theorem known_den {n : Nat} {ct : Ct} (h : Spr n ct) (hn : n < 700000000000) {Q : S → Env → Prop}
    (kq : ∀ (H : Int) (A : List Arc) (s t : Nat) (o : Env) (ct' : Ct), 1 ≤ H → H ≤ 1000 → 2 ≤ A.length → A.length ≤ 40 → ArcsOk H A → (∀ a ∈ A, NameOd a.1) → NumOf H A s t → o[0]? = some (.own (some 0) ct') → Spr (n + 1000) ct' → Q (.fz (.tup [.int H, .dct (arcsD A), .tup [.int s, .int t]])) o) :
    wpR (m_f__law_r_known [.own (some 0) ct]) Q := by
  simp [m_f__law_r_known, b_f__law_r_known]
  refine draw_wp rfl h (by omega) (by decide) (by decide) fun x1 ct1 d10 d11 h1 => ?_
  simp
  refine draw_wp rfl h1 (by omega) (by decide) (by decide) fun x2 ct2 d20 d21 h2 => ?_
  obtain ⟨step, hst⟩ : ∃ step : Int, step = 1 + x1 := ⟨_, rfl⟩
  obtain ⟨many, hmy⟩ : ∃ many : Nat, (many : Int) = 2 + x2 := ⟨(2 + x2).toNat, by omega⟩
  have hmul : (step : Int) * many ≤ 9 * 40 := Int.mul_le_mul (by omega) (by omega) (by omega) (by omega)
  have hmul1 : 2 ≤ step * (many : Int) := by
    have := Int.mul_le_mul (show (1 : Int) ≤ step by omega) (show (2 : Int) ≤ many by omega) (by omega) (by omega)
    omega
  have hsb : (-18446744073709551616 < step ∧ step < 18446744073709551616) := ⟨by omega, by omega⟩
  have hsq : 0 < step ∧ step < 4611686018427387904 := ⟨by omega, by omega⟩
  simp
  rw [← hst, ← hmy]
  simp [hsb]
  refine draw_wp rfl h2 (by omega) (by omega) (by omega) fun x3 ct3 d30 d31 h3 => ?_
  obtain ⟨L, hL⟩ : ∃ L : Int, L = 1 + x3 := ⟨_, rfl⟩
  have hc0 : 0 ≤ -(-L / step) := by
    have := Int.ediv_le_ediv (show 0 < step by omega) (show -L ≤ 0 by omega)
    rw [Int.zero_ediv] at this; omega
  obtain ⟨c, hc⟩ : ∃ c : Nat, (c : Int) = -(-L / step) := ⟨(-(-L / step)).toNat, by omega⟩
  have q1 := Int.emod_add_mul_ediv (-L) step
  have q2 := Int.emod_nonneg (-L) (show step ≠ 0 by omega)
  have q3 := Int.emod_lt_of_pos (-L) (show 0 < step by omega)
  have hcm : step * (c : Int) = -(step * (-L / step)) := by rw [hc, Int.mul_neg]
  have hc1 : step * ((c : Int) - 1) < L := by rw [Int.mul_sub, hcm]; omega
  have hc2 : L ≤ step * c := by rw [hcm]; omega
  have hc3 : (c : Int) ≤ many := by
    have : step * ((c : Int) - 1) < step * many := by omega
    have := Int.lt_of_mul_lt_mul_left this (by omega)
    omega
  simp
  rw [← hL]
  simp [hsq]
  rw [← hc]
  refine wnames_wp rfl h3 (by omega) (by omega) (by omega) fun xs ct4 hxl hnd hok h4 => ?_
  have hxl' : xs.length = many := by rw [hxl]; omega
  subst hxl'
  have okA := stA_ok (step := step) (L := L) (xs := xs) (by omega) hnd (fun x hx => (hok x hx).1) (by omega) (by omega)
  have R : RingOk (step * xs.length) (stA step L xs) := RingOk.of okA (by omega) (by omega) (by rw [stA_len]; omega)
  obtain ⟨s0, t0, N0⟩ := num_ex R
  have N := num_steps (step := step) (L := L) (c := c) (xs := xs) (by omega) (by omega) (by omega) (by omega) (by omega) hc1 hc2 N0
  simp
  refine wp_for (KnI (n + 1000) step L xs.length c xs) ⟨ct4, _, _, rfl, h4.up (by omega)⟩ ?_ ?_
  · rintro j y e hj ⟨ct, s7, s8, rfl, hsp⟩
    obtain ⟨z, hz, rfl⟩ := enumD_at hj
    have hjl : j < xs.length := by have := (List.getElem?_eq_some_iff.mp hz).1; simpa using this
    have hz' : z = .str xs[j] := by
      rw [List.getElem?_map, List.getElem?_eq_getElem hjl] at hz
      exact (Option.some.inj hz).symm
    subst hz'
    have hmj : mulD (.int step) (.int j) = some (.int (step * j)) := by rw [mul_i]; exact if_pos (.inl hsb)
    have hlA : (arcsD ((stA step L xs).take j)).length < 1000000 := by unfold arcsD; rw [List.length_map, List.length_take]; omega
    have hnew : xs[j] ∉ ((stA step L xs).take j).map (·.1) := by
      rw [List.map_take, stA_names]
      intro z
      obtain ⟨i, hi, e⟩ := List.getElem_of_mem z
      have hj' : i < j := by rw [List.length_take] at hi; omega
      rw [List.getElem_take] at e
      exact (List.pairwise_iff_getElem.mp (List.nodup_iff_pairwise_ne.mp hnd) i j (by omega) hjl hj') e
    refine ⟨_, rfl, ?_⟩
    simp [-mul_i, hmj, hlA]
    rw [arcsD_new hnew, ← stA_take hjl]
    exact ⟨ct, _, _, rfl, hsp⟩
  · rintro e ⟨ct, s7, s8, rfl, hsp⟩
    rw [enumD_len, List.length_map]
    have et : (stA step L xs).take xs.length = stA step L xs := by
      have := List.take_length (l := stA step L xs)
      rwa [stA_len] at this
    rw [et]
    have hmm : mulD (.int step) (.int xs.length) = some (.int (step * xs.length)) := by rw [mul_i]; exact if_pos (.inl hsb)
    simp [-mul_i, hmm]
    refine wp_callF (ds := [.int xs.length, .int c]) rfl rfl (llow_den (by omega) (by omega) (by omega) fun o => ⟨trivial, ?_⟩)
    simp
    exact kq _ _ _ _ _ ct (by omega) (by omega) (by rw [stA_len]; omega) (by rw [stA_len]; omega) okA (fun a ha => by obtain ⟨_, _, e, _⟩ := stA_mem ha; exact hok _ e) N (outs_get0 rfl (by decide)) hsp
end DV

set_option Elab.async false
set_option linter.all false
set_option autoImplicit false
set_option maxRecDepth 100000
set_option maxHeartbeats 4000000
namespace DV
open PySem L2
/-! K8: the law's first part: small rings, by going through all. -/
def bodyA3 : Env → Res Fl := sSeq (sIf (bOr (bNot (bTv (dThaw [5, 8, 6] (dF (dCall 2 (m_f__law_same 6) (aV (dF (dCall 2 m_f_most_apart (aV (dV 5) (aV (dV 8) (aNil))))) (aV (d2s ixD 6 (d1 negD (dC (.int 1)))) (aNil)))))))) (bNot (bTv (dThaw [5, 8, 7] (dF (dCall 2 (m_f__law_same 6) (aV (dF (dCall 2 m_f_fewest_looks (aV (dV 5) (aV (dV 8) (aNil))))) (aV (d2s ixD 7 (d1 negD (dC (.int 1)))) (aNil))))))))) (sRet (oF (dC (.bl false)))) (sPass)) (sIf (bNot (bCh leD leD (d2s ixD 6 (d1 negD (dC (.int 1)))) (d2s ixD 7 (d1 negD (dC (.int 1)))) (d2 addD (d2s ixD 6 (d1 negD (dC (.int 1)))) (dC (.int 1))))) (sRet (oF (dC (.bl false)))) (sPass))
def bodyA : Env → Res Fl := sIf (b2 ltD (d2 mulD (d2 mulD (dV 8) (dV 3)) (d1s lenD 4)) (dC (.int 30))) (sSeq (sDrop (dMut mApp 6 (dCons (dF (dCall 3 m_f__law_r_most (aV (dV 3) (aS 4 (aV (dV 8) (aNil)))))) (dNil)))) (sSeq (sDrop (dMut mApp 7 (dCons (dIf (b2 ltD (d2 mulD (dV 8) (dV 3)) (dC (.int 11))) (dF (dCall 3 m_f__law_r_looks (aV (dV 3) (aV (dV 4) (aV (dV 8) (aNil)))))) (dF (dCall 2 m_f_fewest_looks (aV (dV 5) (aV (dV 8) (aNil)))))) (dNil)))) (bodyA3))) (sPass)
def isR (s : S) (h : Int) (A : List Arc) : Prop := s = .own none (ringC h A) ∨ s = .fz (ringD h A)
@[simp] theorem arcsD_len {A : List Arc} : (arcsD A).length = A.length := by unfold arcsD; rw [List.length_map]
theorem at_last {xs : List D} {x : D} : atI (xs ++ [x]) (-1) = some x := by
  unfold atI ixN
  rw [if_neg (by decide), if_pos (by rw [List.length_append, List.length_singleton]; omega)]
  have e : ((-1 : Int) + (xs ++ [x]).length).toNat = xs.length := by rw [List.length_append, List.length_singleton]; omega
  show (xs ++ [x])[((-1 : Int) + (xs ++ [x]).length).toNat]? = _
  rw [e, List.getElem?_append_right (Nat.le_refl _), Nat.sub_self]; rfl
theorem pl_int {n : Nat} {i : Int} : Pl (n + 1) (.int i) := .int n i
theorem bodyA3_wp {s0 s1 s2 s5 : S} {r : List S} {h : Int} {A : List Arc} {ms fs : List D} {d s t : Nat} (R : RingOk h A) (N : NumOf h A s t) (hd1 : 1 ≤ d) (hd2 : d ≤ 2) (hs : isR s5 h A) {m f : Nat} (em : m = d * s / t) (ef : f = (d * s + t - 1) / t) (n1 : m ≤ f) (n2 : f ≤ m + 1) {Q : Fl → Env → Prop}
    (kq : Q .nx (s0 :: s1 :: s2 :: .fz (.int h) :: .fz (.dct (arcsD A)) :: s5 :: .own none (.l (ms ++ [.int m])) :: .own none (.l (fs ++ [.int f])) :: .fz (.int d) :: r)) :
    wpR (bodyA3 (s0 :: s1 :: s2 :: .fz (.int h) :: .fz (.dct (arcsD A)) :: s5 :: .own none (.l (ms ++ [.int m])) :: .own none (.l (fs ++ [.int f])) :: .fz (.int d) :: r)) Q := by
  have n1' : (m : Int) ≤ f := by omega
  have n2' : (f : Int) ≤ m + 1 := by omega
  unfold bodyA3
  rcases hs with rfl | rfl
  all_goals
    simp -implicitDefEqProofs
    refine wp_thaw ?_
    simp -implicitDefEqProofs [freezeE, hdS, ringC_D]
    refine wp_callF (ds := [ringD h A, .int d]) rfl rfl (most_den R N ⟨hd1, by omega⟩ fun o => ⟨trivial, ?_⟩)
    rw [← em]
    simp -implicitDefEqProofs [at_last]
    refine sames_wp rfl pl_int ?_
    simp -implicitDefEqProofs [isAtom]
    refine wp_thaw ?_
    simp -implicitDefEqProofs [freezeE, hdS, ringC_D]
    refine wp_callF (ds := [ringD h A, .int d]) rfl rfl (few_den R N ⟨hd1, by omega⟩ fun o => ⟨trivial, ?_⟩)
    rw [← ef]
    simp -implicitDefEqProofs [at_last]
    refine sames_wp rfl pl_int ?_
    simp -implicitDefEqProofs [isAtom, at_last, n1', n2']
    exact kq
theorem bodyA_wp {s0 s1 s2 s5 : S} {r : List S} {h : Int} {A : List Arc} {ms fs : List D} {d : Nat} (ok : ArcsOk h A) (h1 : 1 ≤ h) (h6 : h ≤ 6) (hl : A.length ≤ 3) (hd1 : 1 ≤ d) (hd2 : d ≤ 2) (hs : isR s5 h A) (hm : ms.length ≤ 100) (hf : fs.length ≤ 100) {Q : Fl → Env → Prop}
    (kq : ∀ (s5' : S) (ms' fs' : List D), isR s5' h A → ms'.length ≤ ms.length + 1 → fs'.length ≤ fs.length + 1 → Q .nx (s0 :: s1 :: s2 :: .fz (.int h) :: .fz (.dct (arcsD A)) :: s5' :: .own none (.l ms') :: .own none (.l fs') :: .fz (.int d) :: r)) :
    wpR (bodyA (s0 :: s1 :: s2 :: .fz (.int h) :: .fz (.dct (arcsD A)) :: s5 :: .own none (.l ms) :: .own none (.l fs) :: .fz (.int d) :: r)) Q := by
  have hdb : (-18446744073709551616 < (d : Int) ∧ (d : Int) < 18446744073709551616) := ⟨by omega, by omega⟩
  have hhb : (-18446744073709551616 < h ∧ h < 18446744073709551616) := ⟨by omega, by omega⟩
  have hW : (1 : Int) ≤ d * h ∧ (d : Int) * h ≤ 12 := by
    have : d = 1 ∨ d = 2 := by omega
    rcases this with rfl | rfl <;> omega
  have hWb : (-18446744073709551616 < (d : Int) * h ∧ (d : Int) * h < 18446744073709551616) := ⟨by omega, by omega⟩
  have R : RingOk h A := RingOk.of ok h1 (by omega) (by omega)
  obtain ⟨s, t, N⟩ := num_ex R
  obtain ⟨b1, b2, b3, _⟩ := N.bnd R.h1 R.h2 R.le
  have wkA := RingOk.wk ok h1
  obtain ⟨p0, p1, p2⟩ := few_plain (d := d) N (by omega) wkA (by omega) hd1
  obtain ⟨n1, n2⟩ := near (d := d) (s := s) (t := t) (by omega)
  unfold bodyA
  simp -implicitDefEqProofs [hdb, hWb]
  by_cases c : (d : Int) * h * A.length < 30
  · simp -implicitDefEqProofs [c]
    refine wp_callF (ds := [.int h, .dct (arcsD A), .int d]) rfl rfl (lmost_den ok h1 h6 hl hd1 hd2 fun m o e1 e2 => ⟨trivial, ?_⟩)
    have em := most_plain N (by omega) wkA ok.nd (by omega) hd1 e1 e2
    obtain ⟨mm, hmm⟩ : ∃ mm, mm = d * s / t := ⟨_, rfl⟩
    obtain ⟨ff, hff⟩ : ∃ ff, ff = (d * s + t - 1) / t := ⟨_, rfl⟩
    rw [← hff] at p0 p1 p2 n1 n2
    rw [← hmm] at n1 n2 em
    subst em
    have hm' : ms.length < 1000000 := by omega
    have hf' : fs.length < 1000000 := by omega
    simp -implicitDefEqProofs [hm', hdb]
    by_cases c2 : (d : Int) * h < 11
    · rw [if_pos c2]
      refine wp_callF (ds := [.int h, .dct (arcsD A), .int d]) rfl rfl (looks_den ok h1 h6 hl hd1 hd2 (by omega) p0 p1 p2 fun o => ⟨trivial, ?_⟩)
      simp -implicitDefEqProofs [hf']
      exact bodyA3_wp R N hd1 hd2 hs hmm hff n1 n2 (kq _ _ _ hs (by simp) (by simp))
    · rw [if_neg c2]
      rcases hs with rfl | rfl
      all_goals
        simp -implicitDefEqProofs [ringC_D]
        refine wp_callF (ds := [ringD h A, .int d]) rfl rfl (few_den R N ⟨hd1, by omega⟩ fun o => ⟨trivial, ?_⟩)
        rw [← hff]
        simp -implicitDefEqProofs [hf']
        exact bodyA3_wp R N hd1 hd2 (.inr rfl) hmm hff n1 n2 (kq _ _ _ (.inr rfl) (by simp) (by simp))
  · simp -implicitDefEqProofs [c]
    exact kq _ _ _ hs (by omega) (by omega)
end DV

set_option Elab.async false
set_option linter.all false
set_option autoImplicit false
set_option maxRecDepth 100000
set_option maxHeartbeats 4000000
namespace DV
open PySem L2
/-! K9: the law's second part: rings known by sums. -/
def bodyW : Env → Res Fl := sSeq (sSet 16 (dCall 2 m_f__law_pick (aS 2 (aV (dF (o1s sortedO 10)) (aNil))))) (sSeq (sAsg (d2s ixD 10 (dV 16)) (gtTup 2 (gtCons (gtN 17) (gtCons (gtN 18) (gtNil))))) (sSeq (sSet 19 (dMethS 0 "joined" 2 m_f_Ring_joined 12 (aV (dF (oDisp (dpCons (dC (.str "qq9qq9q")) (dTup (dCons (dIf (b2 ltD (dV 18) (dV 9)) (d2 modD (d2 subD (dV 17) (dC (.int 1))) (dV 9)) (dV 17)) (dCons (d2v min2D (dV 9) (d2 addD (dV 18) (dC (.int 1)))) (dNil)))) (dpNil)))) (aNil)))) (sIf (b2 neD (dLst (dCons (dF (dCall 2 m_f_most_apart (aV (dV 19) (aV (dV 8) (aNil))))) (dCons (dF (dCall 2 m_f_fewest_looks (aV (dV 19) (aV (dV 8) (aNil))))) (dNil)))) (dV 13)) (sRet (oF (dC (.bl false)))) (sPass))))
def bodyJ : Env → Res Fl := sSeq (sSet 14 (dMethS 0 "joined" 2 m_f_Ring_joined 12 (aV (dF (oDisp (dpCons (dC (.str "qq9qq9q")) (dTup (dCons (dF (dCall 2 m_f__law_draw (aS 2 (aV (dV 9) (aNil))))) (dCons (d2 addD (dC (.int 1)) (dF (dCall 2 m_f__law_draw (aS 2 (aV (dV 9) (aNil)))))) (dNil)))) (dpNil)))) (aNil)))) (sSeq (sSet 15 (oLst (dCons (dF (dCall 2 m_f_most_apart (aV (dV 14) (aV (dV 8) (aNil))))) (dCons (dF (dCall 2 m_f_fewest_looks (aV (dV 14) (aV (dV 8) (aNil))))) (dNil))))) (sSeq (sIf (bNot (bTv (d1v allD (dF (oLc [20, 21] (lArgs zip2L (dCons (dV 13) (dCons (dV 15) (dNil)))) (gtTup 2 (gtCons (gtN 20) (gtCons (gtN 21) (gtNil)))) (bYes) (dB (bCh leD leD (dV 20) (dV 21) (d2 addD (dV 20) (dV 8))))))))) (sRet (oF (dC (.bl false)))) (sPass)) (bodyW)))
def bodyB : Env → Res Fl := sSeq (sSet 13 (oLst (dCons (dF (dCall 2 m_f_most_apart (aV (dV 12) (aV (dV 8) (aNil))))) (dCons (dF (dCall 2 m_f_fewest_looks (aV (dV 12) (aV (dV 8) (aNil))))) (dNil))))) (sSeq (sIf (bNot (bTv (dF (dCall 2 (m_f__law_same 6) (aV (dV 13) (aV (dLst (dCons (d2 fdivD (d2 mulD (dV 8) (d2s ixD 11 (dC (.int 0)))) (d2s ixD 11 (dC (.int 1)))) (dCons (d1 negD (d2 fdivD (d2 mulD (d1 negD (dV 8)) (d2s ixD 11 (dC (.int 0)))) (d2s ixD 11 (dC (.int 1))))) (dNil)))) (aNil))))))) (sRet (oF (dC (.bl false)))) (sPass)) (sIf (b2 ltD (d1s lenD 10) (dC (.int 40))) (bodyJ) (sPass)))
theorem neg_ceil {x t : Nat} (ht : 0 < t) : -((-(x : Int)) / t) = (((x + t - 1) / t : Nat) : Int) := by
  have q1 := Int.emod_add_mul_ediv (-(x : Int)) t
  have q2 := Int.emod_nonneg (-(x : Int)) (show (t : Int) ≠ 0 by omega)
  have q3 := Int.emod_lt_of_pos (-(x : Int)) (show (0 : Int) < t by omega)
  have q4 : (-(x : Int)) / t ≤ 0 := by
    have := Int.ediv_le_ediv (show (0 : Int) < t by omega) (show -(x : Int) ≤ 0 by omega)
    rwa [Int.zero_ediv] at this
  obtain ⟨c, hc⟩ : ∃ c : Nat, (c : Int) = -((-(x : Int)) / t) := ⟨(-((-(x : Int)) / t)).toNat, by omega⟩
  have e : (t : Int) * c = -(t * ((-(x : Int)) / t)) := by rw [hc, Int.mul_neg]
  have e2 : ((c * t : Nat) : Int) = t * c := by rw [Int.natCast_mul, Int.mul_comm]
  rw [← hc]
  congr 1
  have h1 : (x + t - 1) / t ≤ c := by rw [ceil_le ht]; omega
  have h2 : ¬ (x + t - 1) / t < c := by
    intro z
    have h3 : (x + t - 1) / t ≤ c - 1 := by omega
    rw [ceil_le ht, Nat.sub_mul] at h3
    have := Nat.mul_le_mul_right t (show 1 ≤ c from Nat.zero_lt_of_lt z)
    rw [Nat.one_mul] at this
    clear h1 z
    omega
  omega
def BE (s0 s1 : S) (ct : Ct) (s3 s4 s5 s6 s7 : S) (d : Nat) (H : Int) (B : List Arc) (s t : Nat) (s13 s14 s15 s16 s17 s18 s19 s20 s21 : S) : Env := [s0, s1, .own none ct, s3, s4, s5, s6, s7, .fz (.int d), .fz (.int H), .fz (.dct (arcsD B)), .fz (.tup [.int s, .int t]), .fz (ringD H B), s13, s14, s15, s16, s17, s18, s19, s20, s21]
theorem odd_ok : NameOk oddN := ⟨⟨_, _, rfl, by decide +kernel⟩, by decide +kernel, by decide +kernel⟩
theorem odd_no {B : List Arc} (hod : ∀ a ∈ B, NameOd a.1) : oddN ∉ B.map (·.1) := fun z => by
  obtain ⟨a, ha, e⟩ := List.mem_map.mp z
  exact (hod a ha).2 (by rw [e])
theorem odd_keys {d : D} : keyPairs [(D.str (Str.ofString "qq9qq9q"), d)] = some [(Sum.inr oddN, d)] := rfl
theorem merge1 {k : Key} {d : D} : mergeD [] [(k, d)] = [(k, d)] := rfl
theorem ne_same {m f : Int} : neD (.lst [.int m, .int f]) (.lst [.int m, .int f]) = some false := by
  simp [neD, eqD, toPy, toPys, SeqAt.shaped, PyData.canLay0, PyData.depth, PyData.eqv, easy, PyData.canLayAll0, PyData.depthAll, PyData.eqvAll]
theorem bodyW_wp {n d s t m f : Nat} {ct : Ct} {H : Int} {B : List Arc} {s0 s1 s3 s4 s5 s6 s7 s14 s15 s16 s17 s18 s19 s20 s21 : S} (hs : Spr n ct) (hn : n < 600000000000) (ok : ArcsOk H B) (h1 : 1 ≤ H) (h2 : H ≤ 1000) (hl : B.length < 40) (h0 : B ≠ []) (hod : ∀ a ∈ B, NameOd a.1) (N : NumOf H B s t) (hd : 1 ≤ d ∧ d ≤ 1000000) (em : m = d * s / t) (ef : f = (d * s + t - 1) / t) {Q : Fl → Env → Prop}
    (kq : ∀ (ct' : Ct) (s16 s17 s18 s19 : S), Spr (n + 1) ct' → Q .nx (BE s0 s1 ct' s3 s4 s5 s6 s7 d H B s t (.fz (.lst [.int m, .int f])) s14 s15 s16 s17 s18 s19 s20 s21)) :
    wpR (bodyW (BE s0 s1 ct s3 s4 s5 s6 s7 d H B s t (.fz (.lst [.int m, .int f])) s14 s15 s16 s17 s18 s19 s20 s21)) Q := by
  have hl64 : B.length < 64 := by omega
  have hHq : 0 < H ∧ H < 4611686018427387904 := ⟨by omega, by omega⟩
  have hls : (sortS (B.map (·.1))).length = B.length := by rw [names_len', sortA_len]
  unfold bodyW
  simp -implicitDefEqProofs [BE, sorted_d2 hl64]
  refine pick_wp rfl hs (by omega) ?_ (by rw [List.length_map, hls]; omega) fun y ct1 hy hs1 => ?_
  · intro z
    rw [List.map_eq_nil_iff, List.eq_nil_iff_length_eq_zero, hls] at z
    exact h0 (List.eq_nil_of_length_eq_zero z)
  obtain ⟨x, hx, rfl⟩ := List.mem_map.mp hy
  obtain ⟨a, ha, rfl⟩ := List.mem_map.mp ((sortS_perm _).mem_iff.mp hx)
  have hlk := lookD_arcs ok.nd ha
  have hst := ok.st a ha
  have hln := ok.ln a ha
  have fin : ∀ (st l : Int), 0 ≤ st → st < H → 1 ≤ l → l ≤ H → (∀ p, endOf H p a ≤ endOf H p (oddN, st, l)) → ArcsOk H ((oddN, st, l) :: B) ∧ NumOf H ((oddN, st, l) :: B) s t ∧ RingOk H ((oddN, st, l) :: B) := fun st l e1 e2 e3 e4 e5 => by
    have okc := ok.cons odd_ok (odd_no hod) e1 e2 e3 e4
    exact ⟨okc, num_wide ha e5 N, RingOk.of okc h1 h2 (by rw [List.length_cons]; omega)⟩
  simp -implicitDefEqProofs [hlk]
  by_cases c : a.2.2 < H
  · have e2 := Int.emod_nonneg (a.2.1 - 1) (show H ≠ 0 by omega)
    have e3 := Int.emod_lt_of_pos (a.2.1 - 1) (show 0 < H by omega)
    have emin : (if a.2.2 + 1 < H then a.2.2 + 1 else H) = a.2.2 + 1 := by split <;> omega
    obtain ⟨q1, q2, q3⟩ := fin ((a.2.1 - 1) % H) (a.2.2 + 1) e2 e3 (by omega) (by omega) fun p => end_wide h1 hst.1 hst.2
    simp -implicitDefEqProofs [c, hHq, emin, odd_keys, merge1]
    refine wp_callF (ds := [ringD H B, .dct [(Sum.inr oddN, .tup [.int ((a.2.1 - 1) % H), .int (a.2.2 + 1)])]]) rfl rfl (joined_den ok h1 h2 hl odd_ok (odd_no hod) e2 e3 (by omega) (by omega) fun o => ⟨trivial, ?_⟩)
    simp -implicitDefEqProofs [ringC_D]
    refine wp_callF (ds := [ringD H _, .int d]) rfl rfl (most_den q3 q2 hd fun o => ⟨trivial, ?_⟩)
    rw [← em]
    simp -implicitDefEqProofs
    refine wp_callF (ds := [ringD H _, .int d]) rfl rfl (few_den q3 q2 hd fun o => ⟨trivial, ?_⟩)
    rw [← ef]
    simp -implicitDefEqProofs [ne_same]
    exact kq _ _ _ _ _ hs1
  · have el : a.2.2 = H := by omega
    have emin : (if a.2.2 + 1 < H then a.2.2 + 1 else H) = H := by rw [if_neg (by omega)]
    obtain ⟨q1, q2, q3⟩ := fin a.2.1 H hst.1 hst.2 (by omega) (by omega) fun p => by unfold endOf; simp only; omega
    simp -implicitDefEqProofs [c, emin, odd_keys, merge1]
    refine wp_callF (ds := [ringD H B, .dct [(Sum.inr oddN, .tup [.int a.2.1, .int H])]]) rfl rfl (joined_den ok h1 h2 hl odd_ok (odd_no hod) hst.1 hst.2 (by omega) (by omega) fun o => ⟨trivial, ?_⟩)
    simp -implicitDefEqProofs [ringC_D]
    refine wp_callF (ds := [ringD H _, .int d]) rfl rfl (most_den q3 q2 hd fun o => ⟨trivial, ?_⟩)
    rw [← em]
    simp -implicitDefEqProofs
    refine wp_callF (ds := [ringD H _, .int d]) rfl rfl (few_den q3 q2 hd fun o => ⟨trivial, ?_⟩)
    rw [← ef]
    simp -implicitDefEqProofs [ne_same]
    exact kq _ _ _ _ _ hs1
def JaI (e0 : Env) (k : Nat) (e : Env) (acc : List D) : Prop := e = e0 ∧ acc = List.replicate k (.bl true)
theorem bodyJ_wp {n d s t m f : Nat} {ct : Ct} {H : Int} {B : List Arc} {s0 s1 s3 s4 s5 s6 s7 s14 s15 s16 s17 s18 s19 s20 s21 : S} (hs : Spr n ct) (hn : n < 500000000000) (ok : ArcsOk H B) (h1 : 1 ≤ H) (h2 : H ≤ 1000) (hl : B.length < 40) (h0 : B ≠ []) (hod : ∀ a ∈ B, NameOd a.1) (N : NumOf H B s t) (hd : 1 ≤ d ∧ d ≤ 1000000) (em : m = d * s / t) (ef : f = (d * s + t - 1) / t) {Q : Fl → Env → Prop}
    (kq : ∀ (ct' : Ct) (s14 s15 s16 s17 s18 s19 s20 s21 : S), Spr (n + 3) ct' → Q .nx (BE s0 s1 ct' s3 s4 s5 s6 s7 d H B s t (.fz (.lst [.int m, .int f])) s14 s15 s16 s17 s18 s19 s20 s21)) :
    wpR (bodyJ (BE s0 s1 ct s3 s4 s5 s6 s7 d H B s t (.fz (.lst [.int m, .int f])) s14 s15 s16 s17 s18 s19 s20 s21)) Q := by
  have R := RingOk.of ok h1 h2 (by omega)
  obtain ⟨b1, b2, b3, _⟩ := N.bnd R.h1 R.h2 R.le
  have hr : (List.lookup ("joined" : Str) [(("own_hours" : Str), D.int H), ("own_arcs", .dct (arcsD (sortA B)))]).isNone = true := no_joined
  unfold bodyJ
  simp -implicitDefEqProofs [BE]
  refine draw_wp rfl hs (by omega) (by omega) (by omega) fun x1 ct1 d10 d11 hs1 => ?_
  simp -implicitDefEqProofs
  refine draw_wp rfl hs1 (by omega) (by omega) (by omega) fun x2 ct2 d20 d21 hs2 => ?_
  have okc := ok.cons odd_ok (odd_no hod) d10 d11 (show 1 ≤ 1 + x2 by omega) (by omega)
  have Rc : RingOk H ((oddN, x1, 1 + x2) :: B) := RingOk.of okc h1 h2 (by rw [List.length_cons]; omega)
  obtain ⟨s', t', N'⟩ := num_ex Rc
  obtain ⟨c1, c2, c3, _⟩ := N'.bnd Rc.h1 Rc.h2 Rc.le
  have wkc := RingOk.wk okc h1
  have le1 := num_le h2 wkc (fun a ha => List.mem_cons_of_mem _ ha) N' N
  have le2 := num_drop h2 wkc (x := (oddN, x1, 1 + x2)) List.mem_cons_self (fun a ha => List.mem_cons_of_mem _ ha) (fun a ha => List.mem_cons.mp ha) N' N
  have g1 := more_le (d := d) (s := s) (t := t) (s' := s') (t' := t') (by omega) (by omega) le1
  have g2 := more_ge (d := d) (s := s) (t := t) (s' := s') (t' := t') (by omega) (by omega) le2
  obtain ⟨m2, em2⟩ : ∃ m2, m2 = d * s' / t' := ⟨_, rfl⟩
  obtain ⟨f2, ef2⟩ : ∃ f2, f2 = (d * s' + t' - 1) / t' := ⟨_, rfl⟩
  rw [← em2, ← ef2, ← em, ← ef] at g1 g2
  simp -implicitDefEqProofs [odd_keys, merge1]
  refine wp_callF (ds := [ringD H B, .dct [(Sum.inr oddN, .tup [.int x1, .int (1 + x2)])]]) rfl rfl (joined_den ok h1 h2 hl odd_ok (odd_no hod) d10 d11 (by omega) (by omega) fun o => ⟨trivial, ?_⟩)
  simp -implicitDefEqProofs [ringC_D]
  refine wp_callF (ds := [ringD H _, .int d]) rfl rfl (most_den Rc N' hd fun o => ⟨trivial, ?_⟩)
  rw [← em2]
  simp -implicitDefEqProofs
  refine wp_callF (ds := [ringD H _, .int d]) rfl rfl (few_den Rc N' hd fun o => ⟨trivial, ?_⟩)
  rw [← ef2]
  simp -implicitDefEqProofs
  refine wp_lc ?_
  simp -implicitDefEqProofs
  refine ⟨JaI (BE s0 s1 ct2 s3 s4 s5 s6 s7 d H B s t (.fz (.lst [.int m, .int f])) (.fz (ringD H ((oddN, x1, 1 + x2) :: B))) (.fz (.lst [.int m2, .int f2])) s16 s17 s18 s19 .no .no), ⟨rfl, rfl⟩, ?_, ?_⟩
  · rintro k y e acc hk ⟨rfl, rfl⟩
    obtain ⟨u, v, hu, hv, rfl⟩ := zipD_at hk
    have hk2 : k < 2 := (List.getElem?_eq_some_iff.mp hu).1
    obtain ⟨a, b, rfl, rfl, ab1, ab2⟩ : ∃ a b : Nat, u = .int a ∧ v = .int b ∧ a ≤ b ∧ b ≤ a + d := by
      have : k = 0 ∨ k = 1 := by omega
      rcases this with rfl | rfl
      · cases hu; cases hv; exact ⟨m, m2, rfl, rfl, g1.1, g2.1⟩
      · cases hu; cases hv; exact ⟨f, f2, rfl, rfl, g1.2, g2.2⟩
    have ab1' : (a : Int) ≤ b := by omega
    have ab2' : (b : Int) ≤ a + d := by omega
    refine ⟨BE s0 s1 ct2 s3 s4 s5 s6 s7 d H B s t (.fz (.lst [.int m, .int f])) (.fz (ringD H ((oddN, x1, 1 + x2) :: B))) (.fz (.lst [.int m2, .int f2])) s16 s17 s18 s19 (.fz (.int a)) (.fz (.int b)), rfl, ?_⟩
    simp -implicitDefEqProofs [BE, ab1', ab2']
    exact ⟨by omega, rfl, by rw [List.replicate_succ']⟩
  · rintro e acc ⟨rfl, rfl⟩
    have eu : (D.lst (List.replicate (zipD [D.int m, D.int f] [D.int m2, D.int f2]).length (D.bl true))).un = D.lst (List.replicate (zipD [D.int m, D.int f] [D.int m2, D.int f2]).length (D.bl true)) := rfl
    simp only [kont_a, dFs_o, wpR_ok, wpR_lift, toD_l, eu, all_rep]
    simp -implicitDefEqProofs
    exact bodyW_wp hs2 (by omega) ok h1 h2 hl h0 hod N hd em ef fun ct' s16 s17 s18 s19 hs' => kq _ _ _ _ _ _ _ _ _ hs'
theorem pl_two {a b : Int} : Pl 6 (.lst [.int a, .int b]) := .lst (fun d hd => by
  simp at hd
  rcases hd with rfl | rfl <;> exact pl_int) (by simp)
theorem bodyB_wp {n d s t : Nat} {ct : Ct} {H : Int} {B : List Arc} {s0 s1 s3 s4 s5 s6 s7 s13 s14 s15 s16 s17 s18 s19 s20 s21 : S} (hs : Spr n ct) (hn : n < 500000000000) (ok : ArcsOk H B) (h1 : 1 ≤ H) (h2 : H ≤ 1000) (hl : B.length ≤ 40) (h0 : B ≠ []) (hod : ∀ a ∈ B, NameOd a.1) (N : NumOf H B s t) (hd : 1 ≤ d ∧ d ≤ 1000000) {Q : Fl → Env → Prop}
    (kq : ∀ (ct' : Ct) (s13 s14 s15 s16 s17 s18 s19 s20 s21 : S), Spr (n + 3) ct' → Q .nx (BE s0 s1 ct' s3 s4 s5 s6 s7 d H B s t s13 s14 s15 s16 s17 s18 s19 s20 s21)) :
    wpR (bodyB (BE s0 s1 ct s3 s4 s5 s6 s7 d H B s t s13 s14 s15 s16 s17 s18 s19 s20 s21)) Q := by
  have R := RingOk.of ok h1 h2 hl
  obtain ⟨b1, b2, b3, _⟩ := N.bnd R.h1 R.h2 R.le
  obtain ⟨m, em⟩ : ∃ m, m = d * s / t := ⟨_, rfl⟩
  obtain ⟨f, ef⟩ : ∃ f, f = (d * s + t - 1) / t := ⟨_, rfl⟩
  have hq : (0 : Int) < t ∧ (t : Int) < 2 ^ 62 := ⟨by omega, by omega⟩
  obtain ⟨w, hw⟩ : ∃ w, w = d * s := ⟨_, rfl⟩
  have hm : mulD (.int d) (.int s) = some (.int (w : Int)) := by
    rw [mul_i, if_pos (.inr ⟨by omega, by omega⟩), hw, Int.natCast_mul]
  have hm2 : mulD (.int (-d)) (.int s) = some (.int (-(w : Int))) := by
    rw [mul_i, if_pos (.inr ⟨by omega, by omega⟩), hw, Int.natCast_mul, Int.neg_mul]
  have hf : fdivD (.int (w : Int)) (.int t) = some (.int m) := by rw [fdiv_i, if_pos hq, em, hw]; rfl
  have hf2 : fdivD (.int (-(w : Int))) (.int t) = some (.int (-(f : Int))) := by
    rw [fdiv_i, if_pos hq, ef, ← neg_ceil (x := d * s) (t := t) (by omega), Int.neg_neg, hw]
  unfold bodyB
  simp -implicitDefEqProofs [BE]
  refine wp_callF (ds := [ringD H B, .int d]) rfl rfl (most_den R N hd fun o => ⟨trivial, ?_⟩)
  rw [← em]
  simp -implicitDefEqProofs
  refine wp_callF (ds := [ringD H B, .int d]) rfl rfl (few_den R N hd fun o => ⟨trivial, ?_⟩)
  rw [← ef]
  simp -implicitDefEqProofs [-mul_i, -fdiv_i, hm, hm2, hf, hf2, atI, ixN]
  refine sames_wp rfl pl_two ?_
  simp -implicitDefEqProofs
  by_cases c : B.length < 40
  · rw [decide_eq_true (show ((B.length : Nat) : Int) < 40 by omega)]
    refine bodyJ_wp hs hn ok h1 h2 c h0 hod N hd em ef fun ct' s14 s15 s16 s17 s18 s19 s20 s21 hs' => kq _ _ _ _ _ _ _ _ _ _ hs'
  · rw [decide_eq_false (show ¬ ((B.length : Nat) : Int) < 40 by omega), wpIf_f, wev_pass, wpR_ok]
    exact kq _ _ _ _ _ _ _ _ _ _ (hs.up (by omega))
end DV

set_option Elab.async false
set_option linter.all false
set_option autoImplicit false
set_option maxRecDepth 100000
set_option maxHeartbeats 4000000
namespace DV
open PySem L2
/-! K10: law. -/
def turnB : Env → Res Fl := sSeq (sSet 2 (dCall 2 m_f__law_spring (aS 0 (aV (dV 1) (aNil))))) (sSeq (sSet 3 (oF (d2 addD (dC (.int 1)) (dF (dCall 2 m_f__law_draw (aS 2 (aV (dC (.int 6)) (aNil)))))))) (sSeq (sSet 4 (o1v dictO (dF (oLc [16] (lItems (dF (dCall 2 m_f__law_w_names (aS 2 (aV (dF (dCall 2 m_f__law_draw (aS 2 (aV (dC (.int 4)) (aNil))))) (aNil)))))) (gtN 16) (bYes) (dTup (dCons (dV 16) (dCons (dTup (dCons (dF (dCall 2 m_f__law_draw (aS 2 (aV (dV 3) (aNil))))) (dCons (d2 addD (dC (.int 1)) (dF (dCall 2 m_f__law_draw (aS 2 (aV (dV 3) (aNil)))))) (dNil)))) (dNil)))))))) (sSeq (sPar3 5 6 7 (osCons (dMake 0 3 m_f_Ring___init__ (aV (dV 3) (aV (dF (dCall 2 (m_f__law_loose 6) (aS 2 (aV (dV 4) (aNil))))) (aNil)))) (osCons (oLst (dNil)) (osCons (oLst (dNil)) (osNil))))) (sSeq (sFor (lItems (dLst (dCons (dC (.int 1)) (dCons (dC (.int 2)) (dNil))))) (gtN 8) (bodyA)) (sSeq (sAsg (dF (dCall 1 m_f__law_r_known (aS 2 (aNil)))) (gtTup 3 (gtCons (gtN 9) (gtCons (gtN 10) (gtCons (gtN 11) (gtNil)))))) (sSeq (sSet 12 (dMake 0 3 m_f_Ring___init__ (aV (dV 9) (aV (dF (dCall 2 (m_f__law_loose 6) (aS 2 (aV (dV 10) (aNil))))) (aNil))))) (sSeq (sIf (bNot (bTv (dF (dCall 2 (m_f__law_same 6) (aV (dF (dCall 1 m_f_ring_number (aV (dV 12) (aNil)))) (aV (dV 11) (aNil))))))) (sRet (oF (dC (.bl false)))) (sPass)) (sFor (lItems (dLst (dCons (dC (.int 1)) (dCons (d2 addD (dC (.int 1)) (dF (dCall 2 m_f__law_draw (aS 2 (aV (dC (.int 99)) (aNil)))))) (dCons (dC (.int 999999)) (dNil)))))) (gtN 8) (bodyB)))))))))
theorem law_eq : b_f_law = sSeq (sFor (lArgs range1D (dCons (dC (.int 4)) (dNil))) (gtN 1) turnB) (sRet (oF (dC (.bl true)))) := rfl
def LwI (ns : List Int) (k : Nat) (e : Env) : Prop := ∃ s1 s2 s3 s4 s5 s6 s7 s8 s9 s10 s11 s12 s13 s14 s15 s16 s17 s18 s19 s20 s21 : S, e = [.fz (.scr ns), s1, s2, s3, s4, s5, s6, s7, s8, s9, s10, s11, s12, s13, s14, s15, s16, s17, s18, s19, s20, s21]
def arP (a : Arc) : D := .tup [.str a.1, .tup [.int a.2.1, .int a.2.2]]
def AcI (n : Nat) (e0 : Ct → Env) (h : Int) (xs : List Str) (k : Nat) (e : Env) (acc : List D) : Prop := ∃ (ct : Ct) (A : List Arc), e = e0 ct ∧ Spr (n + 2 * k) ct ∧ acc = A.map arP ∧ A.map (·.1) = xs.take k ∧ (∀ a ∈ A, 0 ≤ a.2.1 ∧ a.2.1 < h) ∧ ∀ a ∈ A, 1 ≤ a.2.2 ∧ a.2.2 ≤ h
theorem pairs_arcs {A : List Arc} : pairsD (A.map arP) = some (arcsD A) := by
  have e1 : A.map arP = (A.map fun a => (a, false)).map pairD := by rw [List.map_map]; rfl
  have e2 : ((A.map fun a => (a, false)).map lD) = arcsD A := by rw [List.map_map]; rfl
  rw [e1, pairsD_l, e2]
def DyI (s0 s1 s2 : S) (h : Int) (A : List Arc) (r : List S) (j : Nat) (e : Env) : Prop := ∃ (s5 : S) (ms fs : List D) (s8 : S), e = s0 :: s1 :: s2 :: .fz (.int h) :: .fz (.dct (arcsD A)) :: s5 :: .own none (.l ms) :: .own none (.l fs) :: s8 :: r ∧ isR s5 h A ∧ ms.length ≤ j ∧ fs.length ≤ j
theorem pl_pair {a b : Int} : Pl 6 (.tup [.int a, .int b]) := .tup (fun d hd => by
  simp at hd
  rcases hd with rfl | rfl <;> exact pl_int) (by simp)
def GrI (n : Nat) (s0 s1 s3 s4 s5 s6 s7 : S) (H : Int) (B : List Arc) (s t : Nat) (j : Nat) (e : Env) : Prop := ∃ (ct : Ct) (s8 s13 s14 s15 s16 s17 s18 s19 s20 s21 : S), e = [s0, s1, .own none ct, s3, s4, s5, s6, s7, s8, .fz (.int H), .fz (.dct (arcsD B)), .fz (.tup [.int s, .int t]), .fz (ringD H B), s13, s14, s15, s16, s17, s18, s19, s20, s21] ∧ Spr (n + 3 * j) ct
theorem turn_wp {ns : List Int} (hl : ns.length ≤ 63) {k : Nat} (hk : k < 4) {s1 s2 s3 s4 s5 s6 s7 s8 s9 s10 s11 s12 s13 s14 s15 s16 s17 s18 s19 s20 s21 : S} {Q : Fl → Env → Prop} (kq : ∀ e, LwI ns (k + 1) e → Q .nx e) : wpR (turnB [.fz (.scr ns), .fz (.int k), s2, s3, s4, s5, s6, s7, s8, s9, s10, s11, s12, s13, s14, s15, s16, s17, s18, s19, s20, s21]) Q := by
  unfold turnB
  simp -implicitDefEqProofs
  refine spring_wp hl (turn := k) (by omega) rfl fun ct hs => ?_
  simp -implicitDefEqProofs
  refine draw_wp rfl hs (by omega) (by decide) (by decide) fun x1 ct1 d10 d11 hs1 => ?_
  simp -implicitDefEqProofs
  obtain ⟨h, hh⟩ : ∃ h : Int, h = 1 + x1 := ⟨_, rfl⟩
  rw [← hh]
  refine wp_lc ?_
  simp -implicitDefEqProofs
  refine draw_wp rfl hs1 (by omega) (by decide) (by decide) fun x2 ct2 d20 d21 hs2 => ?_
  simp -implicitDefEqProofs
  refine wnames_wp rfl hs2 (by omega) (by omega) (by omega) fun xs ct3 hxl hnd hok hs3 => ?_
  simp -implicitDefEqProofs [-dictO_l, -List.getElem?_map]
  refine ⟨AcI 602 (fun ct => [.fz (.scr ns), .fz (.int k), .own none ct, .fz (.int h), s4, s5, s6, s7, s8, s9, s10, s11, s12, s13, s14, s15, .no, s17, s18, s19, s20, s21]) h xs, ⟨ct3, [], by simp [wipeE], hs3.up (by omega), rfl, rfl, by simp, by simp⟩, ?_, ?_⟩
  · rintro j y e acc hj ⟨ct, A, rfl, hsp, rfl, hA, ha1, ha2⟩
    obtain ⟨x, hx, rfl⟩ : ∃ x, xs[j]? = some x ∧ y = .str x := by
      rw [List.getElem?_map] at hj
      obtain ⟨r, e1, e2⟩ := Option.map_eq_some_iff.mp hj
      exact ⟨r, e1, e2.symm⟩
    have hjl := (List.getElem?_eq_some_iff.mp hx).1
    have hAl : A.length = j := by
      have := congrArg List.length hA
      rw [List.length_map, List.length_take] at this; omega
    simp -implicitDefEqProofs
    refine draw_wp rfl hsp (by omega) (by omega) (by omega) fun y1 ct4 e10 e11 hs4 => ?_
    simp -implicitDefEqProofs
    refine draw_wp rfl hs4 (by omega) (by omega) (by omega) fun y2 ct5 e20 e21 hs5 => ?_
    simp -implicitDefEqProofs
    refine ⟨by omega, ct5, A ++ [(x, y1, 1 + y2)], by simp [wipeE], hs5.up (by omega), by simp [arP], by rw [List.map_append, hA, take_at hx]; rfl, fun a ha => ?_, fun a ha => ?_⟩
    · rcases List.mem_append.mp ha with z | z
      · exact ha1 a z
      · rw [List.mem_singleton.mp z]; exact ⟨e10, e11⟩
    · rcases List.mem_append.mp ha with z | z
      · exact ha2 a z
      · rw [List.mem_singleton.mp z]; exact ⟨by simp only; omega, by simp only; omega⟩
  · rintro e acc ⟨ct4, A, rfl, hs4, rfl, hA, ha1, ha2⟩
    rw [List.take_length] at hA
    have ok : ArcsOk h A := ⟨by rw [hA]; exact hnd, fun a ha => (hok a.1 (by rw [← hA]; exact List.mem_map_of_mem ha)).1, ha1, ha2⟩
    have hAl : A.length ≤ 3 := by
      have := congrArg List.length hA
      rw [List.length_map] at this; omega
    rw [pairs_arcs]
    simp -implicitDefEqProofs [arcs_merge ok.nd]
    refine ring_wp (hours := h) ?_ (by omega) (by omega)
    simp -implicitDefEqProofs
    refine wp_callO rfl (ds := [.dct (arcsD A)]) rfl rfl (loose_dct hs4 (by omega) ok.nd (by omega) fun L o ct' hp ho hsp => ⟨trivial, ct', ho, ?_⟩)
    simp -implicitDefEqProofs
    refine ⟨L, rfl, ok.perm hp, by have := hp.length_eq; simp at this; omega, ?_⟩
    rw [ringC_perm hp (ok.perm hp).nd]
    refine wp_for (DyI (.fz (.scr ns)) (.fz (.int k)) (.own none ct') h A [s9, s10, s11, s12, s13, s14, s15, .no, s17, s18, s19, s20, s21]) ⟨_, [], [], _, rfl, .inl rfl, by simp, by simp⟩ ?_ ?_
    · rintro j y e hj ⟨s5', ms, fs, s8', rfl, hR, hm, hf⟩
      have hj2 : j < 2 := (List.getElem?_eq_some_iff.mp hj).1
      have hy : y = .int ((j + 1 : Nat) : Int) := by
        have : j = 0 ∨ j = 1 := by omega
        rcases this with rfl | rfl <;> (cases hj; rfl)
      subst hy
      refine ⟨_, rfl, ?_⟩
      exact bodyA_wp (d := j + 1) ok (by omega) (by omega) hAl (by omega) (by omega) hR (by omega) (by omega) fun s5'' ms' fs' hR' hm' hf' => ⟨s5'', ms', fs', _, rfl, hR', by omega, by omega⟩
    · rintro e ⟨s5', ms, fs, s8', rfl, hR, hm, hf⟩
      simp -implicitDefEqProofs
      refine wp_callO rfl (as := []) (ds := []) rfl rfl (known_den hsp (by omega) fun H B s t o ct5 hH1 hH2 hB2 hB40 okB hodB N ho hs5 => ⟨trivial, ct5, ho, ?_⟩)
      simp -implicitDefEqProofs
      refine ring_wp (hours := H) ?_ hH1 hH2
      simp -implicitDefEqProofs
      refine wp_callO rfl (ds := [.dct (arcsD B)]) rfl rfl (loose_dct hs5 (by omega) okB.nd (by omega) fun L o ct6 hp ho hs6 => ⟨trivial, ct6, ho, ?_⟩)
      simp -implicitDefEqProofs
      refine ⟨L, rfl, okB.perm hp, by have := hp.length_eq; simp at this; omega, ?_⟩
      rw [ringC_perm hp (okB.perm hp).nd]
      simp -implicitDefEqProofs [ringC_D]
      have RB := RingOk.of okB hH1 hH2 hB40
      refine wp_callF (ds := [ringD H B]) rfl rfl (number_den RB.h1 RB.h2 RB.nd RB.ln RB.le fun s' t' o N' => ⟨trivial, ?_⟩)
      obtain ⟨rfl, rfl⟩ := N.uniq N'
      simp -implicitDefEqProofs
      refine sames_wp rfl pl_pair ?_
      simp -implicitDefEqProofs
      refine draw_wp rfl hs6 (by omega) (by decide) (by decide) fun z ct7 z0 z1 hs7 => ?_
      simp -implicitDefEqProofs
      have hB0 : B ≠ [] := fun z => by rw [z] at hB2; simp at hB2
      refine wp_for (GrI 5000 (.fz (.scr ns)) (.fz (.int k)) (.fz (.int h)) (.fz (.dct (arcsD A))) s5' (.own none (.l ms)) (.own none (.l fs)) H B s t) ⟨ct7, _, _, _, _, _, _, _, _, _, _, rfl, hs7.up (by omega)⟩ ?_ ?_
      · rintro j y e hj ⟨ct8, s8, s13, s14, s15, s16, s17, s18, s19, s20, s21, rfl, hs8⟩
        have hj3 : j < 3 := (List.getElem?_eq_some_iff.mp hj).1
        obtain ⟨d, rfl, hd1, hd2⟩ : ∃ d : Nat, y = .int d ∧ 1 ≤ d ∧ d ≤ 1000000 := by
          have : j = 0 ∨ j = 1 ∨ j = 2 := by omega
          rcases this with rfl | rfl | rfl
          · cases hj; exact ⟨1, rfl, by decide, by decide⟩
          · cases hj; exact ⟨(1 + z).toNat, by rw [Int.toNat_of_nonneg (by omega)], by omega, by omega⟩
          · cases hj; exact ⟨999999, rfl, by decide, by decide⟩
        refine ⟨_, rfl, ?_⟩
        exact bodyB_wp (d := d) hs8 (by omega) okB hH1 hH2 hB40 hB0 hodB N ⟨hd1, hd2⟩ fun ct' s13 s14 s15 s16 s17 s18 s19 s20 s21 hs' => ⟨ct', _, _, _, _, _, _, _, _, _, _, rfl, hs'.up (by omega)⟩
      · rintro e ⟨ct8, s8, s13, s14, s15, s16, s17, s18, s19, s20, s21, rfl, hs8⟩
        exact kq _ ⟨_, _, _, _, _, _, _, _, _, _, _, _, _, _, _, _, _, _, _, _, _, rfl⟩
theorem law_den {ns : List Int} (hl : ns.length ≤ 63) {Q : S → Env → Prop} (kq : ∀ (o : Env), Q (.fz (.bl true)) o) : wpR (m_f_law [.fz (.scr ns)]) Q := by
  simp only [m_f_law, wp_denF]
  rw [law_eq]
  refine wp_seqM (LwI ns 4) ?_ ?_
  · simp -implicitDefEqProofs
    refine wp_for (LwI ns) ⟨_, _, _, _, _, _, _, _, _, _, _, _, _, _, _, _, _, _, _, _, _, rfl⟩ ?_ ?_
    · rintro k d e hk ⟨s1, s2, s3, s4, s5, s6, s7, s8, s9, s10, s11, s12, s13, s14, s15, s16, s17, s18, s19, s20, s21, rfl⟩
      obtain ⟨rfl, hk4⟩ := rangeD_at0 hk
      refine ⟨_, rfl, ?_⟩
      exact turn_wp (s1 := s1) hl hk4 fun e he => he
    · rintro e he
      exact ⟨rfl, he⟩
  · rintro e ⟨s1, s2, s3, s4, s5, s6, s7, s8, s9, s10, s11, s12, s13, s14, s15, s16, s17, s18, s19, s20, s21, rfl⟩
    simp -implicitDefEqProofs
    exact kq _
theorem law_true : ∀ ns : List Int, ns.length ≤ 63 → ∃ e, m_f_law [.fz (.scr ns)] = .ok (.fz (.bl true)) e := fun ns hl => by
  obtain ⟨s, e, h, q⟩ := (law_den hl (Q := fun s _ => s = .fz (.bl true)) fun o => rfl).out
  exact ⟨e, by rw [h, q]⟩
end DV

set_option Elab.async false
set_option linter.all false
set_option autoImplicit false
set_option maxRecDepth 100000
set_option maxHeartbeats 4000000
namespace DV
open PySem PySem.Spec L2
open PyProof.Rows hiding St
theorem bd_f__law_spring : BindEq "_law_spring" "_law_spring" st_f__law_spring P_f__law_spring := fun _ _ _ _ _ _ us hl => match us, hl with | [_, _], _ => rfl
theorem bd_f__law_draw : BindEq "_law_draw" "_law_draw" st_f__law_draw P_f__law_draw := fun _ _ _ _ _ _ us hl => match us, hl with | [_, _], _ => rfl
theorem bd_f__law_pick : BindEq "_law_pick" "_law_pick" st_f__law_pick P_f__law_pick := fun _ _ _ _ _ _ us hl => match us, hl with | [_, _], _ => rfl
theorem bd_f__law_w_name : BindEq "_law_w_name" "_law_w_name" st_f__law_w_name P_f__law_w_name := fun _ _ _ _ _ _ us hl => match us, hl with | [_], _ => rfl
theorem bd_f__law_w_names : BindEq "_law_w_names" "_law_w_names" st_f__law_w_names P_f__law_w_names := fun _ _ _ _ _ _ us hl => match us, hl with | [_, _], _ => rfl
theorem bd_f_is_integer : BindEq "is_integer" "is_integer" st_f_is_integer P_f_is_integer := fun _ _ _ _ _ _ us hl => match us, hl with | [_], _ => rfl
theorem bd_f_is_between : BindEq "is_between" "is_between" st_f_is_between P_f_is_between := fun _ _ _ _ _ _ us hl => match us, hl with | [_, _, _], _ => rfl
theorem bd_f_check_hours : BindEq "check_hours" "check_hours" st_f_check_hours P_f_check_hours := fun _ _ _ _ _ _ us hl => match us, hl with | [_], _ => rfl
theorem bd_f_is_name : BindEq "is_name" "is_name" st_f_is_name P_f_is_name := fun _ _ _ _ _ _ us hl => match us, hl with | [_], _ => rfl
theorem bd_f_is_list : BindEq "is_list" "is_list" st_f_is_list P_f_is_list := fun _ _ _ _ _ _ us hl => match us, hl with | [_], _ => rfl
theorem bd_f_are_arcs : BindEq "are_arcs" "are_arcs" st_f_are_arcs P_f_are_arcs := fun _ _ _ _ _ _ us hl => match us, hl with | [_, _], _ => rfl
theorem bd_f_Ring___init__ : BindEq "__init__" "Ring.__init__" st_f_Ring___init__ P_f_Ring___init__ := fun _ _ _ _ _ _ us hl => match us, hl with | [_, _, _], _ => rfl
theorem bd_f__law_mixed : BindEq "_law_mixed" "_law_mixed" st_f__law_mixed P_f__law_mixed := fun _ _ _ _ _ _ us hl => match us, hl with | [_, _], _ => rfl
theorem bd_f__law_loose : BindEq "_law_loose" "_law_loose" st_f__law_loose P_f__law_loose := fun _ _ _ _ _ _ us hl => match us, hl with | [_, _], _ => rfl
theorem bd_f__law_r_most : BindEq "_law_r_most" "_law_r_most" st_f__law_r_most P_f__law_r_most := fun _ _ _ _ _ _ us hl => match us, hl with | [_, _, _], _ => rfl
theorem bd_f__law_r_unseen : BindEq "_law_r_unseen" "_law_r_unseen" st_f__law_r_unseen P_f__law_r_unseen := fun _ _ _ _ _ _ us hl => match us, hl with | [_, _, _, _], _ => rfl
theorem bd_f__law_r_looks : BindEq "_law_r_looks" "_law_r_looks" st_f__law_r_looks P_f__law_r_looks := fun _ _ _ _ _ _ us hl => match us, hl with | [_, _, _], _ => rfl
theorem bd_f_check_days : BindEq "check_days" "check_days" st_f_check_days P_f_check_days := fun _ _ _ _ _ _ us hl => match us, hl with | [_], _ => rfl
theorem bd_f_Ring___len__ : BindEq "__len__" "Ring.__len__" st_f_Ring___len__ P_f_Ring___len__ := fun _ _ _ _ _ _ us hl => match us, hl with | [_], _ => rfl
theorem bd_f_Ring_hours : BindEq "hours" "Ring.hours" st_f_Ring_hours P_f_Ring_hours := fun _ _ _ _ _ _ us hl => match us, hl with | [_], _ => rfl
theorem bd_f_Ring_names : BindEq "names" "Ring.names" st_f_Ring_names P_f_Ring_names := fun _ _ _ _ _ _ us hl => match us, hl with | [_], _ => rfl
theorem bd_f_Ring___contains__ : BindEq "__contains__" "Ring.__contains__" st_f_Ring___contains__ P_f_Ring___contains__ := fun _ _ _ _ _ _ us hl => match us, hl with | [_, _], _ => rfl
theorem bd_f_Ring_arc : BindEq "arc" "Ring.arc" st_f_Ring_arc P_f_Ring_arc := fun _ _ _ _ _ _ us hl => match us, hl with | [_, _], _ => rfl
theorem bd_f_step_from : BindEq "step_from" "step_from" st_f_step_from P_f_step_from := fun _ _ _ _ _ _ us hl => match us, hl with | [_, _], _ => rfl
theorem bd_f_walk_from : BindEq "walk_from" "walk_from" st_f_walk_from P_f_walk_from := fun _ _ _ _ _ _ us hl => match us, hl with | [_, _], _ => rfl
theorem bd_f_round_from : BindEq "round_from" "round_from" st_f_round_from P_f_round_from := fun _ _ _ _ _ _ us hl => match us, hl with | [_], _ => rfl
theorem bd_f_common : BindEq "common" "common" st_f_common P_f_common := fun _ _ _ _ _ _ us hl => match us, hl with | [_, _], _ => rfl
theorem bd_f_lowest : BindEq "lowest" "lowest" st_f_lowest P_f_lowest := fun _ _ _ _ _ _ us hl => match us, hl with | [_, _], _ => rfl
theorem bd_f_ring_number : BindEq "ring_number" "ring_number" st_f_ring_number P_f_ring_number := fun _ _ _ _ _ _ us hl => match us, hl with | [_], _ => rfl
theorem bd_f_fewest_looks : BindEq "fewest_looks" "fewest_looks" st_f_fewest_looks P_f_fewest_looks := fun _ _ _ _ _ _ us hl => match us, hl with | [_, _], _ => rfl
theorem bd_f__law_same : BindEq "_law_same" "_law_same" st_f__law_same P_f__law_same := fun _ _ _ _ _ _ us hl => match us, hl with | [_, _], _ => rfl
theorem bd_f_most_apart : BindEq "most_apart" "most_apart" st_f_most_apart P_f_most_apart := fun _ _ _ _ _ _ us hl => match us, hl with | [_, _], _ => rfl
theorem bd_f__law_r_lowest : BindEq "_law_r_lowest" "_law_r_lowest" st_f__law_r_lowest P_f__law_r_lowest := fun _ _ _ _ _ _ us hl => match us, hl with | [_, _], _ => rfl
theorem bd_f__law_r_known : BindEq "_law_r_known" "_law_r_known" st_f__law_r_known P_f__law_r_known := fun _ _ _ _ _ _ us hl => match us, hl with | [_], _ => rfl
theorem bd_f_Ring_joined : BindEq "joined" "Ring.joined" st_f_Ring_joined P_f_Ring_joined := fun _ _ _ _ _ _ us hl => match us, hl with | [_, _], _ => rfl
theorem bd_f_law : BindEq "law" "law" st_f_law P_f_law := fun _ _ _ _ _ _ us hl => match us, hl with | [_], _ => rfl
theorem facts_mk {K : PySem.W.Frag} {h : Heap} {mg : Str → Option Value} (X : K.In h) (G : h.Ns mainGlobals mg)
    {C0 : Addr}
    (aC0 : PySem.W.nsIn K mainGlobals "Ring" = some (some (.ref C0)))
    (pg0 : PySem.W.plainGet K C0 Str.empty = true)
    (hd0 : PySem.W.hasDictIn K C0 = true)
    (po0 : PySem.W.plainOver K C0 = true)
    (sa0 : PySem.W.findIn K (.ref C0) "__setattr__" = some (some (.builtin "object.__setattr__")))
    (mk0 : PySem.W.makesIn K C0 = true)
    (kc0 : PySem.W.keepIn K (.ref C0) = true)
    (n_Ring_own_hours : PySem.W.findIn K (.ref C0) "own_hours" = some none)
    (n_Ring_own_arcs : PySem.W.findIn K (.ref C0) "own_arcs" = some none)
    {t_FORTY : Tok}
    (c_FORTY : PySem.W.nsIn K mainGlobals "FORTY" = some (some (.int 40 t_FORTY)))
    {t_LETTERS : Tok}
    (c_LETTERS : PySem.W.nsIn K mainGlobals "LETTERS" = some (some (.str "abcdefghijklmnopqrstuvwxyz" t_LETTERS)))
    {t_MILLION : Tok}
    (c_MILLION : PySem.W.nsIn K mainGlobals "MILLION" = some (some (.int 1000000 t_MILLION)))
    {t_MOST_HOURS : Tok}
    (c_MOST_HOURS : PySem.W.nsIn K mainGlobals "MOST_HOURS" = some (some (.int 1000 t_MOST_HOURS)))
    {t_SIGNS : Tok}
    (c_SIGNS : PySem.W.nsIn K mainGlobals "SIGNS" = some (some (.str "abcdefghijklmnopqrstuvwxyz0123456789" t_SIGNS)))
    {f0 : Addr} {od0 an0 : Option Addr} {sl0 : Array (Option Value)} {oc0 kV0 dc0 pm0 cd0 ct0 : Value}
    (a0 : PySem.W.nsIn K mainGlobals "_law_spring" = some (some (.ref f0)))
    (l0 : K.lookup f0 = some ⟨oc0, od0, .func (PySem.W.fnOf "_law_spring" "_law_spring" (defArgs st_f__law_spring) (defBody st_f__law_spring) (defScope st_f__law_spring) .none kV0 dc0 pm0 an0 cd0 ct0), sl0⟩)
    (c0 : PySem.W.codeIn K cd0 "_law_spring" = true)
    (k0 : PySem.W.keepIn K (.ref f0) = true)
    {f1 : Addr} {od1 an1 : Option Addr} {sl1 : Array (Option Value)} {oc1 kV1 dc1 pm1 cd1 ct1 : Value}
    (a1 : PySem.W.nsIn K mainGlobals "_law_draw" = some (some (.ref f1)))
    (l1 : K.lookup f1 = some ⟨oc1, od1, .func (PySem.W.fnOf "_law_draw" "_law_draw" (defArgs st_f__law_draw) (defBody st_f__law_draw) (defScope st_f__law_draw) .none kV1 dc1 pm1 an1 cd1 ct1), sl1⟩)
    (c1 : PySem.W.codeIn K cd1 "_law_draw" = true)
    (k1 : PySem.W.keepIn K (.ref f1) = true)
    {f2 : Addr} {od2 an2 : Option Addr} {sl2 : Array (Option Value)} {oc2 kV2 dc2 pm2 cd2 ct2 : Value}
    (a2 : PySem.W.nsIn K mainGlobals "_law_pick" = some (some (.ref f2)))
    (l2 : K.lookup f2 = some ⟨oc2, od2, .func (PySem.W.fnOf "_law_pick" "_law_pick" (defArgs st_f__law_pick) (defBody st_f__law_pick) (defScope st_f__law_pick) .none kV2 dc2 pm2 an2 cd2 ct2), sl2⟩)
    (c2 : PySem.W.codeIn K cd2 "_law_pick" = true)
    (k2 : PySem.W.keepIn K (.ref f2) = true)
    {f3 : Addr} {od3 an3 : Option Addr} {sl3 : Array (Option Value)} {oc3 kV3 dc3 pm3 cd3 ct3 : Value}
    (a3 : PySem.W.nsIn K mainGlobals "_law_w_name" = some (some (.ref f3)))
    (l3 : K.lookup f3 = some ⟨oc3, od3, .func (PySem.W.fnOf "_law_w_name" "_law_w_name" (defArgs st_f__law_w_name) (defBody st_f__law_w_name) (defScope st_f__law_w_name) .none kV3 dc3 pm3 an3 cd3 ct3), sl3⟩)
    (c3 : PySem.W.codeIn K cd3 "_law_w_name" = true)
    (k3 : PySem.W.keepIn K (.ref f3) = true)
    {f4 : Addr} {od4 an4 : Option Addr} {sl4 : Array (Option Value)} {oc4 kV4 dc4 pm4 cd4 ct4 : Value}
    (a4 : PySem.W.nsIn K mainGlobals "_law_w_names" = some (some (.ref f4)))
    (l4 : K.lookup f4 = some ⟨oc4, od4, .func (PySem.W.fnOf "_law_w_names" "_law_w_names" (defArgs st_f__law_w_names) (defBody st_f__law_w_names) (defScope st_f__law_w_names) .none kV4 dc4 pm4 an4 cd4 ct4), sl4⟩)
    (c4 : PySem.W.codeIn K cd4 "_law_w_names" = true)
    (k4 : PySem.W.keepIn K (.ref f4) = true)
    {f5 : Addr} {od5 an5 : Option Addr} {sl5 : Array (Option Value)} {oc5 kV5 dc5 pm5 cd5 ct5 : Value}
    (a5 : PySem.W.nsIn K mainGlobals "is_integer" = some (some (.ref f5)))
    (l5 : K.lookup f5 = some ⟨oc5, od5, .func (PySem.W.fnOf "is_integer" "is_integer" (defArgs st_f_is_integer) (defBody st_f_is_integer) (defScope st_f_is_integer) .none kV5 dc5 pm5 an5 cd5 ct5), sl5⟩)
    (c5 : PySem.W.codeIn K cd5 "is_integer" = true)
    (k5 : PySem.W.keepIn K (.ref f5) = true)
    {f6 : Addr} {od6 an6 : Option Addr} {sl6 : Array (Option Value)} {oc6 kV6 dc6 pm6 cd6 ct6 : Value}
    (a6 : PySem.W.nsIn K mainGlobals "is_between" = some (some (.ref f6)))
    (l6 : K.lookup f6 = some ⟨oc6, od6, .func (PySem.W.fnOf "is_between" "is_between" (defArgs st_f_is_between) (defBody st_f_is_between) (defScope st_f_is_between) .none kV6 dc6 pm6 an6 cd6 ct6), sl6⟩)
    (c6 : PySem.W.codeIn K cd6 "is_between" = true)
    (k6 : PySem.W.keepIn K (.ref f6) = true)
    {f7 : Addr} {od7 an7 : Option Addr} {sl7 : Array (Option Value)} {oc7 kV7 dc7 pm7 cd7 ct7 : Value}
    (a7 : PySem.W.nsIn K mainGlobals "check_hours" = some (some (.ref f7)))
    (l7 : K.lookup f7 = some ⟨oc7, od7, .func (PySem.W.fnOf "check_hours" "check_hours" (defArgs st_f_check_hours) (defBody st_f_check_hours) (defScope st_f_check_hours) .none kV7 dc7 pm7 an7 cd7 ct7), sl7⟩)
    (c7 : PySem.W.codeIn K cd7 "check_hours" = true)
    (k7 : PySem.W.keepIn K (.ref f7) = true)
    {f8 : Addr} {od8 an8 : Option Addr} {sl8 : Array (Option Value)} {oc8 kV8 dc8 pm8 cd8 ct8 : Value}
    (a8 : PySem.W.nsIn K mainGlobals "is_name" = some (some (.ref f8)))
    (l8 : K.lookup f8 = some ⟨oc8, od8, .func (PySem.W.fnOf "is_name" "is_name" (defArgs st_f_is_name) (defBody st_f_is_name) (defScope st_f_is_name) .none kV8 dc8 pm8 an8 cd8 ct8), sl8⟩)
    (c8 : PySem.W.codeIn K cd8 "is_name" = true)
    (k8 : PySem.W.keepIn K (.ref f8) = true)
    {f9 : Addr} {od9 an9 : Option Addr} {sl9 : Array (Option Value)} {oc9 kV9 dc9 pm9 cd9 ct9 : Value}
    (a9 : PySem.W.nsIn K mainGlobals "is_list" = some (some (.ref f9)))
    (l9 : K.lookup f9 = some ⟨oc9, od9, .func (PySem.W.fnOf "is_list" "is_list" (defArgs st_f_is_list) (defBody st_f_is_list) (defScope st_f_is_list) .none kV9 dc9 pm9 an9 cd9 ct9), sl9⟩)
    (c9 : PySem.W.codeIn K cd9 "is_list" = true)
    (k9 : PySem.W.keepIn K (.ref f9) = true)
    {f10 : Addr} {od10 an10 : Option Addr} {sl10 : Array (Option Value)} {oc10 kV10 dc10 pm10 cd10 ct10 : Value}
    (a10 : PySem.W.nsIn K mainGlobals "are_arcs" = some (some (.ref f10)))
    (l10 : K.lookup f10 = some ⟨oc10, od10, .func (PySem.W.fnOf "are_arcs" "are_arcs" (defArgs st_f_are_arcs) (defBody st_f_are_arcs) (defScope st_f_are_arcs) .none kV10 dc10 pm10 an10 cd10 ct10), sl10⟩)
    (c10 : PySem.W.codeIn K cd10 "are_arcs" = true)
    (k10 : PySem.W.keepIn K (.ref f10) = true)
    {f11 : Addr} {od11 an11 : Option Addr} {sl11 : Array (Option Value)} {oc11 kV11 dc11 pm11 cd11 ct11 : Value}
    (a11 : PySem.W.findIn K (.ref C0) "__init__" = some (some (.ref f11)))
    (i11 : PySem.W.isFn K (.ref f11) = true)
    (l11 : K.lookup f11 = some ⟨oc11, od11, .func (PySem.W.fnOf "__init__" "Ring.__init__" (defArgs st_f_Ring___init__) (defBody st_f_Ring___init__) (defScope st_f_Ring___init__) .none kV11 dc11 pm11 an11 cd11 ct11), sl11⟩)
    (c11 : PySem.W.codeIn K cd11 "Ring.__init__" = true)
    (k11 : PySem.W.keepIn K (.ref f11) = true)
    {f12 : Addr} {od12 an12 : Option Addr} {sl12 : Array (Option Value)} {oc12 kV12 dc12 pm12 cd12 ct12 : Value}
    (a12 : PySem.W.nsIn K mainGlobals "_law_mixed" = some (some (.ref f12)))
    (l12 : K.lookup f12 = some ⟨oc12, od12, .func (PySem.W.fnOf "_law_mixed" "_law_mixed" (defArgs st_f__law_mixed) (defBody st_f__law_mixed) (defScope st_f__law_mixed) .none kV12 dc12 pm12 an12 cd12 ct12), sl12⟩)
    (c12 : PySem.W.codeIn K cd12 "_law_mixed" = true)
    (k12 : PySem.W.keepIn K (.ref f12) = true)
    {f13 : Addr} {od13 an13 : Option Addr} {sl13 : Array (Option Value)} {oc13 kV13 dc13 pm13 cd13 ct13 : Value}
    (a13 : PySem.W.nsIn K mainGlobals "_law_loose" = some (some (.ref f13)))
    (l13 : K.lookup f13 = some ⟨oc13, od13, .func (PySem.W.fnOf "_law_loose" "_law_loose" (defArgs st_f__law_loose) (defBody st_f__law_loose) (defScope st_f__law_loose) .none kV13 dc13 pm13 an13 cd13 ct13), sl13⟩)
    (c13 : PySem.W.codeIn K cd13 "_law_loose" = true)
    (k13 : PySem.W.keepIn K (.ref f13) = true)
    {f14 : Addr} {od14 an14 : Option Addr} {sl14 : Array (Option Value)} {oc14 kV14 dc14 pm14 cd14 ct14 : Value}
    (a14 : PySem.W.nsIn K mainGlobals "_law_r_most" = some (some (.ref f14)))
    (l14 : K.lookup f14 = some ⟨oc14, od14, .func (PySem.W.fnOf "_law_r_most" "_law_r_most" (defArgs st_f__law_r_most) (defBody st_f__law_r_most) (defScope st_f__law_r_most) .none kV14 dc14 pm14 an14 cd14 ct14), sl14⟩)
    (c14 : PySem.W.codeIn K cd14 "_law_r_most" = true)
    (k14 : PySem.W.keepIn K (.ref f14) = true)
    {f15 : Addr} {od15 an15 : Option Addr} {sl15 : Array (Option Value)} {oc15 kV15 dc15 pm15 cd15 ct15 : Value}
    (a15 : PySem.W.nsIn K mainGlobals "_law_r_unseen" = some (some (.ref f15)))
    (l15 : K.lookup f15 = some ⟨oc15, od15, .func (PySem.W.fnOf "_law_r_unseen" "_law_r_unseen" (defArgs st_f__law_r_unseen) (defBody st_f__law_r_unseen) (defScope st_f__law_r_unseen) .none kV15 dc15 pm15 an15 cd15 ct15), sl15⟩)
    (c15 : PySem.W.codeIn K cd15 "_law_r_unseen" = true)
    (k15 : PySem.W.keepIn K (.ref f15) = true)
    {f16 : Addr} {od16 an16 : Option Addr} {sl16 : Array (Option Value)} {oc16 kV16 dc16 pm16 cd16 ct16 : Value}
    (a16 : PySem.W.nsIn K mainGlobals "_law_r_looks" = some (some (.ref f16)))
    (l16 : K.lookup f16 = some ⟨oc16, od16, .func (PySem.W.fnOf "_law_r_looks" "_law_r_looks" (defArgs st_f__law_r_looks) (defBody st_f__law_r_looks) (defScope st_f__law_r_looks) .none kV16 dc16 pm16 an16 cd16 ct16), sl16⟩)
    (c16 : PySem.W.codeIn K cd16 "_law_r_looks" = true)
    (k16 : PySem.W.keepIn K (.ref f16) = true)
    {f17 : Addr} {od17 an17 : Option Addr} {sl17 : Array (Option Value)} {oc17 kV17 dc17 pm17 cd17 ct17 : Value}
    (a17 : PySem.W.nsIn K mainGlobals "check_days" = some (some (.ref f17)))
    (l17 : K.lookup f17 = some ⟨oc17, od17, .func (PySem.W.fnOf "check_days" "check_days" (defArgs st_f_check_days) (defBody st_f_check_days) (defScope st_f_check_days) .none kV17 dc17 pm17 an17 cd17 ct17), sl17⟩)
    (c17 : PySem.W.codeIn K cd17 "check_days" = true)
    (k17 : PySem.W.keepIn K (.ref f17) = true)
    {f18 : Addr} {od18 an18 : Option Addr} {sl18 : Array (Option Value)} {oc18 kV18 dc18 pm18 cd18 ct18 : Value}
    (a18 : PySem.W.findIn K (.ref C0) "__len__" = some (some (.ref f18)))
    (i18 : PySem.W.isFn K (.ref f18) = true)
    (l18 : K.lookup f18 = some ⟨oc18, od18, .func (PySem.W.fnOf "__len__" "Ring.__len__" (defArgs st_f_Ring___len__) (defBody st_f_Ring___len__) (defScope st_f_Ring___len__) .none kV18 dc18 pm18 an18 cd18 ct18), sl18⟩)
    (c18 : PySem.W.codeIn K cd18 "Ring.__len__" = true)
    (k18 : PySem.W.keepIn K (.ref f18) = true)
    {f19 : Addr} {od19 an19 : Option Addr} {sl19 : Array (Option Value)} {oc19 kV19 dc19 pm19 cd19 ct19 : Value}
    (a19 : PySem.W.findIn K (.ref C0) "hours" = some (some (.ref f19)))
    (i19 : PySem.W.isFn K (.ref f19) = true)
    (l19 : K.lookup f19 = some ⟨oc19, od19, .func (PySem.W.fnOf "hours" "Ring.hours" (defArgs st_f_Ring_hours) (defBody st_f_Ring_hours) (defScope st_f_Ring_hours) .none kV19 dc19 pm19 an19 cd19 ct19), sl19⟩)
    (c19 : PySem.W.codeIn K cd19 "Ring.hours" = true)
    (k19 : PySem.W.keepIn K (.ref f19) = true)
    {f20 : Addr} {od20 an20 : Option Addr} {sl20 : Array (Option Value)} {oc20 kV20 dc20 pm20 cd20 ct20 : Value}
    (a20 : PySem.W.findIn K (.ref C0) "names" = some (some (.ref f20)))
    (i20 : PySem.W.isFn K (.ref f20) = true)
    (l20 : K.lookup f20 = some ⟨oc20, od20, .func (PySem.W.fnOf "names" "Ring.names" (defArgs st_f_Ring_names) (defBody st_f_Ring_names) (defScope st_f_Ring_names) .none kV20 dc20 pm20 an20 cd20 ct20), sl20⟩)
    (c20 : PySem.W.codeIn K cd20 "Ring.names" = true)
    (k20 : PySem.W.keepIn K (.ref f20) = true)
    {f21 : Addr} {od21 an21 : Option Addr} {sl21 : Array (Option Value)} {oc21 kV21 dc21 pm21 cd21 ct21 : Value}
    (a21 : PySem.W.findIn K (.ref C0) "__contains__" = some (some (.ref f21)))
    (i21 : PySem.W.isFn K (.ref f21) = true)
    (l21 : K.lookup f21 = some ⟨oc21, od21, .func (PySem.W.fnOf "__contains__" "Ring.__contains__" (defArgs st_f_Ring___contains__) (defBody st_f_Ring___contains__) (defScope st_f_Ring___contains__) .none kV21 dc21 pm21 an21 cd21 ct21), sl21⟩)
    (c21 : PySem.W.codeIn K cd21 "Ring.__contains__" = true)
    (k21 : PySem.W.keepIn K (.ref f21) = true)
    {f22 : Addr} {od22 an22 : Option Addr} {sl22 : Array (Option Value)} {oc22 kV22 dc22 pm22 cd22 ct22 : Value}
    (a22 : PySem.W.findIn K (.ref C0) "arc" = some (some (.ref f22)))
    (i22 : PySem.W.isFn K (.ref f22) = true)
    (l22 : K.lookup f22 = some ⟨oc22, od22, .func (PySem.W.fnOf "arc" "Ring.arc" (defArgs st_f_Ring_arc) (defBody st_f_Ring_arc) (defScope st_f_Ring_arc) .none kV22 dc22 pm22 an22 cd22 ct22), sl22⟩)
    (c22 : PySem.W.codeIn K cd22 "Ring.arc" = true)
    (k22 : PySem.W.keepIn K (.ref f22) = true)
    {f23 : Addr} {od23 an23 : Option Addr} {sl23 : Array (Option Value)} {oc23 kV23 dc23 pm23 cd23 ct23 : Value}
    (a23 : PySem.W.nsIn K mainGlobals "step_from" = some (some (.ref f23)))
    (l23 : K.lookup f23 = some ⟨oc23, od23, .func (PySem.W.fnOf "step_from" "step_from" (defArgs st_f_step_from) (defBody st_f_step_from) (defScope st_f_step_from) .none kV23 dc23 pm23 an23 cd23 ct23), sl23⟩)
    (c23 : PySem.W.codeIn K cd23 "step_from" = true)
    (k23 : PySem.W.keepIn K (.ref f23) = true)
    {f24 : Addr} {od24 an24 : Option Addr} {sl24 : Array (Option Value)} {oc24 kV24 dc24 pm24 cd24 ct24 : Value}
    (a24 : PySem.W.nsIn K mainGlobals "walk_from" = some (some (.ref f24)))
    (l24 : K.lookup f24 = some ⟨oc24, od24, .func (PySem.W.fnOf "walk_from" "walk_from" (defArgs st_f_walk_from) (defBody st_f_walk_from) (defScope st_f_walk_from) .none kV24 dc24 pm24 an24 cd24 ct24), sl24⟩)
    (c24 : PySem.W.codeIn K cd24 "walk_from" = true)
    (k24 : PySem.W.keepIn K (.ref f24) = true)
    {f25 : Addr} {od25 an25 : Option Addr} {sl25 : Array (Option Value)} {oc25 kV25 dc25 pm25 cd25 ct25 : Value}
    (a25 : PySem.W.nsIn K mainGlobals "round_from" = some (some (.ref f25)))
    (l25 : K.lookup f25 = some ⟨oc25, od25, .func (PySem.W.fnOf "round_from" "round_from" (defArgs st_f_round_from) (defBody st_f_round_from) (defScope st_f_round_from) .none kV25 dc25 pm25 an25 cd25 ct25), sl25⟩)
    (c25 : PySem.W.codeIn K cd25 "round_from" = true)
    (k25 : PySem.W.keepIn K (.ref f25) = true)
    {f26 : Addr} {od26 an26 : Option Addr} {sl26 : Array (Option Value)} {oc26 kV26 dc26 pm26 cd26 ct26 : Value}
    (a26 : PySem.W.nsIn K mainGlobals "common" = some (some (.ref f26)))
    (l26 : K.lookup f26 = some ⟨oc26, od26, .func (PySem.W.fnOf "common" "common" (defArgs st_f_common) (defBody st_f_common) (defScope st_f_common) .none kV26 dc26 pm26 an26 cd26 ct26), sl26⟩)
    (c26 : PySem.W.codeIn K cd26 "common" = true)
    (k26 : PySem.W.keepIn K (.ref f26) = true)
    {f27 : Addr} {od27 an27 : Option Addr} {sl27 : Array (Option Value)} {oc27 kV27 dc27 pm27 cd27 ct27 : Value}
    (a27 : PySem.W.nsIn K mainGlobals "lowest" = some (some (.ref f27)))
    (l27 : K.lookup f27 = some ⟨oc27, od27, .func (PySem.W.fnOf "lowest" "lowest" (defArgs st_f_lowest) (defBody st_f_lowest) (defScope st_f_lowest) .none kV27 dc27 pm27 an27 cd27 ct27), sl27⟩)
    (c27 : PySem.W.codeIn K cd27 "lowest" = true)
    (k27 : PySem.W.keepIn K (.ref f27) = true)
    {f28 : Addr} {od28 an28 : Option Addr} {sl28 : Array (Option Value)} {oc28 kV28 dc28 pm28 cd28 ct28 : Value}
    (a28 : PySem.W.nsIn K mainGlobals "ring_number" = some (some (.ref f28)))
    (l28 : K.lookup f28 = some ⟨oc28, od28, .func (PySem.W.fnOf "ring_number" "ring_number" (defArgs st_f_ring_number) (defBody st_f_ring_number) (defScope st_f_ring_number) .none kV28 dc28 pm28 an28 cd28 ct28), sl28⟩)
    (c28 : PySem.W.codeIn K cd28 "ring_number" = true)
    (k28 : PySem.W.keepIn K (.ref f28) = true)
    {f29 : Addr} {od29 an29 : Option Addr} {sl29 : Array (Option Value)} {oc29 kV29 dc29 pm29 cd29 ct29 : Value}
    (a29 : PySem.W.nsIn K mainGlobals "fewest_looks" = some (some (.ref f29)))
    (l29 : K.lookup f29 = some ⟨oc29, od29, .func (PySem.W.fnOf "fewest_looks" "fewest_looks" (defArgs st_f_fewest_looks) (defBody st_f_fewest_looks) (defScope st_f_fewest_looks) .none kV29 dc29 pm29 an29 cd29 ct29), sl29⟩)
    (c29 : PySem.W.codeIn K cd29 "fewest_looks" = true)
    (k29 : PySem.W.keepIn K (.ref f29) = true)
    {f30 : Addr} {od30 an30 : Option Addr} {sl30 : Array (Option Value)} {oc30 kV30 dc30 pm30 cd30 ct30 : Value}
    (a30 : PySem.W.nsIn K mainGlobals "_law_same" = some (some (.ref f30)))
    (l30 : K.lookup f30 = some ⟨oc30, od30, .func (PySem.W.fnOf "_law_same" "_law_same" (defArgs st_f__law_same) (defBody st_f__law_same) (defScope st_f__law_same) .none kV30 dc30 pm30 an30 cd30 ct30), sl30⟩)
    (c30 : PySem.W.codeIn K cd30 "_law_same" = true)
    (k30 : PySem.W.keepIn K (.ref f30) = true)
    {f31 : Addr} {od31 an31 : Option Addr} {sl31 : Array (Option Value)} {oc31 kV31 dc31 pm31 cd31 ct31 : Value}
    (a31 : PySem.W.nsIn K mainGlobals "most_apart" = some (some (.ref f31)))
    (l31 : K.lookup f31 = some ⟨oc31, od31, .func (PySem.W.fnOf "most_apart" "most_apart" (defArgs st_f_most_apart) (defBody st_f_most_apart) (defScope st_f_most_apart) .none kV31 dc31 pm31 an31 cd31 ct31), sl31⟩)
    (c31 : PySem.W.codeIn K cd31 "most_apart" = true)
    (k31 : PySem.W.keepIn K (.ref f31) = true)
    {f32 : Addr} {od32 an32 : Option Addr} {sl32 : Array (Option Value)} {oc32 kV32 dc32 pm32 cd32 ct32 : Value}
    (a32 : PySem.W.nsIn K mainGlobals "_law_r_lowest" = some (some (.ref f32)))
    (l32 : K.lookup f32 = some ⟨oc32, od32, .func (PySem.W.fnOf "_law_r_lowest" "_law_r_lowest" (defArgs st_f__law_r_lowest) (defBody st_f__law_r_lowest) (defScope st_f__law_r_lowest) .none kV32 dc32 pm32 an32 cd32 ct32), sl32⟩)
    (c32 : PySem.W.codeIn K cd32 "_law_r_lowest" = true)
    (k32 : PySem.W.keepIn K (.ref f32) = true)
    {f33 : Addr} {od33 an33 : Option Addr} {sl33 : Array (Option Value)} {oc33 kV33 dc33 pm33 cd33 ct33 : Value}
    (a33 : PySem.W.nsIn K mainGlobals "_law_r_known" = some (some (.ref f33)))
    (l33 : K.lookup f33 = some ⟨oc33, od33, .func (PySem.W.fnOf "_law_r_known" "_law_r_known" (defArgs st_f__law_r_known) (defBody st_f__law_r_known) (defScope st_f__law_r_known) .none kV33 dc33 pm33 an33 cd33 ct33), sl33⟩)
    (c33 : PySem.W.codeIn K cd33 "_law_r_known" = true)
    (k33 : PySem.W.keepIn K (.ref f33) = true)
    {f34 : Addr} {od34 an34 : Option Addr} {sl34 : Array (Option Value)} {oc34 kV34 dc34 pm34 cd34 ct34 : Value}
    (a34 : PySem.W.findIn K (.ref C0) "joined" = some (some (.ref f34)))
    (i34 : PySem.W.isFn K (.ref f34) = true)
    (l34 : K.lookup f34 = some ⟨oc34, od34, .func (PySem.W.fnOf "joined" "Ring.joined" (defArgs st_f_Ring_joined) (defBody st_f_Ring_joined) (defScope st_f_Ring_joined) .none kV34 dc34 pm34 an34 cd34 ct34), sl34⟩)
    (c34 : PySem.W.codeIn K cd34 "Ring.joined" = true)
    (k34 : PySem.W.keepIn K (.ref f34) = true)
    {f35 : Addr} {od35 an35 : Option Addr} {sl35 : Array (Option Value)} {oc35 kV35 dc35 pm35 cd35 ct35 : Value}
    (a35 : PySem.W.nsIn K mainGlobals "law" = some (some (.ref f35)))
    (l35 : K.lookup f35 = some ⟨oc35, od35, .func (PySem.W.fnOf "law" "law" (defArgs st_f_law) (defBody st_f_law) (defScope st_f_law) .none kV35 dc35 pm35 an35 cd35 ct35), sl35⟩)
    (c35 : PySem.W.codeIn K cd35 "law" = true)
    (k35 : PySem.W.keepIn K (.ref f35) = true)
    (z_len : PySem.W.nsIn K mainGlobals "len" = some none)
    (z_isinstance : PySem.W.nsIn K mainGlobals "isinstance" = some none)
    (z_int : PySem.W.nsIn K mainGlobals "int" = some none)
    (z_str : PySem.W.nsIn K mainGlobals "str" = some none)
    (z_bool : PySem.W.nsIn K mainGlobals "bool" = some none)
    (z_list : PySem.W.nsIn K mainGlobals "list" = some none)
    (z_dict : PySem.W.nsIn K mainGlobals "dict" = some none)
    (z_tuple : PySem.W.nsIn K mainGlobals "tuple" = some none)
    (z_range : PySem.W.nsIn K mainGlobals "range" = some none)
    (z_enumerate : PySem.W.nsIn K mainGlobals "enumerate" = some none)
    (z_zip : PySem.W.nsIn K mainGlobals "zip" = some none)
    (z_sorted : PySem.W.nsIn K mainGlobals "sorted" = some none)
    (z_min : PySem.W.nsIn K mainGlobals "min" = some none)
    (z_max : PySem.W.nsIn K mainGlobals "max" = some none)
    (z_any : PySem.W.nsIn K mainGlobals "any" = some none)
    (z_all : PySem.W.nsIn K mainGlobals "all" = some none)
    (z_sum : PySem.W.nsIn K mainGlobals "sum" = some none)
    (z_abs : PySem.W.nsIn K mainGlobals "abs" = some none)
    (z_repr : PySem.W.nsIn K mainGlobals "repr" = some none)
    (z_reversed : PySem.W.nsIn K mainGlobals "reversed" = some none)
    (z_iter : PySem.W.nsIn K mainGlobals "iter" = some none) :
    ∃ c : Nat → Addr, Facts K mg c :=
  ⟨fun i => match i with | 0 => C0 | _ => 0, ⟨⟨PySem.W.mg_none_of X G z_len, PySem.W.mg_none_of X G z_isinstance, PySem.W.mg_none_of X G z_int, PySem.W.mg_none_of X G z_str, PySem.W.mg_none_of X G z_bool, PySem.W.mg_none_of X G z_list, PySem.W.mg_none_of X G z_dict, PySem.W.mg_none_of X G z_tuple, PySem.W.mg_none_of X G z_range, PySem.W.mg_none_of X G z_enumerate, PySem.W.mg_none_of X G z_zip, PySem.W.mg_none_of X G z_sorted, PySem.W.mg_none_of X G z_min, PySem.W.mg_none_of X G z_max, PySem.W.mg_none_of X G z_any, PySem.W.mg_none_of X G z_all, PySem.W.mg_none_of X G z_sum, PySem.W.mg_none_of X G z_abs, PySem.W.mg_none_of X G z_repr, PySem.W.mg_none_of X G z_reversed, PySem.W.mg_none_of X G z_iter⟩, ⟨⟨pg0, hd0, po0, sa0⟩, PySem.W.mg_of X G aC0, mk0, kc0⟩,
    n_Ring_own_hours,
    n_Ring_own_arcs,
    ⟨_, PySem.W.mg_of X G c_FORTY⟩,
    ⟨_, PySem.W.mg_of X G c_LETTERS⟩,
    ⟨_, PySem.W.mg_of X G c_MILLION⟩,
    ⟨_, PySem.W.mg_of X G c_MOST_HOURS⟩,
    ⟨_, PySem.W.mg_of X G c_SIGNS⟩,
    F0.of X G bd_f__law_spring a0 l0 c0 k0,
    F0.of X G bd_f__law_draw a1 l1 c1 k1,
    F0.of X G bd_f__law_pick a2 l2 c2 k2,
    F0.of X G bd_f__law_w_name a3 l3 c3 k3,
    F0.of X G bd_f__law_w_names a4 l4 c4 k4,
    F0.of X G bd_f_is_integer a5 l5 c5 k5,
    F0.of X G bd_f_is_between a6 l6 c6 k6,
    F0.of X G bd_f_check_hours a7 l7 c7 k7,
    F0.of X G bd_f_is_name a8 l8 c8 k8,
    F0.of X G bd_f_is_list a9 l9 c9 k9,
    F0.of X G bd_f_are_arcs a10 l10 c10 k10,
    M0.of bd_f_Ring___init__ a11 i11 l11 c11 k11,
    F0.of X G bd_f__law_mixed a12 l12 c12 k12,
    F0.of X G bd_f__law_loose a13 l13 c13 k13,
    F0.of X G bd_f__law_r_most a14 l14 c14 k14,
    F0.of X G bd_f__law_r_unseen a15 l15 c15 k15,
    F0.of X G bd_f__law_r_looks a16 l16 c16 k16,
    F0.of X G bd_f_check_days a17 l17 c17 k17,
    M0.of bd_f_Ring___len__ a18 i18 l18 c18 k18,
    M0.of bd_f_Ring_hours a19 i19 l19 c19 k19,
    M0.of bd_f_Ring_names a20 i20 l20 c20 k20,
    M0.of bd_f_Ring___contains__ a21 i21 l21 c21 k21,
    M0.of bd_f_Ring_arc a22 i22 l22 c22 k22,
    F0.of X G bd_f_step_from a23 l23 c23 k23,
    F0.of X G bd_f_walk_from a24 l24 c24 k24,
    F0.of X G bd_f_round_from a25 l25 c25 k25,
    F0.of X G bd_f_common a26 l26 c26 k26,
    F0.of X G bd_f_lowest a27 l27 c27 k27,
    F0.of X G bd_f_ring_number a28 l28 c28 k28,
    F0.of X G bd_f_fewest_looks a29 l29 c29 k29,
    F0.of X G bd_f__law_same a30 l30 c30 k30,
    F0.of X G bd_f_most_apart a31 l31 c31 k31,
    F0.of X G bd_f__law_r_lowest a32 l32 c32 k32,
    F0.of X G bd_f__law_r_known a33 l33 c33 k33,
    M0.of bd_f_Ring_joined a34 i34 l34 c34 k34,
    F0.of X G bd_f_law a35 l35 c35 k35⟩⟩
theorem ended {l : PySem.W.OpenLaw} {q : Program} {loose : List Str} {XP : (Str → Option Value) → Heap → Prop} {YP : World → Heap → Prop} {d : DefRec} {K : Params → PySem.W.Frag} (hn : l.most = some 63) (hdf : d.params.defaults = [])
    (hY : ∀ (w : World) (h : Heap), YP w h → (K w.params).In h)
    (F : ∀ (w : World) (mg : Str → Option Value) (h : Heap), (K w.params).In h → h.Ns mainGlobals mg → ∃ c : Nat → Addr, Facts (K w.params) mg c) (hd : d.name = "law") :
    PySem.W.WalkO q loose XP YP l.row.toRowW d [] (fun f vs => PySem.call f vs) := by
  refine walkEnd (k := 9) hn hdf ⟨rfl, by decide, by decide⟩ hY fun w mg fa h X G hm => ?_
  obtain ⟨c, Fa⟩ := F w mg h X G
  rw [hd] at hm
  exact law_mk hm bd_f_law Fa.f_law (fun base => f_law_ok Fa) law_true
end DV
open PySem PySem.W PyProof.Rows
set_option maxRecDepth 100000 in
set_option maxHeartbeats 0 in
theorem PySem.Challenge.cw_ringnumber_k10_whole_numbers_by_going_th_holds : PySem.Challenge.rw_ringnumber_k10_whole_numbers_by_going_th.Holds := by
  w_on; o_law; k_head; (case hw => w_witness2)
  k_fill
  refine DV.ended (l := PySem.Challenge.rw_ringnumber_k10_whole_numbers_by_going_th) rfl rfl (fun w h Y => PySem.W.kIn_of Y) ?F rfl
  case F =>
    intro w mg h KX G
    refine' DV.facts_mk KX G ?aC0 ?pg0 ?hd0 ?po0 ?sa0 ?mk0 ?kc0 ?n_Ring_own_hours ?n_Ring_own_arcs ?c_FORTY ?c_LETTERS ?c_MILLION ?c_MOST_HOURS ?c_SIGNS ?a0 ?l0 ?c0 ?k0 ?a1 ?l1 ?c1 ?k1 ?a2 ?l2 ?c2 ?k2 ?a3 ?l3 ?c3 ?k3 ?a4 ?l4 ?c4 ?k4 ?a5 ?l5 ?c5 ?k5 ?a6 ?l6 ?c6 ?k6 ?a7 ?l7 ?c7 ?k7 ?a8 ?l8 ?c8 ?k8 ?a9 ?l9 ?c9 ?k9 ?a10 ?l10 ?c10 ?k10 ?a11 ?i11 ?l11 ?c11 ?k11 ?a12 ?l12 ?c12 ?k12 ?a13 ?l13 ?c13 ?k13 ?a14 ?l14 ?c14 ?k14 ?a15 ?l15 ?c15 ?k15 ?a16 ?l16 ?c16 ?k16 ?a17 ?l17 ?c17 ?k17 ?a18 ?i18 ?l18 ?c18 ?k18 ?a19 ?i19 ?l19 ?c19 ?k19 ?a20 ?i20 ?l20 ?c20 ?k20 ?a21 ?i21 ?l21 ?c21 ?k21 ?a22 ?i22 ?l22 ?c22 ?k22 ?a23 ?l23 ?c23 ?k23 ?a24 ?l24 ?c24 ?k24 ?a25 ?l25 ?c25 ?k25 ?a26 ?l26 ?c26 ?k26 ?a27 ?l27 ?c27 ?k27 ?a28 ?l28 ?c28 ?k28 ?a29 ?l29 ?c29 ?k29 ?a30 ?l30 ?c30 ?k30 ?a31 ?l31 ?c31 ?k31 ?a32 ?l32 ?c32 ?k32 ?a33 ?l33 ?c33 ?k33 ?a34 ?i34 ?l34 ?c34 ?k34 ?a35 ?l35 ?c35 ?k35 ?z_len ?z_isinstance ?z_int ?z_str ?z_bool ?z_list ?z_dict ?z_tuple ?z_range ?z_enumerate ?z_zip ?z_sorted ?z_min ?z_max ?z_any ?z_all ?z_sum ?z_abs ?z_repr ?z_reversed ?z_iter
    (case aC0 => k_is)
    (case pg0 => k_is)
    (case hd0 => k_is)
    (case po0 => k_is)
    (case sa0 => k_is)
    (case mk0 => k_is)
    (case kc0 => k_is)
    (case n_Ring_own_hours => k_is)
    (case n_Ring_own_arcs => k_is)
    (case c_FORTY => k_is)
    (case c_LETTERS => k_is)
    (case c_MILLION => k_is)
    (case c_MOST_HOURS => k_is)
    (case c_SIGNS => k_is)
    (case a0 => k_is)
    (case l0 => k_is)
    (case c0 => k_is)
    (case k0 => k_is)
    (case a1 => k_is)
    (case l1 => k_is)
    (case c1 => k_is)
    (case k1 => k_is)
    (case a2 => k_is)
    (case l2 => k_is)
    (case c2 => k_is)
    (case k2 => k_is)
    (case a3 => k_is)
    (case l3 => k_is)
    (case c3 => k_is)
    (case k3 => k_is)
    (case a4 => k_is)
    (case l4 => k_is)
    (case c4 => k_is)
    (case k4 => k_is)
    (case a5 => k_is)
    (case l5 => k_is)
    (case c5 => k_is)
    (case k5 => k_is)
    (case a6 => k_is)
    (case l6 => k_is)
    (case c6 => k_is)
    (case k6 => k_is)
    (case a7 => k_is)
    (case l7 => k_is)
    (case c7 => k_is)
    (case k7 => k_is)
    (case a8 => k_is)
    (case l8 => k_is)
    (case c8 => k_is)
    (case k8 => k_is)
    (case a9 => k_is)
    (case l9 => k_is)
    (case c9 => k_is)
    (case k9 => k_is)
    (case a10 => k_is)
    (case l10 => k_is)
    (case c10 => k_is)
    (case k10 => k_is)
    (case a11 => k_is)
    (case i11 => k_is)
    (case l11 => k_is)
    (case c11 => k_is)
    (case k11 => k_is)
    (case a12 => k_is)
    (case l12 => k_is)
    (case c12 => k_is)
    (case k12 => k_is)
    (case a13 => k_is)
    (case l13 => k_is)
    (case c13 => k_is)
    (case k13 => k_is)
    (case a14 => k_is)
    (case l14 => k_is)
    (case c14 => k_is)
    (case k14 => k_is)
    (case a15 => k_is)
    (case l15 => k_is)
    (case c15 => k_is)
    (case k15 => k_is)
    (case a16 => k_is)
    (case l16 => k_is)
    (case c16 => k_is)
    (case k16 => k_is)
    (case a17 => k_is)
    (case l17 => k_is)
    (case c17 => k_is)
    (case k17 => k_is)
    (case a18 => k_is)
    (case i18 => k_is)
    (case l18 => k_is)
    (case c18 => k_is)
    (case k18 => k_is)
    (case a19 => k_is)
    (case i19 => k_is)
    (case l19 => k_is)
    (case c19 => k_is)
    (case k19 => k_is)
    (case a20 => k_is)
    (case i20 => k_is)
    (case l20 => k_is)
    (case c20 => k_is)
    (case k20 => k_is)
    (case a21 => k_is)
    (case i21 => k_is)
    (case l21 => k_is)
    (case c21 => k_is)
    (case k21 => k_is)
    (case a22 => k_is)
    (case i22 => k_is)
    (case l22 => k_is)
    (case c22 => k_is)
    (case k22 => k_is)
    (case a23 => k_is)
    (case l23 => k_is)
    (case c23 => k_is)
    (case k23 => k_is)
    (case a24 => k_is)
    (case l24 => k_is)
    (case c24 => k_is)
    (case k24 => k_is)
    (case a25 => k_is)
    (case l25 => k_is)
    (case c25 => k_is)
    (case k25 => k_is)
    (case a26 => k_is)
    (case l26 => k_is)
    (case c26 => k_is)
    (case k26 => k_is)
    (case a27 => k_is)
    (case l27 => k_is)
    (case c27 => k_is)
    (case k27 => k_is)
    (case a28 => k_is)
    (case l28 => k_is)
    (case c28 => k_is)
    (case k28 => k_is)
    (case a29 => k_is)
    (case l29 => k_is)
    (case c29 => k_is)
    (case k29 => k_is)
    (case a30 => k_is)
    (case l30 => k_is)
    (case c30 => k_is)
    (case k30 => k_is)
    (case a31 => k_is)
    (case l31 => k_is)
    (case c31 => k_is)
    (case k31 => k_is)
    (case a32 => k_is)
    (case l32 => k_is)
    (case c32 => k_is)
    (case k32 => k_is)
    (case a33 => k_is)
    (case l33 => k_is)
    (case c33 => k_is)
    (case k33 => k_is)
    (case a34 => k_is)
    (case i34 => k_is)
    (case l34 => k_is)
    (case c34 => k_is)
    (case k34 => k_is)
    (case a35 => k_is)
    (case l35 => k_is)
    (case c35 => k_is)
    (case k35 => k_is)
    (case z_len => k_is)
    (case z_isinstance => k_is)
    (case z_int => k_is)
    (case z_str => k_is)
    (case z_bool => k_is)
    (case z_list => k_is)
    (case z_dict => k_is)
    (case z_tuple => k_is)
    (case z_range => k_is)
    (case z_enumerate => k_is)
    (case z_zip => k_is)
    (case z_sorted => k_is)
    (case z_min => k_is)
    (case z_max => k_is)
    (case z_any => k_is)
    (case z_all => k_is)
    (case z_sum => k_is)
    (case z_abs => k_is)
    (case z_repr => k_is)
    (case z_reversed => k_is)
    (case z_iter => k_is)

