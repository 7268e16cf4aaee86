import PyProof.Rows.All
import Wide.All
import OpenK.AllK
import Wide.FinOn
import HandS.ForMost
import HandS.ForExc
import HandS.ExcCtx
import HandS.HotCalls
import HandS.ExcInit
import HandS.ExcValue
import HandS.Wide
import HandS.TupAny
import HandS.Deep
import HandS.Style
import HandS.Zip
import HandS.DictComp
import KE.LtData
import HandS.Flow
import HandS.Iter
import HandS.Defaults
import HandS.MakeKwOnly
import HandS.ClsMeth
import HandS.IsInst
import KE.KExcIs
import HandS.MakeKw
import HandS.ExcField
import HandS.ExcIs
import HandS.Small
import HandS.Head0
import HandS.Head1
import HandS.Head2
import HandS.HeadEnd
import HandS.HeadHook1
import HandS.HeadHook2
import HandS.Ends
import HandS.More
import HandS.Words
import HandS.WordsExc
import KE.KStateDown
import Lean
import PySem.Challenge.RW_spanloom_k50_refusals_apart
set_option Elab.async false
set_option linter.all false
set_option maxRecDepth 100000
set_option maxHeartbeats 0
/-! Ms: a data level over the hand layer. Values without addresses (D), states (Sta), computations (M), and what it means that a heap bears a state (Rep). -/
namespace Ms
open PySem PySem.Spec PyProof.Rows L2
inductive D where
  | non | bl (b : Bool) | int (i : Int) | str (x : Str)
  | tup (l : List D) | lst (l : List D) | dct (t : Nat) (ks vs : List D)
  | exc (c n : Str) (v : D)
  | ref (g : Nat) | own (i : Nat) | scr (l : List Int)
/-- a thing that may change -/
inductive MO where
  | lst (l : List D) | dct (t : Nat) (ks vs : List D) | ins (c : Str) (ns : List Str) (vs : List D)
inductive Slot where
  | no | val (d : D) | own (o : MO)
structure Sta where
  ρ : List Slot
  G : List MO
inductive Out (α : Type) where
  | ok (a : α) (s : Sta) | exc (e : D) (s : Sta) | stuck
abbrev M (α : Type) := Sta → Out α
def M.pure {α : Type} (a : α) : M α := fun s => .ok a s
def M.bind {α β : Type} (m : M α) (k : α → M β) : M β := fun s => match m s with
  | .ok a s' => k a s'
  | .exc e s' => .exc e s'
  | .stuck => .stuck
def M.stuck {α : Type} : M α := fun _ => .stuck
instance : Monad M where
  pure := M.pure
  bind := M.bind
def D.isOwn : D → Bool
  | .own _ => true
  | _ => false
/-! ### what a heap bears -/
/-- the written part and the module's names -/
structure RC where
  K : PySem.W.Frag
  mg : Str → Option Value
/-- a thing that never changes any more stands at a -/
def Frz (T : Addr → Prop) (H : Hp) (a : Addr) (u : HO) : Prop := ¬ T a ∧ H a = some u
/-- the written empty tuple -/
def WrT (K : PySem.W.Frag) (a : Addr) (xs : List V) : Prop := xs = [] ∧ ∃ (o : Obj) (its : Array Value) (n : Nat), K.lookup a = some o ∧ o.cls = .type "tuple" ∧ o.data = .seq its n ∧ its.size ≤ sizeLine ∧ Vals xs its.toList
def keyD : Key → D
  | .inl i => .int i
  | .inr x => .str x
/-- a dict's keys and values: 0 ints and texts, 1 tuples of such -/
def DctH (t : Nat) (H : Hp) (a : Addr) (ks : List D) (vs : List V) : Prop :=
  (t = 0 ∧ ∃ kvs : List (Key × V), H a = some (.dK kvs) ∧ ks = kvs.map (fun p => keyD p.1) ∧ vs = kvs.map (·.2)) ∨
  (t = 1 ∧ ∃ kvs : List (List Key × V), H a = some (.dT kvs) ∧ ks = kvs.map (fun p => D.tup (p.1.map keyD)) ∧ vs = kvs.map (·.2))
theorem DctH.some {t : Nat} {H : Hp} {a : Addr} {ks : List D} {vs : List V} (h : DctH t H a ks vs) : H a ≠ none := by
  rcases h with ⟨_, kvs, e, _⟩ | ⟨_, kvs, e, _⟩ <;> rw [e] <;> simp
theorem DctH.keep {t : Nat} {H H' : Hp} {a : Addr} {ks : List D} {vs : List V} (h : DctH t H a ks vs) (k : ∀ o, H a = Option.some o → H' a = Option.some o) : DctH t H' a ks vs := by
  rcases h with ⟨t, kvs, e, x⟩ | ⟨t, kvs, e, x⟩
  · exact .inl ⟨t, kvs, k _ e, x⟩
  · exact .inr ⟨t, kvs, k _ e, x⟩
inductive At (C : RC) (T : Addr → Prop) (μ : List Addr) (H : Hp) : V → D → Prop
  | non : At C T μ H .non .non
  | bl (b : Bool) : At C T μ H (.bl b) (.bl b)
  | int (i : Int) : At C T μ H (.int i) (.int i)
  | str (x : Str) : At C T μ H (.str x) (.str x)
  | tup {a : Addr} {vs : List V} {ds : List D} (h : Frz T H a (.tup vs) ∨ WrT C.K a vs) (l : vs.length = ds.length) (c : ∀ (i : Nat) v d, vs[i]? = some v → ds[i]? = some d → At C T μ H v d) : At C T μ H (.ref a) (.tup ds)
  | lst {a : Addr} {vs : List V} {ds : List D} (h : Frz T H a (.lst vs)) (l : vs.length = ds.length) (c : ∀ (i : Nat) v d, vs[i]? = some v → ds[i]? = some d → At C T μ H v d) : At C T μ H (.ref a) (.lst ds)
  | dct {a : Addr} {t : Nat} {ks ds : List D} {vs : List V} (n : ¬ T a) (h : DctH t H a ks vs) (l : vs.length = ds.length) (c : ∀ (i : Nat) v d, vs[i]? = some v → ds[i]? = some d → At C T μ H v d) : At C T μ H (.ref a) (.dct t ks ds)
  | exc0 {a A : Addr} {c : Str} (g : C.mg c = some (.ref A)) (h : Frz T H a (ExO (.ref A) a)) : At C T μ H (.ref a) (.exc c Str.empty .non)
  | exc1 {a A dx : Addr} {c n : Str} {v : V} {d : D} {fs : List (Str × V)} (g : C.mg c = some (.ref A)) (h : Frz T H a (exo a A (some dx))) (hd : Frz T H dx (exd dx fs)) (hn : n ≠ Str.empty) (hl : fs.lookup n = some v) (hv : At C T μ H v d) : At C T μ H (.ref a) (.exc c n d)
  | ref {g : Nat} {a : Addr} (h : μ[g]? = some a) : At C T μ H (.ref a) (.ref g)
  | scr {a : Addr} {l : List Int} (h : (¬ T a ∧ Rd H a (.lst (l.map V.int))) ∨ ∀ H', SqL C.K H' a (l.map V.int)) : At C T μ H (.ref a) (.scr l)
/-- lists, place by place -/
inductive AtL (C : RC) (T : Addr → Prop) (μ : List Addr) (H : Hp) : List V → List D → Prop
  | nil : AtL C T μ H [] []
  | cons {v : V} {d : D} {vs : List V} {ds : List D} : At C T μ H v d → AtL C T μ H vs ds → AtL C T μ H (v :: vs) (d :: ds)
section
variable {C : RC} {T T' : Addr → Prop} {μ μ' : List Addr} {H H' : Hp}
theorem AtL.length : ∀ {vs : List V} {ds : List D}, AtL C T μ H vs ds → vs.length = ds.length
  | _, _, .nil => rfl
  | _, _, .cons _ t => congrArg (· + 1) t.length
theorem AtL.get : ∀ {vs : List V} {ds : List D} {i : Nat} {v : V} {d : D}, AtL C T μ H vs ds → vs[i]? = some v → ds[i]? = some d → At C T μ H v d
  | _, _, 0, _, _, .cons h _, e1, e2 => by
    simp at e1 e2
    subst e1 e2
    exact h
  | _, _, i + 1, _, _, .cons _ t, e1, e2 => t.get (i := i) (by simpa using e1) (by simpa using e2)
theorem AtL.of : ∀ {vs : List V} {ds : List D}, vs.length = ds.length → (∀ (i : Nat) v d, vs[i]? = some v → ds[i]? = some d → At C T μ H v d) → AtL C T μ H vs ds
  | [], [], _, _ => .nil
  | v :: vs, d :: ds, l, c => .cons (c 0 v d rfl rfl) (AtL.of (by simpa using l) fun i x y e1 e2 => c (i + 1) x y (by simpa using e1) (by simpa using e2))
  | [], _ :: _, l, _ => by simp at l
  | _ :: _, [], l, _ => by simp at l
theorem At.tupL {a : Addr} {vs : List V} {ds : List D} (h : Frz T H a (.tup vs) ∨ WrT C.K a vs) (c : AtL C T μ H vs ds) : At C T μ H (.ref a) (.tup ds) := .tup h c.length fun _ _ _ => c.get
theorem At.lstL {a : Addr} {vs : List V} {ds : List D} (h : Frz T H a (.lst vs)) (c : AtL C T μ H vs ds) : At C T μ H (.ref a) (.lst ds) := .lst h c.length fun _ _ _ => c.get
theorem At.tup_inv {v : V} {ds : List D} (h : At C T μ H v (.tup ds)) : ∃ a vs, v = .ref a ∧ (Frz T H a (.tup vs) ∨ WrT C.K a vs) ∧ AtL C T μ H vs ds := by
  cases h with
  | tup h l c => exact ⟨_, _, rfl, h, .of l c⟩
theorem At.lst_inv {v : V} {ds : List D} (h : At C T μ H v (.lst ds)) : ∃ a vs, v = .ref a ∧ Frz T H a (.lst vs) ∧ AtL C T μ H vs ds := by
  cases h with
  | lst h l c => exact ⟨_, _, rfl, h, .of l c⟩
theorem At.dct_inv {v : V} {t : Nat} {ks ds : List D} (h : At C T μ H v (.dct t ks ds)) : ∃ a vs, v = .ref a ∧ ¬ T a ∧ DctH t H a ks vs ∧ AtL C T μ H vs ds := by
  cases h with
  | dct n h l c => exact ⟨_, _, rfl, n, h, .of l c⟩
theorem At.int_inv {v : V} {i : Int} (h : At C T μ H v (.int i)) : v = .int i := by cases h; rfl
theorem At.bl_inv {v : V} {b : Bool} (h : At C T μ H v (.bl b)) : v = .bl b := by cases h; rfl
theorem At.str_inv {v : V} {x : Str} (h : At C T μ H v (.str x)) : v = .str x := by cases h; rfl
theorem At.non_inv {v : V} (h : At C T μ H v .non) : v = .non := by cases h; rfl
theorem At.ref_inv {v : V} {g : Nat} (h : At C T μ H v (.ref g)) : ∃ a, v = .ref a ∧ μ[g]? = some a := by
  cases h with
  | ref h => exact ⟨_, rfl, h⟩
theorem At.scr_inv {v : V} {l : List Int} (h : At C T μ H v (.scr l)) : ∃ a, v = .ref a ∧ SqL C.K H a (l.map V.int) := by
  cases h with
  | scr h => exact ⟨_, rfl, h.elim (fun q => .inl q.2) fun q => q H⟩
theorem At.own_inv {v : V} {i : Nat} (h : At C T μ H v (.own i)) : False := by cases h
/-- what stands still -/
structure Keep (T T' : Addr → Prop) (H H' : Hp) : Prop where
  stay : ∀ a o, H a = some o → ¬ T a → H' a = some o
  new : ∀ a, T' a → T a ∨ H a = none
theorem Keep.frz (k : Keep T T' H H') {a : Addr} {u : HO} (f : Frz T H a u) : Frz T' H' a u := by
  obtain ⟨n, f⟩ := f
  have nn : H a ≠ none → ¬ T' a := fun h t => (k.new a t).elim n h
  exact ⟨nn (by rw [f]; simp), k.stay a _ f n⟩
theorem At.keep (k : Keep T T' H H') (p : μ <+: μ') {v : V} {d : D} (h : At C T μ H v d) : At C T' μ' H' v d := by
  induction h with
  | non => exact .non
  | bl b => exact .bl b
  | int i => exact .int i
  | str x => exact .str x
  | tup h l c ih => exact .tup (h.imp k.frz id) l ih
  | lst h l c ih => exact .lst (k.frz h) l ih
  | dct n h l c ih => exact .dct (fun t => (k.new _ t).elim n h.some) (h.keep fun o e => k.stay _ o e n) l ih
  | exc0 g h => exact .exc0 g (k.frz h)
  | exc1 g h hd hn hl c ih => exact .exc1 g (k.frz h) (k.frz hd) hn hl ih
  | ref h =>
    obtain ⟨t, rfl⟩ := p
    exact .ref (by rw [List.getElem?_append_left (List.getElem?_eq_some_iff.mp h).1]; exact h)
  | scr h =>
    refine .scr (h.imp (fun ⟨n, h⟩ => ?_) id)
    rcases h with h | ⟨o, h⟩
    · exact ⟨fun t => (k.new _ t).elim n (by rw [h]; simp), .inl (k.stay _ _ h n)⟩
    · exact ⟨fun t => (k.new _ t).elim n (by rw [h]; simp), .inr ⟨o, k.stay _ _ h n⟩⟩
theorem AtL.keep (k : Keep T T' H H') (p : μ <+: μ') : ∀ {vs : List V} {ds : List D}, AtL C T μ H vs ds → AtL C T' μ' H' vs ds
  | _, _, .nil => .nil
  | _, _, .cons h t => .cons (h.keep k p) (t.keep k p)
theorem AtL.append : ∀ {vs ws : List V} {ds es : List D}, AtL C T μ H vs ds → AtL C T μ H ws es → AtL C T μ H (vs ++ ws) (ds ++ es)
  | _, _, _, _, .nil, h => h
  | _, _, _, _, .cons a t, h => .cons a (t.append h)
theorem Frz.mono (h : ∀ a, T' a → T a) {a : Addr} {u : HO} (f : Frz T H a u) : Frz T' H a u := ⟨fun t => f.1 (h a t), f.2⟩
/-- less is forbidden -/
theorem At.mono (h : ∀ a, T' a → T a) {v : V} {d : D} (x : At C T μ H v d) : At C T' μ H v d := by
  induction x with
  | non => exact .non
  | bl b => exact .bl b
  | int i => exact .int i
  | str x => exact .str x
  | tup q l c ih => exact .tup (q.imp (Frz.mono h) id) l ih
  | lst q l c ih => exact .lst (q.mono h) l ih
  | dct n q l c ih => exact .dct (fun t => n (h _ t)) q l ih
  | exc0 g q => exact .exc0 g (q.mono h)
  | exc1 g q hd hn hl c ih => exact .exc1 g (q.mono h) (hd.mono h) hn hl ih
  | ref q => exact .ref q
  | scr q => exact .scr (q.imp (fun ⟨n, q⟩ => ⟨fun t => n (h _ t), q⟩) id)
theorem AtL.mono (h : ∀ a, T' a → T a) : ∀ {vs : List V} {ds : List D}, AtL C T μ H vs ds → AtL C T' μ H vs ds
  | _, _, .nil => .nil
  | _, _, .cons a t => .cons (a.mono h) (t.mono h)
end
/-- the thing o stands at a -/
def RepO (C : RC) (T : Addr → Prop) (μ : List Addr) (H : Hp) (a : Addr) : MO → Prop
  | .lst ds => ∃ vs, H a = some (.lst vs) ∧ AtL C T μ H vs ds
  | .dct t ks ds => ∃ vs, DctH t H a ks vs ∧ AtL C T μ H vs ds
  | .ins c ns ds => ∃ (A dx : Addr) (fs : List (Str × V)), C.mg c = some (.ref A) ∧ H a = some (.ins A dx fs) ∧ fs.map (·.1) = ns ∧ AtL C T μ H (fs.map (·.2)) ds
def OwnAt (ρ : List Slot) (σ : L2.St) (a : Addr) : Prop := ∃ (i : Nat) (o : MO), ρ[i]? = some (.own o) ∧ σ[i]? = some (some (.ref a))
/-- the places that may be written -/
def Mine (μ : List Addr) (s : Sta) (σ : L2.St) (a : Addr) : Prop := a ∈ μ ∨ OwnAt s.ρ σ a
def Tab (F : Addr → Prop) (μ : List Addr) (s : Sta) (σ : L2.St) (a : Addr) : Prop := F a ∨ Mine μ s σ a
def RepS (C : RC) (T : Addr → Prop) (μ : List Addr) (H : Hp) (σ : L2.St) (i : Nat) : Slot → Prop
  | .no => True
  | .val d => ∃ v, σ[i]? = some (some v) ∧ At C T μ H v d
  | .own o => ∃ a, σ[i]? = some (some (.ref a)) ∧ RepO C T μ H a o
structure Rep (C : RC) (F : Addr → Prop) (μ : List Addr) (s : Sta) (σ : L2.St) (H : Hp) : Prop where
  len : s.ρ.length = σ.length
  slots : ∀ (i : Nat) sl, s.ρ[i]? = some sl → RepS C (Tab F μ s σ) μ H σ i sl
  inj : ∀ (i j : Nat) (oi oj : MO) (a : Addr), s.ρ[i]? = some (.own oi) → s.ρ[j]? = some (.own oj) → σ[i]? = some (some (.ref a)) → σ[j]? = some (some (.ref a)) → i = j
  lenG : μ.length = s.G.length
  objs : ∀ (g : Nat) o, s.G[g]? = some o → ∃ a, μ[g]? = some a ∧ RepO C (Tab F μ s σ) μ H a o
  nd : μ.Nodup
  sep : ∀ a, a ∈ μ → ¬ OwnAt s.ρ σ a
  far : ∀ a, F a → H a ≠ none ∧ ¬ Mine μ s σ a
/-- one state, then another one -/
structure Ext (C : RC) (F : Addr → Prop) (μ : List Addr) (s : Sta) (σ : L2.St) (H : Hp) (μ' : List Addr) (s' : Sta) (σ' : L2.St) (H' : Hp) : Prop where
  pre : μ <+: μ'
  keep : Keep (Mine μ s σ) (Mine μ' s' σ') H H'
  rep : Rep C F μ' s' σ' H'
  len : σ'.length = σ.length
section
variable {C : RC} {F : Addr → Prop} {μ μ1 μ2 : List Addr} {s s1 s2 : Sta} {σ σ1 σ2 : L2.St} {H H1 H2 : Hp}
theorem Keep.refl {T : Addr → Prop} {H : Hp} : Keep T T H H := ⟨fun _ _ h _ => h, fun _ h => .inl h⟩
theorem Keep.trans {T T1 T2 : Addr → Prop} {H H1 H2 : Hp} (a : Keep T T1 H H1) (b : Keep T1 T2 H1 H2) : Keep T T2 H H2 where
  stay := fun x o h n => b.stay x o (a.stay x o h n) fun t => (a.new x t).elim n (by rw [h]; simp)
  new := fun x t => by
    by_cases h : H x = none
    · exact .inr h
    · rcases b.new x t with t | t
      · exact a.new x t
      · by_cases q : T x
        · exact .inl q
        · obtain ⟨o, ho⟩ : ∃ o, H x = some o := Option.ne_none_iff_exists'.mp h
          rw [a.stay x o ho q] at t
          cases t
theorem Keep.tab {T T1 : Addr → Prop} {F : Addr → Prop} {H H1 : Hp} (a : Keep T T1 H H1) : Keep (fun x => F x ∨ T x) (fun x => F x ∨ T1 x) H H1 where
  stay := fun x o h n => a.stay x o h fun t => n (.inr t)
  new := fun x t => by
    rcases t with t | t
    · exact .inl (.inl t)
    · exact (a.new x t).imp .inr id
theorem Ext.refl (r : Rep C F μ s σ H) : Ext C F μ s σ H μ s σ H := ⟨List.prefix_refl _, .refl, r, rfl⟩
theorem Ext.trans (a : Ext C F μ s σ H μ1 s1 σ1 H1) (b : Ext C F μ1 s1 σ1 H1 μ2 s2 σ2 H2) : Ext C F μ s σ H μ2 s2 σ2 H2 :=
  ⟨a.pre.trans b.pre, a.keep.trans b.keep, b.rep, b.len.trans a.len⟩
theorem Ext.at (e : Ext C F μ s σ H μ1 s1 σ1 H1) {v : V} {d : D} (h : At C (Tab F μ s σ) μ H v d) : At C (Tab F μ1 s1 σ1) μ1 H1 v d := h.keep e.keep.tab e.pre
theorem Ext.atL (e : Ext C F μ s σ H μ1 s1 σ1 H1) {v : List V} {d : List D} (h : AtL C (Tab F μ s σ) μ H v d) : AtL C (Tab F μ1 s1 σ1) μ1 H1 v d := h.keep e.keep.tab e.pre
/-- a value in hand: an own thing by its slot -/
def AtX (C : RC) (F : Addr → Prop) (μ : List Addr) (s : Sta) (σ : L2.St) (H : Hp) (v : V) : D → Prop
  | .own i => σ[i]? = some (some v)
  | d => At C (Tab F μ s σ) μ H v d
theorem AtX.of {v : V} {d : D} (h : At C (Tab F μ s σ) μ H v d) : AtX C F μ s σ H v d := by
  cases d with
  | own i => exact h.own_inv.elim
  | _ => exact h
theorem AtX.at {v : V} {d : D} (h : AtX C F μ s σ H v d) (n : d.isOwn = false) : At C (Tab F μ s σ) μ H v d := by
  cases d with
  | own i => cases n
  | _ => exact h
theorem Ext.atX (e : Ext C F μ s σ H μ1 s1 σ H1) {v : V} {d : D} (h : AtX C F μ s σ H v d) : AtX C F μ1 s1 σ H1 v d := by
  cases d with
  | own i => exact h
  | _ => exact e.at h
end
end Ms
/-! Ms1: readings by computations. -/
namespace Ms
open PySem PySem.Spec PyProof.Rows L2
/-- an exception that flies -/
def XAt (C : RC) (T : Addr → Prop) (μ : List Addr) (H : Hp) (cls : Value) (dx : Option Addr) : D → Prop
  | .exc c n d => ∃ A : Addr, C.mg c = some (.ref A) ∧ cls = .ref A ∧ (n = Str.empty ∧ d = .non ∨ n ≠ Str.empty ∧ ∃ (q : Addr) (fs : List (Str × V)) (v : V), dx = some q ∧ H q = some (.xd fs) ∧ ¬ T q ∧ fs.lookup n = some v ∧ At C T μ H v d)
  | _ => False
/-- what a computation comes to -/
def Res {α : Type} (C : RC) (W : WX) (F : Addr → Prop) (μ : List Addr) (s : Sta) (σ : L2.St) (H : Hp) (m : M α) (K : α → List Addr → Sta → Hp → Prop) : Prop := match m s with
  | .ok a s' => ∀ μ' H', Ext C F μ s σ H μ' s' σ H' → K a μ' s' H'
  | .exc e s' => ∀ cls dx μ' H', Ext C F μ s σ H μ' s' σ H' → XAt C (Tab F μ' s' σ) μ' H' cls dx e → W cls dx σ H'
  | .stuck => False
section
variable {α β : Type} {C : RC} {W : WX} {F : Addr → Prop} {μ : List Addr} {s : Sta} {σ : L2.St} {H : Hp}
theorem Res.imp {m : M α} {K K' : α → List Addr → Sta → Hp → Prop} (h : Res C W F μ s σ H m K) (q : ∀ a μ1 s1 H1, Ext C F μ s σ H μ1 s1 σ H1 → K a μ1 s1 H1 → K' a μ1 s1 H1) : Res C W F μ s σ H m K' := by
  unfold Res at h ⊢
  cases e : m s with
  | ok a s1 =>
    rw [e] at h
    exact fun μ1 H1 x => q a μ1 s1 H1 x (h μ1 H1 x)
  | exc x s1 => rw [e] at h; exact h
  | stuck => rw [e] at h; exact h
theorem Res.split {m : M α} {k : α → M β} {K : β → List Addr → Sta → Hp → Prop} (h : Res C W F μ s σ H (m >>= k) K) :
    Res C W F μ s σ H m fun a μ1 s1 H1 => Res C W F μ1 s1 σ H1 (k a) K := by
  unfold Res at h ⊢
  cases e : m s with
  | ok a s1 =>
    have e2 : (m >>= k) s = k a s1 := by
      show M.bind m k s = _
      unfold M.bind
      rw [e]
    rw [e2] at h
    intro μ1 H1 x
    show Res C W F μ1 s1 σ H1 (k a) K
    unfold Res
    cases e3 : k a s1 with
    | ok b s2 =>
      rw [e3] at h
      exact fun μ2 H2 y => h μ2 H2 (x.trans y)
    | exc z s2 =>
      rw [e3] at h
      exact fun cls dx μ2 H2 y => h cls dx μ2 H2 (x.trans y)
    | stuck => rw [e3] at h; exact h
  | exc x s1 =>
    have e2 : (m >>= k) s = .exc x s1 := by
      show M.bind m k s = _
      unfold M.bind
      rw [e]
    rw [e2] at h
    exact h
  | stuck =>
    have e2 : (m >>= k) s = .stuck := by
      show M.bind m k s = _
      unfold M.bind
      rw [e]
    rw [e2] at h
    exact h
theorem Res.pure {a : α} {K : α → List Addr → Sta → Hp → Prop} (r : Rep C F μ s σ H) (h : Res C W F μ s σ H (pure a) K) : K a μ s H := h μ H (.refl r)
end
def tD (C : RC) (W : WX) (m : M D) : TE := fun σ H Q => ∃ F μ s, Rep C F μ s σ H ∧ Res C W F μ s σ H m fun d μ' s' H' => ∀ v, AtX C F μ' s' σ H' v d → Q v H'
def tDB (C : RC) (W : WX) (m : M Bool) : TT := fun σ H Q => ∃ F μ s, Rep C F μ s σ H ∧ Res C W F μ s σ H m fun b _ _ H' => Q b H'
def tDA (C : RC) (W : WX) (m : M (List D)) : TA := fun σ H Q => ∃ F μ s, Rep C F μ s σ H ∧ Res C W F μ s σ H m fun ds μ' s' H' => ∀ vs, AtL C (Tab F μ' s' σ) μ' H' vs ds → Q vs H'
/-- behind a statement -/
inductive Fl where
  | nx | rt (d : D) | bk | ct
def RtD (C : RC) (D : Ends) (F : Addr → Prop) (μ : List Addr) (s : Sta) (σ : L2.St) (H : Hp) : Fl → Prop
  | .nx => D.nx σ H
  | .rt d => ∀ v, At C (Tab F μ s σ) μ H v d → D.rt v H
  | .bk => D.bk σ H
  | .ct => D.ct σ H
def ResS (C : RC) (W : WX) (F : Addr → Prop) (μ : List Addr) (s : Sta) (σ : L2.St) (H : Hp) (m : M Fl) (K : Fl → List Addr → Sta → L2.St → Hp → Prop) : Prop := match m s with
  | .ok a s' => ∀ μ' σ' H', Ext C F μ s σ H μ' s' σ' H' → K a μ' s' σ' H'
  | .exc e s' => ∀ cls dx μ' σ' H', Ext C F μ s σ H μ' s' σ' H' → XAt C (Tab F μ' s' σ') μ' H' cls dx e → W cls dx σ' H'
  | .stuck => False
def tDS (C : RC) (W : WX) (m : M Fl) : TS := fun E σ H => ∃ F μ s, Rep C F μ s σ H ∧ ResS C W F μ s σ H m fun f μ' s' σ' H' => RtD C E F μ' s' σ' H' f
section
variable {X : Cx} {e a b : Expr} {es : List Expr} {st : Stmt} {sts : List Stmt} {pos : Pos} {t t' : TE} {C : RC} {W : WX}
theorem peImp (h : PE X e t) (i : ∀ σ H Q, t' σ H Q → t σ H Q) : PE X e t' := ⟨fun pins s σ H Q I q => h.run pins s σ H Q I (i σ H Q q)⟩
theorem ptImp {t t' : TT} (h : PT X e t) (i : ∀ σ H Q, t' σ H Q → t σ H Q) : PT X e t' := ⟨fun pins s σ H Q I q => h.run pins s σ H Q I (i σ H Q q)⟩
theorem pwImp {t t' : TT} (h : PW X e t) (i : ∀ σ H Q, t' σ H Q → t σ H Q) : PW X e t' := ⟨fun w pins s σ H Q I q => h.run w pins s σ H Q I (i σ H Q q)⟩
theorem paImp {t t' : TA} (h : PA X es t) (i : ∀ σ H Q, t' σ H Q → t σ H Q) : PA X es t' := ⟨fun pos pins s σ H Q I q => h.run pos pins s σ H Q I (i σ H Q q)⟩
theorem psImp {t t' : TS} (h : PS X st t) (i : ∀ D σ H, t' D σ H → t D σ H) : PS X st t' := ⟨fun pins s σ H D I q => h.run pins s σ H D I (i D σ H q)⟩
theorem pssImp {t t' : TS} (h : PSs X sts t) (i : ∀ D σ H, t' D σ H → t D σ H) : PSs X sts t' := ⟨fun pins s σ H D I q => h.run pins s σ H D I (i D σ H q)⟩
/-! ### the parts of computations -/
def M.lit (d : D) : M D := pure d
/-- a name: an own thing that is read out is given away -/
def M.var (i : Nat) : M D := fun s => match s.ρ[i]? with
  | some (.val d) => .ok d s
  | some (.own (.lst l)) => .ok (.lst l) { s with ρ := s.ρ.set i (.val (.lst l)) }
  | some (.own (.dct t ks vs)) => .ok (.dct t ks vs) { s with ρ := s.ρ.set i (.val (.dct t ks vs)) }
  | _ => .stuck
def M.peek (i : Nat) : M D := fun s => match s.ρ[i]? with
  | some (.val d) => .ok d s
  | some (.own _) => .ok (.own i) s
  | _ => .stuck
def M.op2 (f : D → D → M D) (a b : M D) : M D := do
  let x ← a
  let y ← b
  f x y
def M.out (d : D) : M D := if d.isOwn then M.stuck else pure d
def M.args : List (M D) → M (List D)
  | [] => pure []
  | m :: ms => do
    let d ← m
    let d ← M.out d
    let ds ← M.args ms
    pure (d :: ds)
def M.app (f : List D → M D) (ms : List (M D)) : M D := do
  let ds ← M.args ms
  f ds
def M.opt (o : Option D) : M D := match o with
  | some d => pure d
  | none => M.stuck
section
variable {F : Addr → Prop} {μ : List Addr} {s : Sta} {σ : L2.St} {H : Hp}
theorem res_opt {o : Option D} {K : D → List Addr → Sta → Hp → Prop} (r : Rep C F μ s σ H) (h : Res C W F μ s σ H (M.opt o) K) : ∃ d, o = some d ∧ K d μ s H := by
  cases o with
  | none => exact False.elim h
  | some d => exact ⟨d, rfl, h.pure r⟩
theorem res_stuck {α : Type} {K : α → List Addr → Sta → Hp → Prop} (h : Res C W F μ s σ H M.stuck K) : False := h
theorem res_out {d : D} {α : Type} {k : D → M α} {K : α → List Addr → Sta → Hp → Prop} (r : Rep C F μ s σ H) (h : Res C W F μ s σ H (M.out d >>= k) K) : d.isOwn = false ∧ Res C W F μ s σ H (k d) K := by
  cases e : d.isOwn with
  | true =>
    have e1 : M.out d = M.stuck := by unfold M.out; rw [e]; rfl
    have h1 := h.split
    rw [e1] at h1
    exact (res_stuck h1).elim
  | false =>
    have e1 : M.out d = pure d := by unfold M.out; rw [e]; rfl
    have h1 := h.split
    rw [e1] at h1
    exact ⟨rfl, h1.pure r⟩
/-- the slot's own thing is let go -/
theorem Rep.freeze {i : Nat} {o : MO} {d : D} {v : V} (r : Rep C F μ s σ H) (e : s.ρ[i]? = some (.own o)) (ev : σ[i]? = some (some v)) (h : ∀ T : Addr → Prop, (∀ a, T a → Tab F μ s σ a ∧ V.ref a ≠ v) → At C T μ H v d) :
    Rep C F μ { s with ρ := s.ρ.set i (.val d) } σ H := by
  obtain ⟨a, ea, ro⟩ := r.slots i _ e
  rw [ev] at ea
  cases ea
  have ilt : i < s.ρ.length := (List.getElem?_eq_some_iff.mp e).1
  have own1 : ∀ b, OwnAt (s.ρ.set i (.val d)) σ b → OwnAt s.ρ σ b ∧ b ≠ a := fun b ⟨j, oj, e1, e2⟩ => by
    by_cases hj : j = i
    · subst hj
      rw [List.getElem?_set_self ilt] at e1
      cases e1
    · rw [List.getElem?_set_ne (Ne.symm hj)] at e1
      refine ⟨⟨j, oj, e1, e2⟩, fun z => hj ?_⟩
      subst z
      exact r.inj j i oj o _ e1 e e2 ev
  have sub : ∀ b, Tab F μ { s with ρ := s.ρ.set i (.val d) } σ b → Tab F μ s σ b ∧ V.ref b ≠ V.ref a := fun b t => by
    rcases t with t | t | t
    · exact ⟨.inl t, fun z => (r.far b t).2 (.inr ⟨i, o, e, by injection z with z; rw [z]; exact ev⟩)⟩
    · exact ⟨.inr (.inl t), fun z => r.sep b t ⟨i, o, e, by injection z with z; rw [z]; exact ev⟩⟩
    · exact ⟨.inr (.inr (own1 b t).1), fun z => (own1 b t).2 (by injection z)⟩
  have sub1 : ∀ b, Tab F μ { s with ρ := s.ρ.set i (.val d) } σ b → Tab F μ s σ b := fun b t => (sub b t).1
  have ro1 : ∀ {b o}, RepO C (Tab F μ s σ) μ H b o → RepO C (Tab F μ { s with ρ := s.ρ.set i (.val d) } σ) μ H b o := fun {b o} x => by
    cases o with
    | lst l => obtain ⟨vs, e, c⟩ := x; exact ⟨vs, e, c.mono sub1⟩
    | dct t k l => obtain ⟨vs, e, c⟩ := x; exact ⟨vs, e, c.mono sub1⟩
    | ins c k l => obtain ⟨A, dx, fs, e1, e2, e3, c⟩ := x; exact ⟨A, dx, fs, e1, e2, e3, c.mono sub1⟩
  refine ⟨by simpa using r.len, fun j sl ej => ?_, fun j k oj ok b e1 e2 e3 e4 => ?_, r.lenG, fun g o eg => ?_, r.nd, fun b hb t => r.sep b hb (own1 b t).1, fun b t => ⟨(r.far b t).1, fun m => (r.far b t).2 (m.imp id fun q => (own1 b q).1)⟩⟩
  · by_cases hj : j = i
    · subst hj
      rw [List.getElem?_set_self ilt] at ej
      cases ej
      exact ⟨_, ev, h _ sub⟩
    · rw [List.getElem?_set_ne (Ne.symm hj)] at ej
      have q := r.slots j sl ej
      cases sl with
      | no => trivial
      | val d' => obtain ⟨w, e1, e2⟩ := q; exact ⟨w, e1, e2.mono sub1⟩
      | own o' => obtain ⟨w, e1, e2⟩ := q; exact ⟨w, e1, ro1 e2⟩
  · have nj : j ≠ i := fun z => by subst z; rw [List.getElem?_set_self ilt] at e1; cases e1
    have nk : k ≠ i := fun z => by subst z; rw [List.getElem?_set_self ilt] at e2; cases e2
    rw [List.getElem?_set_ne (Ne.symm nj)] at e1
    rw [List.getElem?_set_ne (Ne.symm nk)] at e2
    exact r.inj j k oj ok b e1 e2 e3 e4
  · obtain ⟨b, e1, e2⟩ := r.objs g o eg
    exact ⟨b, e1, ro1 e2⟩
/-- .. the state behind -/
theorem Rep.frozen {i : Nat} {o : MO} {d : D} (r : Rep C F μ s σ H) (e : s.ρ[i]? = some (.own o)) (h : ∀ (T : Addr → Prop) (a : Addr), RepO C (Tab F μ s σ) μ H a o → (∀ b, T b → Tab F μ s σ b ∧ b ≠ a) → At C T μ H (.ref a) d) :
    ∃ v, σ[i]? = some (some v) ∧ Ext C F μ s σ H μ { s with ρ := s.ρ.set i (.val d) } σ H := by
  obtain ⟨a, ea, ro⟩ := r.slots i _ e
  have r2 : Rep C F μ { s with ρ := s.ρ.set i (.val d) } σ H := r.freeze e ea fun T hT => h T a ro fun b hb => ⟨(hT b hb).1, fun z => (hT b hb).2 (by rw [z])⟩
  refine ⟨_, ea, List.prefix_refl _, ⟨fun _ _ q _ => q, fun b t => ?_⟩, r2, rfl⟩
  rcases t with t | ⟨j, oj, e1, e2⟩
  · exact .inl (.inl t)
  · have hj : j ≠ i := fun z => by
      subst z
      rw [List.getElem?_set_self (List.getElem?_eq_some_iff.mp e).1] at e1
      cases e1
    rw [List.getElem?_set_ne (Ne.symm hj)] at e1
    exact .inl (.inr ⟨j, oj, e1, e2⟩)
end
theorem d_lit {d : D} {v : V} (h : PE X e (tC v)) (hv : ∀ T μ H, At C T μ H v d) : PE X e (tD C W (M.lit d)) := peImp h fun σ H Q ⟨F, μ, s, r, q⟩ => q.pure r v (.of (hv _ _ _))
theorem d_int {i : Int} {j : Nat} : PE X (.Constant (.int i) j pos) (tD C W (M.lit (.int i))) := d_lit pe_int fun _ _ _ => .int i
theorem d_bl {i : Bool} {j : Nat} : PE X (.Constant (.bool i) j pos) (tD C W (M.lit (.bl i))) := d_lit pe_bl fun _ _ _ => .bl i
theorem d_non {j : Nat} : PE X (.Constant .none j pos) (tD C W (M.lit .non)) := d_lit pe_non fun _ _ _ => .non
theorem d_str {x : Str} {j : Nat} : PE X (.Constant (.str x) j pos) (tD C W (M.lit (.str x))) := d_lit pe_str fun _ _ _ => .str x
theorem d_var (i : Nat) (h : PE X e (tVar i)) : PE X e (tD C W (M.var i)) := peImp h fun σ H Q ⟨F, μ, s, r, q⟩ => by
  unfold Res M.var at q
  cases e : s.ρ[i]? with
  | none => rw [e] at q; exact q.elim
  | some sl =>
    rw [e] at q
    cases sl with
    | no => exact q.elim
    | val d =>
      obtain ⟨v, ev, hv⟩ := r.slots i _ e
      exact ⟨v, ev, q μ H (.refl r) v (.of hv)⟩
    | own o =>
      cases o with
      | lst l =>
        obtain ⟨v, ev, x⟩ := r.frozen (d := .lst l) e fun T a ⟨vs, ea, c⟩ hT => .lstL ⟨fun t => (hT a t).2 rfl, ea⟩ (c.mono fun b hb => (hT b hb).1)
        obtain ⟨v', ev', hv⟩ := x.rep.slots i (.val (.lst l)) (List.getElem?_set_self (List.getElem?_eq_some_iff.mp e).1)
        rw [ev] at ev'
        cases ev'
        exact ⟨v, ev, q μ H x v (.of hv)⟩
      | dct t ks l =>
        obtain ⟨v, ev, x⟩ := r.frozen (d := .dct t ks l) e fun T a ⟨vs, ea, c⟩ hT => .dct (fun t => (hT a t).2 rfl) ea c.length fun i v d => (c.mono fun b hb => (hT b hb).1).get
        obtain ⟨v', ev', hv⟩ := x.rep.slots i (.val (.dct t ks l)) (List.getElem?_set_self (List.getElem?_eq_some_iff.mp e).1)
        rw [ev] at ev'
        cases ev'
        exact ⟨v, ev, q μ H x v (.of hv)⟩
      | ins c ns l => exact q.elim
theorem d_peek (i : Nat) (h : PE X e (tVar i)) : PE X e (tD C W (M.peek i)) := peImp h fun σ H Q ⟨F, μ, s, r, q⟩ => by
  unfold Res M.peek at q
  cases e : s.ρ[i]? with
  | none => rw [e] at q; exact q.elim
  | some sl =>
    rw [e] at q
    cases sl with
    | no => exact q.elim
    | val d =>
      obtain ⟨v, ev, hv⟩ := r.slots i _ e
      exact ⟨v, ev, q μ H (.refl r) v (.of hv)⟩
    | own o =>
      obtain ⟨a, ea, _⟩ := r.slots i _ e
      exact ⟨.ref a, ea, q μ H (.refl r) (.ref a) ea⟩
/-- an operation on two values -/
def OpD (C : RC) (r : R2) (f : D → D → M D) : Prop := ∀ {W : WX} {F : Addr → Prop} {μ : List Addr} {s : Sta} {σ : L2.St} {H : Hp} {x y : V} {d e : D} {Q : VK}, Rep C F μ s σ H → AtX C F μ s σ H x d → AtX C F μ s σ H y e →
  Res C W F μ s σ H (f d e) (fun z μ' s' H' => ∀ v, AtX C F μ' s' σ H' v z → Q v H') → r x y H Q
theorem tD_op {r : R2} {f : D → D → M D} {ma mb : M D} (hr : OpD C r f) (σ : L2.St) (H : Hp) (Q : VK) (h : tD C W (M.op2 f ma mb) σ H Q) : tOp r (tD C W ma) (tD C W mb) σ H Q := by
  obtain ⟨F, μ, s, rp, h⟩ := h
  refine ⟨F, μ, s, rp, h.split.imp fun d μ1 s1 H1 x1 h1 v hv => ⟨F, μ1, s1, x1.rep, h1.split.imp fun e μ2 s2 H2 x2 h2 w hw => ?_⟩⟩
  exact hr x2.rep (x2.atX hv) hw h2
theorem d_op {r : R2} {f : D → D → M D} {ma mb : M D} {o : Operator} (hr : OpD C r f) (h : ∀ {ta tb : TE}, PE X a ta → PE X b tb → PE X e (tOp r ta tb)) (ha : PE X a (tD C W ma)) (hb : PE X b (tD C W mb)) : PE X e (tD C W (M.op2 f ma mb)) :=
  peImp (h ha hb) (tD_op hr)
/-! ### arguments -/
theorem da_nil : PA X [] (tDA C W (M.args [])) := paImp pa_nil fun σ H Q ⟨F, μ, s, r, q⟩ => q.pure r [] .nil
theorem da_cons {m : M D} {ms : List (M D)} (h : PE X e (tD C W m)) (hs : PA X es (tDA C W (M.args ms))) (he : starEach (e :: es) X.env = (false, eval e X.env) :: starEach es X.env := by rfl) : PA X (e :: es) (tDA C W (M.args (m :: ms))) := by
  refine paImp (pa_cons h hs he) fun σ H Q ⟨F, μ, s, r, q⟩ => ?_
  refine ⟨F, μ, s, r, q.split.imp fun d μ1 s1 H1 x1 h1 v hv => ?_⟩
  obtain ⟨n, h1⟩ := res_out x1.rep h1
  refine ⟨F, μ1, s1, x1.rep, h1.split.imp fun ds μ2 s2 H2 x2 h2 vs hvs => ?_⟩
  exact h2.pure x2.rep (v :: vs) (.cons (x2.at (hv.at n)) hvs)
end
end Ms
/-! Ms2: operators, comparisons, subscripts, displays. -/
namespace Ms
open PySem PySem.Spec PyProof.Rows L2
section
variable {C : RC} {W : WX} {F : Addr → Prop} {μ : List Addr} {s : Sta} {σ : L2.St} {H H' : Hp}
/-- nothing of ours stands at a free place -/
theorem Rep.free (r : Rep C F μ s σ H) {p : Addr} (h : H p = none) : ¬ Tab F μ s σ p := fun t => by
  have no : ∀ {o : MO}, RepO C (Tab F μ s σ) μ H p o → False := fun {o} x => by
    cases o with
    | lst l => obtain ⟨vs, e, _⟩ := x; rw [h] at e; cases e
    | dct t k l => obtain ⟨vs, e, _⟩ := x; exact e.some h
    | ins c k l => obtain ⟨A, dx, fs, _, e, _⟩ := x; rw [h] at e; cases e
  rcases t with t | t | ⟨i, o, e1, e2⟩
  · exact (r.far p t).1 h
  · obtain ⟨g, hg, e⟩ := List.getElem_of_mem t
    have hG : g < s.G.length := by rw [← r.lenG]; exact hg
    obtain ⟨a, ea, x⟩ := r.objs g _ (List.getElem?_eq_getElem hG)
    rw [List.getElem?_eq_getElem hg, e] at ea
    cases ea
    exact no x
  · obtain ⟨a, ea, x⟩ := r.slots i _ e1
    rw [e2] at ea
    cases ea
    exact no x
theorem RepO.keep {T T' : Addr → Prop} {a : Addr} {o : MO} (k : Keep T T' H H') (q : ∀ u, H a = some u → H' a = some u) (x : RepO C T μ H a o) : RepO C T' μ H' a o := by
  cases o with
  | lst l => obtain ⟨vs, e, c⟩ := x; exact ⟨vs, q _ e, c.keep k (List.prefix_refl _)⟩
  | dct t l1 l2 => obtain ⟨vs, e, c⟩ := x; exact ⟨vs, e.keep q, c.keep k (List.prefix_refl _)⟩
  | ins c l1 l2 => obtain ⟨A, dx, fs, e1, e2, e3, c⟩ := x; exact ⟨A, dx, fs, e1, q _ e2, e3, c.keep k (List.prefix_refl _)⟩
theorem Rep.grow (r : Rep C F μ s σ H) (h : ∀ a o, H a = some o → H' a = some o) : Rep C F μ s σ H' := by
  have k : Keep (Tab F μ s σ) (Tab F μ s σ) H H' := ⟨fun a o e _ => h a o e, fun _ t => .inl t⟩
  refine ⟨r.len, fun i sl e => ?_, r.inj, r.lenG, fun g o e => ?_, r.nd, r.sep, fun a t => ⟨fun z => ?_, (r.far a t).2⟩⟩
  · have q := r.slots i sl e
    cases sl with
    | no => trivial
    | val d => obtain ⟨v, e1, e2⟩ := q; exact ⟨v, e1, e2.keep k (List.prefix_refl _)⟩
    | own o => obtain ⟨a, e1, e2⟩ := q; exact ⟨a, e1, e2.keep k (h a)⟩
  · obtain ⟨a, e1, e2⟩ := r.objs g o e
    exact ⟨a, e1, e2.keep k (h a)⟩
  · obtain ⟨o, ho⟩ := Option.ne_none_iff_exists'.mp (r.far a t).1
    rw [h a o ho] at z
    cases z
theorem Rep.ext (r : Rep C F μ s σ H) (h : ∀ a o, H a = some o → H' a = some o) : Ext C F μ s σ H μ s σ H' := ⟨List.prefix_refl _, ⟨fun a o e _ => h a o e, fun _ t => .inl t⟩, r.grow h, rfl⟩
theorem Rep.ext1 (r : Rep C F μ s σ H) {p : Addr} {o : HO} (h : H p = none) : Ext C F μ s σ H μ s σ (upd H p o) := r.ext fun a u e => by rw [upd_ne (ne_of_none e h)]; exact e
theorem Rep.newTup (r : Rep C F μ s σ H) {p : Addr} {vs : List V} {ds : List D} (h : H p = none) (c : AtL C (Tab F μ s σ) μ H vs ds) : At C (Tab F μ s σ) μ (upd H p (.tup vs)) (.ref p) (.tup ds) :=
  .tupL (.inl ⟨r.free h, upd_same⟩) ((r.ext1 h).atL c)
theorem Rep.newLst (r : Rep C F μ s σ H) {p : Addr} {vs : List V} {ds : List D} (h : H p = none) (c : AtL C (Tab F μ s σ) μ H vs ds) : At C (Tab F μ s σ) μ (upd H p (.lst vs)) (.ref p) (.lst ds) :=
  .lstL ⟨r.free h, upd_same⟩ ((r.ext1 h).atL c)
/-! ### what a value holds -/
def D.seqL (s : Sta) : D → Option (List D)
  | .lst l => some l
  | .own i => match s.ρ[i]? with
    | some (.own (.lst l)) => some l
    | _ => none
  | .ref g => match s.G[g]? with
    | some (.lst l) => some l
    | _ => none
  | _ => none
theorem Rep.seqL (r : Rep C F μ s σ H) {x : V} {d : D} {l : List D} (h : AtX C F μ s σ H x d) (e : d.seqL s = some l) : ∃ a vs, x = .ref a ∧ H a = some (.lst vs) ∧ AtL C (Tab F μ s σ) μ H vs l := by
  unfold D.seqL at e
  split at e
  · cases e
    obtain ⟨a, vs, rfl, f, c⟩ := At.lst_inv h
    exact ⟨a, vs, rfl, f.2, c⟩
  · rename_i i
    split at e
    · rename_i l' e1
      cases e
      obtain ⟨a, ea, vs, q, c⟩ := r.slots i _ e1
      have h' : σ[i]? = some (some x) := h
      rw [h'] at ea
      cases ea
      exact ⟨a, vs, rfl, q, c⟩
    · cases e
  · rename_i g
    split at e
    · rename_i l' e1
      cases e
      obtain ⟨a, rfl, ea⟩ := At.ref_inv h
      obtain ⟨b, eb, vs, q, c⟩ := r.objs g _ e1
      rw [ea] at eb
      cases eb
      exact ⟨a, vs, rfl, q, c⟩
    · cases e
  · cases e
def SqTA (C : RC) (F : Addr → Prop) (μ : List Addr) (s : Sta) (σ : L2.St) (H : Hp) (a : Addr) (vs : List V) : Prop := Frz (Tab F μ s σ) H a (.tup vs) ∨ WrT C.K a vs
theorem SqTA.sq {a : Addr} {vs : List V} (h : Frz (Tab F μ s σ) H a (.tup vs) ∨ WrT C.K a vs) : SqT C.K H a vs := h.elim (fun f => .inl (.inl f.2)) fun f => .inr f.2
mutual
def D.py : D → Option PyData
  | .non => some .none
  | .bl b => some (.bool b)
  | .int i => some (.int i)
  | .str x => some (.str x)
  | .tup l => (pyL l).map .tuple
  | .lst l => (pyL l).map .list
  | _ => none
def pyL : List D → Option (List PyData)
  | [] => some []
  | d :: ds => match D.py d, pyL ds with
    | some p, some ps => some (p :: ps)
    | _, _ => none
end
mutual
theorem py_dp {T : Addr → Prop} : ∀ (d : D) (v : V) (p : PyData), At C T μ H v d → d.py = some p → Dp C.K H v p
  | .non, v, p, h, e => by
    cases h
    simp [D.py] at e
    subst e
    exact .non
  | .bl b, v, p, h, e => by
    cases h
    simp [D.py] at e
    subst e
    exact .bl b
  | .int i, v, p, h, e => by
    cases h
    simp [D.py] at e
    subst e
    exact .int i
  | .str x, v, p, h, e => by
    cases h
    simp [D.py] at e
    subst e
    exact .str x
  | .tup l, v, p, h, e => by
    obtain ⟨a, vs, rfl, f, c⟩ := h.tup_inv
    rw [D.py] at e
    obtain ⟨ps, e1, rfl⟩ := Option.map_eq_some_iff.mp e
    exact .tup (f.elim (fun f => .inl (.inl f.2)) fun f => .inr f.2) (pyL_dp l vs ps c e1)
  | .lst l, v, p, h, e => by
    obtain ⟨a, vs, rfl, f, c⟩ := h.lst_inv
    rw [D.py] at e
    obtain ⟨ps, e1, rfl⟩ := Option.map_eq_some_iff.mp e
    exact .lst (.inl (.inl f.2)) (pyL_dp l vs ps c e1)
  | .dct _ _ _, v, p, h, e => by simp [D.py] at e
  | .exc _ _ _, v, p, h, e => by simp [D.py] at e
  | .ref _, v, p, h, e => by simp [D.py] at e
  | .own _, v, p, h, e => by simp [D.py] at e
  | .scr _, v, p, h, e => by simp [D.py] at e
theorem pyL_dp {T : Addr → Prop} : ∀ (ds : List D) (vs : List V) (ps : List PyData), AtL C T μ H vs ds → pyL ds = some ps → DpAll C.K H vs ps
  | [], vs, ps, h, e => by
    cases h
    simp [pyL] at e
    subst e
    exact .nil
  | d :: ds, vs, ps, h, e => by
    cases h with
    | cons h t =>
      rw [pyL] at e
      split at e
      · rename_i p1 ps1 e1 e2
        cases e
        exact .cons (py_dp d _ p1 h e1) (pyL_dp ds _ ps1 t e2)
      · cases e
end
/-- .. an own list, a shared list too -/
def D.pyS (s : Sta) (d : D) : Option PyData := match d with
  | .own _ | .ref _ => match d.seqL s with
    | some l => (pyL l).map .list
    | none => none
  | d => d.py
theorem Rep.pyS (r : Rep C F μ s σ H) {x : V} {d : D} {p : PyData} (h : AtX C F μ s σ H x d) (e : d.pyS s = some p) : Dp C.K H x p := by
  have go : ∀ l, d.seqL s = some l → (pyL l).map PyData.list = some p → Dp C.K H x p := fun l e1 e2 => by
    obtain ⟨a, vs, rfl, q, c⟩ := r.seqL h e1
    obtain ⟨ps, e3, rfl⟩ := Option.map_eq_some_iff.mp e2
    exact .lst (.inl (.inl q)) (pyL_dp l vs ps c e3)
  unfold D.pyS at e
  split at e
  · split at e
    · exact go _ (by assumption) e
    · cases e
  · split at e
    · exact go _ (by assumption) e
    · cases e
  · refine py_dp d x p (h.at ?_) e
    cases d <;> first | rfl | (rename_i q1 q2; exact absurd rfl (q1 _))
/-! ### operators -/
def M.look (f : Sta → Option D) : M D := fun s => match f s with
  | some d => .ok d s
  | none => .stuck
theorem res_look {f : Sta → Option D} {K : D → List Addr → Sta → Hp → Prop} (h : Res C W F μ s σ H (M.look f) K) : ∃ d, f s = some d ∧ ∀ H', Ext C F μ s σ H μ s σ H' → K d μ s H' := by
  unfold Res M.look at h
  cases e : f s with
  | none => rw [e] at h; exact h.elim
  | some d => rw [e] at h; exact ⟨d, rfl, fun H' x => h μ H' x⟩
end
def lenOk (n : Nat) : Bool := decide (n ≤ 16777216)
theorem lenOk_line {n : Nat} (h : lenOk n = true) : n ≤ sizeLine := by
  rw [sizeLine_eq]
  exact of_decide_eq_true h
def addD (s : Sta) : D → D → Option D
  | .int i, .int j => some (.int (i + j))
  | .str x, .str y => if lenOk (x.length + y.length) then some (.str (x ++ y)) else none
  | .tup a, .tup b => if lenOk (a.length + b.length) then some (.tup (a ++ b)) else none
  | a, b => match a.seqL s, b.seqL s with
    | some a, some b => if lenOk (a.length + b.length) then some (.lst (a ++ b)) else none
    | _, _ => none
def rAdd (K : PySem.W.Frag) : R2 := fun x y H Q => rI0 (fun i j => .int (i + j)) x y H Q ∨ ((∃ i j, x = .str i ∧ y = .str j ∧ i.length + j.length ≤ sizeLine ∧ Q (.str (i ++ j)) H) ∨ (rCatA K x y H Q ∨ rCat x y H Q))
theorem op_addD {X : Cx} : OpR X (binaryOp .Add) (rAdd X.K) := op_add.or (op_add_str.or (op_catA.or op_cat))
theorem at_int {C : RC} {T : Addr → Prop} {μ : List Addr} {H : Hp} {F : Addr → Prop} {s : Sta} {σ : L2.St} {v : V} {i : Int} (h : AtX C F μ s σ H v (.int i)) : v = .int i := At.int_inv h
theorem at_str {C : RC} {μ : List Addr} {H : Hp} {F : Addr → Prop} {s : Sta} {σ : L2.St} {v : V} {i : Str} (h : AtX C F μ s σ H v (.str i)) : v = .str i := At.str_inv h
theorem addD_ok {C : RC} : OpD C (rAdd C.K) (fun a b => M.look fun s => addD s a b) := by
  intro W F μ s σ H x y d e Q r hx hy h
  obtain ⟨z, ez, k⟩ := res_look h
  have val : ∀ {v : V}, AtX C F μ s σ H v z → Q v H := fun {v} hv => k H (.refl r) v hv
  have lists : ∀ {a b : List D}, d.seqL s = some a → e.seqL s = some b → lenOk (a.length + b.length) = true → z = .lst (a ++ b) → rAdd C.K x y H Q := fun {a b} e1 e2 l ez => by
    obtain ⟨p, vs, rfl, hp, c1⟩ := r.seqL hx e1
    obtain ⟨q, ws, rfl, hq, c2⟩ := r.seqL hy e2
    refine .inr (.inr (.inr ⟨p, q, vs, ws, rfl, rfl, hp, hq, by rw [c1.length, c2.length]; exact lenOk_line l, fun n hn => ?_⟩))
    exact k _ (r.ext1 hn) _ (by rw [ez]; exact r.newLst hn (c1.append c2))
  unfold addD at ez
  split at ez
  · cases ez
    cases at_int (T := F) hx
    cases at_int (T := F) hy
    exact .inl ⟨_, _, rfl, rfl, val (.of (.int _))⟩
  · split at ez
    · rename_i l
      cases ez
      cases at_str hx
      cases at_str hy
      exact .inr (.inl ⟨_, _, rfl, rfl, lenOk_line l, val (.of (.str _))⟩)
    · cases ez
  · split at ez
    · rename_i a b l
      cases ez
      obtain ⟨p, vs, rfl, hp, c1⟩ := At.tup_inv hx
      obtain ⟨q, ws, rfl, hq, c2⟩ := At.tup_inv hy
      refine .inr (.inr (.inl ⟨p, q, vs, ws, rfl, rfl, SqTA.sq hp, SqTA.sq hq, by rw [c1.length, c2.length]; exact lenOk_line l, fun n => ?_, fun n1 n2 => ?_, fun n1 n2 n hn => ?_⟩))
      · subst n
        cases c1
        exact val (.of (.tupL hq c2))
      · subst n2
        cases c2
        rw [List.append_nil] at val
        exact val (.of (.tupL hp c1))
      · exact k _ (r.ext1 hn) _ (.of (r.newTup hn (c1.append c2)))
    · cases ez
  · split at ez
    · rename_i a b e1 e2
      split at ez
      · rename_i l
        cases ez
        exact lists e1 e2 l rfl
      · cases ez
    · cases ez
/-- two whole numbers -/
def intD (g : Int → Int → Option D) : D → D → Option D
  | .int i, .int j => g i j
  | _, _ => none
theorem intD_inv {g : Int → Int → Option D} {a b z : D} (h : intD g a b = some z) : ∃ i j, a = .int i ∧ b = .int j ∧ g i j = some z := by
  unfold intD at h
  split at h
  · exact ⟨_, _, rfl, rfl, h⟩
  · cases h
theorem intD_ok {C : RC} {g : Int → Int → Option D} {CC : Int → Int → Prop} {gv : Int → Int → V} (hc : ∀ i j z, g i j = some z → CC i j ∧ ∀ T μ H, At C T μ H (gv i j) z) : OpD C (rI CC gv) (fun a b => M.look fun _ => intD g a b) := by
  intro W F μ s σ H x y d e Q r hx hy h
  obtain ⟨z, ez, k⟩ := res_look h
  obtain ⟨i, j, rfl, rfl, e⟩ := intD_inv ez
  cases at_int (T := F) hx
  cases at_int (T := F) hy
  obtain ⟨c, q⟩ := hc i j z e
  exact ⟨i, j, rfl, rfl, c, k H (.refl r) _ (.of (q _ _ _))⟩
theorem intD_ok0 {C : RC} {g : Int → Int → Option D} {gv : Int → Int → V} (hc : ∀ i j z, g i j = some z → ∀ T μ H, At C T μ H (gv i j) z) : OpD C (rI0 gv) (fun a b => M.look fun _ => intD g a b) := by
  intro W F μ s σ H x y d e Q r hx hy h
  obtain ⟨z, ez, k⟩ := res_look h
  obtain ⟨i, j, rfl, rfl, e⟩ := intD_inv ez
  cases at_int (T := F) hx
  cases at_int (T := F) hy
  exact ⟨i, j, rfl, rfl, k H (.refl r) _ (.of (hc i j z e _ _ _))⟩
def gSub (i j : Int) : Option D := some (.int (i - j))
def gMul (i j : Int) : Option D := if i.natAbs.log2 + j.natAbs.log2 < 1000000 then some (.int (i * j)) else none
def gDiv (i j : Int) : Option D := if 0 < j ∧ j.natAbs.log2 < 9000 then some (.int (i / j)) else none
def gMod (i j : Int) : Option D := if 0 < j then some (.int (i % j)) else none
def gPow (i j : Int) : Option D := if 0 ≤ j ∧ j ≤ 1000000 ∧ i.natAbs < 2 ^ 64 then some (.int (i ^ j.toNat)) else none
def gLt (i j : Int) : Option D := some (.bl (decide (i < j)))
def gLe (i j : Int) : Option D := some (.bl (decide (i ≤ j)))
def gGt (i j : Int) : Option D := some (.bl (decide (j < i)))
def gGe (i j : Int) : Option D := some (.bl (decide (j ≤ i)))
abbrev fAdd : D → D → M D := fun a b => M.look fun s => addD s a b
abbrev fInt (g : Int → Int → Option D) : D → D → M D := fun a b => M.look fun _ => intD g a b
section
variable {X : Cx} {e a b : Expr} {es : List Expr} {pos : Pos} {W : WX} {ma mb : M D} {mg : Str → Option Value}
abbrev XC (X : Cx) : RC := ⟨X.K, X.mg⟩
theorem d_add (ha : PE X a (tD (XC X) W ma)) (hb : PE X b (tD (XC X) W mb)) : PE X (.BinOp a .Add b pos) (tD (XC X) W (M.op2 fAdd ma mb)) := peImp (pe_op op_addD ha hb) (tD_op addD_ok)
theorem d_sub (ha : PE X a (tD (XC X) W ma)) (hb : PE X b (tD (XC X) W mb)) : PE X (.BinOp a .Sub b pos) (tD (XC X) W (M.op2 (fInt gSub) ma mb)) :=
  peImp (pe_op op_sub ha hb) (tD_op (intD_ok0 fun i j z e T μ H => by cases e; exact .int _))
theorem d_mul (ha : PE X a (tD (XC X) W ma)) (hb : PE X b (tD (XC X) W mb)) : PE X (.BinOp a .Mult b pos) (tD (XC X) W (M.op2 (fInt gMul) ma mb)) :=
  peImp (pe_op op_mulW ha hb) (tD_op (intD_ok fun i j z e => by
    unfold gMul at e
    split at e
    · cases e
      exact ⟨by assumption, fun _ _ _ => .int _⟩
    · cases e))
theorem d_fdiv (ha : PE X a (tD (XC X) W ma)) (hb : PE X b (tD (XC X) W mb)) : PE X (.BinOp a .FloorDiv b pos) (tD (XC X) W (M.op2 (fInt gDiv) ma mb)) :=
  peImp (pe_op op_fdivW ha hb) (tD_op (intD_ok fun i j z e => by
    unfold gDiv at e
    split at e
    · cases e
      exact ⟨by assumption, fun _ _ _ => .int _⟩
    · cases e))
theorem d_mod (ha : PE X a (tD (XC X) W ma)) (hb : PE X b (tD (XC X) W mb)) : PE X (.BinOp a .Mod b pos) (tD (XC X) W (M.op2 (fInt gMod) ma mb)) :=
  peImp (pe_op op_mod ha hb) (tD_op (intD_ok fun i j z e => by
    unfold gMod at e
    split at e
    · cases e
      exact ⟨by assumption, fun _ _ _ => .int _⟩
    · cases e))
theorem d_pow (ha : PE X a (tD (XC X) W ma)) (hb : PE X b (tD (XC X) W mb)) : PE X (.BinOp a .Pow b pos) (tD (XC X) W (M.op2 (fInt gPow) ma mb)) :=
  peImp (pe_op op_pow ha hb) (tD_op (intD_ok fun i j z e => by
    unfold gPow at e
    split at e
    · cases e
      exact ⟨by assumption, fun _ _ _ => .int _⟩
    · cases e))
end
end Ms
/-! Ms3: comparisons, membership, subscripts. -/
namespace Ms
open PySem PySem.Spec PyProof.Rows L2
/-! ### data by < -/
def rLtD (K : PySem.W.Frag) : R2 := fun x y H Q => ∃ d e, Dp K H x d ∧ Dp K H y e ∧ PySem.W.alike d e = true ∧ d ≠ .none ∧ min d.depth e.depth ≤ 60 ∧ Q (.bl (PySem.W.dataLt d e)) H
theorem op_ltD {X : Cx} (hu : X.A.units + 64 < cLine) : OpR X (compareOp .Lt) (rLtD X.K) := by
  intro pins s σ H x y v u Q I rx ry h
  obtain ⟨d, e, hd, he, al, nn, dp, q⟩ := h
  obtain ⟨as, r1⟩ := Dp.reads I d x v hd rx
  obtain ⟨bs, r2⟩ := Dp.reads I e y u he ry
  exact PySem.W.rcLt_alike d e X.A s v u as bs r1 r2 al nn (by omega) _ _ _ _ ⟨.bl _, H, I, rfl, q⟩
def pyNone : PyData → Bool
  | .none => true
  | _ => false
def ltD (s : Sta) (a b : D) : Option D := match a, b with
  | .int i, .int j => some (.bl (decide (i < j)))
  | a, b => match a.pyS s, b.pyS s with
    | some p, some q => if PySem.W.alike p q && !pyNone p && decide (min p.depth q.depth ≤ 60) then some (.bl (PySem.W.dataLt p q)) else none
    | _, _ => none
theorem ltD_ok {C : RC} : OpD C (fun x y H Q => rI0 (fun i j => .bl (decide (i < j))) x y H Q ∨ rLtD C.K x y H Q) (fun a b => M.look fun s => ltD s a b) := by
  intro W F μ s σ H x y d e Q r hx hy h
  obtain ⟨z, ez, k⟩ := res_look h
  unfold ltD at ez
  split at ez
  · cases ez
    cases at_int (T := F) hx
    cases at_int (T := F) hy
    exact .inl ⟨_, _, rfl, rfl, k H (.refl r) _ (.of (.bl _))⟩
  · split at ez
    · rename_i p q e1 e2
      split at ez
      · rename_i c
        cases ez
        simp only [Bool.and_eq_true, Bool.not_eq_true', decide_eq_true_eq] at c
        refine .inr ⟨p, q, r.pyS hx e1, r.pyS hy e2, c.1.1, fun n => ?_, c.2, k H (.refl r) _ (.of (.bl _))⟩
        subst n
        exact absurd c.1.2 (by simp [pyNone])
      · cases ez
    · cases ez
/-! ### == -/
def scEq : D → D → Option Bool
  | .non, .non => some true
  | .non, .int _ | .int _, .non | .non, .bl _ | .bl _, .non | .non, .str _ | .str _, .non | .int _, .str _ | .str _, .int _ | .bl _, .str _ | .str _, .bl _ => some false
  | .int i, .int j => some (decide (i = j))
  | .bl i, .bl j => some (decide (i = j))
  | .str i, .str j => some (decide (i = j))
  | _, _ => none
def eqD (s : Sta) (a b : D) : Option Bool := match scEq a b with
  | some k => some k
  | none => match a.pyS s, b.pyS s with
    | some p, some q => if SeqAt.shaped p && SeqAt.shaped q then some (PyData.eqv p q) else none
    | _, _ => none
section
variable {C : RC} {W : WX} {F : Addr → Prop} {μ : List Addr} {s : Sta} {σ : L2.St} {H : Hp}
theorem scEq_at {a b : D} {x y : V} {k : Bool} (h : scEq a b = some k) (hx : AtX C F μ s σ H x a) (hy : AtX C F μ s σ H y b) : scal x y = true ∧ decide (x = y) = k := by
  unfold scEq at h
  split at h
  all_goals first
    | (cases h; cases at_int (T := F) hx; cases at_int (T := F) hy; exact ⟨rfl, by simp⟩)
    | (cases h; cases at_str hx; cases at_str hy; exact ⟨rfl, by simp⟩)
    | (cases h; cases (At.bl_inv hx); cases (At.bl_inv hy); exact ⟨rfl, by simp⟩)
    | (cases h; cases (At.non_inv hx); cases (At.non_inv hy); exact ⟨rfl, by simp⟩)
    | (cases h; cases (At.non_inv hx); cases at_int (T := F) hy; exact ⟨rfl, by simp⟩)
    | (cases h; cases at_int (T := F) hx; cases (At.non_inv hy); exact ⟨rfl, by simp⟩)
    | (cases h; cases (At.non_inv hx); cases (At.bl_inv hy); exact ⟨rfl, by simp⟩)
    | (cases h; cases (At.bl_inv hx); cases (At.non_inv hy); exact ⟨rfl, by simp⟩)
    | (cases h; cases (At.non_inv hx); cases at_str hy; exact ⟨rfl, by simp⟩)
    | (cases h; cases at_str hx; cases (At.non_inv hy); exact ⟨rfl, by simp⟩)
    | (cases h; cases at_str hx; cases at_int (T := F) hy; exact ⟨rfl, by simp⟩)
    | (cases h; cases at_int (T := F) hx; cases at_str hy; exact ⟨rfl, by simp⟩)
    | (cases h; cases at_str hx; cases (At.bl_inv hy); exact ⟨rfl, by simp⟩)
    | (cases h; cases (At.bl_inv hx); cases at_str hy; exact ⟨rfl, by simp⟩)
    | cases h
end
theorem eqD_ok {C : RC} {K : Bool → Bool} {r1 r2 : R2} (h1 : ∀ x y H Q, scal x y = true → Q (.bl (K (decide (x = y)))) H → r1 x y H Q)
    (h2 : ∀ x y H Q d e, Dp C.K H x d → Dp C.K H y e → SeqAt.shaped d = true → SeqAt.shaped e = true → Q (.bl (K (PyData.eqv d e))) H → r2 x y H Q) :
    OpD C (fun x y H Q => r1 x y H Q ∨ r2 x y H Q) (fun a b => M.look fun s => (eqD s a b).map fun k => .bl (K k)) := by
  intro W F μ s σ H x y d e Q r hx hy h
  obtain ⟨z, ez, k⟩ := res_look h
  obtain ⟨b, eb, rfl⟩ := Option.map_eq_some_iff.mp ez
  have kk := k H (.refl r) _ (.of (.bl _))
  unfold eqD at eb
  split at eb
  · rename_i b' e1
    cases eb
    obtain ⟨sc, ed⟩ := scEq_at e1 hx hy
    exact .inl (h1 _ _ _ _ sc (by rw [ed]; exact kk))
  · split at eb
    · rename_i p q e1 e2
      split at eb
      · rename_i c
        cases eb
        simp only [Bool.and_eq_true] at c
        exact .inr (h2 _ _ _ _ p q (r.pyS hx e1) (r.pyS hy e2) c.1 c.2 kk)
      · cases eb
    · cases eb
abbrev fEq : D → D → M D := fun a b => M.look fun s => (eqD s a b).map fun k => .bl k
abbrev fNe : D → D → M D := fun a b => M.look fun s => (eqD s a b).map fun k => .bl (!k)
abbrev fLt : D → D → M D := fun a b => M.look fun s => ltD s a b
/-! ### is -/
def D.isNon : D → Bool
  | .non => true
  | _ => false
def isD (neg : Bool) (_ : Sta) (a b : D) : Option D := match b with
  | .non => some (.bl (a.isNon != neg))
  | .bl k => match a with
    | .bl j => some (.bl (decide (j = k) != neg))
    | _ => none
  | _ => none
theorem isNon_at {C : RC} {F : Addr → Prop} {μ : List Addr} {s : Sta} {σ : L2.St} {H : Hp} {x : V} {d : D} (r : Rep C F μ s σ H) (h : AtX C F μ s σ H x d) (n : d.isOwn = false) : decide (x = .non) = d.isNon := by
  have h := h.at n
  cases h <;> simp [D.isNon]
def rIs (neg : Bool) : R2 := fun x y H Q => (y = .non ∧ Q (.bl (decide (x = .non) != neg)) H) ∨ ∃ a b : Bool, x = .bl a ∧ y = .bl b ∧ Q (.bl (decide (a = b) != neg)) H
theorem op_isD {X : Cx} : OpR X (compareOp .Is) (rIs false) := fun pins s σ H x y v u Q I rx ry h => by
  rcases h with ⟨e, q⟩ | ⟨a, b, e1, e2, q⟩
  · exact op_isN pins s σ H x y v u Q I rx ry ⟨e, by simpa using q⟩
  · exact op_isBl pins s σ H x y v u Q I rx ry ⟨a, b, e1, e2, by simpa using q⟩
theorem op_isnotD {X : Cx} : OpR X (compareOp .IsNot) (rIs true) := fun pins s σ H x y v u Q I rx ry h => by
  rcases h with ⟨e, q⟩ | ⟨a, b, e1, e2, q⟩
  · exact op_notN pins s σ H x y v u Q I rx ry ⟨e, by simpa using q⟩
  · exact op_notBl pins s σ H x y v u Q I rx ry ⟨a, b, e1, e2, by simpa using q⟩
theorem isD_ok {C : RC} (neg : Bool) : OpD C (rIs neg) (fun a b => if a.isOwn then M.stuck else M.look fun s => isD neg s a b) := by
  intro W F μ s σ H x y d e Q r hx hy h
  cases ow : d.isOwn with
  | true => simp only [ow, if_true] at h; exact (res_stuck h).elim
  | false =>
    simp only [ow, Bool.false_eq_true, if_false] at h
    obtain ⟨z, ez, k⟩ := res_look h
    unfold isD at ez
    split at ez
    · cases ez
      cases At.non_inv hy
      exact .inl ⟨rfl, by rw [isNon_at r hx ow]; exact k H (.refl r) _ (.of (.bl _))⟩
    · split at ez
      · cases ez
        cases At.bl_inv hy
        cases At.bl_inv hx
        exact .inr ⟨_, _, rfl, rfl, k H (.refl r) _ (.of (.bl _))⟩
      · cases ez
    · cases ez
abbrev fIs : D → D → M D := fun a b => if a.isOwn then M.stuck else M.look fun s => isD false s a b
abbrev fIsNot : D → D → M D := fun a b => if a.isOwn then M.stuck else M.look fun s => isD true s a b
/-! ### in -/
def key1 : D → Option Key
  | .int i => some (.inl i)
  | .str x => some (.inr x)
  | _ => none
def keyQ : D → Option (Key ⊕ List Key)
  | .int i => some (.inl (.inl i))
  | .str x => some (.inl (.inr x))
  | .tup l => (l.mapM key1).map .inr
  | _ => none
def D.dct? (s : Sta) : D → Option (Nat × List D × List D)
  | .dct t ks ds => some (t, ks, ds)
  | .own i => match s.ρ[i]? with
    | some (.own (.dct t ks ds)) => some (t, ks, ds)
    | _ => none
  | .ref g => match s.G[g]? with
    | some (.dct t ks ds) => some (t, ks, ds)
    | _ => none
  | _ => none
/-- what stands at a key -/
def dGet : List D → List D → (Key ⊕ List Key) → Option D
  | k :: ks, d :: ds, q => if keyQ k = some q then some d else dGet ks ds q
  | _, _, _ => none
theorem Rep.dct? {C : RC} {F : Addr → Prop} {μ : List Addr} {s : Sta} {σ : L2.St} {H : Hp} (r : Rep C F μ s σ H) {x : V} {d : D} {t : Nat} {ks ds : List D} (h : AtX C F μ s σ H x d) (e : d.dct? s = some (t, ks, ds)) : ∃ a vs, x = .ref a ∧ DctH t H a ks vs ∧ AtL C (Tab F μ s σ) μ H vs ds := by
  unfold D.dct? at e
  split at e
  · cases e
    obtain ⟨a, vs, rfl, _, f, c⟩ := At.dct_inv h
    exact ⟨a, vs, rfl, f, c⟩
  · rename_i i
    split at e
    · rename_i e1
      cases e
      obtain ⟨a, ea, vs, q, c⟩ := r.slots i _ e1
      have h' : σ[i]? = some (some x) := h
      rw [h'] at ea
      cases ea
      exact ⟨a, vs, rfl, q, c⟩
    · cases e
  · rename_i g
    split at e
    · rename_i e1
      cases e
      obtain ⟨a, rfl, ea⟩ := At.ref_inv h
      obtain ⟨b, eb, vs, q, c⟩ := r.objs g _ e1
      rw [ea] at eb
      cases eb
      exact ⟨a, vs, rfl, q, c⟩
    · cases e
  · cases e
theorem keyQ_D (k : Key) : keyQ (keyD k) = some (.inl k) := by cases k <;> rfl
theorem keyQ_T (k : List Key) : keyQ (.tup (k.map keyD)) = some (.inr k) := by
  have e : ∀ l : List Key, (l.map keyD).mapM key1 = some l := by
    intro l
    induction l with
    | nil => rfl
    | cons a l ih =>
      rw [List.map_cons, List.mapM_cons, ih]
      cases a <;> rfl
  show Option.map Sum.inr ((k.map keyD).mapM key1) = _
  rw [e]
  rfl
theorem keyQ_inl {d : D} {k : Key} (h : keyQ d = some (.inl k)) : d = keyD k := by
  unfold keyQ at h
  split at h
  · cases h; rfl
  · cases h; rfl
  · obtain ⟨_, _, e⟩ := Option.map_eq_some_iff.mp h
    cases e
  · cases h
theorem keyQ_inr {d : D} {k : List Key} (h : keyQ d = some (.inr k)) : d = .tup (k.map keyD) := by
  unfold keyQ at h
  split at h
  · cases h
  · cases h
  · rename_i l
    obtain ⟨k', e1, e⟩ := Option.map_eq_some_iff.mp h
    cases e
    congr 1
    clear h
    induction l generalizing k with
    | nil => simp at e1; subst e1; rfl
    | cons a l ih =>
      rw [List.mapM_cons] at e1
      obtain ⟨x, e2, e1⟩ := Option.bind_eq_some_iff.mp e1
      obtain ⟨y, e3, e1⟩ := Option.bind_eq_some_iff.mp e1
      cases e1
      rw [List.map_cons, ih e3]
      congr 1
      unfold key1 at e2
      split at e2
      · cases e2; rfl
      · cases e2; rfl
      · cases e2
  · cases h
/-- perhaps a value -/
def AtO (C : RC) (T : Addr → Prop) (μ : List Addr) (H : Hp) : Option V → Option D → Prop
  | some v, some d => At C T μ H v d
  | none, none => True
  | _, _ => False
theorem dGet_K {C : RC} {T : Addr → Prop} {μ : List Addr} {H : Hp} : ∀ {kvs : List (Key × V)} {ds : List D} (k : Key), AtL C T μ H (kvs.map (·.2)) ds → AtO C T μ H (valV kvs k) (dGet (kvs.map fun p => keyD p.1) ds (.inl k))
  | [], _, k, .nil => trivial
  | (a, v) :: kvs, _, k, .cons (d := d) (ds := ds) h t => by
    rw [List.map_cons, dGet, keyQ_D]
    by_cases e : a = k
    · subst e
      rw [if_pos rfl, show valV ((a, v) :: kvs) a = some v by simp [valV]]
      exact h
    · rw [if_neg (by simpa using e), show valV ((a, v) :: kvs) k = valV kvs k by simp [valV, e]]
      exact dGet_K k t
theorem dGet_T {C : RC} {T : Addr → Prop} {μ : List Addr} {H : Hp} : ∀ {kvs : List (List Key × V)} {ds : List D} (k : List Key), AtL C T μ H (kvs.map (·.2)) ds → AtO C T μ H (valV kvs k) (dGet (kvs.map fun p => D.tup (p.1.map keyD)) ds (.inr k))
  | [], _, k, .nil => trivial
  | (a, v) :: kvs, _, k, .cons (d := d) (ds := ds) h t => by
    rw [List.map_cons, dGet, keyQ_T]
    by_cases e : a = k
    · subst e
      rw [if_pos rfl, show valV ((a, v) :: kvs) a = some v by simp [valV]]
      exact h
    · rw [if_neg (by simpa using e), show valV ((a, v) :: kvs) k = valV kvs k by simp [valV, e]]
      exact dGet_T k t
theorem keyV_at {C : RC} {T : Addr → Prop} {μ : List Addr} {H : Hp} {k : Key} {v : V} (h : At C T μ H v (keyD k)) : v = kV k := by
  cases k with
  | inl i => exact h.int_inv
  | inr x => exact h.str_inv
theorem keysV_at {C : RC} {T : Addr → Prop} {μ : List Addr} {H : Hp} : ∀ {k : List Key} {vs : List V}, AtL C T μ H vs (k.map keyD) → vs = k.map kV
  | [], _, .nil => rfl
  | k :: ks, _, .cons h t => by rw [List.map_cons, keyV_at h, keysV_at t]
/-- the key is of the dict's kind -/
def keyIn : Nat → (Key ⊕ List Key) → Bool
  | 0, .inl _ => true
  | 1, .inr (_ :: _) => true
  | _, _ => false
/-- what a dict tells of a key -/
def dLook (s : Sta) (d k : D) : Option (Option D) := match d.dct? s, keyQ k with
  | some (t, ks, ds), some q => if keyIn t q then some (dGet ks ds q) else none
  | _, _ => none
theorem Rep.dLook {C : RC} {F : Addr → Prop} {μ : List Addr} {s : Sta} {σ : L2.St} {H : Hp} (r : Rep C F μ s σ H) {x y : V} {d k : D} {o : Option D} (hx : AtX C F μ s σ H x d) (hy : AtX C F μ s σ H y k) (e : Ms.dLook s d k = some o) :
    ∃ a ov, x = .ref a ∧ DGet H a y ov ∧ AtO C (Tab F μ s σ) μ H ov o := by
  unfold Ms.dLook at e
  split at e
  · rename_i t ks ds q e1 e2
    split at e
    · rename_i f
      cases e
      obtain ⟨a, vs, rfl, h, c⟩ := r.dct? hx e1
      rcases h with ⟨rfl, kvs, h, rfl, rfl⟩ | ⟨rfl, kvs, h, rfl, rfl⟩
      · cases q with
        | inr q => cases f
        | inl q =>
          cases keyQ_inl e2
          have hy2 : y = kV q := keyV_at (hy.at (by cases q <;> rfl))
          subst hy2
          exact ⟨a, _, rfl, .inl ⟨kvs, q, .inl h, rfl, rfl⟩, dGet_K q c⟩
      · cases q with
        | inl q => cases f
        | inr q =>
          cases keyQ_inr e2
          obtain ⟨b, ws, rfl, hb, cw⟩ := At.tup_inv (hy.at rfl)
          cases keysV_at cw
          rcases hb with hb | hb
          · exact ⟨a, _, rfl, .inr ⟨kvs, q, b, .inl h, rfl, hb.2, rfl⟩, dGet_T q c⟩
          · obtain ⟨z, _⟩ := hb
            cases q with
            | nil => cases f
            | cons x q => cases z
    · cases e
  · cases e
end Ms
/-! Ms4: in, subscripts, tests, displays, conditions. -/
namespace Ms
open PySem PySem.Spec PyProof.Rows L2
/-! ### in -/
def flatD : D → Bool
  | .non | .bl _ | .int _ | .str _ => true
  | _ => false
def eqF : D → D → Bool
  | .non, .non => true
  | .bl a, .bl b => a == b
  | .bl a, .int b => (if a then 1 else 0) == b
  | .int a, .bl b => a == (if b then 1 else 0)
  | .int a, .int b => a == b
  | .str a, .str b => a == b
  | _, _ => false
def inD (s : Sta) (a b : D) : Option Bool := match b with
  | .str z => match a with
    | .str x => match x.cps.toList with
      | [c] => some (decide (c ∈ z.cps.toList))
      | _ => none
    | _ => none
  | .tup l => if flatD a && l.all flatD then some (l.any fun d => eqF d a) else none
  | b => match dLook s b a with
    | some o => some o.isSome
    | none => match a.pyS s, b.pyS s with
      | some d, some (.list ds) => if SeqAt.shaped d && SeqAt.shaped (.list ds) then some (ds.any fun z => PyData.eqv z d) else none
      | _, _ => none
def rInAll (K : PySem.W.Frag) (neg : Bool) : R2 := fun x y H Q =>
  (∃ (c : Nat) (z : Str), x = .str ⟨#[c]⟩ ∧ y = .str z ∧ Q (.bl (decide (c ∈ z.cps.toList) != neg)) H) ∨
  (∃ p xs, y = .ref p ∧ SqT K H p xs ∧ flatV x = true ∧ xs.all flatV = true ∧ Q (.bl (inV x xs != neg)) H) ∨
  (∃ a ov, y = .ref a ∧ DGet H a x ov ∧ Q (.bl (ov.isSome != neg)) H) ∨
  (∃ d ds, Dp K H x d ∧ Dp K H y (.list ds) ∧ SeqAt.shaped d = true ∧ SeqAt.shaped (.list ds) = true ∧ Q (.bl ((ds.any fun z => PyData.eqv z d) != neg)) H)
section
variable {X : Cx}
theorem op_inAll (hu : X.A.units + 65 < cLine) : OpR X (compareOp .In) (rInAll X.K false) := by
  intro pins s σ H x y v u Q I rx ry h
  rcases h with ⟨c, z, e1, e2, q⟩ | ⟨p, xs, e1, h1, h2, h3, q⟩ | ⟨a, ov, rfl, g, q⟩ | ⟨d, ds, h1, h2, h3, h4, q⟩
  · exact op_in_sign pins s σ H x y v u Q I rx ry ⟨c, z, e1, e2, by simpa using q⟩
  · exact op_in_seq pins s σ H x y v u Q I rx ry ⟨p, xs, e1, .inr h1, h2, h3, by simpa using q⟩
  · obtain rfl : u = Value.ref a := ry
    exact d_in (by omega) I g rx fun s3 I3 => ⟨.bl ov.isSome, H, I3, rfl, by simpa using q⟩
  · exact op_inD hu pins s σ H x y v u Q I rx ry ⟨d, ds, h1, h2, h3, h4, by simpa using q⟩
theorem op_notInAll (hu : X.A.units + 65 < cLine) : OpR X (compareOp .NotIn) (rInAll X.K true) := by
  intro pins s σ H x y v u Q I rx ry h
  rcases h with ⟨c, z, e1, e2, q⟩ | ⟨p, xs, e1, h1, h2, h3, q⟩ | ⟨a, ov, rfl, g, q⟩ | ⟨d, ds, h1, h2, h3, h4, q⟩
  · exact op_notIn_sign pins s σ H x y v u Q I rx ry ⟨c, z, e1, e2, by simpa using q⟩
  · exact op_notIn_seq pins s σ H x y v u Q I rx ry ⟨p, xs, e1, .inr h1, h2, h3, by simpa using q⟩
  · obtain rfl : u = Value.ref a := ry
    exact d_notIn (by omega) I g rx fun s3 I3 => ⟨.bl (!ov.isSome), H, I3, rfl, by simpa using q⟩
  · exact op_notInD hu pins s σ H x y v u Q I rx ry ⟨d, ds, h1, h2, h3, h4, by simpa using q⟩
end
section
variable {C : RC} {T : Addr → Prop} {μ : List Addr} {H : Hp}
theorem flat_at {v : V} {d : D} (h : At C T μ H v d) (f : flatD d = true) : flatV v = true := by
  cases h <;> first | rfl | cases f
theorem eqF_at {v w : V} {d e : D} (h : At C T μ H v d) (h' : At C T μ H w e) (f : flatD d = true) (f' : flatD e = true) : eqV v w = eqF d e := by
  cases h <;> cases h' <;> first
    | rfl
    | exact absurd f (by simp [flatD])
    | exact absurd f' (by simp [flatD])
theorem flats_at : ∀ {vs : List V} {ds : List D}, AtL C T μ H vs ds → ds.all flatD = true → vs.all flatV = true
  | _, _, .nil, _ => rfl
  | _, _, .cons h t, f => by
    rw [List.all_cons, Bool.and_eq_true] at f ⊢
    exact ⟨flat_at h f.1, flats_at t f.2⟩
theorem any_at {w : V} {e : D} (h' : At C T μ H w e) (f' : flatD e = true) : ∀ {vs : List V} {ds : List D}, AtL C T μ H vs ds → ds.all flatD = true → inV w vs = ds.any fun d => eqF d e
  | _, _, .nil, _ => rfl
  | _, _, .cons h t, f => by
    rw [List.all_cons, Bool.and_eq_true] at f
    have ih := any_at h' f' t f.2
    unfold inV at ih ⊢
    rw [List.any_cons, List.any_cons, ih, eqF_at h h' f.1 f']
end
abbrev fIn (neg : Bool) : D → D → M D := fun a b => if a.isOwn then M.stuck else M.look fun s => (inD s a b).map fun k => .bl (k != neg)
theorem inD_ok {C : RC} (neg : Bool) : OpD C (rInAll C.K neg) (fIn neg) := by
  intro W F μ s σ H x y d e Q r hx hy h
  cases ow : d.isOwn with
  | true => simp only [fIn, ow, if_true] at h; exact (res_stuck h).elim
  | false =>
    simp only [fIn, ow, Bool.false_eq_true, if_false] at h
    obtain ⟨z, ez, k⟩ := res_look h
    obtain ⟨b, eb, rfl⟩ := Option.map_eq_some_iff.mp ez
    have kk := k H (.refl r) _ (.of (.bl _))
    unfold inD at eb
    split at eb
    · split at eb
      · split at eb
        · rename_i x' _ c ec
          cases eb
          cases at_str hx
          cases at_str hy
          refine .inl ⟨c, _, ?_, rfl, kk⟩
          have e9 : x'.cps = #[c] := Array.toList_inj.mp ec
          cases x'
          simp only at e9
          rw [e9]
        · cases eb
      · cases eb
    · split at eb
      · rename_i l c
        cases eb
        rw [Bool.and_eq_true] at c
        obtain ⟨p, vs, rfl, hp, cc⟩ := At.tup_inv hy
        exact .inr (.inl ⟨p, vs, rfl, SqTA.sq hp, flat_at (hx.at ow) c.1, flats_at cc c.2, by rw [any_at (hx.at ow) c.1 cc c.2]; exact kk⟩)
      · cases eb
    · split at eb
      · rename_i o e1
        cases eb
        obtain ⟨a, ov, rfl, g, q⟩ := r.dLook hy hx e1
        refine .inr (.inr (.inl ⟨a, ov, rfl, g, ?_⟩))
        have : ov.isSome = o.isSome := by
          cases ov <;> cases o <;> first | rfl | exact q.elim
        rw [this]
        exact kk
      · split at eb
        · rename_i p ps e2 e3
          split at eb
          · rename_i c
            cases eb
            rw [Bool.and_eq_true] at c
            exact .inr (.inr (.inr ⟨p, ps, r.pyS hx e2, r.pyS hy e3, c.1, c.2, kk⟩))
          · cases eb
        · cases eb
/-! ### subscripts -/
def ixD (s : Sta) (a b : D) : Option D := match b with
  | .int i => match a with
    | .tup l => atI l i
    | .str z => if lenOk z.length then (atI z.cps.toList i).map fun c => .str ⟨#[c]⟩ else none
    | .scr l => (atI l i).map .int
    | a => match a.seqL s with
      | some l => atI l i
      | none => (dLook s a b).join
  | b => (dLook s a b).join
theorem atI_get {α β : Type} {xs : List α} {ys : List β} {i : Int} {y : β} (l : xs.length = ys.length) (h : atI ys i = some y) : ∃ (j : Nat) (x : α), atI xs i = some x ∧ xs[j]? = some x ∧ ys[j]? = some y := by
  unfold atI at h ⊢
  obtain ⟨j, e, h⟩ := Option.bind_eq_some_iff.mp h
  rw [l, e]
  obtain ⟨hj, _⟩ := List.getElem?_eq_some_iff.mp h
  have hx : j < xs.length := by omega
  exact ⟨j, xs[j], by simp [List.getElem?_eq_getElem hx], List.getElem?_eq_getElem hx, h⟩
def rIxAll (K : PySem.W.Frag) : R2 := fun x y H Q => rIxL K x y H Q ∨ rIxT K x y H Q ∨ rIxS x y H Q ∨ ∃ a v, x = .ref a ∧ DGet H a y (some v) ∧ Q v H
section
variable {X : Cx} {W : WX} {a b e : Expr} {pos : Pos} {ma mb : M D}
theorem pe_ixAll {ta tb : TE} (hu : X.A.units + 1 < cLine) (ha : PE X a ta) (hb : PE X b tb) (hs : PlainIx b) : PE X (.Subscript a b pos) (tOp (rIxAll X.K) ta tb) := by
  refine ⟨fun pins s σ H Q I h => ?_⟩
  refine Subscript_ (binT ha hb I h fun v u s2 x y H2 I2 rx ry q => ?_)
  rcases q with q | q | q | ⟨p, w, rfl, g, q⟩
  · exact ix_list a b pins s2 σ H2 x y v u Q I2 rx ry q (hs _ _)
  · exact ix_tup a b pins s2 σ H2 x y v u Q I2 rx ry q (hs _ _)
  · exact ix_str a b pins s2 σ H2 x y v u Q I2 rx ry q (hs _ _)
  · obtain rfl : v = Value.ref p := rx
    exact tail_any (dict_typeIs I2 g) PySem.F.slot_dict_getitem.lookup (d_getItem hu I2 g ry fun u' s3 I3 r' => ⟨w, H2, I3, r', q⟩) (hs _ _)
end
end Ms
/-! Ms5: expressions. -/
namespace Ms
open PySem PySem.Spec PyProof.Rows L2
/-! ### room -/
theorem hu65 {k : Nat} {A : Around} (hr : A.units + 16 * k + 200 < cLine) : A.units + 65 < cLine := by omega
section
variable {X : Cx} {W : WX} {a b c e o : Expr} {es rest : List Expr} {pos p2 : Pos} {ma mb mc : M D} {op op' : CmpOp}
/-- the room of this frame -/
abbrev Rm (X : Cx) : Prop := X.A.units + 200 < cLine
theorem Rm.u64 (h : Rm X) : X.A.units + 64 < cLine := by have : X.A.units + 200 < cLine := h; omega
theorem Rm.u65 (h : Rm X) : X.A.units + 65 < cLine := by have : X.A.units + 200 < cLine := h; omega
theorem Rm.u1 (h : Rm X) : X.A.units + 1 < cLine := by have : X.A.units + 200 < cLine := h; omega
/-! ### comparisons -/
structure CmpD (X : Cx) (op : CmpOp) (f : D → D → M D) : Prop where
  ex : ∃ r : R2, OpR X (compareOp op) r ∧ OpD (XC X) r f
theorem cEq (h : Rm X) : CmpD X .Eq fEq := ⟨_, op_eq.or (op_eqD h.u64), eqD_ok (C := XC X) (K := fun b => b) (fun _ _ _ _ h q => ⟨h, q⟩) fun _ _ _ _ d e h1 h2 h3 h4 q => ⟨d, e, h1, h2, h3, h4, q⟩⟩
theorem cNe (h : Rm X) : CmpD X .NotEq fNe := ⟨_, op_ne.or (op_neD h.u64), eqD_ok (C := XC X) (K := fun b => !b) (fun _ _ _ _ h q => ⟨h, q⟩) fun _ _ _ _ d e h1 h2 h3 h4 q => ⟨d, e, h1, h2, h3, h4, q⟩⟩
theorem cLt (h : Rm X) : CmpD X .Lt fLt := ⟨_, op_lt.or (op_ltD h.u64), ltD_ok⟩
theorem cLe : CmpD X .LtE (fInt gLe) := ⟨_, op_le, intD_ok0 fun i j z e T μ H => by cases e; exact .bl _⟩
theorem cGt : CmpD X .Gt (fInt gGt) := ⟨_, op_gt, intD_ok0 fun i j z e T μ H => by cases e; exact .bl _⟩
theorem cGe : CmpD X .GtE (fInt gGe) := ⟨_, op_ge, intD_ok0 fun i j z e T μ H => by cases e; exact .bl _⟩
theorem cIs : CmpD X .Is fIs := ⟨_, op_isD, isD_ok false⟩
theorem cIsNot : CmpD X .IsNot fIsNot := ⟨_, op_isnotD, isD_ok true⟩
theorem cIn (h : Rm X) : CmpD X .In (fIn false) := ⟨_, op_inAll h.u65, inD_ok false⟩
theorem cNotIn (h : Rm X) : CmpD X .NotIn (fIn true) := ⟨_, op_notInAll h.u65, inD_ok true⟩
theorem d_cmp {f : D → D → M D} (h : CmpD X op f) (ha : PE X a (tD (XC X) W ma)) (hb : PE X b (tD (XC X) W mb)) (hm : behindInMarks op b = false) : PE X (.Compare a [op] [b] pos) (tD (XC X) W (M.op2 f ma mb)) := by
  obtain ⟨r, h1, h2⟩ := h.ex
  exact peImp (pe_cmpR h1 ha hb hm) (tD_op h2)
/-- a truth value -/
def M.bool (m : M D) : M Bool := do
  match ← m with
  | .bl b => pure b
  | _ => M.stuck
theorem res_bool {α : Type} {C : RC} {F : Addr → Prop} {μ : List Addr} {s : Sta} {σ : L2.St} {H : Hp} {d : D} {k : Bool → M α} {K : α → List Addr → Sta → Hp → Prop} (r : Rep C F μ s σ H)
    (h : Res C W F μ s σ H ((match d with | .bl b => (pure b : M Bool) | _ => M.stuck) >>= k) K) : ∃ b, d = .bl b ∧ Res C W F μ s σ H (k b) K := by
  cases d with
  | bl b => exact ⟨b, rfl, h.split.pure r⟩
  | _ => exact (res_stuck h.split).elim
theorem tDB_bool {m : M D} {t : TE} (i : ∀ σ H Q, tD (XC X) W m σ H Q → t σ H Q) (σ : L2.St) (H : Hp) (Q : Bool → Hp → Prop) (h : tDB (XC X) W (M.bool m) σ H Q) : tTest t σ H Q := by
  obtain ⟨F, μ, s, r, q⟩ := h
  refine i σ H _ ⟨F, μ, s, r, q.split.imp fun d μ1 s1 H1 x1 h1 v hv => ?_⟩
  cases d with
  | bl b =>
    cases At.bl_inv hv
    exact ⟨b, rfl, h1.pure x1.rep⟩
  | _ => exact (res_stuck h1).elim
theorem dt_cmp {f : D → D → M D} (h : CmpD X op f) (ha : PE X a (tD (XC X) W ma)) (hb : PE X b (tD (XC X) W mb)) (hm : behindInMarks op b = false) : PT X (.Compare a [op] [b] pos) (tDB (XC X) W (M.bool (M.op2 f ma mb))) := by
  obtain ⟨r, h1, h2⟩ := h.ex
  exact ptImp (pt_cmpR h1 ha hb hm) (tDB_bool (X := X) (tD_op h2))
/-- a op b op' c -/
def M.chain (f g : D → D → M D) (a b c : M D) : M D := do
  let x ← a
  let y ← b
  let k ← M.bool (f x y)
  if k then do
    let z ← c
    g y z
  else pure (.bl false)
theorem tD_chain {r r' : R2} {f g : D → D → M D} (hr : OpD (XC X) r f) (hr' : OpD (XC X) r' g) (σ : L2.St) (H : Hp) (Q : VK) (h : tD (XC X) W (M.chain f g ma mb mc) σ H Q) :
    tChain r r' (tD (XC X) W ma) (tD (XC X) W mb) (tD (XC X) W mc) σ H Q := by
  obtain ⟨F, μ, s, rp, h⟩ := h
  refine ⟨F, μ, s, rp, h.split.imp fun d μ1 s1 H1 x1 h1 v hv => ⟨F, μ1, s1, x1.rep, h1.split.imp fun e μ2 s2 H2 x2 h2 w hw => ?_⟩⟩
  refine hr x2.rep (x2.atX hv) hw (W := W) (h2.split.split.imp fun z μ3 s3 H3 x3 h3 u hu => ?_)
  cases z with
  | bl k =>
    cases At.bl_inv hu
    refine ⟨k, rfl, ?_⟩
    have h4 := h3.pure x3.rep
    cases k with
    | true =>
      rw [if_pos rfl] at h4 ⊢
      exact ⟨F, μ3, s3, x3.rep, h4.split.imp fun z μ4 s4 H4 x4 h4 u hu => hr' x4.rep (x4.atX (x3.atX hw)) hu h4⟩
    | false =>
      rw [if_neg (by simp)] at h4 ⊢
      exact h4.pure x3.rep _ (.of (.bl _))
  | _ => exact (res_stuck h3).elim
theorem d_chain {f g : D → D → M D} (h : CmpD X op f) (h' : CmpD X op' g) (ha : PE X a (tD (XC X) W ma)) (hb : PE X b (tD (XC X) W mb)) (hc : PE X c (tD (XC X) W mc)) (hm : lastMarks [op, op'] [b, c] = false := by with_unfolding_all rfl) :
    PE X (.Compare a [op, op'] [b, c] pos) (tD (XC X) W (M.chain f g ma mb mc)) := by
  obtain ⟨r, h1, h2⟩ := h.ex
  obtain ⟨r', h3, h4⟩ := h'.ex
  exact peImp (pe_chain h1 h3 ha hb hc hm) (tD_chain h2 h4)
theorem dt_chain {f g : D → D → M D} (h : CmpD X op f) (h' : CmpD X op' g) (ha : PE X a (tD (XC X) W ma)) (hb : PE X b (tD (XC X) W mb)) (hc : PE X c (tD (XC X) W mc)) (hm : lastMarks [op, op'] [b, c] = false := by with_unfolding_all rfl) :
    PT X (.Compare a [op, op'] [b, c] pos) (tDB (XC X) W (M.bool (M.chain f g ma mb mc))) := by
  obtain ⟨r, h1, h2⟩ := h.ex
  obtain ⟨r', h3, h4⟩ := h'.ex
  exact ptImp (pt_chain h1 h3 ha hb hc hm) (tDB_bool (X := X) (tD_chain h2 h4))
/-! ### truth -/
def truD (s : Sta) : D → Option Bool
  | .non => some false
  | .bl b => some b
  | .int i => some (i != 0)
  | .str x => if lenOk x.length then some ((x.length : Int) != 0) else none
  | .tup l => some (!l.isEmpty)
  | d => match d.seqL s with
    | some l => some (!l.isEmpty)
    | none => none
def M.tru (d : D) : M Bool := fun s => match truD s d with
  | some b => .ok b s
  | none => .stuck
def M.truth (m : M D) : M Bool := do M.tru (← m)
theorem res_truM {C : RC} {F : Addr → Prop} {μ : List Addr} {s : Sta} {σ : L2.St} {H : Hp} {d : D} {K : Bool → List Addr → Sta → Hp → Prop} (r : Rep C F μ s σ H) (h : Res C W F μ s σ H (M.tru d) K) : ∃ b, truD s d = some b ∧ K b μ s H := by
  unfold Res M.tru at h
  cases e : truD s d with
  | none => simp only [e] at h
  | some b =>
    simp only [e] at h
    exact ⟨b, rfl, h μ H (.refl r)⟩
theorem empty_at {C : RC} {T : Addr → Prop} {μ : List Addr} {H : Hp} {vs : List V} {ds : List D} (h : AtL C T μ H vs ds) : (!vs.isEmpty) = !ds.isEmpty := by
  cases h <;> rfl
theorem tru_at {C : RC} {F : Addr → Prop} {μ : List Addr} {s : Sta} {σ : L2.St} {H : Hp} {x : V} {d : D} {b : Bool} (r : Rep C F μ s σ H) (h : AtX C F μ s σ H x d) (e : truD s d = some b) : TruV C.K x H b := by
  have lists : ∀ l, d.seqL s = some l → b = (!l.isEmpty) → TruV C.K x H b := fun l e1 e2 => by
    obtain ⟨a, vs, rfl, hp, c⟩ := r.seqL h e1
    exact .inl ⟨vs, .of hp, by rw [e2, empty_at c]⟩
  unfold truD at e
  split at e
  · cases e; cases At.non_inv h; rfl
  · cases e; cases At.bl_inv h; rfl
  · cases e; cases at_int (T := F) h; rfl
  · split at e
    · rename_i l
      cases e; cases at_str h
      exact ⟨lenOk_line l, rfl⟩
    · cases e
  · cases e
    obtain ⟨a, vs, rfl, hp, c⟩ := At.tup_inv h
    exact .inr (.inl ⟨vs, SqTA.sq hp, by rw [empty_at c]⟩)
  · split at e
    · rename_i l e1
      cases e
      exact lists _ e1 rfl
    · cases e
theorem dt_truth {m : M D} (h : PE X a (tD (XC X) W m)) (he : ∀ whole, isTrue a X.env whole = (do let v ← whole; standAt a.pos; holding [v] (truthy v)) := by intro _; rfl) : PT X a (tDB (XC X) W (M.truth m)) :=
  ptImp (pt_truth h he) fun σ H Q ⟨F, μ, s, r, q⟩ => ⟨F, μ, s, r, q.split.imp fun d μ1 s1 H1 x1 h1 v hv => by
    obtain ⟨b, e, h1⟩ := res_truM x1.rep h1
    exact ⟨b, tru_at x1.rep hv e, h1⟩⟩
def M.not (m : M Bool) : M Bool := do pure (!(← m))
def M.and2 (a b : M Bool) : M Bool := do if ← a then b else pure false
def M.or2 (a b : M Bool) : M Bool := do if ← a then pure true else b
variable {na nb : M Bool}
theorem dt_not (h : PT X a (tDB (XC X) W na)) : PT X (.UnaryOp .Not a pos) (tDB (XC X) W (M.not na)) :=
  ptImp (pt_not h) fun σ H Q ⟨F, μ, s, r, q⟩ => ⟨F, μ, s, r, q.split.imp fun b μ1 s1 H1 x1 h1 => h1.pure x1.rep⟩
theorem dw_and1 (h : PT X a (tDB (XC X) W na)) : PW X (.BoolOp .And [a] pos) (tDB (XC X) W na) := pw_and1 h
theorem dw_or1 (h : PT X a (tDB (XC X) W na)) : PW X (.BoolOp .Or [a] pos) (tDB (XC X) W na) := pw_or1 h
theorem dw_and (h : PT X a (tDB (XC X) W na)) (h2 : PW X (.BoolOp .And (b :: rest) pos) (tDB (XC X) W nb)) : PW X (.BoolOp .And (a :: b :: rest) pos) (tDB (XC X) W (M.and2 na nb)) :=
  pwImp (pw_and h h2) fun σ H Q ⟨F, μ, s, r, q⟩ => ⟨F, μ, s, r, q.split.imp fun b μ1 s1 H1 x1 h1 => by
    cases b with
    | true => rw [if_pos rfl] at h1 ⊢; exact ⟨F, μ1, s1, x1.rep, h1⟩
    | false => rw [if_neg (by simp)] at h1 ⊢; exact h1.pure x1.rep⟩
theorem dw_or (h : PT X a (tDB (XC X) W na)) (h2 : PW X (.BoolOp .Or (b :: rest) pos) (tDB (XC X) W nb)) : PW X (.BoolOp .Or (a :: b :: rest) pos) (tDB (XC X) W (M.or2 na nb)) :=
  pwImp (pw_or h h2) fun σ H Q ⟨F, μ, s, r, q⟩ => ⟨F, μ, s, r, q.split.imp fun b μ1 s1 H1 x1 h1 => by
    cases b with
    | true => rw [if_pos rfl] at h1 ⊢; exact h1.pure x1.rep
    | false => rw [if_neg (by simp)] at h1 ⊢; exact ⟨F, μ1, s1, x1.rep, h1⟩⟩
/-- values by their truth -/
def M.andV (a b : M D) : M D := do
  let x ← a
  if ← M.tru x then b else pure x
def M.orV (a b : M D) : M D := do
  let x ← a
  if ← M.tru x then pure x else b
def M.notV (a : M D) : M D := do pure (.bl (!(← M.truth a)))
theorem d_one (h : PE X a (tD (XC X) W ma)) {op : BoolOp} : PE X (.BoolOp op [a] pos) (tD (XC X) W ma) := pe_one h
theorem d_and (h : PE X a (tD (XC X) W ma)) (h2 : PE X (.BoolOp .And (b :: rest) pos) (tD (XC X) W mb)) : PE X (.BoolOp .And (a :: b :: rest) pos) (tD (XC X) W (M.andV ma mb)) :=
  peImp (pe_andT h h2) fun σ H Q ⟨F, μ, s, r, q⟩ => ⟨F, μ, s, r, q.split.imp fun d μ1 s1 H1 x1 h1 v hv => by
    obtain ⟨k, e, h1⟩ := res_truM x1.rep h1.split
    refine ⟨k, tru_at x1.rep hv e, ?_⟩
    cases k with
    | true => rw [if_pos rfl] at h1 ⊢; exact ⟨F, μ1, s1, x1.rep, h1⟩
    | false => rw [if_neg (by simp)] at h1 ⊢; exact h1.pure x1.rep v hv⟩
theorem d_or (h : PE X a (tD (XC X) W ma)) (h2 : PE X (.BoolOp .Or (b :: rest) pos) (tD (XC X) W mb)) : PE X (.BoolOp .Or (a :: b :: rest) pos) (tD (XC X) W (M.orV ma mb)) :=
  peImp (pe_orT h h2) fun σ H Q ⟨F, μ, s, r, q⟩ => ⟨F, μ, s, r, q.split.imp fun d μ1 s1 H1 x1 h1 v hv => by
    obtain ⟨k, e, h1⟩ := res_truM x1.rep h1.split
    refine ⟨k, tru_at x1.rep hv e, ?_⟩
    cases k with
    | true => rw [if_pos rfl] at h1 ⊢; exact h1.pure x1.rep v hv
    | false => rw [if_neg (by simp)] at h1 ⊢; exact ⟨F, μ1, s1, x1.rep, h1⟩⟩
theorem d_not (h : PE X a (tD (XC X) W ma)) : PE X (.UnaryOp .Not a pos) (tD (XC X) W (M.notV ma)) :=
  peImp (pe_notT h) fun σ H Q ⟨F, μ, s, r, q⟩ => ⟨F, μ, s, r, q.split.split.imp fun d μ1 s1 H1 x1 h1 v hv => by
    obtain ⟨b, e, h1⟩ := res_truM x1.rep h1
    exact ⟨b, tru_at x1.rep hv e, h1.pure x1.rep _ (.of (.bl _))⟩⟩
def M.ite (t : M Bool) (a b : M D) : M D := do if ← t then a else b
theorem d_if (hc : PT X c (tDB (XC X) W na)) (ha : PE X a (tD (XC X) W ma)) (hb : PE X b (tD (XC X) W mb)) : PE X (.IfExp c a b pos) (tD (XC X) W (M.ite na ma mb)) :=
  peImp (pe_ifExp hc ha hb) fun σ H Q ⟨F, μ, s, r, q⟩ => ⟨F, μ, s, r, q.split.imp fun k μ1 s1 H1 x1 h1 => by
    cases k with
    | true => rw [if_pos rfl] at h1 ⊢; exact ⟨F, μ1, s1, x1.rep, h1⟩
    | false => rw [if_neg (by simp)] at h1 ⊢; exact ⟨F, μ1, s1, x1.rep, h1⟩⟩
def negD : D → Option D
  | .int i => some (.int (-i))
  | _ => none
theorem d_neg (h : PE X a (tD (XC X) W ma)) : PE X (.UnaryOp .USub a pos) (tD (XC X) W (do M.opt (negD (← ma)))) :=
  peImp (pe_un un_neg h) fun σ H Q ⟨F, μ, s, r, q⟩ => ⟨F, μ, s, r, q.split.imp fun d μ1 s1 H1 x1 h1 v hv => by
    obtain ⟨z, e, k⟩ := res_opt x1.rep h1
    unfold negD at e
    split at e
    · cases e
      cases at_int (T := F) hv
      exact ⟨_, rfl, k _ (.of (.int _))⟩
    · cases e⟩
/-! ### subscripts, slices -/
abbrev fIx : D → D → M D := fun a b => if b.isOwn then M.stuck else M.look fun s => ixD s a b
theorem ixD_ok {C : RC} : OpD C (rIxAll C.K) fIx := by
  intro W F μ s σ H x y d e Q r hx hy h
  cases ow : e.isOwn with
  | true => simp only [fIx, ow, if_true] at h; exact (res_stuck h).elim
  | false =>
    simp only [fIx, ow, Bool.false_eq_true, if_false] at h
    obtain ⟨z, ez, k⟩ := res_look h
    have kk : ∀ {v : V}, AtX C F μ s σ H v z → Q v H := fun {v} => k H (.refl r) v
    have dicts : (Ms.dLook s d e).join = some z → rIxAll C.K x y H Q := fun ez => by
      have e1 : Ms.dLook s d e = some (some z) := Option.join_eq_some_iff.mp ez
      obtain ⟨a, ov, rfl, g, q⟩ := r.dLook hx hy e1
      cases ov with
      | none => exact q.elim
      | some v => exact .inr (.inr (.inr ⟨a, v, rfl, g, kk (.of q)⟩))
    unfold ixD at ez
    split at ez
    · cases at_int (T := F) hy
      split at ez
      · obtain ⟨a, vs, rfl, hp, c⟩ := At.tup_inv hx
        obtain ⟨j, v, e1, e2, e3⟩ := atI_get c.length ez
        exact .inr (.inl ⟨a, vs, _, v, rfl, rfl, SqTA.sq hp, e1, kk (.of (c.get e2 e3))⟩)
      · split at ez
        · rename_i l
          obtain ⟨c, e1, rfl⟩ := Option.map_eq_some_iff.mp ez
          cases at_str hx
          exact .inr (.inr (.inl ⟨_, _, c, rfl, rfl, lenOk_line l, e1, kk (.of (.str _))⟩))
        · cases ez
      · rename_i l
        obtain ⟨c, e1, rfl⟩ := Option.map_eq_some_iff.mp ez
        obtain ⟨a, rfl, hq⟩ := At.scr_inv hx
        · skip
          obtain ⟨j, v, e1, e2, e3⟩ := atI_get (xs := l.map V.int) (by simp) e1
          rw [List.getElem?_map, e3] at e2
          cases e2
          exact .inl ⟨_, _, _, _, rfl, rfl, hq, e1, kk (.of (.int _))⟩
      · split at ez
        · rename_i l e1
          obtain ⟨a, vs, rfl, hp, c⟩ := r.seqL hx e1
          obtain ⟨j, v, e1, e2, e3⟩ := atI_get c.length ez
          exact .inl ⟨a, vs, _, v, rfl, rfl, .of hp, e1, kk (.of (c.get e2 e3))⟩
        · exact dicts ez
    · exact dicts ez
theorem d_ix (h : Rm X) (ha : PE X a (tD (XC X) W ma)) (hb : PE X b (tD (XC X) W mb)) (hs : PlainIx b) : PE X (.Subscript a b pos) (tD (XC X) W (M.op2 fIx ma mb)) := peImp (pe_ixAll h.u1 ha hb hs) (tD_op ixD_ok)
def cutD (xs : List D) (lo hi : Option Int) : List D := (xs.drop (HT.sIx xs.length 0 lo)).take (HT.sIx xs.length xs.length hi - HT.sIx xs.length 0 lo)
theorem AtL.drop {C : RC} {T : Addr → Prop} {μ : List Addr} {H : Hp} : ∀ {vs : List V} {ds : List D} (n : Nat), AtL C T μ H vs ds → AtL C T μ H (vs.drop n) (ds.drop n)
  | _, _, 0, h => h
  | _, _, _ + 1, .nil => .nil
  | _, _, n + 1, .cons _ t => AtL.drop n t
theorem AtL.take {C : RC} {T : Addr → Prop} {μ : List Addr} {H : Hp} : ∀ {vs : List V} {ds : List D} (n : Nat), AtL C T μ H vs ds → AtL C T μ H (vs.take n) (ds.take n)
  | _, _, 0, _ => .nil
  | _, _, _ + 1, .nil => .nil
  | _, _, n + 1, .cons h t => .cons h (AtL.take n t)
theorem AtL.cut {C : RC} {T : Addr → Prop} {μ : List Addr} {H : Hp} {vs : List V} {ds : List D} (h : AtL C T μ H vs ds) (lo hi : Option Int) : AtL C T μ H (cutV vs lo hi) (cutD ds lo hi) := by
  unfold cutV cutD
  rw [h.length]
  exact (h.drop _).take _
def slD (s : Sta) (a : D) (lo hi : Option Int) : Option D := match a with
  | .tup l => some (.tup (cutD l lo hi))
  | .str z => if lenOk z.length then some (.str (cutS z lo hi)) else none
  | a => (a.seqL s).map fun l => .lst (cutD l lo hi)
def M.part : Option (M D) → M (Option Int)
  | none => pure none
  | some m => do
    match ← m with
    | .int i => pure (some i)
    | _ => M.stuck
def M.slice (a : M D) (lo hi : Option (M D)) : M D := do
  let x ← a
  let l ← M.part lo
  let u ← M.part hi
  M.look fun s => slD s x l u
def tDO (C : RC) (W : WX) (m : M (Option Int)) : TO := fun σ H Q => ∃ F μ s, Rep C F μ s σ H ∧ Res C W F μ s σ H m fun o _ _ H' => Q o H'
theorem do_none : PO X none (tDO (XC X) W (M.part none)) := ⟨fun pins s σ H Q I ⟨F, μ, s', r, q⟩ => po_none.run pins s σ H Q I (q.pure r)⟩
theorem do_some {m : M D} (h : PE X a (tD (XC X) W m)) : PO X (some a) (tDO (XC X) W (M.part (some m))) := ⟨fun pins s σ H Q I ⟨F, μ, s', r, q⟩ => (po_some h).run pins s σ H Q I ⟨F, μ, s', r, q.split.imp fun d μ1 s1 H1 x1 h1 v hv => by
  cases d with
  | int i =>
    cases at_int (T := F) hv
    exact ⟨i, rfl, h1.pure x1.rep⟩
  | _ => exact (res_stuck h1).elim⟩⟩
theorem d_slice {lo hi : Option Expr} {ml mh : Option (M D)} (ha : PE X a (tD (XC X) W ma)) (hl : PO X lo (tDO (XC X) W (M.part ml))) (hh : PO X hi (tDO (XC X) W (M.part mh))) : PE X (.Subscript a (.Slice lo hi none p2) pos) (tD (XC X) W (M.slice ma ml mh)) := by
  refine peImp (pe_slice (sl_list.or (sl_tupA.or sl_str)) ha hl hh) fun σ H Q ⟨F, μ, s, r, q⟩ => ?_
  refine ⟨F, μ, s, r, q.split.imp fun d μ1 s1 H1 x1 h1 v hv => ⟨F, μ1, s1, x1.rep, h1.split.imp fun l μ2 s2 H2 x2 h2 => ⟨F, μ2, s2, x2.rep, h2.split.imp fun u μ3 s3 H3 x3 h3 => ?_⟩⟩⟩
  obtain ⟨z, ez, k⟩ := res_look h3
  have hv := x3.atX (x2.atX hv)
  have r := x3.rep
  unfold slD at ez
  split at ez
  · cases ez
    obtain ⟨p, vs, rfl, hp, c⟩ := At.tup_inv hv
    refine .inr (.inl ⟨p, vs, rfl, SqTA.sq hp, fun w => k _ (.refl r) _ ?_, fun w n hn => k _ (r.ext1 hn) _ (.of (r.newTup hn (c.cut l u)))⟩)
    have e : cutV vs l u = vs := by unfold cutV; rw [w.1, w.2]; simp
    have c2 := c.cut l u
    rw [e] at c2
    exact .of (.tupL hp c2)
  · split at ez
    · rename_i hl
      cases ez
      cases at_str hv
      exact .inr (.inr ⟨_, rfl, lenOk_line hl, k _ (.refl r) _ (.of (.str _))⟩)
    · cases ez
  · obtain ⟨xs, e1, rfl⟩ := Option.map_eq_some_iff.mp ez
    obtain ⟨p, vs, rfl, hp, c⟩ := r.seqL hv e1
    exact .inl ⟨p, vs, rfl, .of hp, fun n hn => k _ (r.ext1 hn) _ (.of (r.newLst hn (c.cut l u)))⟩
/-! ### displays -/
def M.tup (ms : List (M D)) : M D := do
  let ds ← M.args ms
  if lenOk ds.length then pure (.tup ds) else M.stuck
/-- a fresh list -/
def tDF (C : RC) (W : WX) (m : M (List D)) : TE := fun σ H Q => ∃ F μ s, Rep C F μ s σ H ∧ Res C W F μ s σ H m fun ds μ' s' H' => ∀ p vs, H' p = none → AtL C (Tab F μ' s' σ) μ' H' vs ds → Q (.ref p) (upd H' p (.lst vs))
def M.lst (m : M (List D)) : M D := do pure (.lst (← m))
def M.disp (ms : List (M D)) : M (List D) := do
  let ds ← M.args ms
  if lenOk ds.length then pure ds else M.stuck
theorem res_if {α : Type} {C : RC} {F : Addr → Prop} {μ : List Addr} {s : Sta} {σ : L2.St} {H : Hp} {b : Bool} {m : M α} {K : α → List Addr → Sta → Hp → Prop} (h : Res C W F μ s σ H (if b = true then m else M.stuck) K) : b = true ∧ Res C W F μ s σ H m K := by
  cases b with
  | true => exact ⟨rfl, h⟩
  | false => exact h.elim
theorem d_tup {ms : List (M D)} {k : Nat} (h : PA X es (tDA (XC X) W (M.args ms))) : PE X (.Tuple es k pos) (tD (XC X) W (M.tup ms)) :=
  peImp (pe_tup h) fun σ H Q ⟨F, μ, s, r, q⟩ => ⟨F, μ, s, r, q.split.imp fun ds μ1 s1 H1 x1 h1 vs hv => by
    obtain ⟨l, h1⟩ := res_if h1
    exact ⟨by rw [hv.length]; exact lenOk_line l, fun p hp => h1 μ1 _ (x1.rep.ext1 hp) _ (.of (x1.rep.newTup hp hv))⟩⟩
theorem df_lst {ms : List (M D)} (h : PA X es (tDA (XC X) W (M.args ms))) : PE X (.List es pos) (tDF (XC X) W (M.disp ms)) :=
  peImp (pe_lst h) fun σ H Q ⟨F, μ, s, r, q⟩ => ⟨F, μ, s, r, q.split.imp fun ds μ1 s1 H1 x1 h1 vs hv => by
    obtain ⟨l, h1⟩ := res_if h1
    exact ⟨by rw [hv.length]; exact lenOk_line l, fun p hp => h1.pure x1.rep p vs hp hv⟩⟩
/-- a fresh list as a value -/
theorem d_fr {m : M (List D)} (h : PE X a (tDF (XC X) W m)) : PE X a (tD (XC X) W (M.lst m)) :=
  peImp h fun σ H Q ⟨F, μ, s, r, q⟩ => ⟨F, μ, s, r, q.split.imp fun ds μ1 s1 H1 x1 h1 p vs hp hv => by
    have e := h1 μ1 _ (x1.rep.ext1 (o := .lst vs) hp)
    exact e _ (.of (x1.rep.newLst hp hv))⟩
end
end Ms
/-! Ms6: changes of the state. -/
namespace Ms
open PySem PySem.Spec PyProof.Rows L2
section
variable {C : RC} {W : WX} {F : Addr → Prop} {μ : List Addr} {s : Sta} {σ : L2.St} {H H' : Hp}
theorem RepO.some {T : Addr → Prop} {a : Addr} {o : MO} (h : RepO C T μ H a o) : H a ≠ none := by
  cases o with
  | lst l => obtain ⟨vs, e, _⟩ := h; rw [e]; simp
  | dct t k l => obtain ⟨vs, e, _⟩ := h; exact e.some
  | ins c k l => obtain ⟨A, dx, fs, _, e, _⟩ := h; rw [e]; simp
theorem Rep.tabSome (r : Rep C F μ s σ H) {a : Addr} (t : Tab F μ s σ a) : H a ≠ none := fun h => r.free h t
/-- a slot is stored anew -/
theorem Rep.put (r : Rep C F μ s σ H) {i : Nat} {sl : Slot} {w : Option V} (hi : i < s.ρ.length) (g : ∀ a o, H a = Option.some o → H' a = Option.some o)
    (ho : ∀ o a, sl = .own o → w = Option.some (.ref a) → H a = none) (hw : ∀ o, sl = .own o → ∃ a, w = Option.some (.ref a))
    (hs : ∀ T : Addr → Prop, Keep (Tab F μ s σ) T H H' → (∀ a, T a → Tab F μ s σ a ∨ ∃ o, sl = .own o ∧ w = Option.some (.ref a)) → RepS C T μ H' (σ.set i w) i sl) :
    Ext C F μ s σ H μ { s with ρ := s.ρ.set i sl } (σ.set i w) H' := by
  have hσ : i < σ.length := by rw [← r.len]; exact hi
  have own1 : ∀ b, OwnAt (s.ρ.set i sl) (σ.set i w) b → OwnAt s.ρ σ b ∨ ∃ o, sl = .own o ∧ w = Option.some (.ref b) := fun b ⟨j, oj, e1, e2⟩ => by
    by_cases hj : j = i
    · subst hj
      rw [List.getElem?_set_self hi] at e1
      rw [List.getElem?_set_self hσ] at e2
      exact .inr ⟨oj, by injection e1, by injection e2⟩
    · rw [List.getElem?_set_ne (Ne.symm hj)] at e1 e2
      exact .inl ⟨j, oj, e1, e2⟩
  have new : ∀ b, Tab F μ { s with ρ := s.ρ.set i sl } (σ.set i w) b → Tab F μ s σ b ∨ ∃ o, sl = .own o ∧ w = Option.some (.ref b) := fun b t => by
    rcases t with t | t | t
    · exact .inl (.inl t)
    · exact .inl (.inr (.inl t))
    · exact (own1 b t).imp (fun q => .inr (.inr q)) id
  have kp : Keep (Tab F μ s σ) (Tab F μ { s with ρ := s.ρ.set i sl } (σ.set i w)) H H' := ⟨fun a o e _ => g a o e, fun b t => (new b t).imp id fun ⟨o, e1, e2⟩ => ho o b e1 e2⟩
  refine ⟨List.prefix_refl _, ⟨fun a o e _ => g a o e, fun b t => ?_⟩, ⟨by simpa using r.len, fun j sj ej => ?_, fun j k oj ok b e1 e2 e3 e4 => ?_, r.lenG, fun x o ex => ?_, r.nd, fun b hb t => ?_, fun b t => ⟨fun z => ?_, fun m => ?_⟩⟩, by simp⟩
  · rcases t with t | t
    · exact .inl (.inl t)
    · rcases own1 b t with q | ⟨o, e1, e2⟩
      · exact .inl (.inr q)
      · exact .inr (ho o b e1 e2)
  · by_cases hj : j = i
    · subst hj
      rw [List.getElem?_set_self hi] at ej
      cases ej
      exact hs _ kp new
    · rw [List.getElem?_set_ne (Ne.symm hj)] at ej
      have q := r.slots j sj ej
      cases sj with
      | no => trivial
      | val d => obtain ⟨v, e1, e2⟩ := q; exact ⟨v, by rw [List.getElem?_set_ne (Ne.symm hj)]; exact e1, e2.keep kp (List.prefix_refl _)⟩
      | own o => obtain ⟨v, e1, e2⟩ := q; exact ⟨v, by rw [List.getElem?_set_ne (Ne.symm hj)]; exact e1, e2.keep kp (g v)⟩
  · by_cases hj : j = i
    · by_cases hk : k = i
      · rw [hj, hk]
      · exfalso
        subst hj
        rw [List.getElem?_set_self hi] at e1
        rw [List.getElem?_set_self hσ] at e3
        rw [List.getElem?_set_ne (Ne.symm hk)] at e2 e4
        exact r.free (ho oj b (by injection e1) (by injection e3)) (.inr (.inr ⟨k, ok, e2, e4⟩))
    · by_cases hk : k = i
      · exfalso
        subst hk
        rw [List.getElem?_set_self hi] at e2
        rw [List.getElem?_set_self hσ] at e4
        rw [List.getElem?_set_ne (Ne.symm hj)] at e1 e3
        exact r.free (ho ok b (by injection e2) (by injection e4)) (.inr (.inr ⟨j, oj, e1, e3⟩))
      · rw [List.getElem?_set_ne (Ne.symm hj)] at e1 e3
        rw [List.getElem?_set_ne (Ne.symm hk)] at e2 e4
        exact r.inj j k oj ok b e1 e2 e3 e4
  · obtain ⟨a, e1, e2⟩ := r.objs x o ex
    exact ⟨a, e1, e2.keep kp (g a)⟩
  · rcases own1 b t with q | ⟨o, e1, e2⟩
    · exact r.sep b hb q
    · exact r.free (ho o b e1 e2) (.inr (.inl hb))
  · obtain ⟨o, e⟩ := Option.ne_none_iff_exists'.mp (r.far b t).1
    rw [g b o e] at z
    cases z
  · rcases m with m | m
    · exact (r.far b t).2 (.inl m)
    · rcases own1 b m with q | ⟨o, e1, e2⟩
      · exact (r.far b t).2 (.inr q)
      · exact (r.far b t).1 (ho o b e1 e2)
theorem Rep.putVal (r : Rep C F μ s σ H) {i : Nat} {v : V} {d : D} (hi : i < s.ρ.length) (h : At C (Tab F μ s σ) μ H v d) : Ext C F μ s σ H μ { s with ρ := s.ρ.set i (.val d) } (σ.set i (Option.some v)) H :=
  r.put hi (fun _ _ e => e) (fun _ _ z => by cases z) (fun _ z => by cases z) fun T k _ => ⟨v, List.getElem?_set_self (by rw [← r.len]; exact hi), h.keep k (List.prefix_refl _)⟩
theorem Rep.putNo (r : Rep C F μ s σ H) {i : Nat} {w : Option V} (hi : i < s.ρ.length) : Ext C F μ s σ H μ { s with ρ := s.ρ.set i .no } (σ.set i w) H :=
  r.put hi (fun _ _ e => e) (fun _ _ z => by cases z) (fun _ z => by cases z) fun T k _ => trivial
theorem Rep.putLst (r : Rep C F μ s σ H) {i : Nat} {p : Addr} {vs : List V} {ds : List D} (hi : i < s.ρ.length) (hp : H p = none) (h : AtL C (Tab F μ s σ) μ H vs ds) :
    Ext C F μ s σ H μ { s with ρ := s.ρ.set i (.own (.lst ds)) } (σ.set i (Option.some (.ref p))) (upd H p (.lst vs)) :=
  r.put hi (fun a o e => by rw [upd_ne (ne_of_none e hp)]; exact e) (fun o a _ e => by cases e; exact hp) (fun o _ => ⟨p, rfl⟩) fun T k _ => ⟨p, List.getElem?_set_self (by rw [← r.len]; exact hi), vs, upd_same, h.keep k (List.prefix_refl _)⟩
/-- an own thing is changed -/
theorem Rep.mutOwn (r : Rep C F μ s σ H) {i : Nat} {o o' : MO} {a : Addr} {u : HO} (e : s.ρ[i]? = some (.own o)) (ea : σ[i]? = some (some (.ref a))) (h : Keep (Tab F μ s σ) (Tab F μ s σ) H (upd H a u) → RepO C (Tab F μ s σ) μ (upd H a u) a o') :
    Ext C F μ s σ H μ { s with ρ := s.ρ.set i (.own o') } σ (upd H a u) := by
  have hi : i < s.ρ.length := (List.getElem?_eq_some_iff.mp e).1
  have mine : OwnAt s.ρ σ a := ⟨i, o, e, ea⟩
  have own1 : ∀ b, OwnAt (s.ρ.set i (.own o')) σ b ↔ OwnAt s.ρ σ b := fun b => by
    constructor
    · rintro ⟨j, oj, e1, e2⟩
      by_cases hj : j = i
      · subst hj
        rw [ea] at e2
        cases e2
        exact mine
      · rw [List.getElem?_set_ne (Ne.symm hj)] at e1
        exact ⟨j, oj, e1, e2⟩
    · rintro ⟨j, oj, e1, e2⟩
      by_cases hj : j = i
      · subst hj
        exact ⟨j, o', List.getElem?_set_self hi, e2⟩
      · exact ⟨j, oj, by rw [List.getElem?_set_ne (Ne.symm hj)]; exact e1, e2⟩
  have tabE : Tab F μ { s with ρ := s.ρ.set i (.own o') } σ = Tab F μ s σ := by
    funext b
    unfold Tab Mine
    simp only [own1]
  have kp : Keep (Mine μ s σ) (Mine μ { s with ρ := s.ρ.set i (.own o') } σ) H (upd H a u) := ⟨fun b ob q n => by rw [upd_ne (fun z => n (by rw [z]; exact .inr mine))]; exact q, fun b t => .inl (t.imp id (own1 b).mp)⟩
  have kt : Keep (Tab F μ s σ) (Tab F μ s σ) H (upd H a u) := ⟨fun b ob q n => kp.stay b ob q fun t => n (.inr t), fun b t => .inl t⟩
  have oth : ∀ {b : Addr} {ob : MO}, b ≠ a → RepO C (Tab F μ s σ) μ H b ob → RepO C (Tab F μ s σ) μ (upd H a u) b ob := fun {b ob} n q => q.keep kt fun w e => by rw [upd_ne n]; exact e
  refine ⟨List.prefix_refl _, kp, ⟨by simpa using r.len, fun j sj ej => ?_, fun j k oj ok b e1 e2 e3 e4 => ?_, r.lenG, fun x ob ex => ?_, r.nd, fun b hb t => r.sep b hb ((own1 b).mp t), fun b t => ⟨?_, fun m => (r.far b t).2 (m.imp id (own1 b).mp)⟩⟩, rfl⟩
  · rw [tabE]
    by_cases hj : j = i
    · subst hj
      rw [List.getElem?_set_self hi] at ej
      cases ej
      exact ⟨a, ea, h kt⟩
    · rw [List.getElem?_set_ne (Ne.symm hj)] at ej
      have q := r.slots j sj ej
      cases sj with
      | no => trivial
      | val d => obtain ⟨v, e1, e2⟩ := q; exact ⟨v, e1, e2.keep kt (List.prefix_refl _)⟩
      | own ob => obtain ⟨b, e1, e2⟩ := q; exact ⟨b, e1, oth (fun z => hj (r.inj j i ob o a ej e (by rw [← z]; exact e1) ea)) e2⟩
  · have back : ∀ {j : Nat} {oj : MO}, (s.ρ.set i (.own o'))[j]? = some (.own oj) → ∃ oj', s.ρ[j]? = some (.own oj') := fun {j oj} q => by
      by_cases hj : j = i
      · exact ⟨o, by rw [hj]; exact e⟩
      · rw [List.getElem?_set_ne (Ne.symm hj)] at q
        exact ⟨oj, q⟩
    obtain ⟨_, q1⟩ := back e1
    obtain ⟨_, q2⟩ := back e2
    exact r.inj j k _ _ b q1 q2 e3 e4
  · rw [tabE]
    obtain ⟨b, e1, e2⟩ := r.objs x ob ex
    exact ⟨b, e1, oth (fun z => r.sep b (List.mem_of_getElem? e1) (by rw [z]; exact mine)) e2⟩
  · rw [upd_ne (fun z => (r.far b t).2 (by rw [z]; exact .inr mine))]
    exact (r.far b t).1
/-- a shared thing is changed -/
theorem Rep.mutG (r : Rep C F μ s σ H) {g : Nat} {o o' : MO} {a : Addr} {u : HO} (e : s.G[g]? = some o) (ea : μ[g]? = some a) (h : Keep (Tab F μ s σ) (Tab F μ s σ) H (upd H a u) → RepO C (Tab F μ s σ) μ (upd H a u) a o') :
    Ext C F μ s σ H μ { s with G := s.G.set g o' } σ (upd H a u) := by
  have hg : g < s.G.length := (List.getElem?_eq_some_iff.mp e).1
  have mem : a ∈ μ := List.mem_of_getElem? ea
  have kp : Keep (Mine μ s σ) (Mine μ { s with G := s.G.set g o' } σ) H (upd H a u) := ⟨fun b ob q n => by rw [upd_ne (fun z => n (by rw [z]; exact .inl mem))]; exact q, fun b t => .inl t⟩
  have kt : Keep (Tab F μ s σ) (Tab F μ s σ) H (upd H a u) := ⟨fun b ob q n => kp.stay b ob q fun t => n (.inr t), fun b t => .inl t⟩
  have oth : ∀ {b : Addr} {ob : MO}, b ≠ a → RepO C (Tab F μ s σ) μ H b ob → RepO C (Tab F μ s σ) μ (upd H a u) b ob := fun {b ob} n q => q.keep kt fun w e => by rw [upd_ne n]; exact e
  refine ⟨List.prefix_refl _, kp, ⟨r.len, fun j sj ej => ?_, r.inj, by simpa using r.lenG, fun x ob ex => ?_, r.nd, r.sep, fun b t => ⟨?_, (r.far b t).2⟩⟩, rfl⟩
  · have q := r.slots j sj ej
    cases sj with
    | no => trivial
    | val d => obtain ⟨v, e1, e2⟩ := q; exact ⟨v, e1, e2.keep kt (List.prefix_refl _)⟩
    | own ob => obtain ⟨b, e1, e2⟩ := q; exact ⟨b, e1, oth (fun z => r.sep a mem ⟨j, ob, ej, by rw [← z]; exact e1⟩) e2⟩
  · by_cases hx : x = g
    · subst hx
      have ex' : (s.G.set x o')[x]? = some ob := ex
      rw [List.getElem?_set_self hg] at ex'
      cases ex'
      exact ⟨a, ea, h kt⟩
    · have ex' : (s.G.set g o')[x]? = some ob := ex
      rw [List.getElem?_set_ne (Ne.symm hx)] at ex'
      obtain ⟨b, e1, e2⟩ := r.objs x ob ex'
      refine ⟨b, e1, oth (fun z => hx ?_) e2⟩
      subst z
      obtain ⟨l1, q1⟩ := List.getElem?_eq_some_iff.mp e1
      obtain ⟨l2, q2⟩ := List.getElem?_eq_some_iff.mp ea
      exact (List.getElem_inj r.nd).mp (q1.trans q2.symm)
  · rw [upd_ne (fun z => (r.far b t).2 (by rw [z]; exact .inl mem))]
    exact (r.far b t).1
/-- a new shared thing -/
theorem Rep.newG (r : Rep C F μ s σ H) {o : MO} {p : Addr} (hp : H p = none) (g : ∀ a u, H a = some u → H' a = some u) (h : ∀ (T : Addr → Prop), Keep (Tab F μ s σ) T H H' → RepO C T (μ ++ [p]) H' p o) :
    Ext C F μ s σ H (μ ++ [p]) { s with G := s.G ++ [o] } σ H' := by
  have new : ∀ b, Mine (μ ++ [p]) { s with G := s.G ++ [o] } σ b → Mine μ s σ b ∨ b = p := fun b t => by
    rcases t with t | t
    · rcases List.mem_append.mp t with t | t
      · exact .inl (.inl t)
      · exact .inr (by simpa using t)
    · exact .inl (.inr t)
  have kp : Keep (Mine μ s σ) (Mine (μ ++ [p]) { s with G := s.G ++ [o] } σ) H H' := ⟨fun b ob q _ => g b ob q, fun b t => (new b t).imp id fun z => by rw [z]; exact hp⟩
  have kt : Keep (Tab F μ s σ) (Tab F (μ ++ [p]) { s with G := s.G ++ [o] } σ) H H' := kp.tab
  have pre : μ <+: μ ++ [p] := ⟨[p], rfl⟩
  have lift : ∀ {b : Addr} {ob : MO}, RepO C (Tab F μ s σ) μ H b ob → RepO C (Tab F (μ ++ [p]) { s with G := s.G ++ [o] } σ) (μ ++ [p]) H' b ob := fun {b ob} q => by
    cases ob with
    | lst l => obtain ⟨vs, e, c⟩ := q; exact ⟨vs, g _ _ e, c.keep kt pre⟩
    | dct t k l => obtain ⟨vs, e, c⟩ := q; exact ⟨vs, e.keep (g b), c.keep kt pre⟩
    | ins c k l => obtain ⟨A, dx, fs, e1, e2, e3, c⟩ := q; exact ⟨A, dx, fs, e1, g _ _ e2, e3, c.keep kt pre⟩
  have nin : p ∉ μ := fun z => r.free hp (.inr (.inl z))
  refine ⟨pre, kp, ⟨r.len, fun j sj ej => ?_, r.inj, by simp [r.lenG], fun x ob ex => ?_, ?_, fun b hb t => ?_, fun b t => ⟨fun z => ?_, fun m => ?_⟩⟩, rfl⟩
  · have q := r.slots j sj ej
    cases sj with
    | no => trivial
    | val d => obtain ⟨v, e1, e2⟩ := q; exact ⟨v, e1, e2.keep kt pre⟩
    | own ob => obtain ⟨b, e1, e2⟩ := q; exact ⟨b, e1, lift e2⟩
  · have ex' : (s.G ++ [o])[x]? = some ob := ex
    by_cases hx : x < s.G.length
    · rw [List.getElem?_append_left hx] at ex'
      obtain ⟨b, e1, e2⟩ := r.objs x ob ex'
      exact ⟨b, by rw [List.getElem?_append_left (by rw [r.lenG]; exact hx)]; exact e1, lift e2⟩
    · rw [List.getElem?_append_right (by omega)] at ex'
      have hx2 : x - s.G.length = 0 := by
        have := (List.getElem?_eq_some_iff.mp ex').1
        simp at this
        omega
      rw [hx2] at ex'
      cases ex'
      exact ⟨p, by rw [List.getElem?_append_right (by rw [r.lenG]; omega), r.lenG, hx2]; rfl, h _ kt⟩
  · rw [List.nodup_append]
    refine ⟨r.nd, by simp, fun a ha b hb z => ?_⟩
    rw [List.mem_singleton.mp hb] at z
    exact nin (by rw [← z]; exact ha)
  · rcases List.mem_append.mp hb with q | q
    · exact r.sep b q t
    · rw [List.mem_singleton.mp q] at t
      exact r.free hp (.inr (.inr t))
  · obtain ⟨ob, q⟩ := Option.ne_none_iff_exists'.mp (r.far b t).1
    rw [g b ob q] at z
    cases z
  · rcases new b m with q | q
    · exact (r.far b t).2 q
    · exact (r.far b t).1 (by rw [q]; exact hp)
end
/-! ### statements: what they come to -/
section
variable {C : RC} {W : WX} {F : Addr → Prop} {μ : List Addr} {s : Sta} {σ : L2.St} {H : Hp} {α : Type}
theorem ResS.imp {m : M Fl} {K K' : Fl → List Addr → Sta → L2.St → Hp → Prop} (h : ResS C W F μ s σ H m K) (q : ∀ a μ1 s1 σ1 H1, Ext C F μ s σ H μ1 s1 σ1 H1 → K a μ1 s1 σ1 H1 → K' a μ1 s1 σ1 H1) : ResS C W F μ s σ H m K' := by
  unfold ResS at h ⊢
  cases e : m s with
  | ok a s1 => rw [e] at h; exact fun μ1 σ1 H1 x => q a μ1 s1 σ1 H1 x (h μ1 σ1 H1 x)
  | exc x s1 => rw [e] at h; exact h
  | stuck => rw [e] at h; exact h
/-- an expression's part first -/
theorem ResS.splitE {m : M α} {k : α → M Fl} {K : Fl → List Addr → Sta → L2.St → Hp → Prop} (h : ResS C W F μ s σ H (m >>= k) K) :
    Res C W F μ s σ H m fun a μ1 s1 H1 => ResS C W F μ1 s1 σ H1 (k a) K := by
  unfold ResS at h
  unfold Res
  cases e : m s with
  | ok a s1 =>
    have e2 : (m >>= k) s = k a s1 := by
      show M.bind m k s = _
      unfold M.bind
      rw [e]
    rw [e2] at h
    intro μ1 H1 x
    show ResS C W F μ1 s1 σ H1 (k a) K
    unfold ResS
    cases e3 : k a s1 with
    | ok b s2 => rw [e3] at h; exact fun μ2 σ2 H2 y => h μ2 σ2 H2 (x.trans y)
    | exc z s2 => rw [e3] at h; exact fun cls dx μ2 σ2 H2 y => h cls dx μ2 σ2 H2 (x.trans y)
    | stuck => rw [e3] at h; exact h
  | exc x s1 =>
    have e2 : (m >>= k) s = .exc x s1 := by
      show M.bind m k s = _
      unfold M.bind
      rw [e]
    rw [e2] at h
    exact fun cls dx μ1 H1 y => h cls dx μ1 σ H1 y
  | stuck =>
    have e2 : (m >>= k) s = .stuck := by
      show M.bind m k s = _
      unfold M.bind
      rw [e]
    rw [e2] at h
    exact h
/-- a statement first -/
theorem ResS.split {m : M Fl} {k : Fl → M Fl} {K : Fl → List Addr → Sta → L2.St → Hp → Prop} (h : ResS C W F μ s σ H (m >>= k) K) :
    ResS C W F μ s σ H m fun a μ1 s1 σ1 H1 => ResS C W F μ1 s1 σ1 H1 (k a) K := by
  unfold ResS at h ⊢
  cases e : m s with
  | ok a s1 =>
    have e2 : (m >>= k) s = k a s1 := by
      show M.bind m k s = _
      unfold M.bind
      rw [e]
    rw [e2] at h
    intro μ1 σ1 H1 x
    show ResS C W F μ1 s1 σ1 H1 (k a) K
    unfold ResS
    cases e3 : k a s1 with
    | ok b s2 => rw [e3] at h; exact fun μ2 σ2 H2 y => h μ2 σ2 H2 (x.trans y)
    | exc z s2 => rw [e3] at h; exact fun cls dx μ2 σ2 H2 y => h cls dx μ2 σ2 H2 (x.trans y)
    | stuck => rw [e3] at h; exact h
  | exc x s1 =>
    have e2 : (m >>= k) s = .exc x s1 := by
      show M.bind m k s = _
      unfold M.bind
      rw [e]
    rw [e2] at h
    exact h
  | stuck =>
    have e2 : (m >>= k) s = .stuck := by
      show M.bind m k s = _
      unfold M.bind
      rw [e]
    rw [e2] at h
    exact h
theorem ResS.pure {a : Fl} {K : Fl → List Addr → Sta → L2.St → Hp → Prop} (r : Rep C F μ s σ H) (h : ResS C W F μ s σ H (pure a) K) : K a μ s σ H := h μ σ H (.refl r)
theorem resS_stuck {K : Fl → List Addr → Sta → L2.St → Hp → Prop} (h : ResS C W F μ s σ H M.stuck K) : False := h
theorem resS_out {d : D} {k : D → M Fl} {K : Fl → List Addr → Sta → L2.St → Hp → Prop} (r : Rep C F μ s σ H) (h : ResS C W F μ s σ H (M.out d >>= k) K) : d.isOwn = false ∧ ResS C W F μ s σ H (k d) K := by
  cases e : d.isOwn with
  | true =>
    have e1 : M.out d = M.stuck := by unfold M.out; rw [e]; rfl
    have h1 := h.splitE
    rw [e1] at h1
    exact (res_stuck h1).elim
  | false =>
    have e1 : M.out d = Pure.pure d := by unfold M.out; rw [e]; rfl
    have h1 := h.splitE
    rw [e1] at h1
    exact ⟨rfl, h1.pure r⟩
end
def M.seq (a b : M Fl) : M Fl := do
  match ← a with
  | .nx => b
  | f => pure f
def M.ret (m : M D) : M Fl := do
  let d ← m
  let d ← M.out d
  pure (.rt d)
def M.retN : M Fl := pure (.rt .non)
def M.drop (m : M D) : M Fl := do
  let _ ← m
  pure .nx
def M.cond (t : M Bool) (a b : M Fl) : M Fl := do if ← t then a else b
def M.put (i : Nat) (sl : Slot) : M Fl := fun s => if i < s.ρ.length then .ok .nx { s with ρ := s.ρ.set i sl } else .stuck
def M.set (i : Nat) (m : M D) : M Fl := do
  let d ← m
  let d ← M.out d
  M.put i (.val d)
/-- a fresh list to a name that changes it -/
def M.setOwn (i : Nat) (m : M (List D)) : M Fl := do
  let ds ← m
  M.put i (.own (.lst ds))
section
variable {X : Cx} {W : WX} {a b c e o : Expr} {st : Stmt} {sts sts2 : List Stmt} {pos pos' p2 : Pos} {ma mb mc : M D} {n1 n2 : M Fl} {nb : M Bool} {x : Str} {i : Nat}
theorem ds_nil : PSs X [] (tDS (XC X) W (pure .nx)) := pssImp pss_nil fun E σ H ⟨F, μ, s, r, q⟩ => q.pure r
theorem ds_one (h : PS X st (tDS (XC X) W n1)) : PSs X [st] (tDS (XC X) W n1) := pss_one h
theorem ds_cons (h : PS X st (tDS (XC X) W n1)) (h2 : PSs X sts (tDS (XC X) W n2)) : PSs X (st :: sts) (tDS (XC X) W (M.seq n1 n2)) :=
  pssImp (pss_cons h h2) fun E σ H ⟨F, μ, s, r, q⟩ => ⟨F, μ, s, r, q.split.imp fun f μ1 s1 σ1 H1 x1 h1 => by
    cases f with
    | nx => exact ⟨F, μ1, s1, x1.rep, h1⟩
    | rt d => exact h1.pure x1.rep
    | bk => exact h1.pure x1.rep
    | ct => exact h1.pure x1.rep⟩
theorem ds_ret (h : PE X a (tD (XC X) W ma)) : PS X (.Return (some a) pos) (tDS (XC X) W (M.ret ma)) :=
  psImp (ps_ret h) fun E σ H ⟨F, μ, s, r, q⟩ => ⟨F, μ, s, r, q.splitE.imp fun d μ1 s1 H1 x1 h1 v hv => by
    obtain ⟨n, h1⟩ := resS_out x1.rep h1
    exact h1.pure x1.rep v (hv.at n)⟩
theorem ds_retN : PS X (.Return none pos) (tDS (XC X) W M.retN) := psImp ps_retN fun E σ H ⟨F, μ, s, r, q⟩ => q.pure r .non .non
theorem ds_expr (h : PE X a (tD (XC X) W ma)) (hs : swapsWith a none pos.line X.env = pure false := by rfl) : PS X (.Expr a pos) (tDS (XC X) W (M.drop ma)) :=
  psImp (ps_expr h hs) fun E σ H ⟨F, μ, s, r, q⟩ => ⟨F, μ, s, r, q.splitE.imp fun d μ1 s1 H1 x1 h1 v hv => h1.pure x1.rep⟩
theorem ds_if (hc : PT X c (tDB (XC X) W nb)) (ha : PSs X sts (tDS (XC X) W n1)) (hb : PSs X sts2 (tDS (XC X) W n2)) : PS X (.If c sts sts2 pos) (tDS (XC X) W (M.cond nb n1 n2)) :=
  psImp (ps_if hc ha hb) fun E σ H ⟨F, μ, s, r, q⟩ => ⟨F, μ, s, r, q.splitE.imp fun k μ1 s1 H1 x1 h1 => by
    cases k with
    | true => rw [if_pos rfl] at h1 ⊢; exact ⟨F, μ1, s1, x1.rep, h1⟩
    | false => rw [if_neg (by simp)] at h1 ⊢; exact ⟨F, μ1, s1, x1.rep, h1⟩⟩
theorem ds_pass : PS X (.Pass pos) (tDS (XC X) W (pure .nx)) := psImp ps_pass fun E σ H ⟨F, μ, s, r, q⟩ => q.pure r
theorem ds_break : PS X (.Break pos) (tDS (XC X) W (pure .bk)) := psImp ps_break fun E σ H ⟨F, μ, s, r, q⟩ => q.pure r
theorem ds_continue : PS X (.Continue pos) (tDS (XC X) W (pure .ct)) := psImp ps_continue fun E σ H ⟨F, μ, s, r, q⟩ => q.pure r
theorem resS_put {C : RC} {F : Addr → Prop} {μ : List Addr} {s : Sta} {σ : L2.St} {H : Hp} {sl : Slot} {K : Fl → List Addr → Sta → L2.St → Hp → Prop} (h : ResS C W F μ s σ H (M.put i sl) K) :
    i < s.ρ.length ∧ ∀ μ' σ' H', Ext C F μ s σ H μ' { s with ρ := s.ρ.set i sl } σ' H' → K .nx μ' { s with ρ := s.ρ.set i sl } σ' H' := by
  unfold ResS M.put at h
  by_cases hi : i < s.ρ.length
  · simp only [if_pos hi] at h
    exact ⟨hi, h⟩
  · simp only [if_neg hi] at h
theorem ds_set (hN : X.N.Nodup) (hi : X.N[i]? = some x) (hx : Loc X.env.scope x) (h : PE X a (tD (XC X) W ma)) (hs : swapsWith a (some (.Name x pos')) pos.line X.env = pure false := by rfl)
    (hf : X.fn x = true ∨ X.env.scope.names.lookup x = some .local := by first | exact .inl rfl | exact .inr rfl | assumption) : PS X (.Assign [.Name x pos'] a pos) (tDS (XC X) W (M.set i ma)) :=
  psImp (ps_set hN hi hx h hs hf) fun E σ H ⟨F, μ, s, r, q⟩ => ⟨F, μ, s, r, q.splitE.imp fun d μ1 s1 H1 x1 h1 v hv => by
    obtain ⟨n, h1⟩ := resS_out x1.rep h1
    obtain ⟨hl, h1⟩ := resS_put h1
    exact h1 _ _ _ (x1.rep.putVal hl (hv.at n))⟩
theorem ds_setOwn {m : M (List D)} (hN : X.N.Nodup) (hi : X.N[i]? = some x) (hx : Loc X.env.scope x) (h : PE X a (tDF (XC X) W m)) (hs : swapsWith a (some (.Name x pos')) pos.line X.env = pure false := by rfl)
    (hf : X.fn x = true ∨ X.env.scope.names.lookup x = some .local := by first | exact .inl rfl | exact .inr rfl | assumption) : PS X (.Assign [.Name x pos'] a pos) (tDS (XC X) W (M.setOwn i m)) :=
  psImp (ps_set hN hi hx h hs hf) fun E σ H ⟨F, μ, s, r, q⟩ => ⟨F, μ, s, r, q.splitE.imp fun ds μ1 s1 H1 x1 h1 p vs hp hv => by
    obtain ⟨hl, h1⟩ := resS_put h1
    exact h1 _ _ _ (x1.rep.putLst hl hp hv)⟩
end
end Ms
/-! Ms7: loops and comprehensions. -/
namespace Ms
open PySem PySem.Spec PyProof.Rows L2
section
variable {C : RC} {W : WX} {F : Addr → Prop} {μ μ' : List Addr} {s s' : Sta} {σ : L2.St} {H H2 : Hp} {α : Type}
/-- later, in the same state -/
theorem ResS.after {m : M Fl} {K : Fl → List Addr → Sta → L2.St → Hp → Prop} (h : ResS C W F μ s σ H m K) (x : Ext C F μ s σ H μ' s σ H2) : ResS C W F μ' s σ H2 m K := by
  unfold ResS at h ⊢
  cases e : m s with
  | ok a s1 => rw [e] at h; exact fun μ1 σ1 H1 y => h μ1 σ1 H1 (x.trans y)
  | exc z s1 => rw [e] at h; exact fun cls dx μ1 σ1 H1 y => h cls dx μ1 σ1 H1 (x.trans y)
  | stuck => rw [e] at h; exact h
theorem Res.after {m : M α} {K : α → List Addr → Sta → Hp → Prop} (h : Res C W F μ s σ H m K) (x : Ext C F μ s σ H μ' s σ H2) : Res C W F μ' s σ H2 m K := by
  unfold Res at h ⊢
  cases e : m s with
  | ok a s1 => rw [e] at h; exact fun μ1 H1 y => h μ1 H1 (x.trans y)
  | exc z s1 => rw [e] at h; exact fun cls dx μ1 H1 y => h cls dx μ1 H1 (x.trans y)
  | stuck => rw [e] at h; exact h
/-- slots that hold nothing may hold anything -/
theorem Rep.reslot (r : Rep C F μ s σ H) {σ' : L2.St} (l : σ'.length = σ.length) (h : ∀ (i : Nat) sl, s.ρ[i]? = some sl → sl ≠ .no → σ'[i]? = σ[i]?) : Rep C F μ s σ' H := by
  have own1 : ∀ b, OwnAt s.ρ σ' b ↔ OwnAt s.ρ σ b := fun b => by
    constructor
    · rintro ⟨i, o, e1, e2⟩
      exact ⟨i, o, e1, by rw [← h i _ e1 (by simp)]; exact e2⟩
    · rintro ⟨i, o, e1, e2⟩
      exact ⟨i, o, e1, by rw [h i _ e1 (by simp)]; exact e2⟩
  have te : Tab F μ s σ' = Tab F μ s σ := by
    funext b
    unfold Tab Mine
    simp only [own1]
  refine ⟨by rw [l]; exact r.len, fun i sl e => ?_, fun i j oi oj a e1 e2 e3 e4 => ?_, r.lenG, fun g o e => ?_, r.nd, fun a ha t => r.sep a ha ((own1 a).mp t), fun a t => ⟨(r.far a t).1, fun m => (r.far a t).2 (m.imp id (own1 a).mp)⟩⟩
  · rw [te]
    have q := r.slots i sl e
    cases sl with
    | no => trivial
    | val d => obtain ⟨v, e1, e2⟩ := q; exact ⟨v, by rw [h i _ e (by simp)]; exact e1, e2⟩
    | own o => obtain ⟨v, e1, e2⟩ := q; exact ⟨v, by rw [h i _ e (by simp)]; exact e1, e2⟩
  · rw [h i _ e1 (by simp)] at e3
    rw [h j _ e2 (by simp)] at e4
    exact r.inj i j oi oj a e1 e2 e3 e4
  · rw [te]; exact r.objs g o e
end
/-! ### targets -/
inductive Tgt where
  | one (i : Nat) | many (is : List Nat)
def Tgt.all : Tgt → List Nat
  | .one i => [i]
  | .many is => is
def putAll : List Nat → List D → List Slot → Option (List Slot)
  | [], [], ρ => some ρ
  | i :: is, d :: ds, ρ => if i < ρ.length then putAll is ds (ρ.set i (.val d)) else none
  | _, _, _ => none
def M.bindTo (t : Tgt) (d : D) : M Fl := fun s => match t with
  | .one i => if i < s.ρ.length then .ok .nx { s with ρ := s.ρ.set i (.val d) } else .stuck
  | .many is => match d with
    | .tup ds => match putAll is ds s.ρ with
      | some ρ => .ok .nx { s with ρ := ρ }
      | none => .stuck
    | _ => .stuck
def gNames : List Nat → TGs
  | [] => gNil
  | i :: is => gCons (gName i) (gNames is)
def gOf (K : PySem.W.Frag) : Tgt → TG
  | .one i => gName i
  | .many is => gTup K is.length (gNames is)
section
variable {C : RC} {W : WX} {F : Addr → Prop} {H : Hp} {μ : List Addr}
theorem gNames_ok {vs' : List Nat} : ∀ {is : List Nat} {ds : List D} {vs : List V} {s : Sta} {σ : L2.St} {ρ : List Slot} {Q : L2.St → Hp → Prop}, Rep C F μ s σ H → AtL C (Tab F μ s σ) μ H vs ds → putAll is ds s.ρ = some ρ → (∀ i ∈ is, i ∈ vs') →
    (∀ σ', Ext C F μ s σ H μ { s with ρ := ρ } σ' H → wipe σ' vs' = wipe σ vs' → Q σ' H) → gNames is vs σ H Q
  | [], [], _, s, σ, ρ, Q, r, h, e, _, k => by
    cases h
    cases e
    exact ⟨rfl, k σ (.refl r) rfl⟩
  | i :: is, d :: ds, _, s, σ, ρ, Q, r, h, e, hin, k => by
    cases h with
    | cons h t =>
      unfold putAll at e
      split at e
      · rename_i hi
        have x := r.putVal hi h
        refine ⟨_, _, rfl, gNames_ok (s := { s with ρ := s.ρ.set i (.val d) }) x.rep (x.atL t) e (fun j hj => hin j (List.mem_cons_of_mem _ hj)) fun σ' y w => k σ' (x.trans y) ?_⟩
        rw [w]
        have wset : ∀ {l : List Nat} {σ : L2.St} {v : Option V}, i ∈ l → wipe (σ.set i v) l = wipe σ l := fun {l σ v} hm => by
          induction l with
          | nil => cases hm
          | cons j l ih =>
            unfold wipe
            by_cases hj : i ∈ l
            · rw [ih hj]
            · have e1 : j = i := by
                rcases List.mem_cons.mp hm with z | z
                · exact z.symm
                · exact absurd z hj
              subst e1
              have out : ∀ {l : List Nat} {σ : L2.St} {v : Option V}, j ∉ l → wipe (σ.set j v) l = (wipe σ l).set j v := fun {l σ v} hn => by
                induction l with
                | nil => rfl
                | cons a l ih2 =>
                  unfold wipe
                  rw [ih2 (fun z => hn (List.mem_cons_of_mem _ z)), List.set_comm]
                  exact fun z => hn (by rw [z]; exact List.mem_cons_self)
              rw [out hj]
              simp
        exact wset (hin i List.mem_cons_self)
      · cases e
  | [], _ :: _, _, _, _, _, _, _, _, e, _, _ => by cases e
  | _ :: _, [], _, _, _, _, _, _, _, e, _, _ => by cases e
theorem putAll_len : ∀ {is : List Nat} {ds : List D} {ρ ρ' : List Slot}, putAll is ds ρ = some ρ' → is.length = ds.length
  | [], [], _, _, _ => rfl
  | i :: is, d :: ds, ρ, ρ', e => by
    unfold putAll at e
    split at e
    · exact congrArg (· + 1) (putAll_len e)
    · cases e
  | [], _ :: _, _, _, e => by cases e
  | _ :: _, [], _, _, e => by cases e
theorem gOf_ok {t : Tgt} {d : D} {v : V} {s s' : Sta} {σ : L2.St} {Q : L2.St → Hp → Prop} (r : Rep C F μ s σ H) (h : At C (Tab F μ s σ) μ H v d) (e : M.bindTo t d s = .ok .nx s')
    (k : ∀ σ', Ext C F μ s σ H μ s' σ' H → wipe σ' t.all = wipe σ t.all → Q σ' H) : gOf C.K t v σ H Q := by
  unfold M.bindTo at e
  cases t with
  | one i =>
    simp only at e
    split at e
    · rename_i hi
      cases e
      exact k _ (r.putVal hi h) (by show (wipe _ []).set i none = (wipe _ []).set i none; unfold wipe; simp)
    · cases e
  | many is =>
    simp only at e
    split at e
    · rename_i ds
      split at e
      · rename_i ρ e1
        cases e
        obtain ⟨a, vs, rfl, hp, c⟩ := h.tup_inv
        exact ⟨a, vs, rfl, SqTA.sq hp, by rw [c.length, ← putAll_len e1], gNames_ok (vs' := is) r c e1 (fun _ h => h) k⟩
      · cases e
    · cases e
end
section
variable {X : Cx} {e e1 e2 : Expr} {es : List Expr} {pos : Pos} {i : Nat} {x : Str} {is : List Nat}
theorem tg_one (hN : X.N.Nodup) (hi : X.N[i]? = some x) (hx : Loc X.env.scope x) (hf : X.fn x = true ∨ X.env.scope.names.lookup x = some .local := by first | exact .inl rfl | exact .inr rfl | assumption) : PG X (.Name x pos) (gOf X.K (.one i)) := pg_name hN hi hx hf
theorem tgs_nil : PGs X [] (gNames []) := pgs_nil
theorem tgs_cons (h : PG X e (gOf X.K (.one i))) (hs : PGs X es (gNames is)) (he : List.map (fun x => x.snd) (assignEach (e :: es) X.env) = assign e X.env :: List.map (fun x => x.snd) (assignEach es X.env) := by rfl) : PGs X (e :: es) (gNames (i :: is)) := pgs_cons h hs he
end
/-! ### what is walked -/
/-- one state, then another one, more being forbidden -/
structure ExtF (C : RC) (F : Addr → Prop) (μ : List Addr) (s : Sta) (σ : L2.St) (H : Hp) (F' : Addr → Prop) (μ' : List Addr) (s' : Sta) (σ' : L2.St) (H' : Hp) : Prop where
  more : ∀ a, F' a → F a ∨ H a = none
  pre : μ <+: μ'
  keep : Keep (Mine μ s σ) (Mine μ' s' σ') H H'
  rep : Rep C F' μ' s' σ' H'
theorem Ext.toF {C : RC} {F : Addr → Prop} {μ μ' : List Addr} {s s' : Sta} {σ σ' : L2.St} {H H' : Hp} (x : Ext C F μ s σ H μ' s' σ' H') : ExtF C F μ s σ H F μ' s' σ' H' := ⟨fun _ h => .inl h, x.pre, x.keep, x.rep⟩
theorem ExtF.at {C : RC} {F F' : Addr → Prop} {μ μ' : List Addr} {s s' : Sta} {σ σ' : L2.St} {H H' : Hp} (x : ExtF C F μ s σ H F' μ' s' σ' H') {v : V} {d : D} (h : At C (Tab F μ s σ) μ H v d) : At C (Tab F' μ' s' σ') μ' H' v d :=
  h.keep ⟨fun a o e n => x.keep.stay a o e fun t => n (.inr t), fun a t => t.elim (fun t => (x.more a t).imp .inl id) fun t => (x.keep.new a t).imp .inr id⟩ x.pre
def Yields (C : RC) (F : Addr → Prop) (μ : List Addr) (s : Sta) (σ : L2.St) (H : Hp) (J : It) (ds : List D) : Prop := ∀ F1 μ1 s1 σ1 H1, ExtF C F μ s σ H F1 μ1 s1 σ1 H1 → ∀ i : Nat, (ds.length ≤ i → J.stop i H1) ∧
  ∀ d, ds[i]? = some d → J.go i H1 ∧ ∀ x H2, J.yld i H1 x H2 → (∀ a o, H1 a = some o → H2 a = some o) ∧ At C (Tab F1 μ1 s1 σ1) μ1 H2 x d
def tDI (C : RC) (W : WX) (m : M (List D)) : TI := fun σ H R => ∃ F μ s, Rep C F μ s σ H ∧ Res C W F μ s σ H m fun ds μ' s' H' => ∀ J, Yields C F μ' s' σ H' J ds → R J H'
def M.forL (t : Tgt) (body : M Fl) : List D → M Fl
  | [] => pure .nx
  | d :: ds => do
    let _ ← M.bindTo t d
    match ← body with
    | .bk => pure .nx
    | .rt v => pure (.rt v)
    | _ => M.forL t body ds
def M.for_ (m : M (List D)) (t : Tgt) (body : M Fl) : M Fl := do M.forL t body (← m)
def M.whileN (c : M Bool) (body : M Fl) : Nat → M Fl
  | 0 => M.stuck
  | n + 1 => do
    if ← c then do
      match ← body with
      | .bk => pure .nx
      | .rt v => pure (.rt v)
      | _ => M.whileN c body n
    else pure .nx
theorem bindTo_res {C : RC} {W : WX} {F : Addr → Prop} {μ : List Addr} {s : Sta} {σ : L2.St} {H : Hp} {t : Tgt} {d : D} {k : Fl → M Fl} {K : Fl → List Addr → Sta → L2.St → Hp → Prop} (h : ResS C W F μ s σ H (M.bindTo t d >>= k) K) :
    ∃ s', M.bindTo t d s = .ok .nx s' ∧ ∀ μ' σ' H', Ext C F μ s σ H μ' s' σ' H' → ResS C W F μ' s' σ' H' (k .nx) K := by
  have h := h.split
  unfold ResS at h
  cases e : M.bindTo t d s with
  | stuck => rw [e] at h; exact h.elim
  | exc z s1 =>
    exfalso
    unfold M.bindTo at e
    cases t with
    | one i => simp only at e; split at e <;> cases e
    | many is =>
      simp only at e
      split at e
      · split at e <;> cases e
      · cases e
  | ok f s1 =>
    rw [e] at h
    have ef : f = .nx := by
      unfold M.bindTo at e
      cases t with
      | one i => simp only at e; split at e <;> cases e; rfl
      | many is =>
        simp only at e
        split at e
        · split at e <;> cases e; rfl
        · cases e
    subst ef
    exact ⟨s1, rfl, h⟩
section
variable {X : Cx} {W : WX} {tg iter c : Expr} {body : List Stmt} {pos : Pos} {mi : M (List D)} {t : Tgt} {mb : M Fl} {nb : M Bool}
theorem ds_for (hp : PassesOwn (model X.prog X.w) X.A X.env X.xe) (hc : X.calm = true) (hi : PI X tg iter (tDI (XC X) W mi)) (hg : PG X tg (gOf X.K t)) (hb : PSs X body (tDS (XC X) W mb))
    (hs : ∀ x, foldedSetIterable iter X.env x = pure x := by intro _; rfl) : PS X (.For tg iter body [] pos) (tDS (XC X) W (M.for_ mi t mb)) := by
  refine psImp (ps_for hp hc hi hg hb hs) fun E σ H ⟨F, μ, s, r, q⟩ => ?_
  refine ⟨F, μ, s, r, q.splitE.imp fun ds μ1 s1 H1 x1 h1 J hJ => ?_⟩
  refine ⟨fun i n σ' H' => n = ds.length - i ∧ ∃ μ' s', Ext (XC X) F μ1 s1 σ H1 μ' s' σ' H' ∧ ResS (XC X) W F μ' s' σ' H' (M.forL t mb (ds.drop i)) fun f μ' s' σ' H' => RtD (XC X) E F μ' s' σ' H' f, ⟨_, rfl, μ1, s1, .refl x1.rep, h1⟩, ?_⟩
  rintro i n σ' H' ⟨rfl, μ', s', x2, h2⟩
  obtain ⟨y1, y2⟩ := hJ F μ' s' σ' H' x2.toF i
  cases ed : ds[i]? with
  | none =>
    have hl : ds.length ≤ i := List.getElem?_eq_none_iff.mp ed
    rw [List.drop_eq_nil_of_le hl] at h2
    exact .inl ⟨y1 hl, h2.pure x2.rep⟩
  | some d =>
    obtain ⟨hl, ed'⟩ := List.getElem?_eq_some_iff.mp ed
    obtain ⟨go, y3⟩ := y2 d ed
    rw [List.drop_eq_getElem_cons hl, ed'] at h2
    refine .inr ⟨go, fun σ3 H3 => ∃ μ3 s3, Ext (XC X) F μ1 s1 σ H1 μ3 s3 σ3 H3 ∧ ResS (XC X) W F μ3 s3 σ3 H3 (M.forL t mb (ds.drop (i + 1))) fun f μ' s' σ' H' => RtD (XC X) E F μ' s' σ' H' f,
      fun σ3 H3 ⟨μ3, s3, x3, h3⟩ => ⟨ds.length - (i + 1), by omega, rfl, μ3, s3, x3, h3⟩, fun x H3 yl => ?_⟩
    obtain ⟨y4, y5⟩ := y3 x H3 yl
    have x3 := x2.rep.ext y4
    obtain ⟨s4, e4, h4⟩ := bindTo_res (h2.after x3)
    refine gOf_ok (C := XC X) x3.rep y5 e4 fun σ4 x4 _ => ?_
    have x5 := (x2.trans x3).trans x4
    refine ⟨F, μ', s4, x4.rep, ((h4 μ' σ4 H3 x4).split).imp fun f μ5 s5 σ5 H5 x6 h6 => ?_⟩
    cases f with
    | nx => exact ⟨μ5, s5, x5.trans x6, h6⟩
    | ct => exact ⟨μ5, s5, x5.trans x6, h6⟩
    | bk => exact h6.pure x6.rep
    | rt v => exact h6.pure x6.rep
theorem ds_while (n : Nat) (hp : PassesOwn (model X.prog X.w) X.A X.env X.xe) (hc : PT X c (tDB (XC X) W nb)) (hb : PSs X body (tDS (XC X) W mb)) : PS X (.While c body [] pos) (tDS (XC X) W (M.whileN nb mb n)) := by
  refine psImp (ps_while hp hc hb) fun E σ H ⟨F, μ, s, r, q⟩ => ?_
  refine ⟨fun n σ' H' => ∃ μ' s', Rep (XC X) F μ' s' σ' H' ∧ ResS (XC X) W F μ' s' σ' H' (M.whileN nb mb n) fun f μ' s' σ' H' => RtD (XC X) E F μ' s' σ' H' f, ⟨n, μ, s, r, q⟩, ?_⟩
  rintro n σ' H' ⟨μ', s', r', h⟩
  cases n with
  | zero => exact h.elim
  | succ n =>
    have h1 : ResS (XC X) W F μ' s' σ' H' (nb >>= fun k => if k = true then (mb >>= fun f => match f with | .bk => pure .nx | .rt v => pure (.rt v) | _ => M.whileN nb mb n) else pure .nx) fun f μ' s' σ' H' => RtD (XC X) E F μ' s' σ' H' f := h
    refine ⟨F, μ', s', r', h1.splitE.imp fun k μ1 s1 H1 x1 h1 => ?_⟩
    cases k with
    | false => rw [if_neg (by simp)] at h1 ⊢; exact h1.pure x1.rep
    | true =>
      rw [if_pos rfl] at h1 ⊢
      refine ⟨fun σ3 H3 => ∃ μ3 s3, Rep (XC X) F μ3 s3 σ3 H3 ∧ ResS (XC X) W F μ3 s3 σ3 H3 (M.whileN nb mb n) fun f μ' s' σ' H' => RtD (XC X) E F μ' s' σ' H' f, fun σ3 H3 q => ⟨n, Nat.lt_succ_self n, q⟩, F, μ1, s1, x1.rep, h1.split.imp fun f μ5 s5 σ5 H5 x6 h6 => ?_⟩
      cases f with
      | nx => exact ⟨μ5, s5, x6.rep, h6⟩
      | ct => exact ⟨μ5, s5, x6.rep, h6⟩
      | bk => exact h6.pure x6.rep
      | rt v => exact h6.pure x6.rep
end
end Ms
/-! Ms8: what loops walk. -/
namespace Ms
open PySem PySem.Spec PyProof.Rows L2 RZ
section
variable {C : RC} {W : WX} {F : Addr → Prop} {μ : List Addr} {s s1 : Sta} {σ : L2.St} {H : Hp} {α : Type} {m : M α} {a : α} {K : α → List Addr → Sta → Hp → Prop}
theorem Res.ok (h : Res C W F μ s σ H m K) (e : m s = .ok a s1) : ∀ μ' H', Ext C F μ s σ H μ' s1 σ H' → K a μ' s1 H' := by
  unfold Res at h
  rw [e] at h
  exact h
theorem Res.mkOk (e : m s = .ok a s1) (h : ∀ μ' H', Ext C F μ s σ H μ' s1 σ H' → K a μ' s1 H') : Res C W F μ s σ H m K := by
  unfold Res
  rw [e]
  exact h
theorem Res.other {K' : α → List Addr → Sta → Hp → Prop} (h : Res C W F μ s σ H m K) (e : ∀ a s1, m s ≠ .ok a s1) : Res C W F μ s σ H m K' := by
  unfold Res at h ⊢
  cases em : m s with
  | ok a s1 => exact absurd em (e a s1)
  | exc z s1 => rw [em] at h; exact h
  | stuck => rw [em] at h; exact h
end
section
variable {C : RC} {W : WX} {F : Addr → Prop} {μ : List Addr} {s : Sta} {σ : L2.St} {H : Hp}
theorem lt_of_get {α : Type} {l : List α} {i : Nat} {d : α} (h : l[i]? = some d) : i < l.length := (List.getElem?_eq_some_iff.mp h).1
theorem AtL.at {T : Addr → Prop} {vs : List V} {ds : List D} (h : AtL C T μ H vs ds) {i : Nat} {d : D} (e : ds[i]? = some d) : ∃ v, vs[i]? = some v ∧ At C T μ H v d := by
  have hl : i < vs.length := by rw [h.length]; exact lt_of_get e
  exact ⟨vs[i], List.getElem?_eq_getElem hl, h.get (List.getElem?_eq_getElem hl) e⟩
theorem yields_lst {a : Addr} {ds : List D} (h : At C (Tab F μ s σ) μ H (.ref a) (.lst ds)) : Yields C F μ s σ H (Itl C.K a) ds := fun F1 μ1 s1 σ1 H1 x i => by
  obtain ⟨b, vs, e, f, c⟩ := (x.at h).lst_inv
  cases e
  refine ⟨fun hl => ⟨vs, .of f.2, by rw [c.length]; exact hl⟩, fun d ed => ?_⟩
  obtain ⟨v, ev, hv⟩ := c.at ed
  exact ⟨⟨vs, v, .of f.2, ev⟩, fun y H2 ⟨e2, q⟩ => by
    subst e2
    have := q vs (.of f.2)
    rw [ev] at this
    cases this
    exact ⟨fun _ _ e => e, hv⟩⟩
theorem yields_tup {a : Addr} {ds : List D} (h : At C (Tab F μ s σ) μ H (.ref a) (.tup ds)) : Yields C F μ s σ H (Itt C.K a) ds := fun F1 μ1 s1 σ1 H1 x i => by
  obtain ⟨b, vs, e, f, c⟩ := (x.at h).tup_inv
  cases e
  refine ⟨fun hl => ⟨vs, SqTA.sq f, by rw [c.length]; exact hl⟩, fun d ed => ?_⟩
  obtain ⟨v, ev, hv⟩ := c.at ed
  exact ⟨⟨vs, v, SqTA.sq f, ev⟩, fun y H2 ⟨e2, q⟩ => by
    subst e2
    have := q vs (SqTA.sq f)
    rw [ev] at this
    cases this
    exact ⟨fun _ _ e => e, hv⟩⟩
theorem yields_scr {a : Addr} {l : List Int} (h : At C (Tab F μ s σ) μ H (.ref a) (.scr l)) : Yields C F μ s σ H (Itl C.K a) (l.map .int) := fun F1 μ1 s1 σ1 H1 x i => by
  obtain ⟨_, e, hq⟩ := (x.at h).scr_inv
  cases e
  · skip
    refine ⟨fun hl => ⟨_, hq, by simpa using hl⟩, fun d ed => ?_⟩
    rw [List.getElem?_map] at ed
    obtain ⟨k, ek, rfl⟩ := Option.map_eq_some_iff.mp ed
    exact ⟨⟨_, .int k, hq, by rw [List.getElem?_map, ek]; rfl⟩, fun y H2 ⟨e2, q⟩ => by
      subst e2
      have := q _ hq
      rw [List.getElem?_map, ek] at this
      cases this
      exact ⟨fun _ _ e => e, .int k⟩⟩
def signs (z : Str) : List D := z.cps.toList.map fun c => .str ⟨#[c]⟩
theorem yields_str {z : Str} : Yields C F μ s σ H (Its z) (signs z) := fun F1 μ1 s1 σ1 H1 x i => by
  refine ⟨fun hl => by simpa [signs, Its] using hl, fun d ed => ?_⟩
  unfold signs at ed
  rw [List.getElem?_map] at ed
  obtain ⟨c, ec, rfl⟩ := Option.map_eq_some_iff.mp ed
  have hc : z.cps[i]? = some c := by simpa using ec
  exact ⟨show i < z.cps.size from by simpa using lt_of_get ec, fun y H2 ⟨e2, c', e3, e4⟩ => by
    subst e2 e4
    rw [hc] at e3
    cases e3
    exact ⟨fun _ _ e => e, .str _⟩⟩
def rngD (lo : Int) (n : Nat) : List D := (List.range n).map fun i => .int (lo + (i : Nat))
theorem yields_rng {lo : Int} {n : Nat} : Yields C F μ s σ H (Itr lo n) (rngD lo n) := fun F1 μ1 s1 σ1 H1 x i => by
  refine ⟨fun hl => by simpa [rngD, Itr] using hl, fun d ed => ?_⟩
  unfold rngD at ed
  rw [List.getElem?_map] at ed
  obtain ⟨k, ek, rfl⟩ := Option.map_eq_some_iff.mp ed
  have hk := lt_of_get ek
  rw [List.getElem?_range (by simpa using hk)] at ek
  cases ek
  exact ⟨show i < n from by simpa using hk, fun y H2 ⟨e2, e3⟩ => by
    subst e2 e3
    exact ⟨fun _ _ e => e, .int _⟩⟩
def numbered (ds : List D) : List D := (List.range ds.length).zipWith (fun (i : Nat) d => .tup [.int i, d]) ds
theorem numbered_get {ds : List D} {i : Nat} {e : D} (h : (numbered ds)[i]? = some e) : ∃ d, ds[i]? = some d ∧ e = .tup [.int (i : Nat), d] := by
  unfold numbered at h
  rw [List.getElem?_zipWith] at h
  have hi : i < ds.length := by
    have := lt_of_get (l := List.zipWith (fun (i : Nat) d => D.tup [.int i, d]) (List.range ds.length) ds) (i := i) (d := e) (by rw [List.getElem?_zipWith]; exact h)
    simpa using this
  rw [List.getElem?_range hi, List.getElem?_eq_getElem hi] at h
  exact ⟨ds[i], List.getElem?_eq_getElem hi, by simpa using h.symm⟩
theorem numbered_length (ds : List D) : (numbered ds).length = ds.length := by simp [numbered]
theorem Rep.newPair (r : Rep C F μ s σ H) {p : Addr} {v w : V} {d e : D} (h : H p = none) (hv : At C (Tab F μ s σ) μ H v d) (hw : At C (Tab F μ s σ) μ H w e) : At C (Tab F μ s σ) μ (upd H p (.tup [v, w])) (.ref p) (.tup [d, e]) :=
  r.newTup h (.cons hv (.cons hw .nil))
theorem yields_enum {a : Addr} {ds : List D} (h : At C (Tab F μ s σ) μ H (.ref a) (.lst ds)) : Yields C F μ s σ H (Ite C.K a) (numbered ds) := fun F1 μ1 s1 σ1 H1 x i => by
  obtain ⟨b, vs, e, f, c⟩ := (x.at h).lst_inv
  cases e
  refine ⟨fun hl => ⟨vs, .of f.2, by rw [c.length]; simpa [numbered_length] using hl⟩, fun d ed => ?_⟩
  obtain ⟨d, ed2, rfl⟩ := numbered_get ed
  obtain ⟨v, ev, hv⟩ := c.at ed2
  exact ⟨⟨vs, v, .of f.2, ev⟩, fun y H2 ⟨T, z, e1, hT, e2, q⟩ => by
    subst e1 e2
    have := q vs (.of f.2)
    rw [ev] at this
    cases this
    exact ⟨fun p o e => by rw [upd_ne (ne_of_none e hT)]; exact e, x.rep.newPair hT (.int _) hv⟩⟩
def pairs (ds es : List D) : List D := ds.zipWith (fun d e => .tup [d, e]) es
theorem pairs_get {ds es : List D} {i : Nat} {z : D} (h : (pairs ds es)[i]? = some z) : ∃ d e, ds[i]? = some d ∧ es[i]? = some e ∧ z = .tup [d, e] := by
  unfold pairs at h
  rw [List.getElem?_zipWith] at h
  cases e1 : ds[i]? with
  | none => rw [e1] at h; cases h
  | some d =>
    cases e2 : es[i]? with
    | none => rw [e1, e2] at h; cases h
    | some e => rw [e1, e2] at h; exact ⟨d, e, rfl, rfl, by simpa using h.symm⟩
theorem yields_zip {a b : Addr} {ds es : List D} (h : At C (Tab F μ s σ) μ H (.ref a) (.lst ds)) (h' : At C (Tab F μ s σ) μ H (.ref b) (.lst es)) : Yields C F μ s σ H (Itz C.K a b) (pairs ds es) := fun F1 μ1 s1 σ1 H1 x i => by
  obtain ⟨_, vs, e, f, c⟩ := (x.at h).lst_inv
  cases e
  obtain ⟨_, ws, e, f', c'⟩ := (x.at h').lst_inv
  cases e
  refine ⟨fun hl => ⟨vs, ws, .of f.2, .of f'.2, ?_⟩, fun d ed => ?_⟩
  · have : min ds.length es.length ≤ i := by simpa [pairs] using hl
    rw [c.length, c'.length]
    omega
  · obtain ⟨d, e, e1, e2, rfl⟩ := pairs_get ed
    obtain ⟨v, ev, hv⟩ := c.at e1
    obtain ⟨w, ew, hw⟩ := c'.at e2
    exact ⟨⟨vs, ws, v, w, .of f.2, .of f'.2, ev, ew⟩, fun y H2 ⟨T, z1, z2, q1, hT, q2, q3, q4⟩ => by
      subst q1 q2
      have e3 := q3 vs (.of f.2)
      have e4 := q4 ws (.of f'.2)
      rw [ev] at e3
      rw [ew] at e4
      cases e3
      cases e4
      exact ⟨fun p o e => by rw [upd_ne (ne_of_none e hT)]; exact e, x.rep.newPair hT hv hw⟩⟩
theorem yields_zipT {a b : Addr} {ds es : List D} (h : At C (Tab F μ s σ) μ H (.ref a) (.tup ds)) (h' : At C (Tab F μ s σ) μ H (.ref b) (.tup es)) : Yields C F μ s σ H (ItzT C.K a b) (pairs ds es) := fun F1 μ1 s1 σ1 H1 x i => by
  obtain ⟨_, vs, e, f, c⟩ := (x.at h).tup_inv
  cases e
  obtain ⟨_, ws, e, f', c'⟩ := (x.at h').tup_inv
  cases e
  refine ⟨fun hl => ⟨vs, ws, SqTA.sq f, SqTA.sq f', ?_⟩, fun d ed => ?_⟩
  · have : min ds.length es.length ≤ i := by simpa [pairs] using hl
    rw [c.length, c'.length]
    omega
  · obtain ⟨d, e, e1, e2, rfl⟩ := pairs_get ed
    obtain ⟨v, ev, hv⟩ := c.at e1
    obtain ⟨w, ew, hw⟩ := c'.at e2
    exact ⟨⟨vs, ws, v, w, SqTA.sq f, SqTA.sq f', ev, ew⟩, fun y H2 ⟨T, z1, z2, q1, hT, q2, q3, q4⟩ => by
      subst q1 q2
      have e3 := q3 vs (SqTA.sq f)
      have e4 := q4 ws (SqTA.sq f')
      rw [ev] at e3
      rw [ew] at e4
      cases e3
      cases e4
      exact ⟨fun p o e => by rw [upd_ne (ne_of_none e hT)]; exact e, x.rep.newPair hT hv hw⟩⟩
end
/-! ### sources -/
theorem piOr {X : Cx} {tg e : Expr} {w1 w2 : TI} (h1 : PI X tg e w1) (h2 : PI X tg e w2) : PI X tg e (fun σ H R => w1 σ H R ∨ w2 σ H R) := ⟨fun pins s σ H R I q => q.elim (h1.run pins s σ H R I) (h2.run pins s σ H R I)⟩
theorem piImp {X : Cx} {tg e : Expr} {w1 w2 : TI} (h : PI X tg e w1) (i : ∀ σ H R, w2 σ H R → w1 σ H R) : PI X tg e w2 := ⟨fun pins s σ H R I q => h.run pins s σ H R I (i σ H R q)⟩
/-- a value's items -/
def D.items : D → Option (List D)
  | .tup l => some l
  | .lst l => some l
  | .scr l => some (l.map .int)
  | .str z => some (signs z)
  | _ => none
def M.opL (o : Option (List D)) : M (List D) := match o with
  | some l => pure l
  | none => M.stuck
def M.items (m : M D) : M (List D) := do M.opL (← m).items
def M.range1 (ms : List (M D)) : M (List D) := do
  match ← M.args ms with
  | [.int n] => if -(2 ^ 62) ≤ n ∧ n < 2 ^ 62 then pure (rngD 0 n.toNat) else M.stuck
  | _ => M.stuck
def M.range2 (ms : List (M D)) : M (List D) := do
  match ← M.args ms with
  | [.int a, .int b] => if -(2 ^ 62) ≤ a ∧ a < 2 ^ 62 ∧ -(2 ^ 62) ≤ b ∧ b < 2 ^ 62 then pure (rngD a (b - a).toNat) else M.stuck
  | _ => M.stuck
def D.enumL : D → Option (List D)
  | .lst l => some (numbered l)
  | _ => none
def M.enum (ms : List (M D)) : M (List D) := do
  match ← M.args ms with
  | [d] => M.opL d.enumL
  | _ => M.stuck
def M.zip (ms : List (M D)) : M (List D) := do
  match ← M.args ms with
  | [.lst a, .lst b] => pure (pairs a b)
  | [.tup a, .tup b] => pure (pairs a b)
  | _ => M.stuck
section
variable {X : Cx} {W : WX} {tg e e2 : Expr} {p pos tpos : Pos} {m m2 : M D} {elts : List Expr} {kk : Nat}
theorem di_val (h : PE X e (tD (XC X) W m)) : PI X tg e (tDI (XC X) W (M.items m)) := by
  refine piImp (piOr (pi_list h) (piOr (pi_tup h) (pi_str h))) fun σ H R ⟨F, μ, s, r, q⟩ => ?_
  have q := q.split
  have no : (∀ d s1, m s = .ok d s1 → d.items = none) → iList X.K (tD (XC X) W m) σ H R := fun hn => ⟨F, μ, s, r, by
    cases em : m s with
    | ok d s1 =>
      refine .mkOk em fun μ1 H1 x1 v hv => ?_
      have q2 := q.ok em μ1 H1 x1
      rw [show M.opL d.items = M.stuck by rw [hn d s1 em]; rfl] at q2
      exact (res_stuck q2).elim
    | _ => exact q.other (by rw [em]; intro _ _ z; cases z)⟩
  cases em : m s with
  | stuck => exact .inl (no fun d s1 z => by rw [em] at z; cases z)
  | exc z s1 => exact .inl (no fun d s1 z => by rw [em] at z; cases z)
  | ok d s1 =>
    have use : ∀ {t : V → Hp → Prop}, (∀ μ1 H1, Ext (XC X) F μ s σ H μ1 s1 σ H1 → ∀ v, AtX (XC X) F μ1 s1 σ H1 v d → (∀ l, d.items = some l → ∀ J, Yields (XC X) F μ1 s1 σ H1 J l → R J H1) → t v H1) → tD (XC X) W m σ H t := fun {t} k => ⟨F, μ, s, r, by
      refine .mkOk em fun μ1 H1 x1 v hv => k μ1 H1 x1 v hv fun l el J hJ => ?_
      have q2 := q.ok em μ1 H1 x1
      rw [show M.opL d.items = pure l by rw [el]; rfl] at q2
      exact (q2.pure x1.rep) J hJ⟩
    cases d with
    | lst l => exact .inl (use fun μ1 H1 x1 v hv k => by
        obtain ⟨a, vs, rfl, f, c⟩ := At.lst_inv hv
        exact ⟨a, rfl, ⟨vs, .of f.2⟩, k l rfl _ (yields_lst (C := XC X) hv)⟩)
    | scr l => exact .inl (use fun μ1 H1 x1 v hv k => by
        have hv2 : At (XC X) (Tab F μ1 s1 σ) μ1 H1 v (.scr l) := hv
        obtain ⟨a, rfl, hq⟩ := hv2.scr_inv
        exact ⟨_, rfl, ⟨_, hq⟩, k _ rfl _ (yields_scr (C := XC X) hv2)⟩)
    | tup l => exact .inr (.inl (use fun μ1 H1 x1 v hv k => by
        obtain ⟨a, vs, rfl, f, c⟩ := At.tup_inv hv
        exact ⟨a, rfl, ⟨vs, SqTA.sq f⟩, k l rfl _ (yields_tup (C := XC X) hv)⟩))
    | str z => exact .inr (.inr (use fun μ1 H1 x1 v hv k => by
        cases at_str hv
        exact ⟨z, rfl, k _ rfl _ yields_str⟩))
    | _ => exact .inl (no fun d s1 z => by rw [em] at z; cases z; rfl)
theorem di_range1 {a : Expr} (hg : Gl X "range") (hm : X.mg "range" = none) (ha : PA X [a] (tDA (XC X) W (M.args [m]))) (hs : starEach [a] X.env = [(false, eval a X.env)] := by rfl) : PI X tg (.Call (.Name "range" p) [a] [] pos) (tDI (XC X) W (M.range1 [m])) := by
  refine piImp (pi_range1 hg hm ha hs) fun σ H R ⟨F, μ, s, r, q⟩ => ⟨F, μ, s, r, q.split.imp fun ds μ1 s1 H1 x1 h1 vs hv => ?_⟩
  split at h1
  · split at h1
    · rename_i c
      cases hv with
      | cons h t =>
        cases t
        cases h.int_inv
        exact ⟨_, rfl, c.1, c.2, h1.pure x1.rep _ yields_rng⟩
    · exact h1.elim
  · exact h1.elim
theorem di_range2 {a b : Expr} (hg : Gl X "range") (hm : X.mg "range" = none) (ha : PA X [a, b] (tDA (XC X) W (M.args [m, m2]))) (hs : starEach [a, b] X.env = [(false, eval a X.env), (false, eval b X.env)] := by rfl) (hs2 : starEach [b] X.env = [(false, eval b X.env)] := by rfl) :
    PI X tg (.Call (.Name "range" p) [a, b] [] pos) (tDI (XC X) W (M.range2 [m, m2])) := by
  refine piImp (pi_range2 hg hm ha hs hs2) fun σ H R ⟨F, μ, s, r, q⟩ => ⟨F, μ, s, r, q.split.imp fun ds μ1 s1 H1 x1 h1 vs hv => ?_⟩
  split at h1
  · split at h1
    · rename_i c
      cases hv with
      | cons h t =>
        cases t with
        | cons h2 t =>
          cases t
          cases h.int_inv
          cases h2.int_inv
          exact ⟨_, _, rfl, c, h1.pure x1.rep _ yields_rng⟩
    · exact h1.elim
  · exact h1.elim
theorem di_enum (hg : Gl X "enumerate") (hm : X.mg "enumerate" = none) (ha : PA X [e] (tDA (XC X) W (M.args [m]))) (hs : starEach [e] X.env = [(false, eval e X.env)] := by rfl) :
    PI X (.Tuple elts kk tpos) (.Call (.Name "enumerate" p) [e] [] pos) (tDI (XC X) W (M.enum [m])) := by
  refine piImp (pi_enum hg hm ha hs) fun σ H R ⟨F, μ, s, r, q⟩ => ⟨F, μ, s, r, q.split.imp fun ds μ1 s1 H1 x1 h1 vs hv => ?_⟩
  split at h1
  · rename_i d
    cases hv with
    | cons h t =>
      cases t
      cases d with
      | lst l =>
        obtain ⟨a, ws, rfl, f, c⟩ := h.lst_inv
        exact ⟨a, ws, rfl, .of f.2, Res.pure x1.rep h1 _ (yields_enum (C := XC X) h)⟩
      | _ => exact (res_stuck h1).elim
  · exact h1.elim
theorem di_zip (hg : Gl X "zip") (hm : X.mg "zip" = none) (ha : PA X [e, e2] (tDA (XC X) W (M.args [m, m2]))) (hs : starEach [e, e2] X.env = (false, eval e X.env) :: starEach [e2] X.env := by rfl) (hs2 : ((backTo pos (starEach [e2] X.env)).any fun x => x.fst) = false := by rfl) :
    PI X (.Tuple elts kk tpos) (.Call (.Name "zip" p) [e, e2] [] pos) (tDI (XC X) W (M.zip [m, m2])) := by
  refine piImp (pi_zipA hg hm ha hs hs2) fun σ H R ⟨F, μ, s, r, q⟩ => ⟨F, μ, s, r, q.split.imp fun ds μ1 s1 H1 x1 h1 vs hv => ?_⟩
  split at h1
  · cases hv with
    | cons h t =>
      cases t with
      | cons h2 t =>
        cases t
        obtain ⟨a, ws, rfl, f, c⟩ := h.lst_inv
        obtain ⟨b, us, rfl, f2, c2⟩ := h2.lst_inv
        exact ⟨a, b, ws, us, rfl, .inl ⟨.of f.2, .of f2.2, h1.pure x1.rep _ (yields_zip (C := XC X) h h2)⟩⟩
  · cases hv with
    | cons h t =>
      cases t with
      | cons h2 t =>
        cases t
        obtain ⟨a, ws, rfl, f, c⟩ := h.tup_inv
        obtain ⟨b, us, rfl, f2, c2⟩ := h2.tup_inv
        exact ⟨a, b, ws, us, rfl, .inr ⟨SqTA.sq f, SqTA.sq f2, h1.pure x1.rep _ (yields_zipT (C := XC X) h h2)⟩⟩
  · exact h1.elim
end
end Ms
/-! Ms9: list comprehensions. -/
namespace Ms
open PySem PySem.Spec PyProof.Rows L2
def wipeR : List Nat → List Slot → List Slot
  | [], ρ => ρ
  | v :: vs, ρ => (wipeR vs ρ).set v .no
def M.wipe (vs : List Nat) : M Unit := fun s => .ok () { s with ρ := wipeR vs s.ρ }
def M.calm {α : Type} (m : M α) : M α := fun s => match m s with
  | .exc _ _ => .stuck
  | o => o
def M.compL (vs : List Nat) (t : Tgt) (c : M Bool) (e : M D) : List D → M (List D)
  | [] => pure []
  | d :: ds => do
    let _ ← M.bindTo t d
    if ← M.calm c then do
      let y ← M.calm e
      let y ← M.out y
      M.wipe vs
      let ys ← M.compL vs t c e ds
      pure (y :: ys)
    else do
      M.wipe vs
      M.compL vs t c e ds
def M.comp (vs : List Nat) (mi : M (List D)) (t : Tgt) (c : M Bool) (e : M D) : M (List D) := do
  let ds ← mi
  if lenOk (ds.length + 1) then do
    M.wipe vs
    M.compL vs t c e ds
  else M.stuck
section
variable {C : RC} {W : WX} {F : Addr → Prop} {μ μ' : List Addr} {s s' : Sta} {σ σ' : L2.St} {H H' : Hp}
theorem Rep.dropSlot (r : Rep C F μ s σ H) (i : Nat) : Ext C F μ s σ H μ { s with ρ := s.ρ.set i .no } σ H := by
  by_cases hi : i < s.ρ.length
  · have hσ : i < σ.length := by rw [← r.len]; exact hi
    have x := r.putNo (w := σ[i]) hi
    rw [List.set_getElem_self] at x
    exact x
  · rw [List.set_eq_of_length_le (by omega)]
    exact .refl r
theorem Rep.wipe (r : Rep C F μ s σ H) : ∀ vs : List Nat, Ext C F μ s σ H μ { s with ρ := wipeR vs s.ρ } σ H
  | [] => .refl r
  | v :: vs => (r.wipe vs).trans ((r.wipe vs).rep.dropSlot v)
theorem wipeR_no : ∀ {vs : List Nat} {ρ : List Slot} {i : Nat} {sl : Slot}, (wipeR vs ρ)[i]? = some sl → sl ≠ .no → i ∉ vs
  | [], _, _, _, _, _ => by simp
  | v :: vs, ρ, i, sl, e, n => by
    unfold wipeR at e
    by_cases hv : i = v
    · subst hv
      by_cases hi : i < (wipeR vs ρ).length
      · rw [List.getElem?_set_self hi] at e
        cases e
        exact absurd rfl n
      · rw [List.set_eq_of_length_le (by omega), List.getElem?_eq_none (by omega)] at e
        cases e
    · rw [List.getElem?_set_ne (Ne.symm hv)] at e
      exact fun z => (List.mem_cons.mp z).elim hv (wipeR_no e n)
theorem wipe_get : ∀ {vs : List Nat} {σ : L2.St} {i : Nat}, i ∉ vs → (L2.wipe σ vs)[i]? = σ[i]?
  | [], _, _, _ => rfl
  | v :: vs, σ, i, h => by
    unfold L2.wipe
    rw [List.getElem?_set_ne (fun z => h (by rw [z]; exact List.mem_cons_self)), wipe_get fun z => h (List.mem_cons_of_mem _ z)]
theorem Rep.toWipe {vs : List Nat} (r : Rep C F μ { s with ρ := wipeR vs s.ρ } σ H) : Rep C F μ { s with ρ := wipeR vs s.ρ } (L2.wipe σ vs) H :=
  r.reslot (L2.wipe_length σ vs) fun i sl e n => wipe_get (wipeR_no e n)
theorem Rep.ofWipe {vs : List Nat} (r : Rep C F μ { s with ρ := wipeR vs s.ρ } σ' H) (w : L2.wipe σ' vs = L2.wipe σ vs) : Rep C F μ { s with ρ := wipeR vs s.ρ } σ H := by
  refine r.reslot ?_ fun i sl e n => ?_
  · have := congrArg List.length w
    rw [L2.wipe_length, L2.wipe_length] at this
    exact this.symm
  · rw [← wipe_get (wipeR_no e n), ← w, wipe_get (wipeR_no e n)]
/-- a place of another's -/
abbrev Also (F : Addr → Prop) (p : Addr) : Addr → Prop := fun a => F a ∨ a = p
theorem Rep.forbid (r : Rep C F μ s σ H) {p : Addr} {o : HO} (hp : H p = none) : Rep C (Also F p) μ s σ (upd H p o) := by
  have g : ∀ a u, H a = some u → upd H p o a = some u := fun a u e => by rw [upd_ne (ne_of_none e hp)]; exact e
  have nm : ¬ Mine μ s σ p := fun m => r.free hp (.inr m)
  have k : Keep (Tab F μ s σ) (Tab (Also F p) μ s σ) H (upd H p o) := ⟨fun a u e _ => g a u e, fun a t => by
    rcases t with (t | t) | t
    · exact .inl (.inl t)
    · exact .inr (by rw [t]; exact hp)
    · exact .inl (.inr t)⟩
  refine ⟨r.len, fun i sl e => ?_, r.inj, r.lenG, fun x ob e => ?_, r.nd, r.sep, fun a t => ?_⟩
  · have q := r.slots i sl e
    cases sl with
    | no => trivial
    | val d => obtain ⟨v, e1, e2⟩ := q; exact ⟨v, e1, e2.keep k (List.prefix_refl _)⟩
    | own ob => obtain ⟨v, e1, e2⟩ := q; exact ⟨v, e1, e2.keep k (g v)⟩
  · obtain ⟨a, e1, e2⟩ := r.objs x ob e
    exact ⟨a, e1, e2.keep k (g a)⟩
  · rcases t with t | t
    · obtain ⟨u, q⟩ := Option.ne_none_iff_exists'.mp (r.far a t).1
      exact ⟨by rw [g a u q]; simp, (r.far a t).2⟩
    · subst t
      exact ⟨by rw [upd_same]; simp, nm⟩
theorem Frz.del {T : Addr → Prop} {a p : Addr} {u : HO} (f : Frz (fun x => T x ∨ x = p) H a u) : Frz T (L2.del H p) a u := ⟨fun t => f.1 (.inl t), by rw [del_ne (fun z => f.1 (.inr z))]; exact f.2⟩
theorem At.del {T : Addr → Prop} {p : Addr} {v : V} {d : D} (h : At C (fun x => T x ∨ x = p) μ H v d) : At C T μ (L2.del H p) v d := by
  induction h with
  | non => exact .non
  | bl b => exact .bl b
  | int i => exact .int i
  | str x => exact .str x
  | tup q l c ih => exact .tup (q.imp Frz.del id) l ih
  | lst q l c ih => exact .lst q.del l ih
  | dct n q l c ih => exact .dct (fun t => n (.inl t)) (q.keep fun o e => by rw [del_ne (fun z => n (.inr z))]; exact e) l ih
  | exc0 g q => exact .exc0 g q.del
  | exc1 g q hd hn hl c ih => exact .exc1 g q.del hd.del hn hl ih
  | ref q => exact .ref q
  | @scr a l q =>
    refine .scr (q.imp (fun ⟨n, q⟩ => ?_) id)
    have ne : a ≠ p := fun z => n (.inr z)
    refine ⟨fun t => n (.inl t), ?_⟩
    rcases q with q | ⟨o, q⟩
    · exact .inl (by rw [del_ne ne]; exact q)
    · exact .inr ⟨o, by rw [del_ne ne]; exact q⟩
theorem AtL.del {T : Addr → Prop} {p : Addr} : ∀ {vs : List V} {ds : List D}, AtL C (fun x => T x ∨ x = p) μ H vs ds → AtL C T μ (L2.del H p) vs ds
  | _, _, .nil => .nil
  | _, _, .cons h t => .cons h.del t.del
theorem tab_also {p : Addr} : Tab (Also F p) μ s σ = fun x => Tab F μ s σ x ∨ x = p := by
  funext x
  unfold Tab
  exact propext ⟨fun t => t.elim (fun t => t.elim (fun t => .inl (.inl t)) .inr) fun t => .inl (.inr t), fun t => t.elim (fun t => t.elim (fun t => .inl (.inl t)) .inr) fun t => .inl (.inr t)⟩
theorem At.unalso {p : Addr} {v : V} {d : D} (h : At C (Tab (Also F p) μ s σ) μ H v d) : At C (Tab F μ s σ) μ (L2.del H p) v d := by
  rw [tab_also] at h
  exact h.del
theorem Rep.unforbid {p : Addr} (r : Rep C (Also F p) μ s σ H) (np : ¬ F p) : Rep C F μ s σ (L2.del H p) := by
  have nm : ∀ {a}, Mine μ s σ a → a ≠ p := fun {a} m z => (r.far p (.inr rfl)).2 (by rw [← z]; exact m)
  have lift : ∀ {a : Addr} {o : MO}, a ≠ p → RepO C (Tab (Also F p) μ s σ) μ H a o → RepO C (Tab F μ s σ) μ (L2.del H p) a o := fun {a o} n x => by
    rw [tab_also] at x
    cases o with
    | lst l => obtain ⟨vs, e, c⟩ := x; exact ⟨vs, by rw [del_ne n]; exact e, c.del⟩
    | dct t k l => obtain ⟨vs, e, c⟩ := x; exact ⟨vs, e.keep fun o q => by rw [del_ne n]; exact q, c.del⟩
    | ins c k l => obtain ⟨A, dx, fs, e1, e2, e3, c⟩ := x; exact ⟨A, dx, fs, e1, by rw [del_ne n]; exact e2, e3, c.del⟩
  refine ⟨r.len, fun i sl e => ?_, r.inj, r.lenG, fun x ob e => ?_, r.nd, r.sep, fun a t => ⟨?_, (r.far a (.inl t)).2⟩⟩
  · have q := r.slots i sl e
    cases sl with
    | no => trivial
    | val d => obtain ⟨v, e1, e2⟩ := q; exact ⟨v, e1, e2.unalso⟩
    | own ob => obtain ⟨v, e1, e2⟩ := q; exact ⟨v, e1, lift (nm (.inr ⟨i, ob, e, e1⟩)) e2⟩
  · obtain ⟨a, e1, e2⟩ := r.objs x ob e
    exact ⟨a, e1, lift (nm (.inl (List.mem_of_getElem? e1))) e2⟩
  · rw [del_ne (fun z => np (by rw [← z]; exact t))]
    exact (r.far a (.inl t)).1
theorem mine_wipe {vs : List Nat} {σ' : L2.St} (w : L2.wipe σ' vs = L2.wipe σ vs) : Mine μ { s with ρ := wipeR vs s.ρ } σ' = Mine μ { s with ρ := wipeR vs s.ρ } σ := by
  have e : ∀ {σ1 σ2 : L2.St}, L2.wipe σ1 vs = L2.wipe σ2 vs → ∀ a, OwnAt (wipeR vs s.ρ) σ1 a → OwnAt (wipeR vs s.ρ) σ2 a := fun {σ1 σ2} w a ⟨i, o, e1, e2⟩ => by
    have ni := wipeR_no e1 (by simp)
    exact ⟨i, o, e1, by rw [← wipe_get ni, ← w, wipe_get ni]; exact e2⟩
  funext a
  exact propext (or_congr Iff.rfl ⟨e w a, e w.symm a⟩)
theorem wipe_idem : ∀ (vs : List Nat) (σ : L2.St), L2.wipe (L2.wipe σ vs) vs = L2.wipe σ vs := fun vs σ => by
  apply List.ext_getElem?
  intro i
  by_cases hi : i ∈ vs
  · have hn : ∀ {l : List Nat} {τ : L2.St}, i ∈ l → τ.length = σ.length → (L2.wipe τ l)[i]? = if i < σ.length then some none else none := fun {l τ} hm hl => by
      induction l with
      | nil => cases hm
      | cons v l ih =>
        unfold L2.wipe
        by_cases hv : v = i
        · subst hv
          by_cases h : v < σ.length
          · rw [if_pos h, List.getElem?_set_self (by rw [L2.wipe_length, hl]; exact h)]
          · rw [if_neg h, List.getElem?_eq_none (by rw [List.length_set, L2.wipe_length, hl]; omega)]
        · rw [List.getElem?_set_ne hv]
          exact ih ((List.mem_cons.mp hm).resolve_left (fun z => hv z.symm))
    rw [hn hi (L2.wipe_length σ vs), hn hi rfl]
  · rw [wipe_get hi]
theorem M.bind_ok {α β : Type} {m : M α} {k : α → M β} {s s2 : Sta} {b : β} (h : (m >>= k) s = .ok b s2) : ∃ a s1, m s = .ok a s1 ∧ k a s1 = .ok b s2 := by
  have h1 : M.bind m k s = .ok b s2 := h
  unfold M.bind at h1
  split at h1
  · exact ⟨_, _, by assumption, h1⟩
  · cases h1
  · cases h1
theorem M.bind_exc {α β : Type} {m : M α} {k : α → M β} {s s2 : Sta} {z : D} (h : (m >>= k) s = .exc z s2) : m s = .exc z s2 ∨ ∃ a s1, m s = .ok a s1 ∧ k a s1 = .exc z s2 := by
  have h1 : M.bind m k s = .exc z s2 := h
  unfold M.bind at h1
  split at h1
  · exact .inr ⟨_, _, by assumption, h1⟩
  · cases h1; exact .inl (by assumption)
  · cases h1
theorem M.calm_ok {α : Type} {m : M α} {s s2 : Sta} {a : α} (h : M.calm m s = .ok a s2) : m s = .ok a s2 := by
  unfold M.calm at h
  split at h
  · cases h
  · exact h
theorem M.calm_exc {α : Type} {m : M α} {s s2 : Sta} {z : D} (h : M.calm m s = .exc z s2) : False := by
  unfold M.calm at h
  split at h
  · cases h
  · rename_i n
    exact n _ _ h
theorem M.out_ok {d y : D} {s s2 : Sta} (h : M.out d s = .ok y s2) : d.isOwn = false ∧ y = d ∧ s2 = s := by
  unfold M.out at h
  cases e : d.isOwn with
  | true => rw [e] at h; cases h
  | false => rw [e] at h; cases h; exact ⟨rfl, rfl, rfl⟩
theorem bindTo_nx {t : Tgt} {d : D} {s s' : Sta} {f : Fl} (h : M.bindTo t d s = .ok f s') : f = .nx := by
  unfold M.bindTo at h
  cases t with
  | one i => simp only at h; split at h <;> cases h; rfl
  | many is =>
    simp only at h
    split at h
    · split at h <;> cases h; rfl
    · cases h
theorem bindTo_noexc {t : Tgt} {d z : D} {s s' : Sta} (h : M.bindTo t d s = .exc z s') : False := by
  unfold M.bindTo at h
  cases t with
  | one i => simp only at h; split at h <;> cases h
  | many is =>
    simp only at h
    split at h
    · split at h <;> cases h
    · cases h
theorem compL_cons {vs : List Nat} {t : Tgt} {c : M Bool} {e : M D} {d : D} {ds ys : List D} {s se : Sta} (h : M.compL vs t c e (d :: ds) s = .ok ys se) : ∃ s3 b s4, M.bindTo t d s = .ok .nx s3 ∧ c s3 = .ok b s4 ∧
    ((b = true ∧ ∃ y s5 ys', e s4 = .ok y s5 ∧ y.isOwn = false ∧ M.compL vs t c e ds { s5 with ρ := wipeR vs s5.ρ } = .ok ys' se ∧ ys = y :: ys') ∨ (b = false ∧ M.compL vs t c e ds { s4 with ρ := wipeR vs s4.ρ } = .ok ys se)) := by
  unfold M.compL at h
  obtain ⟨f, s3, h1, g1⟩ := M.bind_ok h
  cases bindTo_nx h1
  obtain ⟨b, s4, h2, g2⟩ := M.bind_ok g1
  refine ⟨s3, b, s4, h1, M.calm_ok h2, ?_⟩
  cases b with
  | true =>
    rw [if_pos rfl] at g2
    obtain ⟨y, s5, h3, g3⟩ := M.bind_ok g2
    obtain ⟨y', s5', h4, g4⟩ := M.bind_ok g3
    obtain ⟨n, e1, e2⟩ := M.out_ok h4
    subst e1 e2
    obtain ⟨_, s6, h5, g5⟩ := M.bind_ok g4
    cases h5
    obtain ⟨ys', s7, h6, g6⟩ := M.bind_ok g5
    cases g6
    exact .inl ⟨rfl, _, _, ys', M.calm_ok h3, n, h6, rfl⟩
  | false =>
    rw [if_neg (by simp)] at g2
    obtain ⟨_, s6, h5, g5⟩ := M.bind_ok g2
    cases h5
    exact .inr ⟨rfl, g5⟩
theorem compL_noexc {vs : List Nat} {t : Tgt} {c : M Bool} {e : M D} : ∀ {ds : List D} {s se : Sta} {z : D}, M.compL vs t c e ds s = .exc z se → False
  | [], _, _, _, h => by cases h
  | d :: ds, s, se, z, h => by
    unfold M.compL at h
    rcases M.bind_exc h with h | ⟨f, s3, _, h⟩
    · exact bindTo_noexc h
    · rcases M.bind_exc h with h | ⟨b, s4, _, h⟩
      · exact M.calm_exc h
      · cases b with
        | true =>
          rw [if_pos rfl] at h
          rcases M.bind_exc h with h | ⟨y, s5, _, h⟩
          · exact M.calm_exc h
          · rcases M.bind_exc h with h | ⟨y', s6, _, h⟩
            · unfold M.out at h
              split at h <;> cases h
            · rcases M.bind_exc h with h | ⟨_, s7, _, h⟩
              · cases h
              · rcases M.bind_exc h with h | ⟨ys, s8, _, h⟩
                · exact compL_noexc h
                · cases h
        | false =>
          rw [if_neg (by simp)] at h
          rcases M.bind_exc h with h | ⟨_, s7, _, h⟩
          · cases h
          · exact compL_noexc h
end
/-- no exception is wished for -/
def W0 : WX := fun _ _ _ _ => False
section
variable {X : Cx} {W : WX} {elt tg iter cnd : Expr} {ifs : List Expr} {scope : Scope} {own : List (Str × Nat)} {pos : Pos} {mi : M (List D)} {t : Tgt} {mc : M Bool} {me : M D}
theorem dts_nil : PTs X [] (tDB (XC X) W (pure true)) := ⟨fun pins s σ H Q I ⟨F, μ, s', r, q⟩ => pts_nil.run pins s σ H Q I (q.pure r)⟩
theorem dts_one (h : PT X cnd (tDB (XC X) W mc)) : PTs X [cnd] (tDB (XC X) W mc) := pts_one h
theorem upd_del {H : Hp} {p : Addr} {o : HO} : upd (L2.del H p) p o = upd H p o := by
  funext b
  by_cases h : b = p
  · rw [h, upd_same, upd_same]
  · rw [upd_ne h, upd_ne h, del_ne h]
/-- a turn of a block, seen from around -/
theorem block_step {C : RC} {F : Addr → Prop} {μ μ5 : List Addr} {s s5 : Sta} {σ σ2 : L2.St} {Hd H2 H5 : Hp} {p : Addr} {o : HO} {vs : List Nat} (hp : Hd p = none) (np : ¬ F p) (g : ∀ a u, upd Hd p o a = some u → H2 a = some u)
    (nm : ¬ Mine μ { s with ρ := wipeR vs s.ρ } (L2.wipe σ vs) p) (x : Ext C (Also F p) μ { s with ρ := wipeR vs s.ρ } (L2.wipe σ vs) H2 μ5 s5 σ2 H5) (w : L2.wipe σ2 vs = L2.wipe σ vs) :
    Ext C F μ { s with ρ := wipeR vs s.ρ } σ Hd μ5 { s5 with ρ := wipeR vs s5.ρ } σ (L2.del H5 p) ∧ H5 p = some o ∧
      ∀ {v : V} {d : D}, At C (Tab (Also F p) μ5 s5 σ2) μ5 H5 v d → At C (Tab F μ5 { s5 with ρ := wipeR vs s5.ρ } σ) μ5 (L2.del H5 p) v d := by
  have y := x.rep.wipe vs
  have r2 := y.rep.ofWipe w
  have m0 := mine_wipe (μ := μ) (s := s) (vs := vs) (wipe_idem vs σ)
  have m5 := mine_wipe (μ := μ5) (s := s5) (vs := vs) w
  have k := (x.trans y).keep
  rw [m0, m5] at k
  have g2 : ∀ a u, Hd a = some u → H2 a = some u := fun a u e => g a u (by rw [upd_ne (ne_of_none e hp)]; exact e)
  have hp5 : H5 p = some o := x.keep.stay p o (g p o upd_same) nm
  refine ⟨⟨x.pre, ⟨fun a u e n => ?_, fun a t => ?_⟩, r2.unforbid np, rfl⟩, hp5, fun {v d} h => ?_⟩
  · rw [del_ne (ne_of_none e hp)]
    exact k.stay a u (g2 a u e) n
  · rcases k.new a t with q | q
    · exact .inl q
    · refine .inr ?_
      cases e : Hd a with
      | none => rfl
      | some u => rw [g2 a u e] at q; cases q
  · have h2 := y.at h
    have e : Tab (Also F p) μ5 { s5 with ρ := wipeR vs s5.ρ } σ2 = Tab (Also F p) μ5 { s5 with ρ := wipeR vs s5.ρ } σ := by
      unfold Tab
      rw [m5]
    rw [e] at h2
    exact h2.unalso
theorem df_comp (hc : X.calm = true) (hN : X.N.Nodup) (hi : PI X tg iter (tDI (XC X) W mi)) (ok : BlkOk X.N X.env.scope scope own) (hown : t.all = own.map (·.2))
    (hg : ∀ (s : Shared) (H : Hp) (Cc : Addr) (cl : List (Str × Addr)) (fp : List Addr), PG (X.blk s H scope (compEnvC scope cl Cc X.env) fp) tg (gOf X.K t))
    (ht : ∀ (s : Shared) (H : Hp) (Cc : Addr) (cl : List (Str × Addr)) (fp : List Addr), PTs (X.blk s H scope (compEnvC scope cl Cc X.env) fp) ifs (tDB (XC X) W0 mc))
    (he : ∀ (s : Shared) (H : Hp) (Cc : Addr) (cl : List (Str × Addr)) (fp : List Addr), PE (X.blk s H scope (compEnvC scope cl Cc X.env) fp) elt (tD (XC X) W0 me)) (hs : ∀ x, foldedSetIterable iter X.env x = pure x := by intro _; rfl) :
    PE X (.ListComp elt [⟨tg, iter, ifs, 0⟩] scope pos) (tDF (XC X) W (M.comp (own.map (·.2)) mi t mc me)) := by
  refine peImp (pe_lc hc hN hi ok hg ht he hs) fun σ H Q ⟨F, μ, s, r, q⟩ => ?_
  generalize hvs : own.map (·.2) = vs at *
  refine ⟨F, μ, s, r, q.split.imp fun ds μ1 s1 H1 x1 h1 J hJ => ?_⟩
  obtain ⟨hl, h1⟩ := res_if h1
  intro D hD
  have ew : (M.wipe vs >>= fun _ => M.compL vs t mc me ds) s1 = M.compL vs t mc me ds { s1 with ρ := wipeR vs s1.ρ } := rfl
  cases hc : M.compL vs t mc me ds { s1 with ρ := wipeR vs s1.ρ } with
  | exc z se => exact (compL_noexc hc).elim
  | stuck =>
    have h2 := h1
    unfold Res at h2
    rw [ew, hc] at h2
    exact h2.elim
  | ok zs se =>
    have hK := h1.ok (ew.trans hc)
    have nF : ¬ F D := fun z => (x1.rep.far D z).1 hD
    refine ⟨fun i m Hc => m = ds.length - i ∧ ∃ (μ' : List Addr) (s' : Sta) (Hd : Hp) (acc : List V) (dn ys : List Ms.D), Hc = upd Hd D (.lst acc) ∧ Hd D = none ∧ Ext (XC X) F μ1 s1 σ H1 μ' { s' with ρ := wipeR vs s'.ρ } σ Hd ∧
      AtL (XC X) (Tab F μ' { s' with ρ := wipeR vs s'.ρ } σ) μ' Hd acc dn ∧ M.compL vs t mc me (ds.drop i) { s' with ρ := wipeR vs s'.ρ } = .ok ys se ∧ dn ++ ys = zs ∧ dn.length ≤ i,
      ⟨_, rfl, μ1, s1, H1, [], [], zs, rfl, hD, x1.rep.wipe vs, .nil, hc, rfl, Nat.le_refl _⟩, ?_⟩
    rintro i m Hc ⟨rfl, μ', s', Hd, acc, dn, ys, rfl, hDd, x2, ha, hcc, hz, hdn⟩
    have xc : ExtF (XC X) F μ1 s1 σ H1 (Also F D) μ' { s' with ρ := wipeR vs s'.ρ } σ (upd Hd D (.lst acc)) :=
      ⟨fun a t => t.elim .inl fun z => .inr (by rw [z]; exact hD), x2.pre, x2.keep.trans ⟨fun a u e _ => by rw [upd_ne (ne_of_none e hDd)]; exact e, fun _ t => .inl t⟩, x2.rep.forbid hDd⟩
    obtain ⟨y1, y2⟩ := hJ _ _ _ _ _ xc i
    cases ed : ds[i]? with
    | none =>
      have hl2 : ds.length ≤ i := List.getElem?_eq_none_iff.mp ed
      rw [List.drop_eq_nil_of_le hl2] at hcc
      cases hcc
      rw [List.append_nil] at hz
      subst hz
      exact .inl ⟨y1 hl2, hK _ _ x2 D acc hDd ha⟩
    | some d =>
      obtain ⟨hl2, ed'⟩ := List.getElem?_eq_some_iff.mp ed
      obtain ⟨go, y3⟩ := y2 d ed
      rw [List.drop_eq_getElem_cons hl2, ed'] at hcc
      obtain ⟨s3, b, s4, e3, e4, rest⟩ := compL_cons hcc
      refine .inr ⟨go, fun H' => ds.length - (i + 1) = ds.length - (i + 1) ∧ ∃ (μ' : List Addr) (s' : Sta) (Hd : Hp) (acc : List V) (dn ys : List Ms.D), H' = upd Hd D (.lst acc) ∧ Hd D = none ∧ Ext (XC X) F μ1 s1 σ H1 μ' { s' with ρ := wipeR vs s'.ρ } σ Hd ∧
        AtL (XC X) (Tab F μ' { s' with ρ := wipeR vs s'.ρ } σ) μ' Hd acc dn ∧ M.compL vs t mc me (ds.drop (i + 1)) { s' with ρ := wipeR vs s'.ρ } = .ok ys se ∧ dn ++ ys = zs ∧ dn.length ≤ i + 1, fun H' w => ⟨ds.length - (i + 1), by omega, w⟩, fun x H2 yl => ?_⟩
      obtain ⟨g2, y5⟩ := y3 x H2 yl
      have r2 : Rep (XC X) (Also F D) μ' { s' with ρ := wipeR vs s'.ρ } (L2.wipe σ vs) H2 := (xc.rep.grow g2).toWipe
      have m0 := mine_wipe (μ := μ') (s := s') (vs := vs) (wipe_idem vs σ)
      have y6 : At (XC X) (Tab (Also F D) μ' { s' with ρ := wipeR vs s'.ρ } (L2.wipe σ vs)) μ' H2 x d := by
        unfold Tab
        rw [m0]
        exact y5
      refine gOf_ok (C := XC X) r2 y6 e3 fun σ2 x3 w => ?_
      rw [hown] at w
      rw [wipe_idem] at w
      have nm : ¬ Mine μ' { s' with ρ := wipeR vs s'.ρ } (L2.wipe σ vs) D := fun z => (r2.far D (.inr rfl)).2 z
      refine ⟨w, (Also F D), μ', s3, x3.rep, Res.mkOk e4 fun μ4 H4 x4 => ?_⟩
      have lenDn : ∀ {l : List V}, AtL (XC X) (Tab F μ' { s' with ρ := wipeR vs s'.ρ } σ) μ' Hd l dn → l.length < sizeLine := fun {l} h => by
        have h3 := lenOk_line hl
        have h4 := h.length
        omega
      rcases rest with ⟨rfl, y, s5, ys', e5, ny, e6, rfl⟩ | ⟨rfl, e6⟩
      · refine iteT ?_
        refine ⟨(Also F D), μ4, s4, x4.rep, Res.mkOk e5 fun μ5 H5 x5 v hv => ?_⟩
        obtain ⟨z1, z2, z3⟩ := block_step hDd nF g2 nm ((x3.trans x4).trans x5) w
        exact ⟨acc, z2, lenDn ha, rfl, μ5, s5, _, acc ++ [v], dn ++ [y], ys', upd_del.symm, del_same, x2.trans z1, (z1.atL ha).append (.cons (z3 (hv.at ny)) .nil), e6, by rw [← hz]; simp, by simpa using hdn⟩
      · refine iteF ?_
        obtain ⟨z1, z2, z3⟩ := block_step hDd nF g2 nm (x3.trans x4) w
        exact ⟨rfl, μ4, s4, _, acc, dn, ys, by
          funext a
          by_cases h : a = D
          · rw [h, upd_same, z2]
          · rw [upd_ne h, del_ne h], del_same, x2.trans z1, z1.atL ha, e6, hz, Nat.le_succ_of_le hdn⟩
end
end Ms
/-! Ms10: defs and calls. -/
namespace Ms
open PySem PySem.Spec PyProof.Rows L2
inductive FOut where
  | ok (d : D) (G : List MO) | exc (e : D) (G : List MO) | stuck
abbrev Fn := List D → List MO → FOut
/-- a def: so many slots, so many parameters, its body -/
def runFn (N n : Nat) (body : M Fl) : Fn := fun ds G => if ds.length = n then
    match body ⟨ds.map .val ++ List.replicate (N - n) .no, G⟩ with
    | .ok (.rt d) s => .ok d s.G
    | .ok .nx s => .ok .non s.G
    | .exc e s => .exc e s.G
    | _ => .stuck
  else .stuck
def M.fn (f : Fn) (ds : List D) : M D := fun s => match f ds s.G with
  | .ok d G => .ok d { s with G := G }
  | .exc e G => .exc e { s with G := G }
  | .stuck => .stuck
def M.call (f : Fn) (ms : List (M D)) : M D := do M.fn f (← M.args ms)
def ResF (C : RC) (F : Addr → Prop) (μ : List Addr) (G : List MO) (H : Hp) (r : FOut) (Q : VK) (E : XK) : Prop := match r with
  | .ok d G' => ∀ v μ' H', Ext C F μ ⟨[], G⟩ [] H μ' ⟨[], G'⟩ [] H' → At C (Tab F μ' ⟨[], G'⟩ []) μ' H' v d → Q v H'
  | .exc e G' => ∀ cls dx μ' H', Ext C F μ ⟨[], G⟩ [] H μ' ⟨[], G'⟩ [] H' → XAt C (Tab F μ' ⟨[], G'⟩ []) μ' H' cls dx e → E cls dx H'
  | .stuck => False
def spOf (C : RC) (n : Nat) (f : Fn) : Sp := fun vs H Q E => vs.length = n ∧ ∃ F μ G ds, Rep C F μ ⟨[], G⟩ [] H ∧ AtL C (Tab F μ ⟨[], G⟩ []) μ H vs ds ∧ ResF C F μ G H (f ds G) Q E
section
variable {C : RC} {F : Addr → Prop} {μ μ' : List Addr} {s s' : Sta} {σ σ' : L2.St} {H H' : Hp}
theorem RepO.mono {T T' : Addr → Prop} (h : ∀ a, T' a → T a) {a : Addr} {o : MO} (x : RepO C T μ H a o) : RepO C T' μ H a o := by
  cases o with
  | lst l => obtain ⟨vs, e, c⟩ := x; exact ⟨vs, e, c.mono h⟩
  | dct t k l => obtain ⟨vs, e, c⟩ := x; exact ⟨vs, e, c.mono h⟩
  | ins c k l => obtain ⟨A, dx, fs, e1, e2, e3, c⟩ := x; exact ⟨A, dx, fs, e1, e2, e3, c.mono h⟩
theorem no_own {G : List MO} {a : Addr} : ¬ OwnAt (Sta.ρ ⟨[], G⟩) [] a := fun ⟨i, o, e, _⟩ => by
  have e : ([] : List Slot)[i]? = some (.own o) := e
  simp at e
theorem XAt.mono {T T' : Addr → Prop} (h : ∀ a, T' a → T a) {cls : Value} {dx : Option Addr} {e : D} (x : XAt C T μ H cls dx e) : XAt C T' μ H cls dx e := by
  cases e with
  | exc c n d =>
    obtain ⟨A, e1, e2, q⟩ := x
    refine ⟨A, e1, e2, q.imp id fun ⟨nn, q, fs, v, e3, e4, e5, e6, e7⟩ => ⟨nn, q, fs, v, e3, e4, fun t => e5 (h _ t), e6, e7.mono h⟩⟩
  | _ => exact x.elim
/-- the shared things alone -/
theorem Rep.bare (r : Rep C F μ s σ H) : Rep C F μ ⟨[], s.G⟩ [] H := by
  have h : ∀ a, Tab F μ ⟨[], s.G⟩ [] a → Tab F μ s σ a := fun a t => t.elim .inl fun t => t.elim (fun t => .inr (.inl t)) fun t => (no_own t).elim
  refine ⟨rfl, fun i sl e => ?_, fun i j oi oj a e => ?_, r.lenG, fun g o e => ?_, r.nd, fun a ha t => no_own t, fun a t => ⟨(r.far a t).1, fun m => m.elim (fun m => (r.far a t).2 (.inl m)) no_own⟩⟩
  · have e : ([] : List Slot)[i]? = some sl := e
    simp at e
  · have e : ([] : List Slot)[i]? = some (.own oi) := e
    simp at e
  · obtain ⟨a, e1, e2⟩ := r.objs g o e
    exact ⟨a, e1, e2.mono h⟩
theorem tab_bare {a : Addr} (t : Tab F μ ⟨[], s.G⟩ [] a) : Tab F μ s σ a := t.elim .inl fun t => t.elim (fun t => .inr (.inl t)) fun t => (no_own t).elim
/-- a frame that owns nothing is left -/
theorem Ext.leave (x : Ext C F μ s σ H μ' s' σ' H') (n : ∀ a, ¬ OwnAt s.ρ σ a) : Ext C F μ ⟨[], s.G⟩ [] H μ' ⟨[], s'.G⟩ [] H' :=
  ⟨x.pre, ⟨fun a o e m => x.keep.stay a o e fun t => t.elim (fun t => m (.inl t)) (n a), fun a t => t.elim (fun t => (x.keep.new a (.inl t)).imp (fun q => q.elim .inl fun q => (n a q).elim) id) fun t => (no_own t).elim⟩, x.rep.bare, rfl⟩
/-- a call is made: what the caller owns is another's -/
theorem Rep.toCall (r : Rep C F μ s σ H) : Rep C (fun a => F a ∨ OwnAt s.ρ σ a) μ ⟨[], s.G⟩ [] H := by
  have h : ∀ a, Tab (fun a => F a ∨ OwnAt s.ρ σ a) μ ⟨[], s.G⟩ [] a → Tab F μ s σ a := fun a t => by
    rcases t with (t | t) | t | t
    · exact .inl t
    · exact .inr (.inr t)
    · exact .inr (.inl t)
    · exact (no_own t).elim
  have b := r.bare
  refine ⟨rfl, fun i sl e => ?_, b.inj, r.lenG, fun g o e => ?_, r.nd, b.sep, fun a t => ?_⟩
  · have e : ([] : List Slot)[i]? = some sl := e
    simp at e
  · obtain ⟨a, e1, e2⟩ := r.objs g o e
    exact ⟨a, e1, e2.mono h⟩
  · rcases t with t | t
    · exact ⟨(r.far a t).1, fun m => m.elim (fun m => (r.far a t).2 (.inl m)) no_own⟩
    · exact ⟨r.tabSome (.inr (.inr t)), fun m => m.elim (fun m => r.sep a m t) no_own⟩
theorem AtL.toCall {vs : List V} {ds : List D} (h : AtL C (Tab F μ s σ) μ H vs ds) : AtL C (Tab (fun a => F a ∨ OwnAt s.ρ σ a) μ ⟨[], s.G⟩ []) μ H vs ds := h.mono fun a t => by
  rcases t with (t | t) | t | t
  · exact .inl t
  · exact .inr (.inr t)
  · exact .inr (.inl t)
  · exact (no_own t).elim
theorem tab_call {G' : List MO} {a : Addr} (t : Tab F μ' { s with G := G' } σ a) : Tab (fun a => F a ∨ OwnAt s.ρ σ a) μ' ⟨[], G'⟩ [] a := by
  rcases t with t | t | t
  · exact .inl (.inl t)
  · exact .inr (.inl t)
  · exact .inl (.inr t)
/-- behind a call -/
theorem Ext.ofCall {G' : List MO} (r : Rep C F μ s σ H) (x : Ext C (fun a => F a ∨ OwnAt s.ρ σ a) μ ⟨[], s.G⟩ [] H μ' ⟨[], G'⟩ [] H') : Ext C F μ s σ H μ' { s with G := G' } σ H' := by
  have stay : ∀ a o, H a = some o → a ∉ μ → H' a = some o := fun a o e n => x.keep.stay a o e fun m => m.elim n no_own
  have new : ∀ a, a ∈ μ' → a ∈ μ ∨ H a = none := fun a m => (x.keep.new a (.inl m)).imp (fun q => q.elim id fun q => (no_own q).elim) id
  have kp : Keep (Mine μ s σ) (Mine μ' { s with G := G' } σ) H H' := ⟨fun a o e n => stay a o e fun m => n (.inl m), fun a t => t.elim (fun t => (new a t).imp .inl id) fun t => .inl (.inr t)⟩
  have kt : Keep (Tab F μ s σ) (Tab F μ' { s with G := G' } σ) H H' := kp.tab
  refine ⟨x.pre, kp, ⟨r.len, fun i sl e => ?_, r.inj, x.rep.lenG, fun g o e => ?_, x.rep.nd, fun a m t => ?_, fun a t => ⟨(x.rep.far a (.inl t)).1, fun m => ?_⟩⟩, rfl⟩
  · have q := r.slots i sl e
    cases sl with
    | no => trivial
    | val d => obtain ⟨v, e1, e2⟩ := q; exact ⟨v, e1, e2.keep kt x.pre⟩
    | own o =>
      obtain ⟨v, e1, e2⟩ := q
      refine ⟨v, e1, ?_⟩
      have nm : v ∉ μ := fun m => r.sep v m ⟨i, o, e, e1⟩
      have g : ∀ u, H v = some u → H' v = some u := fun u eu => stay v u eu nm
      cases o with
      | lst l => obtain ⟨vs, e, c⟩ := e2; exact ⟨vs, g _ e, c.keep kt x.pre⟩
      | dct t k l => obtain ⟨vs, e, c⟩ := e2; exact ⟨vs, e.keep g, c.keep kt x.pre⟩
      | ins c k l => obtain ⟨A, dx, fs, e3, e4, e5, c⟩ := e2; exact ⟨A, dx, fs, e3, g _ e4, e5, c.keep kt x.pre⟩
  · obtain ⟨a, e1, e2⟩ := x.rep.objs g o e
    exact ⟨a, e1, e2.mono fun b t => tab_call t⟩
  · exact (x.rep.far a (.inr t)).2 (.inl m)
  · rcases m with m | m
    · exact (x.rep.far a (.inl t)).2 (.inl m)
    · exact (r.far a t).2 (.inr m)
/-- a frame is entered -/
theorem Rep.enter {G : List MO} {vs : List V} {ds : List D} {N : List Str} (r : Rep C F μ ⟨[], G⟩ [] H) (h : AtL C (Tab F μ ⟨[], G⟩ []) μ H vs ds) (l : vs.length ≤ N.length) :
    Rep C F μ ⟨ds.map .val ++ List.replicate (N.length - ds.length) .no, G⟩ (L2.start N vs) H ∧ ∀ a, ¬ OwnAt (ds.map .val ++ List.replicate (N.length - ds.length) .no) (L2.start N vs) a := by
  have get : ∀ {i : Nat} {sl : Slot}, (ds.map Slot.val ++ List.replicate (N.length - ds.length) Slot.no)[i]? = some sl → (∃ d, ds[i]? = some d ∧ sl = .val d) ∨ sl = .no := fun {i sl} e => by
    by_cases hi : i < ds.length
    · rw [List.getElem?_append_left (by simpa using hi), List.getElem?_map] at e
      obtain ⟨d, e1, e2⟩ := Option.map_eq_some_iff.mp e
      exact .inl ⟨d, e1, e2.symm⟩
    · rw [List.getElem?_append_right (by simpa using hi)] at e
      exact .inr (List.eq_of_mem_replicate (List.mem_of_getElem? e))
  have nown : ∀ a, ¬ OwnAt (ds.map .val ++ List.replicate (N.length - ds.length) .no) (L2.start N vs) a := fun a ⟨i, o, e, _⟩ => by
    rcases get e with ⟨d, _, z⟩ | z <;> cases z
  have te : ∀ a, Tab F μ ⟨ds.map .val ++ List.replicate (N.length - ds.length) .no, G⟩ (L2.start N vs) a → Tab F μ ⟨[], G⟩ [] a := fun a t => t.elim .inl fun t => t.elim (fun t => .inr (.inl t)) fun t => (nown a t).elim
  refine ⟨⟨?_, fun i sl e => ?_, fun i j oi oj a e => ?_, r.lenG, fun g o e => ?_, r.nd, fun a _ t => nown a t, fun a t => ⟨(r.far a t).1, fun m => m.elim (fun m => (r.far a t).2 (.inl m)) (nown a)⟩⟩, nown⟩
  · have := h.length
    unfold L2.start
    simp
    omega
  · rcases get e with ⟨d, e1, rfl⟩ | rfl
    · obtain ⟨v, ev, hv⟩ := h.at e1
      refine ⟨v, ?_, hv.mono te⟩
      unfold L2.start
      rw [List.getElem?_append_left (by simpa using lt_of_get ev), List.getElem?_map, ev]
      rfl
    · trivial
  · rcases get e with ⟨d, _, z⟩ | z <;> cases z
  · obtain ⟨a, e1, e2⟩ := r.objs g o e
    exact ⟨a, e1, e2.mono te⟩
end
/-- the wish of a def's body -/
abbrev WB (E : XK) : WX := fun cls d _ H => E cls d H
abbrev CXn (P : Program) (w : World) : CXT := L2N.CX P w
/-- the context of a def's body -/
abbrev XB (P : Program) (w : World) (K : PySem.W.Frag) (mg : Str → Option Value) (base : Heap) (N : List Str) (qual : Str) (scope : Scope) (f : Addr) (cdv : Value) (A : Around) (outer : List Env) (s : Shared) (H : Hp) (E : XK) : Cx :=
  cxOf (CXn P w) P w K mg base N qual scope f cdv A outer s H E
section
variable {P : Program} {w : World} {K : PySem.W.Frag} {mg : Str → Option Value} {base : Heap} {x qual : Str} {params : Arguments} {body : List Stmt} {scope : Scope} {dvs : List V} {kws : List (Str × V)} {f : Addr} {fd : FuncData}
theorem fnD {N ps : List Str} {k : Nat} {m : M Fl} (Fd : FunD K x qual params body scope dvs kws f fd) (S : FnScope N ps scope) (hl : ps.length ≤ N.length)
    (hb : ∀ (cdv : Value) (A : Around) (outer : List Env) (s : Shared) (H : Hp) (E : XK), Room k (XB P w K mg base N qual scope f cdv A outer s H E).A → L2N.Takes (XB P w K mg base N qual scope f cdv A outer s H E) (WB E) →
      PSs (XB P w K mg base N qual scope f cdv A outer s H E) body (tDS ⟨K, mg⟩ (WB E) m)) : FnOk P w K mg base (CXn P w) (k + 1) f fd ps (spOf ⟨K, mg⟩ ps.length (runFn N.length ps.length m)) := by
  refine Fd.ok S (fun vs H Q E h => h.1) (fun cdv A outer s H vs Q E hr h => ⟨_, hb cdv A outer s H E hr (L2N.takes_of rfl rfl rfl rfl), ?_⟩)
  obtain ⟨ev, F, μ, G, ds, r, ha, q⟩ := h
  have el := ha.length
  obtain ⟨r0, n0⟩ := r.enter ha (N := N) (by omega)
  refine ⟨F, μ, _, r0, ?_⟩
  have eN : N.length - ds.length = N.length - ps.length := by omega
  unfold runFn at q
  rw [if_pos (by omega), ← eN] at q
  unfold ResS
  cases em : m ⟨ds.map .val ++ List.replicate (N.length - ds.length) .no, G⟩ with
  | stuck => rw [em] at q; exact q.elim
  | exc e s' =>
    rw [em] at q
    intro cls dx μ' σ' H' y hx
    exact q cls dx μ' H' (y.leave n0) (hx.mono fun a t => tab_bare t)
  | ok fl s' =>
    rw [em] at q
    intro μ' σ' H' y
    cases fl with
    | nx => exact q .non μ' H' (y.leave n0) .non
    | rt d => exact fun v hv => q v μ' H' (y.leave n0) (hv.mono fun a t => tab_bare t)
    | bk => exact q.elim
    | ct => exact q.elim
end
theorem runFn_len {N n : Nat} {m : M Fl} (ds : List D) (G : List MO) (h : runFn N n m ds G ≠ .stuck) : ds.length = n := by
  unfold runFn at h
  split at h
  · assumption
  · exact absurd rfl h
/-- a def that may be called: its name, its level, what it does -/
def Def (P : Program) (w : World) (K : PySem.W.Frag) (mg : Str → Option Value) (base : Heap) (x : Str) (k n : Nat) (m : Fn) : Prop :=
  (∀ ds G, m ds G ≠ .stuck → ds.length = n) ∧ ∃ (f : Addr) (fd : FuncData) (ps : List Str), FnOk P w K mg base (CXn P w) k f fd ps (spOf ⟨K, mg⟩ n m) ∧ mg x = some (.ref f) ∧ PySem.W.keepIn K (.ref f) = true ∧ Binds K fd ps []
section
variable {X : Cx} {W : WX} {x : Str} {e : Expr} {es : List Expr} {p pos : Pos} {ms : List (M D)} {k j n : Nat} {m : Fn}
theorem d_call (D : Def X.prog X.w X.K X.mg X.base x k n m) (hr : Room j X.A) (hj : k ≤ j) (tk : L2N.Takes X W) (hg : Gl X x) (ha : PA X (e :: es) (tDA (XC X) W (M.args ms)))
    (hdb : (x == ("__debug__" : Str)) = false := by decide) (he : starEach (e :: es) X.env = (false, eval e X.env) :: starEach es X.env := by rfl) (hpl : (backTo pos (starEach es X.env)).any (·.1) = false := by rfl) :
    PE X (.Call (.Name x p) (e :: es) [] pos) (tD (XC X) W (M.call m ms)) := by
  obtain ⟨len, f, fd, ps, F0, hm, hk, hb⟩ := D
  refine peImp (pe_callS F0 (hr.mono hj) hg hm hk hb (E := WE W) (fun σ => L2N.passAt tk σ) ha hdb he hpl) fun σ H Q ⟨F, μ, s, r, q⟩ => ?_
  refine ⟨F, μ, s, r, q.split.imp fun ds μ1 s1 H1 x1 h1 vs hv => ?_⟩
  have r1 := x1.rep
  refine ⟨?_, _, μ1, s1.G, ds, r1.toCall, hv.toCall, ?_⟩
  · rw [hv.length]
    refine len ds s1.G fun z => ?_
    unfold Res M.fn at h1
    rw [z] at h1
    exact h1
  · unfold Res M.fn at h1
    unfold ResF
    cases em : m ds s1.G with
    | stuck => rw [em] at h1; exact h1
    | exc e G' =>
      rw [em] at h1
      intro cls dx μ' H' y hx
      exact h1 cls dx μ' H' (y.ofCall r1) (hx.mono fun a t => tab_call t)
    | ok d G' =>
      rw [em] at h1
      intro v μ' H' y hx
      exact h1 μ' H' (y.ofCall r1) v (.of (hx.mono fun a t => tab_call t))
end
end Ms
/-! Ms11: own exceptions: made, held, asked, read. -/
namespace PySem
namespace MsX
open Builtin Builtin.ObjectAttr HandSPX
section
variable {M : Model} {A : Around} {E : Value → Shared → Prop} {h : Heap} {g : Array GenState} {d : Drawn} {t : Nat} {os : OsState}
variable {nm q : Str} {C N : Addr} {bs bm bmB : List Value} {hdct : Bool} {sn : List Str} {sub : List Value} {ab : Bool} {col : Option Bool} {dd : Option Addr} {k0 k1 k2 k3 k5 : Option Value} {B newId initId : String}
theorem check_new_kw (F : ExcBaseFacts B newId initId bmB) (hT : ∀ X : String, bm.contains (.type X) = bmB.contains (.type X)) {rest : List Value} {kw : List (Str × Value)} {Q : Unit → Shared → Prop}
    (hC : h.get? C = some (excClassObj nm q C N bs bm hdct sn sub ab col dd k0 k1 k2 k3 k5 newId)) (hq : Q () ⟨h, g, d, t, os⟩) : wpAny M A (checkBuiltinCall newId ⟨.ref C :: rest, kw⟩) Q E ⟨h, g, d, t, os⟩ := by
  have hcont : (Value.ref C :: bm).contains (.type B) = true := by rw [List.contains_cons, hT, F.hasB, Bool.or_true]
  have hstar := F.noStar
  simp only [checkBuiltinCall, F.newKind, F.newSplit, F.newRow]
  repeat (first | refine wpAny_loadPart_at hC ?_ | (refine wpAny_isSubtype_exc hC ?_; rw [hcont]) | refine wpAny_staticBase_exc hC ?_ | refine wpAny_madeBy_exc hC ?_ | simp only [bne_self_eq_false, Bool.false_eq_true, if_false] | wp_step)
  exact hq
end
section
variable {prog : Program} {w : World} {A : Around} {E : Value → Shared → Prop} {R : Result → Shared → Prop} {h : Heap} {g : Array GenState} {d : Drawn} {t : Nat} {os : OsState}
variable {nm q : Str} {C N : Addr} {bs bm bmB : List Value} {hdct : Bool} {sn : List Str} {sub : List Value} {ab : Bool} {col : Option Bool} {dd : Option Addr} {k0 k1 k2 k3 k5 : Option Value} {B newId initId : String}
theorem new_kw (F : ExcBaseFacts B newId initId bmB) (hT : ∀ X : String, bm.contains (.type X) = bmB.contains (.type X)) {rest : List Value} {kw : List (Str × Value)}
    (hC : h.get? C = some (excClassObj nm q C N bs bm hdct sn sub ab col dd k0 k1 k2 k3 k5 newId))
    (hq : R (.ok (.ret (.ref (h.objs.size + 1)))) ⟨(h.push { cls := .type "tuple", data := .seq rest.toArray }).push
      { cls := .ref C, data := .fields #[.ref h.objs.size, .none, .none, .none, .bool false, .none] }, g, d, t, os⟩) (hrest : rest.length ≤ sizeLine) :
    codeAny (model prog w) A (.builtin newId ⟨.ref C :: rest, kw⟩) R ⟨h, g, d, t, os⟩ := by
  have hends := F.ends
  have hcB : (Value.ref C :: bm).contains (.type B) = true := by rw [List.contains_cons, hT, F.hasB, Bool.or_true]
  have hcA : (Value.ref C :: bm).contains (.type "AttributeError") = false := by rw [List.contains_cons, hT, F.noAttr]; rfl
  have hcN : (Value.ref C :: bm).contains (.type "NameError") = false := by rw [List.contains_cons, hT, F.noName]; rfl
  refine codeAny_builtinAt F.entry ?_
  unfold Builtin.«BaseException.__new__»
  refine wpAt_bind ?_
  show wpAt _ _ _ (stack >>= _) _ _ _
  refine wpAt_bind (wpAt_stack fun p below => wpAt_of_wpAny ?_)
  wp_walk
  refine wpAt_of_wpAny ?_
  rw [F.owner]
  repeat (first | with_reducible refine wpAny_madeHere_exc F.canon hC ?_ | with_reducible refine wpAny_loadPart_at hC ?_ | (with_reducible refine wpAny_isSubtype_exc hC ?_; first | rw [hcB] | rw [hcA] | rw [hcN]) | wp_step)
  show R _ _
  rw [Heap.size_push]
  exact hq
theorem type_call_kw (F : ExcBaseFacts B newId initId bmB) (hT : ∀ X : String, bm.contains (.type X) = bmB.contains (.type X)) {rest : List Value} {kw : List (Str × Value)} {fI : Addr} {Q : Fin → Shared → Prop}
    (hC : h.get? C = some (excClassObj nm q C N bs bm hdct sn sub ab col dd k0 k1 k2 k3 k5 newId))
    (hi : W.Looks (model prog w) h (typeLookup (.ref C) "__init__") (some (.ref fI))) (hb : ∀ self, W.Looks (model prog w) h (bindSpecial (.ref fI) self) (.ref fI, [self])) (hrest : rest.length ≤ sizeLine)
    (hq : codeAny (model prog w) A (.call (.ref fI) ⟨.ref (h.objs.size + 1) :: rest, kw⟩)
      (fun r s' => match r with | .ok (.ret v) => v = .none ∧ Q (.done (.ret (.ref (h.objs.size + 1)))) s' | .ok _ => False | .error e => E e s')
      ⟨(h.push (W.kdv_tup rest)).push (excO C h.objs.size), g, d, t, os⟩) :
    wpAny (model prog w) A (Builtin.«type.__call__» ⟨.ref C :: rest, kw⟩) Q E ⟨h, g, d, t, os⟩ := by
  repeat (first | with_reducible refine wpAny_loadPart_at hC ?_ | with_reducible refine wpAny_madeBy_exc hC ?_ | wp_step)
  refine codeAny_call_builtin_code (Code.quiet_builtin _ F.quiet) (check_new_kw F hT hC ?_)
  refine new_kw F hT hC ?_ hrest
  show wpAny _ _ _ _ _ _
  have k : ∀ b o, h.get? b = some o → ((h.push (W.kdv_tup rest)).push (excO C h.objs.size)).get? b = some o := fun b o e => Heap.get?_push_of_some _ (Heap.get?_push_of_some _ e)
  have hC₁ := k _ _ hC
  have hget : ((h.push (W.kdv_tup rest)).push (excO C h.objs.size)).get? (h.objs.size + 1) = some (excO C h.objs.size) := by heap_get
  have hcC : (Value.ref C :: bm).contains (.ref C) = true := by simp
  have i1 := hi.keeps k
  have b1 := (hb (.ref (h.objs.size + 1))).keeps k
  unfold isInstance
  repeat (first | with_reducible refine wpAny_loadPart_at hget ?_ | (with_reducible refine wpAny_isSubtype_exc hC₁ ?_; rw [hcC]) | wp_step)
  show wpAny _ _ (typeLookup (.ref C) _) _ _ _
  refine i1.at ?_
  refine wpAny_holding (wpAny_bind (b1.at ?_))
  refine wpAny_bind (wpAny_call (codeAny_mono hq fun r s' z => ?_))
  rcases r with e | (v | _ | _ | _) <;> first | exact z | exact z.elim | skip
  obtain ⟨rfl, z⟩ := z
  first
    | exact wpAny_pure (wpAny_pure z)
    | (wp_walk; exact z)
theorem call_kw (F : ExcBaseFacts B newId initId bmB) (hT : ∀ X : String, bm.contains (.type X) = bmB.contains (.type X)) {rest : List Value} {kw : List (Str × Value)} {fI : Addr}
    (hC : h.get? C = some (excClassObj nm q C N bs bm hdct sn sub ab col dd k0 k1 k2 k3 k5 newId))
    (hi : W.Looks (model prog w) h (typeLookup (.ref C) "__init__") (some (.ref fI))) (hb : ∀ self, W.Looks (model prog w) h (bindSpecial (.ref fI) self) (.ref fI, [self])) (hrest : rest.length ≤ sizeLine)
    (hq : codeAny (model prog w) (A.under (.builtin "type.__call__" ⟨.ref C :: rest, kw⟩)) (.call (.ref fI) ⟨.ref (h.objs.size + 1) :: rest, kw⟩) (W.InitBack (h.objs.size + 1) R)
      ⟨(h.push (W.kdv_tup rest)).push (excO C h.objs.size), g, d, t, os⟩) :
    codeAny (model prog w) A (.call (.ref C) ⟨rest, kw⟩) R ⟨h, g, d, t, os⟩ := by
  have f1 := tc_lookup
  have f2 := tc_bind (.ref C)
  have hTy : (⟨h, g, d, t, os⟩ : Shared).TypeIs (.ref C) "type" := ⟨_, hC, rfl⟩
  refine codeAny_of_tree ?_
  show wpAny _ _ (callAny (.ref C) _) _ _ _
  repeat (any_goals (first | assumption | with_reducible refine wpAny_loadPart_at hC ?_ | wp_step))
  refine ⟨rfl, ?_⟩
  refine codeAny_call_builtin_at (Code.quiet_builtin _ (by decide +kernel)) entry_typeCall (wpAny_check_type_call_sub hC (type_call_kw F hT hC hi hb hrest ?_))
  refine codeAny_mono hq fun r s' z => ?_
  rcases r with e | (v | _ | _ | _) <;> exact z
end
end MsX
end PySem
namespace Ms
open PySem PySem.Spec PyProof.Rows L2
section
variable {X : Cx} {W : WX} {B x fl : Str} {BA C fI : Addr} {e : Expr} {es : List Expr} {kws : List Keyword} {t tk ta : TA} {p p1 p2 pos : Pos}
/-- B.__init__(self, ..), B an own exception class without own __init__ -/
theorem pe_oini {pl : Sem Bool} (hg : Gl X B) (hm : X.mg B = some (.ref BA)) (r : ClX.CRead X.K BA (.type "type")) (vV : PySem.W.findCls X.K (.ref BA) (.type "type") "__init__" = some (.val (.builtin "ValueError.__init__"))) (ha : PA X (e :: es) ta)
    (hdb : (B == ("__debug__" : Str)) = false := by decide)
    (hc : eval (.Call (.Attribute (.Name B p1) "__init__" p2) (e :: es) [] pos) X.env = (do
      let ov ← eval (.Name B p1) X.env
      standAt p2.atName
      let (f, first) ← holding [ov] (getMethod ov "__init__" pl)
      callWith pos f first (backTo pos (starEach (e :: es) X.env)) (backToKw pos (keywordEach [] X.env))) := by rfl)
    (he : starEach (e :: es) X.env = (false, eval e X.env) :: starEach es X.env := by rfl) (hpl : (backTo pos (starEach es X.env)).any (·.1) = false := by rfl) :
    PE X (.Call (.Attribute (.Name B p1) "__init__" p2) (e :: es) [] pos) (tVeI X.K ta) := by
  refine ⟨fun pins s σ H Q I h => ?_⟩
  refine PySem.W.methodCall_KW (ld_glob I hg hm ?_ hdb) hc
  refine PySem.W.method_cls I.kIn r.ga (PySem.W.cls_value I.kIn r.rd vV (by decide +kernel) ?_)
  show wpAny _ _ (callWith pos (Value.builtin "ValueError.__init__") [] (backTo pos (starEach (e :: es) X.env)) []) _ _ _
  refine PyProof.Rows.callWith_method1 (thn (ha.run pos pins _ σ H _ (I.tok _) h) fun us s1 ⟨vs, H1, I1, r1, a, C, ws, ev, hl, T, ea, q⟩ => ?_) he hpl
  subst ev
  cases r1 with
  | @cons _ u0 _ ur ra rw' =>
    obtain rfl : u0 = Value.ref a := ra
    have hlen : ur.length ≤ sizeLine := by
      rw [← Paired.length rw', sizeLine_eq]
      omega
    exact oinit_ok T I1 ea hlen fun s' J => ⟨.non, H1, J, rfl, q⟩
/-- what such an __init__ does: self.fl = v -/
def spIni (K : PySem.W.Frag) (fl : Str) : Sp := fun vs H Q _ => ∃ (a C : Addr) (v : V), vs = [.ref a, v] ∧ OexC K C ∧ PySem.W.findIn K (.ref C) fl = some none ∧ H a = some (exo a C none) ∧
  ∀ dx, H dx = none → dx ≠ a → Q .non (upd (upd H dx (exd dx [(fl, v)])) a (exo a C (some dx)))
theorem pa_ini {y msg : Str} {i j : Nat} {pp q : Pos} {k : Nat} (h0 : PE X (.Name y pp) (tVar i)) : PA X [.Name y pp, .Constant (.str msg) k q] (tCons (tVar i) (tCons (tC (.str msg)) tNil)) := pa_cons h0 (pa_cons pe_str pa_nil)
end
section
variable {P : Program} {w : World} {K : PySem.W.Frag} {mg : Str → Option Value} {base : Heap} {fI BA : Addr} {fd : FuncData} {B qual fl y msg : Str} {params : Arguments} {scope : Scope} {dvs : List V} {kws : List (Str × V)} {p1 p2 p3 p4 p5 p6 p7 p8 q1 q2 q3 : Pos} {kk : Nat}
theorem ini_ok {CX : CXT} (k : Nat) (Fd : FunD K "__init__" qual params [.Expr (.Call (.Attribute (.Name B p1) "__init__" p2) [.Name "self" p3, .Constant (.str msg) kk p4] [] p5) p6, .Assign [.Attribute (.Name "self" q1) fl q2] (.Name y q3) p7] scope dvs kws fI fd)
    (S : FnScope ["self", y] ["self", y] scope) (hs : Vis scope "self") (hy : Vis scope y) (hd1 : (y == ("__debug__" : Str)) = false) (hd2 : (y == ("__classdict__" : Str)) = false)
    (hB : ∀ (cdv : Value) (A : Around) (outer : List Env) (s : Shared) (H : Hp) (E : XK), PE (cxOf CX P w K mg base ["self", y] qual scope fI cdv A outer s H E) (.Call (.Attribute (.Name B p1) "__init__" p2) [.Name "self" p3, .Constant (.str msg) kk p4] [] p5) (tVeI K (tCons (tVar 0) (tCons (tC (.str msg)) tNil))))
    (hsw : ∀ (cdv : Value) (A : Around) (outer : List Env) (s : Shared) (H : Hp) (E : XK), swapsWith (.Name y q3) (some (.Attribute (.Name "self" q1) fl q2)) p7.line (cxOf CX P w K mg base ["self", y] qual scope fI cdv A outer s H E).env = pure false)
    (hsx : ∀ (cdv : Value) (A : Around) (outer : List Env) (s : Shared) (H : Hp) (E : XK), swapsWith (.Call (.Attribute (.Name B p1) "__init__" p2) [.Name "self" p3, .Constant (.str msg) kk p4] [] p5) none p6.line (cxOf CX P w K mg base ["self", y] qual scope fI cdv A outer s H E).env = pure false) :
    FnOk P w K mg base CX (k + 1) fI fd ["self", y] (spIni K fl) := by
  refine Fd.ok S (fun vs H Q E ⟨a, C, v, e, _⟩ => by rw [e]; rfl) fun cdv A outer s H vs Q E hr h => ?_
  have v1 : PE (cxOf CX P w K mg base ["self", y] qual scope fI cdv A outer s H E) (.Name "self" q1) (tVar 0) := pe_var rfl hs
  have v2 : PE (cxOf CX P w K mg base ["self", y] qual scope fI cdv A outer s H E) (.Name y q3) (tVar 1) := pe_var rfl hy hd1 hd2
  refine ⟨_, pss_cons (ps_expr (hB cdv A outer s H E) (hsx cdv A outer s H E)) (pss_cons (ps_ost v1 v2 (hsw cdv A outer s H E)) pss_nil), ?_⟩
  obtain ⟨a, C, v, rfl, T, hf, ea, q⟩ := h
  refine ⟨.ref a, rfl, ?_⟩
  refine ⟨a, C, [.str msg], rfl, by show 1 ≤ 1000; omega, T, ea, ?_⟩
  refine ⟨v, rfl, .ref a, rfl, a, C, rfl, T, hf, .inl ⟨ea, fun dx n ne => q dx n ne⟩⟩
end
section
variable {X : Cx} {CX : CXT} {k n : Nat} {C fI : Addr} {fd : FuncData} {ps ks : List Str} {sp : Sp} {x : Str} {p pos : Pos} {e : Expr} {es : List Expr} {kws : List Keyword} {t tk : TA} {g : List Value → List Value → List Value} {gV : List V → List V → List V}
theorem run_oex {pins : List (Addr × Obj)} {σ : L2.St} {H : Hp} {s : Shared} {us ws : List Value} {vs zs : List V} {R : Addr → Hp → Prop} {QQ : Value → Shared → Prop} (T : OexC X.K C) (iC : PySem.W.findIn X.K (.ref C) "__init__" = some (some (.ref fI)))
    (tI : PySem.W.typeIn X.K (.ref fI) = some (.type "function")) (F1 : FnOk X.prog X.w X.K X.mg X.base CX k fI fd ps sp) (hr : Room (k + 1) X.A) (hb : KBn X.K fd ps (n + 1) ks g gV) (hx : Passes CX X (fun _ _ _ => False)) (I : Inv X pins σ H s) (r : Vals vs us) (rz : Vals zs ws)
    (l1 : vs.length = n) (l2 : zs.length = ks.length) (hn : n ≤ 1000) (h : ∀ a, H a = none → sp (gV (.ref a :: vs) zs) (upd H a (exo a C none)) (fun v H2 => v = .non ∧ R a H2) (fun _ _ _ => False))
    (fin : ∀ (a : Addr) (s1 s2 : Shared) (H2 : Hp), s.heap.objs.size ≤ a → (∀ b o, s.heap.get? b = some o → s1.heap.get? b = some o) → Inv X pins σ (upd H a (exo a C none)) s1 → Un (frs X.stack) [] (upd H a (exo a C none)) H2 s1.heap s2.heap → HOk X.prog X.w H2 s2.heap → s2.os = s1.os → s1.os = s.os → AllBare s2.gens → R a H2 → QQ (.ref a) s2) :
    wpAny (model X.prog X.w) X.A (call (.ref C) us (ks.zip ws)) QQ X.xe s := by
  obtain ⟨nm, q, N, bs, bm, sn, sub, ab, col, dd, k0, k1, k2, k3, k5, hC, hbm⟩ := T.cls
  obtain ⟨hp, gg, dr, tk, os⟩ := s
  have hsz : hp.objs.size ≤ hp.objs.size + 1 := Nat.le_succ _
  have hn1 : H (hp.objs.size + 1) = none := I.hok.fresh hsz
  have hq := h (hp.objs.size + 1) hn1
  have kk : ∀ b o, hp.get? b = some o → ((hp.push (PySem.W.kdv_tup us)).push (PySem.HandSPX.excO C hp.objs.size)).get? b = some o := fun b o e => Heap.get?_push_of_some _ (Heap.get?_push_of_some _ e)
  have hget : ((hp.push (PySem.W.kdv_tup us)).push (PySem.HandSPX.excO C hp.objs.size)).get? (hp.objs.size + 1) = some (PySem.HandSPX.excO C hp.objs.size) := by heap_get
  have I2 : Inv X pins σ (upd H (hp.objs.size + 1) (exo (hp.objs.size + 1) C none)) ⟨(hp.push (PySem.W.kdv_tup us)).push (PySem.HandSPX.excO C hp.objs.size), gg, dr, tk, os⟩ :=
    I.laid (t' := tk) (a := hp.objs.size + 1) (o := exo (hp.objs.size + 1) C none) (h' := (hp.push (PySem.W.kdv_tup us)).push (PySem.HandSPX.excO C hp.objs.size)) kk hsz (exo_ok hget)
  have r1 : Vals (V.ref (hp.objs.size + 1) :: vs) (Value.ref (hp.objs.size + 1) :: us) := .cons rfl r
  have r2 := hb.rel r1 rz
  have n1 : (Value.ref (hp.objs.size + 1) :: us).length = n + 1 := by rw [List.length_cons, ← r.length, l1]
  have hus : us.length ≤ sizeLine := by
    rw [← r.length, l1, sizeLine_eq]
    omega
  refine wpAny_call (PySem.MsX.call_kw PySem.F.excBase_ValueError (fun Y => PySem.HandSPX.refsVE_contains Y bm hbm) (I.kIn _ _ hC) (PySem.W.looks_findIn I.kIn iC) (fun self => PySem.W.bind_fn I.kIn self tI) hus
    (codeAny_mono (F1.run _ X.stack _ _ ⟨Value.ref (hp.objs.size + 1) :: us, ks.zip ws⟩ (g (Value.ref (hp.objs.size + 1) :: us) ws) _ _ (fun _ _ _ => False) (hr.make C us (ks.zip ws)) (I2.env0.make C us (ks.zip ws))
      (hb.to _ (Value.ref (hp.objs.size + 1) :: us) ws I2.kIn n1 (rz.length.symm.trans l2)) r2 hq) fun r s' hq' => ?_))
  cases r with
  | error er => exact hx pins σ _ _ er s' I2 hq'
  | ok fl =>
    cases fl with
    | ret u =>
      obtain ⟨v, H2, os2, bare2, un2, hok2, rv, ev, q2⟩ := hq'
      subst ev
      exact ⟨rv, fin (hp.objs.size + 1) _ s' H2 hsz kk I2 un2 hok2 os2 rfl bare2 q2⟩
    | next => exact False.elim hq'
    | brk => exact False.elim hq'
    | cont => exact False.elim hq'
def tOexV (C : Addr) (n m : Nat) (sp : Sp) (gV : List V → List V → List V) (t tk : TA) : TE := fun σ H Q => t σ H fun vs H1 => tk σ H1 fun zs H2 => vs.length = n ∧ zs.length = m ∧ n ≤ 1000 ∧
  ∀ a, H2 a = none → sp (gV (.ref a :: vs) zs) (upd H2 a (exo a C none)) (fun v H3 => v = .non ∧ Q (.ref a) H3) (fun _ _ _ => False)
def tOexR (C : Addr) (n m : Nat) (sp : Sp) (gV : List V → List V → List V) (t tk : TA) : L2.St → Hp → XK → Prop := fun σ H Q => t σ H fun vs H1 => tk σ H1 fun zs H2 => vs.length = n ∧ zs.length = m ∧ n ≤ 1000 ∧
  ∀ a, H2 a = none → sp (gV (.ref a :: vs) zs) (upd H2 a (exo a C none)) (fun v H3 => v = .non ∧ ∃ (d : Addr) (fs : List (Str × V)), H3 a = some (exo a C (some d)) ∧ H3 d = some (exd d fs) ∧ H2 d = none ∧ Q (.ref C) (some d) (upd (L2.del H3 a) d (.xd fs))) (fun _ _ _ => False)
section
variable {pins : List (Addr × Obj)} {σ : L2.St} {H : Hp} {s : Shared} {us ws : List Value} {vs zs : List V}
theorem run_oexV {Q : VK} (T : OexC X.K C) (iC : PySem.W.findIn X.K (.ref C) "__init__" = some (some (.ref fI)))
    (tI : PySem.W.typeIn X.K (.ref fI) = some (.type "function")) (F1 : FnOk X.prog X.w X.K X.mg X.base CX k fI fd ps sp) (hr : Room (k + 1) X.A) (hb : KBn X.K fd ps (n + 1) ks g gV) (hx : Passes CX X (fun _ _ _ => False)) (I : Inv X pins σ H s) (r : Vals vs us) (rz : Vals zs ws)
    (l1 : vs.length = n) (l2 : zs.length = ks.length) (hn : n ≤ 1000) (h : ∀ a, H a = none → sp (gV (.ref a :: vs) zs) (upd H a (exo a C none)) (fun v H2 => v = .non ∧ Q (.ref a) H2) (fun _ _ _ => False)) :
    wpAny (model X.prog X.w) X.A (call (.ref C) us (ks.zip ws)) (EP X pins σ Q) X.xe s :=
  run_oex (R := fun a H2 => Q (.ref a) H2) T iC tI F1 hr hb hx I r rz l1 l2 hn h fun a s1 s2 H2 _ _ I2 un hok ho _ hb q => ⟨.ref a, H2, I2.call' (ch := []) ho un hok hb (fun b z => absurd z (by simp)), rfl, q⟩
theorem run_oexR {Q : XK} (T : OexC X.K C) (iC : PySem.W.findIn X.K (.ref C) "__init__" = some (some (.ref fI)))
    (tI : PySem.W.typeIn X.K (.ref fI) = some (.type "function")) (F1 : FnOk X.prog X.w X.K X.mg X.base CX k fI fd ps sp) (hr : Room (k + 1) X.A) (hb : KBn X.K fd ps (n + 1) ks g gV) (hx : Passes CX X (fun _ _ _ => False)) (I : Inv X pins σ H s) (r : Vals vs us) (rz : Vals zs ws)
    (l1 : vs.length = n) (l2 : zs.length = ks.length) (hn : n ≤ 1000) (h : ∀ a, H a = none → sp (gV (.ref a :: vs) zs) (upd H a (exo a C none)) (fun v H3 => v = .non ∧ ∃ (d : Addr) (fs : List (Str × V)), H3 a = some (exo a C (some d)) ∧ H3 d = some (exd d fs) ∧ H d = none ∧ Q (.ref C) (some d) (upd (L2.del H3 a) d (.xd fs))) (fun _ _ _ => False)) :
    wpAny (model X.prog X.w) X.A (call (.ref C) us (ks.zip ws)) (L2N.MkP X pins σ Q) X.xe s :=
  run_oex (R := fun a H3 => ∃ (d : Addr) (fs : List (Str × V)), H3 a = some (exo a C (some d)) ∧ H3 d = some (exd d fs) ∧ H d = none ∧ Q (.ref C) (some d) (upd (L2.del H3 a) d (.xd fs))) T iC tI F1 hr hb hx I r rz l1 l2 hn h fun a s1 s2 H2 ha kk I2 un hok ho ho1 hb ⟨d, fs, ea, ed, hd, q⟩ => by
    obtain ⟨h1, g1, d1, t1, o1⟩ := s
    obtain ⟨hp2, g2, d2, t2, o2⟩ := s1
    obtain ⟨h3, g3, d3, t3, o3⟩ := s2
    have e1 : o2 = o1 := ho1
    have e2 : o3 = o2 := ho
    subst e1 e2
    obtain ⟨t0, G, J, kG, ge, hoe, na⟩ := mk_end0 (d2 := d3) (t2 := t3) I ha kk un hok rfl hb ea ed hd
    exact ⟨a, _, _, ⟨G, g3, d3, t3, o3⟩, _, .ref C, some d, rfl, J, kG, ge, hoe, ⟨rfl, rfl, fun vs e => by cases e; rfl⟩, rfl, rfl, na, rfl, hb, raises_own T.exC T.tyC, q⟩
end
section
variable (T : OexC X.K C) (iC : PySem.W.findIn X.K (.ref C) "__init__" = some (some (.ref fI))) (tI : PySem.W.typeIn X.K (.ref fI) = some (.type "function")) (F1 : FnOk X.prog X.w X.K X.mg X.base CX k fI fd ps sp) (hr : Room (k + 1) X.A) (hb : KBn X.K fd ps (n + 1) ks g gV) (hx : Passes CX X (fun _ _ _ => False)) (hg : Gl X x) (hm : X.mg x = some (.ref C))
include T iC tI F1 hr hb hx hg hm
/-- C(e, .., k = v, ..) as a value -/
theorem pe_oexV (ha : PA X (e :: es) t) (hkw : PK X kws tk) (hall : (backToKw pos (keywordEach kws X.env)).all (·.1.isSome) = true := by rfl) (hks : (backToKw pos (keywordEach kws X.env)).filterMap (·.1) = ks := by rfl) (hdb : (x == ("__debug__" : Str)) = false := by decide)
    (he : starEach (e :: es) X.env = (false, eval e X.env) :: starEach es X.env := by rfl) (hpl : ((backTo pos (starEach (e :: es) X.env)).any (·.1) || (backToKw pos (keywordEach kws X.env)).any (·.1.isNone)) = false := by rfl) : PE X (.Call (.Name x p) (e :: es) kws pos) (tOexV C n ks.length sp gV t tk) := by
  refine ⟨fun pins s σ H Q I h => ?_⟩
  refine wpAny_Call_Name_kw (ld_glob I hg hm ?_ hdb)
  refine PySem.W.callWith_KW (h₀ := X.base) I.ok.mod.kin T.kC hall (thn (ha.run pos pins s σ H _ I h) fun us s1 ⟨vs, H1, I1, r, q⟩ => ?_) hpl he
  refine thn (hkw.run pos pins s1 σ H1 _ I1 q) fun ws s2 ⟨zs, H2, I2, rz, l1, l2, l3, q2⟩ => ⟨I2.kIn, ?_⟩
  rw [hks]
  exact run_oexV T iC tI F1 hr hb hx I2 r rz l1 l2 l3 q2
theorem pe_oexV0 (hkw : PK X kws tk) (hn : n = 0) (hall : (backToKw pos (keywordEach kws X.env)).all (·.1.isSome) = true := by rfl) (hks : (backToKw pos (keywordEach kws X.env)).filterMap (·.1) = ks := by rfl) (hdb : (x == ("__debug__" : Str)) = false := by decide)
    (hpl : ((backTo pos (starEach [] X.env)).any (·.1) || (backToKw pos (keywordEach kws X.env)).any (·.1.isNone)) = false := by rfl) : PE X (.Call (.Name x p) [] kws pos) (tOexV C n ks.length sp gV tNil tk) := by
  refine ⟨fun pins s σ H Q I h => ?_⟩
  refine wpAny_Call_Name_kw (ld_glob I hg hm ?_ hdb)
  refine PySem.W.callWith_KW0 (h₀ := X.base) I.ok.mod.kin T.kC hall ?_ hpl
  refine thn (hkw.run pos pins s σ H _ I h) fun ws s2 ⟨zs, H2, I2, rz, l1, l2, l3, q2⟩ => ⟨I2.kIn, ?_⟩
  rw [hks]
  exact run_oexV (us := []) (vs := []) T iC tI F1 hr hb hx I2 .nil rz hn.symm l2 l3 q2
/-- .. to be raised -/
theorem pmk_oexR (ha : PA X (e :: es) t) (hkw : PK X kws tk) (hall : (backToKw pos (keywordEach kws X.env)).all (·.1.isSome) = true := by rfl) (hks : (backToKw pos (keywordEach kws X.env)).filterMap (·.1) = ks := by rfl) (hdb : (x == ("__debug__" : Str)) = false := by decide)
    (he : starEach (e :: es) X.env = (false, eval e X.env) :: starEach es X.env := by rfl) (hpl : ((backTo pos (starEach (e :: es) X.env)).any (·.1) || (backToKw pos (keywordEach kws X.env)).any (·.1.isNone)) = false := by rfl) : L2N.PMk X (.Call (.Name x p) (e :: es) kws pos) (tOexR C n ks.length sp gV t tk) := by
  intro pins s σ H Q I h
  refine wpAny_Call_Name_kw (ld_glob I hg hm ?_ hdb)
  refine PySem.W.callWith_KW (h₀ := X.base) I.ok.mod.kin T.kC hall (thn (ha.run pos pins s σ H _ I h) fun us s1 ⟨vs, H1, I1, r, q⟩ => ?_) hpl he
  refine thn (hkw.run pos pins s1 σ H1 _ I1 q) fun ws s2 ⟨zs, H2, I2, rz, l1, l2, l3, q2⟩ => ⟨I2.kIn, ?_⟩
  rw [hks]
  exact run_oexR T iC tI F1 hr hb hx I2 r rz l1 l2 l3 q2
theorem pmk_oexR0 (hkw : PK X kws tk) (hn : n = 0) (hall : (backToKw pos (keywordEach kws X.env)).all (·.1.isSome) = true := by rfl) (hks : (backToKw pos (keywordEach kws X.env)).filterMap (·.1) = ks := by rfl) (hdb : (x == ("__debug__" : Str)) = false := by decide)
    (hpl : ((backTo pos (starEach [] X.env)).any (·.1) || (backToKw pos (keywordEach kws X.env)).any (·.1.isNone)) = false := by rfl) : L2N.PMk X (.Call (.Name x p) [] kws pos) (tOexR C n ks.length sp gV tNil tk) := by
  intro pins s σ H Q I h
  refine wpAny_Call_Name_kw (ld_glob I hg hm ?_ hdb)
  refine PySem.W.callWith_KW0 (h₀ := X.base) I.ok.mod.kin T.kC hall ?_ hpl
  refine thn (hkw.run pos pins s σ H _ I h) fun ws s2 ⟨zs, H2, I2, rz, l1, l2, l3, q2⟩ => ⟨I2.kIn, ?_⟩
  rw [hks]
  exact run_oexR (us := []) (vs := []) T iC tI F1 hr hb hx I2 .nil rz hn.symm l2 l3 q2
end
end
end Ms
/-! Ms12: keywords, exceptions at the data level. -/
namespace Ms
open PySem PySem.Spec PyProof.Rows L2
/-! ### how a call binds -/
section
variable {K : PySem.W.Frag} {x qual : Str} {params : Arguments} {body : List Stmt} {scope : Scope} {kws : List (Str × V)} {f : Addr} {fd : FuncData} {ps : List Str}
theorem kb_n (F : FunD K x qual params body scope [] kws f fd) (n : Nat) (ks : List Str) (g : {α : Type} → List α → List α → List α) (hrel : ∀ {vs zs : List V} {us ws : List Value}, Vals vs us → Vals zs ws → Vals (g vs zs) (g us ws))
    (h : ∀ (kV doc pm : Value) (an : Option Addr) (cdv ct : Value) (us ws : List Value), us.length = n → ws.length = ks.length → bindArgs (PySem.W.fnOf x qual params body scope .none kV doc pm an cdv ct) ⟨us, ks.zip ws⟩ = pure (ps.zip (g us ws))) :
    KBn K fd ps n ks g g := by
  obtain ⟨oc, od, dV, kV, doc, pm, an, cdv, ct, osl, rfl, lk, hcd, hD, hK⟩ := F.ex
  rcases hD with ⟨_, rfl⟩ | ⟨e, _⟩
  · exact ⟨fun s us ws X l1 l2 => .of_eq (h kV doc pm an cdv ct us ws l1 l2), hrel⟩
  · exact absurd rfl e
/-- .. the values of a def with defaults, all of them handed in -/
theorem kb_all {dvs : List V} (F : FunD K x qual params body scope dvs kws f fd) (n : Nat) (ks : List Str) (g : {α : Type} → List α → List α → List α) (hrel : ∀ {vs zs : List V} {us ws : List Value}, Vals vs us → Vals zs ws → Vals (g vs zs) (g us ws))
    (h : ∀ (T : Addr) (kV doc pm : Value) (an : Option Addr) (cdv ct : Value) (us its ws : List Value), us.length = n → its.length = dvs.length → ws.length = ks.length →
      ∃ k, bindArgs (PySem.W.fnOf x qual params body scope (.ref T) kV doc pm an cdv ct) ⟨us, ks.zip ws⟩ = seqItems? (.ref T) >>= k ∧ k (some its.toArray) = pure (ps.zip (g us ws))) (hd : dvs ≠ []) : KBn K fd ps n ks g g := by
  obtain ⟨its, q⟩ := F.kbindsD n ks (fun us _ ws => g us ws) hd (fun r1 _ r3 => hrel r1 r3) h
  exact q
end
/-! ### keywords' values -/
section
variable {X : Cx} {W : WX} {e : Expr} {es : List Expr} {kws : List Keyword} {nm : Option Str} {kpos p pos : Pos} {m : M D} {ms mks : List (M D)} {x : Str} {k j n N : Nat} {f : Fn}
theorem pkImp {t t' : TA} (h : PK X kws t) (i : ∀ σ H Q, t' σ H Q → t σ H Q) : PK X kws t' := ⟨fun pos pins s σ H Q I q => h.run pos pins s σ H Q I (i σ H Q q)⟩
theorem dk_nil : PK X [] (tDA (XC X) W (M.args [])) := pkImp pk_nil fun σ H Q ⟨F, μ, s, r, q⟩ => q.pure r [] .nil
theorem dk_cons (h : PE X e (tD (XC X) W m)) (hs : PK X kws (tDA (XC X) W (M.args ms))) : PK X (⟨nm, e, kpos⟩ :: kws) (tDA (XC X) W (M.args (m :: ms))) := by
  refine pkImp (pk_cons h hs) fun σ H Q ⟨F, μ, s, r, q⟩ => ?_
  refine ⟨F, μ, s, r, q.split.imp fun d μ1 s1 H1 x1 h1 v hv => ?_⟩
  obtain ⟨n, h1⟩ := res_out x1.rep h1
  refine ⟨F, μ1, s1, x1.rep, h1.split.imp fun ds μ2 s2 H2 x2 h2 vs hvs => ?_⟩
  exact h2.pure x2.rep (v :: vs) (.cons (x2.at (hv.at n)) hvs)
theorem AtL.of2 {C : RC} {T : Addr → Prop} {μ : List Addr} {H : Hp} {v w : V} {d e : D} (h : At C T μ H v d) (h2 : At C T μ H w e) : AtL C T μ H [v, w] [d, e] := .cons h (.cons h2 .nil)
/-- one shape for all lists -/
def SameShape (n m : Nat) (gV : List V → List V → List V) (gD : List D → List D → List D) : Prop := ∀ (C : RC) (T : Addr → Prop) (μ : List Addr) (H : Hp) (vs zs : List V) (ds es : List D), ds.length = n → es.length = m → AtL C T μ H vs ds → AtL C T μ H zs es → AtL C T μ H (gV vs zs) (gD ds es)
def M.callK (f : Fn) (n m : Nat) (gD : List D → List D → List D) (ms mks : List (M D)) : M D := do
  let ds ← M.args ms
  let es ← M.args mks
  if ds.length = n ∧ es.length = m then M.fn f (gD ds es) else M.stuck
theorem tCallK_ok {C : RC} {n m : Nat} {gV : List V → List V → List V} {gD : List D → List D → List D} (hs : SameShape n m gV gD) (len : ∀ ds G, f ds G ≠ .stuck → ds.length = N) (σ : L2.St) (H : Hp) (Q : VK) (h : tD C W (M.callK f n m gD ms mks) σ H Q) :
    tCallN n m (spOf C N f) gV (WE W σ) (tDA C W (M.args ms)) (tDA C W (M.args mks)) σ H Q := by
  obtain ⟨F, μ, s, r, q⟩ := h
  refine ⟨F, μ, s, r, q.split.imp fun ds μ1 s1 H1 x1 h1 vs hv => ⟨F, μ1, s1, x1.rep, h1.split.imp fun es μ2 s2 H2 x2 h2 zs hz => ?_⟩⟩
  have hv := x2.atL hv
  by_cases hl : ds.length = n ∧ es.length = m
  · rw [if_pos hl] at h2
    have r1 := x2.rep
    have ha := hs _ _ _ _ _ _ _ _ hl.1 hl.2 hv hz
    refine ⟨hv.length.trans hl.1, hz.length.trans hl.2, ?_, _, μ2, s2.G, gD ds es, r1.toCall, ha.toCall, ?_⟩
    · rw [ha.length]
      refine len _ s2.G fun z => ?_
      unfold Res M.fn at h2
      rw [z] at h2
      exact h2
    · unfold Res M.fn at h2
      unfold ResF
      cases em : f (gD ds es) s2.G with
      | stuck => rw [em] at h2; exact h2
      | exc e G' =>
        rw [em] at h2
        intro cls dx μ' H' y hx
        exact h2 cls dx μ' H' (y.ofCall r1) (hx.mono fun a t => tab_call t)
      | ok d G' =>
        rw [em] at h2
        intro v μ' H' y hx
        exact h2 μ' H' (y.ofCall r1) v (.of (hx.mono fun a t => tab_call t))
  · rw [if_neg hl] at h2
    exact (res_stuck h2).elim
end
section
variable {X : Cx} {CX : CXT} {W : WX} {k n : Nat} {f : Addr} {fd : FuncData} {ps ks : List Str} {sp : Sp} {E : L2.St → XK} {x : Str} {p pos : Pos} {e : Expr} {es : List Expr} {kws : List Keyword} {t tk : TA} {g : List Value → List Value → List Value} {gV : List V → List V → List V}
theorem run_fnNS {pins : List (Addr × Obj)} {σ : L2.St} {H : Hp} {s : Shared} {Q : VK} {us ws : List Value} {vs zs : List V} (F : FnOk X.prog X.w X.K X.mg X.base CX k f fd ps sp) (hr : Room k X.A) (hb : KBn X.K fd ps n ks g gV) (hx : PassesAt CX X σ (E σ))
    (I : Inv X pins σ H s) (r : Vals vs us) (rz : Vals zs ws) (l1 : vs.length = n) (l2 : zs.length = ks.length) (h : sp (gV vs zs) H Q (E σ)) : wpAny (model X.prog X.w) X.A (call (.ref f) us (ks.zip ws)) (EP X pins σ Q) X.xe s := by
  have r2 := hb.rel r rz
  refine wpAny_call (codeAny_mono (F.run X.A X.stack s H ⟨us, ks.zip ws⟩ (g us ws) (gV vs zs) Q (E σ) hr I.env0 (hb.to s us ws I.kIn (r.length.symm.trans l1) (rz.length.symm.trans l2)) r2 h) fun r s' hq => ?_)
  cases r with
  | error e => exact hx pins H s e s' I hq
  | ok fl =>
    cases fl with
    | ret u => exact I.after hq
    | next => exact False.elim hq
    | brk => exact False.elim hq
    | cont => exact False.elim hq
def tCallNS (n m : Nat) (sp : Sp) (gV : List V → List V → List V) (E : L2.St → XK) (t tk : TA) : TE := fun σ H Q => tCallN n m sp gV (E σ) t tk σ H Q
variable (F : FnOk X.prog X.w X.K X.mg X.base CX k f fd ps sp) (hr : Room k X.A) (hg : Gl X x) (hm : X.mg x = some (.ref f)) (hk : PySem.W.keepIn X.K (.ref f) = true) (hb : KBn X.K fd ps n ks g gV) (hx : ∀ σ, PassesAt CX X σ (E σ))
include F hr hg hm hk hb hx
theorem pe_callNS (ha : PA X (e :: es) t) (hkw : PK X kws tk) (hall : (backToKw pos (keywordEach kws X.env)).all (·.1.isSome) = true := by rfl) (hks : (backToKw pos (keywordEach kws X.env)).filterMap (·.1) = ks := by rfl)
    (hdb : (x == ("__debug__" : Str)) = false := by decide) (he : starEach (e :: es) X.env = (false, eval e X.env) :: starEach es X.env := by rfl)
    (hpl : ((backTo pos (starEach (e :: es) X.env)).any (·.1) || (backToKw pos (keywordEach kws X.env)).any (·.1.isNone)) = false := by rfl) :
    PE X (.Call (.Name x p) (e :: es) kws pos) (tCallNS n ks.length sp gV E t tk) := by
  refine ⟨fun pins s σ H Q I h => ?_⟩
  refine wpAny_Call_Name_kw (ld_glob I hg hm ?_ hdb)
  refine PySem.W.callWith_KW (h₀ := X.base) I.ok.mod.kin hk hall (thn (ha.run pos pins s σ H _ I h) fun us s1 ⟨vs, H1, I1, r, q⟩ => ?_) hpl he
  refine thn (hkw.run pos pins s1 σ H1 _ I1 q) fun ws s2 ⟨zs, H2, I2, rz, l1, l2, q2⟩ => ⟨I2.kIn, ?_⟩
  rw [hks]
  exact run_fnNS F hr hb (hx σ) I2 r rz l1 l2 q2
theorem pe_callNS0 (hkw : PK X kws tk) (hn : n = 0) (hall : (backToKw pos (keywordEach kws X.env)).all (·.1.isSome) = true := by rfl) (hks : (backToKw pos (keywordEach kws X.env)).filterMap (·.1) = ks := by rfl) (hdb : (x == ("__debug__" : Str)) = false := by decide)
    (hpl : ((backTo pos (starEach [] X.env)).any (·.1) || (backToKw pos (keywordEach kws X.env)).any (·.1.isNone)) = false := by rfl) :
    PE X (.Call (.Name x p) [] kws pos) (tCallNS n ks.length sp gV E tNil tk) := by
  refine ⟨fun pins s σ H Q I h => ?_⟩
  refine wpAny_Call_Name_kw (ld_glob I hg hm ?_ hdb)
  refine PySem.W.callWith_KW0 (h₀ := X.base) I.ok.mod.kin hk hall ?_ hpl
  refine thn (hkw.run pos pins s σ H _ I h) fun ws s2 ⟨zs, H2, I2, rz, l1, l2, q2⟩ => ⟨I2.kIn, ?_⟩
  rw [hks]
  exact run_fnNS (us := []) (vs := []) F hr hb (hx σ) I2 .nil rz hn.symm l2 q2
end
/-- a def that may be called so: its name, its level, the shape of the call, what it does -/
structure DefK (P : Program) (w : World) (K : PySem.W.Frag) (mg : Str → Option Value) (base : Heap) (x : Str) (k N n : Nat) (ks : List Str) (gD : List D → List D → List D) (m : Fn) : Prop where
  len : ∀ ds G, m ds G ≠ .stuck → ds.length = N
  ex : ∃ (f : Addr) (fd : FuncData) (ps : List Str) (g : List Value → List Value → List Value) (gV : List V → List V → List V), FnOk P w K mg base (CXn P w) k f fd ps (spOf ⟨K, mg⟩ N m) ∧ mg x = some (.ref f) ∧ PySem.W.keepIn K (.ref f) = true ∧ KBn K fd ps n ks g gV ∧ SameShape n ks.length gV gD
section
variable {X : Cx} {W : WX} {e : Expr} {es : List Expr} {kws : List Keyword} {p pos : Pos} {ms mks : List (M D)} {x : Str} {k j n N : Nat} {m : Fn} {ks : List Str} {gD : List D → List D → List D}
theorem d_callK (D : DefK X.prog X.w X.K X.mg X.base x k N n ks gD m) (hr : Room j X.A) (hj : k ≤ j) (tk : L2N.Takes X W) (hg : Gl X x) (ha : PA X (e :: es) (tDA (XC X) W (M.args ms))) (hkw : PK X kws (tDA (XC X) W (M.args mks)))
    (hall : (backToKw pos (keywordEach kws X.env)).all (·.1.isSome) = true := by rfl) (hks : (backToKw pos (keywordEach kws X.env)).filterMap (·.1) = ks := by rfl) (hdb : (x == ("__debug__" : Str)) = false := by decide)
    (he : starEach (e :: es) X.env = (false, eval e X.env) :: starEach es X.env := by rfl) (hpl : ((backTo pos (starEach (e :: es) X.env)).any (·.1) || (backToKw pos (keywordEach kws X.env)).any (·.1.isNone)) = false := by rfl) :
    PE X (.Call (.Name x p) (e :: es) kws pos) (tD (XC X) W (M.callK m n ks.length gD ms mks)) := by
  obtain ⟨f, fd, ps, g, gV, F0, hm, hk, hb, hs⟩ := D.ex
  exact peImp (pe_callNS F0 (hr.mono hj) hg hm hk hb (E := WE W) (fun σ => L2N.passAt tk σ) ha hkw hall hks hdb he hpl) (tCallK_ok hs D.len)
theorem d_callK0 (D : DefK X.prog X.w X.K X.mg X.base x k N n ks gD m) (hr : Room j X.A) (hj : k ≤ j) (tk : L2N.Takes X W) (hg : Gl X x) (hkw : PK X kws (tDA (XC X) W (M.args mks))) (hn : n = 0)
    (hall : (backToKw pos (keywordEach kws X.env)).all (·.1.isSome) = true := by rfl) (hks : (backToKw pos (keywordEach kws X.env)).filterMap (·.1) = ks := by rfl) (hdb : (x == ("__debug__" : Str)) = false := by decide)
    (hpl : ((backTo pos (starEach [] X.env)).any (·.1) || (backToKw pos (keywordEach kws X.env)).any (·.1.isNone)) = false := by rfl) :
    PE X (.Call (.Name x p) [] kws pos) (tD (XC X) W (M.callK m n ks.length gD [] mks)) := by
  obtain ⟨f, fd, ps, g, gV, F0, hm, hk, hb, hs⟩ := D.ex
  refine peImp (pe_callNS0 F0 (hr.mono hj) hg hm hk hb (E := WE W) (fun σ => L2N.passAt tk σ) hkw hn hall hks hdb hpl) fun σ H Q h => ?_
  have q := tCallK_ok (W := W) hs D.len σ H Q h
  obtain ⟨F, μ, s, r, q⟩ := q
  exact q.pure r [] .nil
end
end Ms
/-! Ms13: exceptions at the data level. -/
namespace Ms
open PySem PySem.Spec PyProof.Rows L2
/-- an own exception class without own __init__ -/
structure X0 (K : PySem.W.Frag) (mg : Str → Option Value) (c : Str) (A : Addr) : Prop where
  gl : mg c = some (.ref A)
  ex : PySem.W.excIn K A [.type "ValueError", .type "Exception", .type "BaseException", .type "object"] "ValueError.__new__" = true
  kp : PySem.W.keepIn K (.ref A) = true
  sub : PySem.W.subIn K (.ref A) (.type "BaseException") = some true
  ty : PySem.W.typeIn K (.ref A) = some (.type "type")
/-- one with an own __init__ of one field, and how it is called -/
structure MkX (P : Program) (w : World) (K : PySem.W.Frag) (mg : Str → Option Value) (base : Heap) (c fl : Str) (k n : Nat) (ks : List Str) (pickD : List D → List D → D) : Prop where
  ne : fl ≠ Str.empty
  ex : ∃ (A fI : Addr) (fd : FuncData) (ps : List Str) (g : List Value → List Value → List Value) (gV : List V → List V → List V) (pickV : List V → List V → V), mg c = some (.ref A) ∧ OexC K A ∧ PySem.W.findIn K (.ref A) "__init__" = some (some (.ref fI)) ∧
    PySem.W.typeIn K (.ref fI) = some (.type "function") ∧ PySem.W.findIn K (.ref A) fl = some none ∧ FnOk P w K mg base (CXn P w) k fI fd ps (spIni K fl) ∧ KBn K fd ps (n + 1) ks g gV ∧ (∀ a vs zs, vs.length = n → zs.length = ks.length → gV (.ref a :: vs) zs = [.ref a, pickV vs zs]) ∧
    ∀ (C : RC) (T : Addr → Prop) (μ : List Addr) (H : Hp) (vs zs : List V) (ds es : List D), ds.length = n → es.length = ks.length → AtL C T μ H vs ds → AtL C T μ H zs es → At C T μ H (pickV vs zs) (pickD ds es)
def M.exc0 (c : Str) (m : M D) : M D := do
  let _ ← m
  pure (.exc c Str.empty .non)
def M.mkX (c fl : Str) (n m : Nat) (pick : List D → List D → D) (ms mks : List (M D)) : M D := do
  let ds ← M.args ms
  let es ← M.args mks
  if ds.length = n ∧ es.length = m then pure (.exc c fl (pick ds es)) else M.stuck
def M.throw (d : D) : M Fl := fun s => .exc d s
def M.raise (m : M D) : M Fl := do M.throw (← m)
section
variable {X : Cx} {W : WX} {c fl msg : Str} {A : Addr} {e : Expr} {es : List Expr} {kws : List Keyword} {p p2 pos pos' : Pos} {m : M D} {ms mks : List (M D)} {k n j i : Nat} {ks : List Str} {pick : List D → List D → D}
theorem d_exc0 (h : X0 X.K X.mg c A) (hg : Gl X c) (he : PE X e (tD (XC X) W m)) (hs : starEach [e] X.env = (false, eval e X.env) :: starEach [] X.env := by rfl) (hdb : (c == ("__debug__" : Str)) = false := by decide) :
    PE X (.Call (.Name c p) [e] [] pos) (tD (XC X) W (M.exc0 c m)) :=
  peImp (pe_exc1 PySem.F.excBase_ValueError h.ex h.gl h.kp hg he hs hdb) fun σ H Q ⟨F, μ, s, r, q⟩ => ⟨F, μ, s, r, q.split.imp fun d μ1 s1 H1 x1 h1 v hv a ha =>
    h1 μ1 _ (x1.rep.ext1 ha) (.ref a) (.of (.exc0 h.gl ⟨x1.rep.free ha, upd_same⟩))⟩
theorem ds_raise0 (hc : X.calm = true) (tk : L2N.Takes X W) (h : X0 X.K X.mg c A) (hg : Gl X c) (hdb : (c == ("__debug__" : Str)) = false := by decide) :
    PS X (.Raise (some (.Call (.Name c p) [.Constant (.str msg) i p2] [] pos)) none pos') (tDS (XC X) W (M.raise (M.exc0 c (M.lit (.str msg))))) :=
  psImp (L2N.ps_raise hc tk (L2N.pmk_own PySem.F.excBase_ValueError h.ex h.gl h.kp (raises_own h.sub h.ty) hg hdb)) fun E σ H ⟨F, μ, s, r, q⟩ => by
    have q : ∀ cls dx μ' σ' H', Ext (XC X) F μ s σ H μ' s σ' H' → XAt (XC X) (Tab F μ' s σ') μ' H' cls dx (.exc c Str.empty .non) → W cls dx σ' H' := q
    exact q _ _ _ _ _ (.refl r) ⟨A, h.gl, rfl, .inl ⟨rfl, rfl⟩⟩
theorem excHeap {H : Hp} {a dx A : Addr} {fl : Str} {v : V} (ha : H a = none) (hd : H dx = none) (ne : dx ≠ a) :
    (∀ b o, H b = some o → (upd (upd (upd H a (exo a A none)) dx (exd dx [(fl, v)])) a (exo a A (some dx))) b = some o) ∧ upd (L2.del (upd (upd (upd H a (exo a A none)) dx (exd dx [(fl, v)])) a (exo a A (some dx))) a) dx (.xd [(fl, v)]) = upd H dx (.xd [(fl, v)]) := by
  refine ⟨fun b o e => ?_, ?_⟩
  · have b1 := ne_of_none e ha
    have b2 := ne_of_none e hd
    rw [upd_ne b1, upd_ne b2, upd_ne b1]
    exact e
  · funext b
    by_cases b1 : b = dx
    · rw [b1, upd_same, upd_same]
    · rw [upd_ne b1, upd_ne b1]
      by_cases b2 : b = a
      · rw [b2, L2.del_same, ha]
      · rw [L2.del_ne b2, upd_ne b2, upd_ne b1, upd_ne b2]
theorem lookup_one (f : Str) (v : V) : List.lookup f [(f, v)] = some v := by simp [List.lookup]
theorem tD_mkX {A : Addr} {gV : List V → List V → List V} {pickV : List V → List V → V} {nk : Nat} (ne : fl ≠ Str.empty) (gl : X.mg c = some (.ref A)) (ox : OexC X.K A) (no : PySem.W.findIn X.K (.ref A) fl = some none) (hn : n ≤ 1000) (hp : ∀ a vs zs, vs.length = n → zs.length = nk → gV (.ref a :: vs) zs = [.ref a, pickV vs zs])
    (hs : ∀ (C : RC) (T : Addr → Prop) (μ : List Addr) (H : Hp) (vs zs : List V) (ds es : List D), ds.length = n → es.length = nk → AtL C T μ H vs ds → AtL C T μ H zs es → At C T μ H (pickV vs zs) (pick ds es)) (σ : L2.St) (H : Hp) (Q : VK)
    (h : tD (XC X) W (M.mkX c fl n nk pick ms mks) σ H Q) : tOexV A n nk (spIni X.K fl) gV (tDA (XC X) W (M.args ms)) (tDA (XC X) W (M.args mks)) σ H Q := by
  obtain ⟨F, μ, s, r, q⟩ := h
  refine ⟨F, μ, s, r, q.split.imp fun ds μ1 s1 H1 x1 h1 vs hv => ⟨F, μ1, s1, x1.rep, h1.split.imp fun es μ2 s2 H2 x2 h2 zs hz => ?_⟩⟩
  have hv := x2.atL hv
  by_cases hl : ds.length = n ∧ es.length = nk
  · rw [if_pos hl] at h2
    have lv := hv.length.trans hl.1
    have lz := hz.length.trans hl.2
    refine ⟨lv, lz, hn, fun a ha => ⟨a, A, pickV vs zs, hp a vs zs lv lz, ox, no, upd_same, fun dx hdx ne2 => ⟨rfl, ?_⟩⟩⟩
    rw [upd_ne ne2] at hdx
    obtain ⟨k1, _⟩ := excHeap (A := A) (fl := fl) (v := pickV vs zs) ha hdx ne2
    have x3 := x2.rep.ext k1
    refine h2 μ2 _ x3 (.ref a) (.of (.exc1 (dx := dx) (fs := [(fl, pickV vs zs)]) gl ⟨x2.rep.free ha, upd_same⟩ ⟨x2.rep.free hdx, ?_⟩ ne (lookup_one _ _) (x3.at (hs _ _ _ _ _ _ _ _ hl.1 hl.2 hv hz))))
    rw [upd_ne ne2, upd_same]
  · rw [if_neg hl] at h2
    exact (res_stuck h2).elim
theorem tDS_mkX {A : Addr} {gV : List V → List V → List V} {pickV : List V → List V → V} {nk : Nat} (ne : fl ≠ Str.empty) (gl : X.mg c = some (.ref A)) (ox : OexC X.K A) (no : PySem.W.findIn X.K (.ref A) fl = some none) (hn : n ≤ 1000) (hp : ∀ a vs zs, vs.length = n → zs.length = nk → gV (.ref a :: vs) zs = [.ref a, pickV vs zs])
    (hs : ∀ (C : RC) (T : Addr → Prop) (μ : List Addr) (H : Hp) (vs zs : List V) (ds es : List D), ds.length = n → es.length = nk → AtL C T μ H vs ds → AtL C T μ H zs es → At C T μ H (pickV vs zs) (pick ds es)) (E : Ends) (σ : L2.St) (H : Hp)
    (h : tDS (XC X) W (M.raise (M.mkX c fl n nk pick ms mks)) E σ H) : tOexR A n nk (spIni X.K fl) gV (tDA (XC X) W (M.args ms)) (tDA (XC X) W (M.args mks)) σ H fun cls d H' => W cls d σ H' := by
  obtain ⟨F, μ, s, r, q⟩ := h
  refine ⟨F, μ, s, r, q.splitE.split.imp fun ds μ1 s1 H1 x1 h1 vs hv => ⟨F, μ1, s1, x1.rep, h1.split.imp fun es μ2 s2 H2 x2 h2 zs hz => ?_⟩⟩
  have hv := x2.atL hv
  by_cases hl : ds.length = n ∧ es.length = nk
  · rw [if_pos hl] at h2
    have h3 := h2.pure x2.rep
    have h3 : ∀ cls dx μ' σ' H', Ext (XC X) F μ2 s2 σ H2 μ' s2 σ' H' → XAt (XC X) (Tab F μ' s2 σ') μ' H' cls dx (.exc c fl (pick ds es)) → W cls dx σ' H' := h3
    have lv := hv.length.trans hl.1
    have lz := hz.length.trans hl.2
    refine ⟨lv, lz, hn, fun a ha => ⟨a, A, pickV vs zs, hp a vs zs lv lz, ox, no, upd_same, fun dx hdx ne2 => ⟨rfl, dx, [(fl, pickV vs zs)], upd_same, ?_, ?_, ?_⟩⟩⟩
    · rw [upd_ne ne2, upd_same]
    · rw [upd_ne ne2] at hdx
      exact hdx
    · rw [upd_ne ne2] at hdx
      obtain ⟨_, k2⟩ := excHeap (A := A) (fl := fl) (v := pickV vs zs) ha hdx ne2
      rw [k2]
      have x3 := x2.rep.ext1 (o := HO.xd [(fl, pickV vs zs)]) hdx
      exact h3 _ _ _ _ _ x3 ⟨A, gl, rfl, .inr ⟨ne, dx, _, _, rfl, upd_same, x2.rep.free hdx, lookup_one _ _, x3.at (hs _ _ _ _ _ _ _ _ hl.1 hl.2 hv hz)⟩⟩
  · rw [if_neg hl] at h2
    exact (res_stuck h2).elim
theorem passF (tk : L2N.Takes X W) : Passes (L2N.CX X.prog X.w) X (fun _ _ _ => False) := L2N.passes_call tk fun _ _ _ _ h => h.elim
section
variable (D : MkX X.prog X.w X.K X.mg X.base c fl k n ks pick) (hr : Room j X.A) (hj : k + 1 ≤ j) (tk : L2N.Takes X W) (hg : Gl X c)
include D hr hj tk hg
theorem d_mkX (ha : PA X (e :: es) (tDA (XC X) W (M.args ms))) (hkw : PK X kws (tDA (XC X) W (M.args mks))) (hn : n ≤ 1000 := by decide) (hall : (backToKw pos (keywordEach kws X.env)).all (·.1.isSome) = true := by rfl) (hks : (backToKw pos (keywordEach kws X.env)).filterMap (·.1) = ks := by rfl) (hdb : (c == ("__debug__" : Str)) = false := by decide)
    (he : starEach (e :: es) X.env = (false, eval e X.env) :: starEach es X.env := by rfl) (hpl : ((backTo pos (starEach (e :: es) X.env)).any (·.1) || (backToKw pos (keywordEach kws X.env)).any (·.1.isNone)) = false := by rfl) :
    PE X (.Call (.Name c p) (e :: es) kws pos) (tD (XC X) W (M.mkX c fl n ks.length pick ms mks)) := by
  obtain ⟨A, fI, fd, ps, g, gV, pickV, gl, ox, ini, tI, no, F0, hb, hp, hs⟩ := D.ex
  exact peImp (pe_oexV ox ini tI F0 (hr.mono hj) hb (passF tk) hg gl ha hkw hall hks hdb he hpl) (tD_mkX D.ne gl ox no hn hp hs)
theorem d_mkX0 (hkw : PK X kws (tDA (XC X) W (M.args mks))) (hn : n = 0) (hall : (backToKw pos (keywordEach kws X.env)).all (·.1.isSome) = true := by rfl) (hks : (backToKw pos (keywordEach kws X.env)).filterMap (·.1) = ks := by rfl) (hdb : (c == ("__debug__" : Str)) = false := by decide)
    (hpl : ((backTo pos (starEach [] X.env)).any (·.1) || (backToKw pos (keywordEach kws X.env)).any (·.1.isNone)) = false := by rfl) :
    PE X (.Call (.Name c p) [] kws pos) (tD (XC X) W (M.mkX c fl n ks.length pick [] mks)) := by
  obtain ⟨A, fI, fd, ps, g, gV, pickV, gl, ox, ini, tI, no, F0, hb, hp, hs⟩ := D.ex
  refine peImp (pe_oexV0 ox ini tI F0 (hr.mono hj) hb (passF tk) hg gl hkw hn hall hks hdb hpl) fun σ H Q h => ?_
  obtain ⟨F, μ, s, r, q⟩ := tD_mkX (W := W) D.ne gl ox no (by omega) hp hs σ H Q h
  exact q.pure r [] .nil
theorem ds_raiseX (hc : X.calm = true) (ha : PA X (e :: es) (tDA (XC X) W (M.args ms))) (hkw : PK X kws (tDA (XC X) W (M.args mks))) (hn : n ≤ 1000 := by decide) (hall : (backToKw pos (keywordEach kws X.env)).all (·.1.isSome) = true := by rfl) (hks : (backToKw pos (keywordEach kws X.env)).filterMap (·.1) = ks := by rfl) (hdb : (c == ("__debug__" : Str)) = false := by decide)
    (he : starEach (e :: es) X.env = (false, eval e X.env) :: starEach es X.env := by rfl) (hpl : ((backTo pos (starEach (e :: es) X.env)).any (·.1) || (backToKw pos (keywordEach kws X.env)).any (·.1.isNone)) = false := by rfl) :
    PS X (.Raise (some (.Call (.Name c p) (e :: es) kws pos)) none pos') (tDS (XC X) W (M.raise (M.mkX c fl n ks.length pick ms mks))) := by
  obtain ⟨A, fI, fd, ps, g, gV, pickV, gl, ox, ini, tI, no, F0, hb, hp, hs⟩ := D.ex
  exact psImp (L2N.ps_raise hc tk (pmk_oexR ox ini tI F0 (hr.mono hj) hb (passF tk) hg gl ha hkw hall hks hdb he hpl)) (tDS_mkX D.ne gl ox no hn hp hs)
theorem ds_raiseX0 (hc : X.calm = true) (hkw : PK X kws (tDA (XC X) W (M.args mks))) (hn : n = 0) (hall : (backToKw pos (keywordEach kws X.env)).all (·.1.isSome) = true := by rfl) (hks : (backToKw pos (keywordEach kws X.env)).filterMap (·.1) = ks := by rfl) (hdb : (c == ("__debug__" : Str)) = false := by decide)
    (hpl : ((backTo pos (starEach [] X.env)).any (·.1) || (backToKw pos (keywordEach kws X.env)).any (·.1.isNone)) = false := by rfl) :
    PS X (.Raise (some (.Call (.Name c p) [] kws pos)) none pos') (tDS (XC X) W (M.raise (M.mkX c fl n ks.length pick [] mks))) := by
  obtain ⟨A, fI, fd, ps, g, gV, pickV, gl, ox, ini, tI, no, F0, hb, hp, hs⟩ := D.ex
  refine psImp (L2N.ps_raise hc tk (pmk_oexR0 ox ini tI F0 (hr.mono hj) hb (passF tk) hg gl hkw hn hall hks hdb hpl)) fun E σ H h => ?_
  obtain ⟨F, μ, s, r, q⟩ := tDS_mkX (W := W) D.ne gl ox no (by omega) hp hs E σ H h
  exact q.pure r [] .nil
end
end
end Ms
/-! Ms14: isinstance, an exception's field, more calls. -/
namespace Ms
open PySem PySem.Spec PyProof.Rows L2
/-! ### isinstance -/
inductive TyM (K : PySem.W.Frag) (H : Hp) : V → Value → Prop
  | base {x : V} {t : Value} (h : TyX K H x t) : TyM K H x t
  | ex0 {a A : Addr} (h : H a = some (ExO (.ref A) a)) (c : ExcC K A) : TyM K H (.ref a) (.ref A)
  | ex1 {a A dx : Addr} {fs : List (Str × V)} (h : H a = some (exo a A (some dx))) (hd : H dx = some (exd dx fs)) (c : ExcC K A) : TyM K H (.ref a) (.ref A)
theorem notCls_fields {o : Obj} {vs : Array Value} (h : o.data = .fields vs) : PySem.W.notCls o = true := by unfold PySem.W.notCls; rw [h]
theorem has_isSome {K : PySem.W.Frag} {A : Addr} (h : PySem.W.hasDictIn K A = true) : (PySem.W.clsIn K A).isSome = true := by
  obtain ⟨cd, h1, _⟩ := PySem.W.any_some h
  rw [h1]
  rfl
section
variable {X : Cx} {pins : List (Addr × Obj)} {σ : L2.St} {H : Hp} {s : Shared}
theorem kit_ofM {x : V} {u t : Value} (I : Inv X pins σ H s) (rx : RelV x u) (ty : TyM X.K H x t) : ∃ P : Heap → Prop, PySem.W.KitX X.K u t P ∧ P s.heap ∧ u ≠ .builtin "__main__.__loader__#opaque" := by
  cases ty with
  | base h => exact kit_of I rx h
  | ex0 h c =>
    cases rx
    obtain ⟨oe, vs, e, z, d, _⟩ := (I.hok _ _ h).1
    exact ⟨_, PySem.W.kitx_exc (od := none) (has_isSome c.hd) c.hg c.hk c.hs c.ha c.hn c.ht c.hm, ⟨e, z.1, notCls_fields d, by rw [z.2]; trivial⟩, fun z => nomatch z⟩
  | @ex1 a A dx fs h hd c =>
    cases rx
    obtain ⟨t1, e⟩ := exo_at I.hok h
    obtain ⟨mA, hns, _⟩ := exd_at I.hok hd
    obtain ⟨od, ho, _⟩ := lookIn_ns hns
    exact ⟨_, PySem.W.kitx_exc (od := some od) (has_isSome c.hd) c.hg c.hk c.hs c.ha c.hn c.ht c.hm, ⟨e, rfl, rfl, ho⟩, fun z => nomatch z⟩
end
/-- what is asked of a type -/
inductive Ask (K : PySem.W.Frag) (H : Hp) : V → (Value → Option Bool) → Prop
  | one {c : V} {u : Value} (h : ClsV c u) : Ask K H c (fun t => PySem.W.kitOne K t u)
  | any {tp : Addr} {cs : List V} {us : List Value} (h : H tp = some (.tup cs)) (p : Paired ClsV cs us) : Ask K H (.ref tp) (fun t => PySem.W.kitAny K t us)
def rIsM (K : PySem.W.Frag) : List V → Hp → VK → Prop := fun xs H Q => ∃ (x c : V) (t : Value) (ans : Value → Option Bool) (b : Bool), xs = [x, c] ∧ Ask K H c ans ∧ TyM K H x t ∧ ans t = some b ∧ Q (.bl b) H
theorem call_isM {X : Cx} : CallR X (.builtin "isinstance") (rIsM X.K) := by
  intro pins s σ H xs us Q I r h
  obtain ⟨x, c, t, ans, b, rfl, k, ty, e, q⟩ := h
  obtain ⟨u1, u2, rfl, r1, r2⟩ := vals2 r
  obtain ⟨P, Z, p, hx⟩ := kit_ofM I r1 ty
  cases k with
  | one k =>
    have e2 := k.eq r2
    subst e2
    exact PySem.W.kia_one Z I.kIn p e hx fun tk => ⟨.bl b, H, I.tok tk, rfl, q⟩
  | @any tp cs us hT k =>
    cases (show u2 = Value.ref tp from r2)
    obtain ⟨_, its, rv, o, h1, h2, n, h3⟩ := (show ObjOk X.prog X.w H s.heap tp (.tup cs) from I.hok tp _ hT)
    have e3 := ClsV.all k rv
    subst e3
    obtain ⟨oc, od, dt, sl⟩ := o
    simp only at h2 h3
    subst h2 h3
    exact PySem.W.kia_tup Z I.kIn p h1 e hx fun tk => ⟨.bl b, H, I.tok tk, rfl, q⟩
/-- a value's type, told -/
inductive Ty where
  | b (n : String) | x (c : Str)
def D.ty : D → Option Ty
  | .non => some (.b "NoneType")
  | .bl _ => some (.b "bool")
  | .int _ => some (.b "int")
  | .str _ => some (.b "str")
  | .tup _ => some (.b "tuple")
  | .lst _ => some (.b "list")
  | .dct _ _ _ => some (.b "dict")
  | .exc c _ _ => some (.x c)
  | _ => none
def D.tyS (s : Sta) (d : D) : Option Ty := match d.ty with
  | some t => some t
  | none => (d.seqL s).map fun _ => .b "list"
/-- the answers kt are right -/
structure KtOk (K : PySem.W.Frag) (mg : Str → Option Value) (ans : Value → Option Bool) (kt : Ty → Option Bool) : Prop where
  b : ∀ n b, kt (.b n) = some b → ans (.type n) = some b
  x : ∀ c b A, kt (.x c) = some b → mg c = some (.ref A) → ans (.ref A) = some b ∧ ExcC K A
theorem ty_at {C : RC} {F : Addr → Prop} {μ : List Addr} {s : Sta} {σ : L2.St} {H : Hp} {ans : Value → Option Bool} {kt : Ty → Option Bool} {v : V} {d : D} {t : Ty} {b : Bool} (hk : KtOk C.K C.mg ans kt) (r : Rep C F μ s σ H) (h : AtX C F μ s σ H v d) (e : d.tyS s = some t) (eb : kt t = some b) : ∃ tv, TyM C.K H v tv ∧ ans tv = some b := by
  have lst : ∀ l, d.seqL s = some l → t = .b "list" → ∃ tv, TyM C.K H v tv ∧ ans tv = some b := fun l e1 e2 => by
    subst e2
    obtain ⟨a, vs, rfl, q, _⟩ := r.seqL h e1
    exact ⟨_, .base (.base (.lst q)), hk.b _ _ eb⟩
  have own : d.ty = none → ∃ tv, TyM C.K H v tv ∧ ans tv = some b := fun n => by
    unfold D.tyS at e
    rw [n] at e
    obtain ⟨l, e1, e2⟩ := Option.map_eq_some_iff.mp e
    exact lst l e1 e2.symm
  cases d with
  | ref g => exact own rfl
  | own i => exact own rfl
  | scr l => exact own rfl
  | non => cases e; cases At.non_inv h; exact ⟨_, .base (.base .non), hk.b _ _ eb⟩
  | bl k => cases e; cases At.bl_inv h; exact ⟨_, .base (.base (.bl k)), hk.b _ _ eb⟩
  | int k => cases e; cases at_int (T := F) h; exact ⟨_, .base (.base (.int k)), hk.b _ _ eb⟩
  | str k => cases e; cases at_str h; exact ⟨_, .base (.base (.str k)), hk.b _ _ eb⟩
  | tup l =>
    cases e
    obtain ⟨a, vs, rfl, f | ⟨_, o, its, n, lk, oc, _⟩, c⟩ := At.tup_inv h
    · exact ⟨_, .base (.base (.tup f.2)), hk.b _ _ eb⟩
    · exact ⟨_, .base (.kTuple lk oc), hk.b _ _ eb⟩
  | lst l =>
    cases e
    obtain ⟨a, vs, rfl, f, c⟩ := At.lst_inv h
    exact ⟨_, .base (.base (.lst f.2)), hk.b _ _ eb⟩
  | dct t ks l =>
    cases e
    obtain ⟨a, vs, rfl, _, f, c⟩ := At.dct_inv h
    rcases f with ⟨_, kvs, f, _⟩ | ⟨_, kvs, f, _⟩
    · exact ⟨_, .base (.base (.dK f)), hk.b _ _ eb⟩
    · exact ⟨_, .base (.base (.dT f)), hk.b _ _ eb⟩
  | exc c n d =>
    cases e
    have h' : At C (Tab F μ s σ) μ H v (.exc c n d) := h
    cases h' with
    | exc0 g f => exact ⟨_, .ex0 f.2 (hk.x _ _ _ eb g).2, (hk.x _ _ _ eb g).1⟩
    | exc1 g f fd _ _ _ => exact ⟨_, .ex1 f.2 fd.2 (hk.x _ _ _ eb g).2, (hk.x _ _ _ eb g).1⟩
def M.isI (kt : Ty → Option Bool) (m : M D) : M D := do
  let d ← m
  M.look fun s => ((d.tyS s).bind kt).map .bl
section
variable {X : Cx} {W : WX} {a e c : Expr} {p pos : Pos} {m : M D} {cv : V} {kt : Ty → Option Bool} {k : Nat} {cs : List V} {us : List Value} {es : List Expr}
theorem isM_use {C : RC} {F : Addr → Prop} {μ : List Addr} {s : Sta} {σ : L2.St} {H H' : Hp} {v : V} {d : D} {ans : Value → Option Bool} {Q : VK} (hk : KtOk C.K C.mg ans kt) (r : Rep C F μ s σ H) (h : AtX C F μ s σ H v d) (x : Ext C F μ s σ H μ s σ H') (ha : Ask C.K H' cv ans)
    (q : Res C W F μ s σ H (M.look fun s => ((d.tyS s).bind kt).map .bl) fun z μ' s' H' => ∀ v, AtX C F μ' s' σ H' v z → Q v H') : rIsM C.K [v, cv] H' Q := by
  obtain ⟨z, ez, k⟩ := res_look q
  obtain ⟨b, eb, rfl⟩ := Option.map_eq_some_iff.mp ez
  obtain ⟨t, et, ek⟩ := Option.bind_eq_some_iff.mp eb
  obtain ⟨tv, ty, an⟩ := ty_at hk x.rep (x.atX h) et ek
  exact ⟨v, cv, tv, ans, b, rfl, ha, ty, an, k _ x _ (.of (.bl _))⟩
theorem d_isI {u : Value} (hg : Gl X "isinstance") (hm : X.mg "isinstance" = none) (ha : PE X a (tD (XC X) W m)) (hc : PE X c (tC cv)) (hu : ClsV cv u) (hk : KtOk X.K X.mg (fun t => PySem.W.kitOne X.K t u) kt)
    (hs : starEach [a, c] X.env = (false, eval a X.env) :: starEach [c] X.env := by rfl) (hs2 : starEach [c] X.env = (false, eval c X.env) :: starEach [] X.env := by rfl) (hpl : (backTo pos (starEach [c] X.env)).any (·.1) = false := by rfl) :
    PE X (.Call (.Name "isinstance" p) [a, c] [] pos) (tD (XC X) W (M.isI kt m)) := by
  refine peImp (pe_callB call_isM hg hm PyProof.Rows.Boot.«isinstance» (pa_cons ha (pa_cons hc pa_nil hs2) hs) (by decide) (by decide) hs hpl) fun σ H Q ⟨F, μ, s, r, q⟩ => ?_
  refine ⟨F, μ, s, r, q.split.imp fun d μ1 s1 H1 x1 h1 v hv => ?_⟩
  exact isM_use (C := XC X) hk x1.rep hv (.refl x1.rep) (.one hu) h1
/-- classes, one behind another -/
inductive PCls (X : Cx) : List Expr → List V → List Value → Prop
  | nil : PCls X [] [] []
  | cons {e : Expr} {es : List Expr} {v : V} {u : Value} {vs : List V} {us : List Value} (h : PE X e (tC v)) (c : ClsV v u) (hs : starEach (e :: es) X.env = (false, eval e X.env) :: starEach es X.env) (t : PCls X es vs us) : PCls X (e :: es) (v :: vs) (u :: us)
theorem PCls.pa : ∀ {es : List Expr} {vs : List V} {us : List Value}, PCls X es vs us → PA X es (fun _ H Q => Q vs H)
  | _, _, _, .nil => pa_nil
  | _, _, _, .cons h _ hs t => paImp (pa_cons h t.pa hs) fun _ _ _ q => q
theorem PCls.paired : ∀ {es : List Expr} {vs : List V} {us : List Value}, PCls X es vs us → Paired ClsV vs us
  | _, _, _, .nil => .nil
  | _, _, _, .cons _ c _ t => .cons c t.paired
theorem d_isIT {tpos : Pos} (hg : Gl X "isinstance") (hm : X.mg "isinstance" = none) (ha : PE X a (tD (XC X) W m)) (hc : PCls X es cs us) (hl : cs.length ≤ 1000) (hk : KtOk X.K X.mg (fun t => PySem.W.kitAny X.K t us) kt)
    (hs : starEach [a, .Tuple es k tpos] X.env = (false, eval a X.env) :: starEach [.Tuple es k tpos] X.env := by rfl) (hs2 : starEach [.Tuple es k tpos] X.env = (false, eval (.Tuple es k tpos) X.env) :: starEach [] X.env := by rfl) (hpl : (backTo pos (starEach [.Tuple es k tpos] X.env)).any (·.1) = false := by rfl) :
    PE X (.Call (.Name "isinstance" p) [a, .Tuple es k tpos] [] pos) (tD (XC X) W (M.isI kt m)) := by
  refine peImp (pe_callB call_isM hg hm PyProof.Rows.Boot.«isinstance» (pa_cons ha (pa_cons (pe_tup hc.pa) pa_nil hs2) hs) (by decide) (by decide) hs hpl) fun σ H Q ⟨F, μ, s, r, q⟩ => ?_
  refine ⟨F, μ, s, r, q.split.imp fun d μ1 s1 H1 x1 h1 v hv => ⟨by rw [sizeLine_eq]; omega, fun tp hp => ?_⟩⟩
  exact isM_use (C := XC X) hk x1.rep hv (x1.rep.ext1 hp) (.any upd_same hc.paired) h1
/-! ### an exception's field -/
structure XfOk (K : PySem.W.Frag) (mg : Str → Option Value) (f : Str) (cs : List Str) : Prop where
  ok : ∀ c ∈ cs, ∀ A, mg c = some (.ref A) → XfC K A ∧ PySem.W.findIn K (.ref A) f = some none
def fldD (f : Str) (cs : List Str) : D → Option D
  | .exc c n d => if n = f ∧ n ≠ Str.empty ∧ c ∈ cs then some d else none
  | _ => none
def M.xf (f : Str) (cs : List Str) (m : M D) : M D := do M.opt (fldD f cs (← m))
theorem d_xf {f : Str} {cs : List Str} (T : XfOk X.K X.mg f cs) (he : PE X e (tD (XC X) W m)) (hb : attributeBase e f X.env (eval e X.env) = eval e X.env := by rfl) : PE X (.Attribute e f pos) (tD (XC X) W (M.xf f cs m)) := by
  refine ⟨fun pins s σ H Q I h => ?_⟩
  obtain ⟨F, μ, st, r, q⟩ := h
  refine attr_of hb (thn (he.run pins s σ H (fun x H1 => ∃ a A dx fs v, x = V.ref a ∧ XfC X.K A ∧ PySem.W.findIn X.K (.ref A) f = some none ∧ H1 a = some (exo a A (some dx)) ∧ H1 dx = some (exd dx fs) ∧ fs.lookup f = some v ∧ Q v H1) I ⟨F, μ, st, r, q.split.imp fun d μ1 s1 H1 x1 h1 v hv => ?_⟩) fun u s1 hh => ?_)
  · obtain ⟨z, ez, k⟩ := res_opt x1.rep h1
    unfold fldD at ez
    split at ez
    · split at ez
      · rename_i c n d hc
        cases ez
        obtain ⟨rfl, hn, hc⟩ := hc
        have hv' : At (XC X) (Tab F μ1 s1 σ) μ1 H1 v (.exc c n z) := hv
        cases hv' with
        | exc0 => exact absurd rfl hn
        | exc1 g f fd _ hl hw =>
          obtain ⟨t1, t2⟩ := T.ok c hc _ g
          exact ⟨_, _, _, _, _, rfl, t1, t2, f.2, fd.2, hl, k _ (.of hw)⟩
      · cases ez
    · cases ez
  · obtain ⟨x, H1, I1, rx, a, A, dx, fs, v, ex, t1, hno, ea, ed, l, qq⟩ := hh
    subst ex
    obtain rfl : u = Value.ref a := rx
    obtain ⟨t0, e0⟩ := exo_at I1.hok ea
    obtain ⟨mA, hns, hr⟩ := exd_at I1.hok ed
    obtain ⟨od, ho, hl⟩ := lookIn_ns hns
    obtain ⟨u, hu, ru⟩ := RelO.some_of (v := v) (o := mA f) (by rw [← l]; exact hr f)
    have J : PySem.W.InstAt s1.heap a _ A (some od) := ⟨e0, rfl, rfl, ho⟩
    exact HandSPX.exc_get I1.kIn J t1.ga t1.gg t1.exC (PySem.W.findObj_own t1.hdC hno rfl (by rw [hl, hu])) (handed_of ru) ⟨v, H1, I1.tok _, ru, qq⟩
end
end Ms
/-! Ms15: shared lists, changes in place, built-in functions. -/
namespace Ms
open PySem PySem.Spec PyProof.Rows L2
def M.newL (m : M (List D)) : M D := do
  let ds ← m
  fun s => .ok (.ref s.G.length) { s with G := s.G ++ [.lst ds] }
/-- a change in place -/
def mutD (s : Sta) (o : D) (f : MO → Option MO) : Option Sta := match o with
  | .own i => match s.ρ[i]? with
    | some (.own mo) => (f mo).map fun mo' => { s with ρ := s.ρ.set i (.own mo') }
    | _ => none
  | .ref g => match s.G[g]? with
    | some mo => (f mo).map fun mo' => { s with G := s.G.set g mo' }
    | _ => none
  | _ => none
def M.mut (o : D) (f : MO → Option MO) : M D := fun s => match mutD s o f with
  | some s' => .ok .non s'
  | none => .stuck
section
variable {C : RC} {W : WX} {F : Addr → Prop} {μ : List Addr} {s s' : Sta} {σ : L2.St} {H : Hp}
theorem Rep.mut (r : Rep C F μ s σ H) {x : V} {o : D} {f : MO → Option MO} (hx : AtX C F μ s σ H x o) (e : mutD s o f = some s') : ∃ (a : Addr) (mo mo' : MO), x = .ref a ∧ RepO C (Tab F μ s σ) μ H a mo ∧ f mo = some mo' ∧
    ∀ u, (Keep (Tab F μ s σ) (Tab F μ s σ) H (upd H a u) → RepO C (Tab F μ s σ) μ (upd H a u) a mo') → Ext C F μ s σ H μ s' σ (upd H a u) := by
  unfold mutD at e
  split at e
  · rename_i i
    split at e
    · rename_i mo e1
      obtain ⟨mo', e2, rfl⟩ := Option.map_eq_some_iff.mp e
      obtain ⟨a, ea, q⟩ := r.slots i _ e1
      have hx' : σ[i]? = some (some x) := hx
      rw [hx'] at ea
      cases ea
      exact ⟨a, mo, mo', rfl, q, e2, fun u h => r.mutOwn e1 hx' h⟩
    · cases e
  · rename_i g
    split at e
    · rename_i mo e1
      obtain ⟨mo', e2, rfl⟩ := Option.map_eq_some_iff.mp e
      obtain ⟨a, rfl, ea⟩ := At.ref_inv hx
      obtain ⟨b, eb, q⟩ := r.objs g _ e1
      rw [ea] at eb
      cases eb
      exact ⟨a, mo, mo', rfl, q, e2, fun u h => r.mutG e1 ea h⟩
    · cases e
  · cases e
theorem res_mut {o : D} {f : MO → Option MO} {K : D → List Addr → Sta → Hp → Prop} (h : Res C W F μ s σ H (M.mut o f) K) : ∃ s', mutD s o f = some s' ∧ ∀ μ' H', Ext C F μ s σ H μ' s' σ H' → K .non μ' s' H' := by
  unfold Res M.mut at h
  cases e : mutD s o f with
  | none => simp only [e] at h
  | some s' =>
    simp only [e] at h
    exact ⟨s', rfl, h⟩
end
def appF (v : D) : MO → Option MO
  | .lst l => if lenOk (l.length + 1) then some (.lst (l ++ [v])) else none
  | _ => none
def putF (i v : D) : MO → Option MO
  | .lst l => match i with
    | .int k => (ixN l.length k).map fun j => .lst (l.set j v)
    | _ => none
  | _ => none
section
variable {X : Cx} {W : WX} {a e b c o i : Expr} {es : List Expr} {p pos pos' apos : Pos} {m mo mi mv : M D} {ml : M (List D)} {ms : List (M D)}
theorem d_newL (h : PE X a (tDF (XC X) W ml)) : PE X a (tD (XC X) W (M.newL ml)) :=
  peImp h fun σ H Q ⟨F, μ, s, r, q⟩ => ⟨F, μ, s, r, q.split.imp fun ds μ1 s1 H1 x1 h1 p vs hp hv => by
    have x2 := x1.rep.newG (o := .lst ds) (H' := upd H1 p (.lst vs)) hp (fun b u e => by rw [upd_ne (ne_of_none e hp)]; exact e) fun T k => ⟨vs, upd_same, hv.keep k ⟨[p], rfl⟩⟩
    refine h1 (μ1 ++ [p]) _ x2 (.ref p) (.of (.ref ?_))
    rw [← x1.rep.lenG, List.getElem?_append_right (Nat.le_refl _)]
    simp⟩
theorem AtL.setAt {C : RC} {T : Addr → Prop} {μ : List Addr} {H : Hp} {v : V} {d : D} (h : At C T μ H v d) : ∀ {vs : List V} {ds : List D} (j : Nat), AtL C T μ H vs ds → AtL C T μ H (vs.set j v) (ds.set j d)
  | _, _, _, .nil => .nil
  | _, _, 0, .cons _ t => .cons h t
  | _, _, j + 1, .cons x t => .cons x (AtL.setAt h j t)
def M.setIx (mo mi mv : M D) : M Fl := do
  let v ← mv
  let v ← M.out v
  let o ← mo
  let i ← mi
  let i ← M.out i
  let _ ← M.mut o (putF i v)
  pure .nx
theorem ds_setIx (hv : PE X e (tD (XC X) W mv)) (ho : PE X o (tD (XC X) W mo)) (hi : PE X i (tD (XC X) W mi)) (hs : swapsWithSole [.Subscript o i pos'] e pos.line X.env = pure false := by rfl) (hw : swappedStores [.Subscript o i pos'] e X.env = pure none := by rfl)
    (h1 : (assignEach [.Subscript o i pos'] X.env).map (·.2) = [assign (.Subscript o i pos') X.env] := by rfl)
    (ha : ∀ v, assign (.Subscript o i pos') X.env v = (do
      let ov ← holding [v] (eval o X.env)
      let iv ← holding [v, ov] (eval i X.env)
      standAt pos'
      holding [v, ov, iv] (setItem ov iv v)
      release [v, ov, iv] []) := by intro _; rfl) : PS X (.Assign [.Subscript o i pos'] e pos) (tDS (XC X) W (M.setIx mo mi mv)) := by
  refine psImp (ps_asg hv (pg_sub ho hi set_list ha) hs hw h1) fun E σ H ⟨F, μ, s, r, q⟩ => ?_
  refine ⟨F, μ, s, r, q.splitE.imp fun d μ1 s1 H1 x1 h1 v hv => ?_⟩
  have h1 := h1.splitE
  cases ow : d.isOwn with
  | true =>
    have e1 : M.out d = M.stuck := by unfold M.out; rw [ow]; rfl
    rw [e1] at h1
    exact (res_stuck h1).elim
  | false =>
    have e1 : M.out d = pure d := by unfold M.out; rw [ow]; rfl
    rw [e1] at h1
    have h1 := h1.pure x1.rep
    refine ⟨F, μ1, s1, x1.rep, h1.splitE.imp fun o μ2 s2 H2 x2 h2 ov hov => ⟨F, μ2, s2, x2.rep, h2.splitE.imp fun i μ3 s3 H3 x3 h3 iv hiv => ?_⟩⟩
    have h3 := h3.splitE
    cases ow2 : i.isOwn with
    | true =>
      have e2 : M.out i = M.stuck := by unfold M.out; rw [ow2]; rfl
      rw [e2] at h3
      exact (res_stuck h3).elim
    | false =>
      have e2 : M.out i = pure i := by unfold M.out; rw [ow2]; rfl
      rw [e2] at h3
      have h3 := (h3.pure x3.rep).splitE
      obtain ⟨s4, em, k⟩ := res_mut h3
      obtain ⟨a, mo1, mo2, rfl, q1, ef, x4⟩ := x3.rep.mut (x3.atX hov) em
      unfold putF at ef
      split at ef
      · rename_i l
        split at ef
        · rename_i kk _ _
          obtain ⟨j, ej, rfl⟩ := Option.map_eq_some_iff.mp ef
          cases at_int (T := F) hiv
          obtain ⟨vs, ea, cl⟩ := q1
          have y := x4 (.lst (vs.set j v)) fun kp => ⟨_, upd_same, (cl.keep kp (List.prefix_refl _)).setAt (((x3.at (x2.at (hv.at ow))).keep kp (List.prefix_refl _))) j⟩
          refine ⟨a, vs, kk, j, rfl, rfl, ea, by rw [cl.length]; exact ej, ?_⟩
          have z := k μ3 _ y
          exact (show ResS (XC X) W F μ3 s4 σ _ (pure .nx) _ from z).pure y.rep
        · cases ef
      · cases ef
def M.isL (o : D) : M D := M.look fun s => (o.seqL s).map fun _ => o
def M.append (mo mv : M D) : M D := do
  let o ← mo
  let o ← M.isL o
  let v ← mv
  let v ← M.out v
  M.mut o (appF v)
theorem d_append (ho : PE X o (tD (XC X) W mo)) (hv : PE X e (tD (XC X) W mv)) (hbase : attributeBase o "append" X.env (eval o X.env) = eval o X.env := by rfl)
    (hfew : ((backTo pos (starEach (e :: []) X.env)).all (fun x => !x.1) && (backToKw pos (keywordEach [] X.env)).all (fun x => x.1.isSome)
      && decide ((e :: []).length + ([] : List Keyword).length + (if ([] : List Keyword).isEmpty then 0 else 1) < 30)) = true := by rfl)
    (hline : (apos.endLine == pos.line) = true := by rfl) (hs : starEach (e :: []) X.env = (false, eval e X.env) :: starEach [] X.env := by rfl) (hplain : (backTo pos (starEach [] X.env)).any (·.1) = false := by rfl) :
    PE X (.Call (.Attribute o "append" apos) [e] [] pos) (tD (XC X) W (M.append mo mv)) := by
  refine peImp (pe_bm PySem.F.plainAttrs_list PySem.F.slot_list_append PySem.F.type_list_append mt_append ho (pa_cons hv pa_nil hs) hbase hfew hline hs hplain) fun σ H Q ⟨F, μ, s, r, q⟩ => ?_
  refine ⟨F, μ, s, r, q.split.imp fun o μ1 s1 H1 x1 h1 ov hov => ?_⟩
  obtain ⟨z, ez, k⟩ := res_look h1.split
  obtain ⟨l, el, rfl⟩ := Option.map_eq_some_iff.mp ez
  have h2 := k H1 (.refl x1.rep)
  obtain ⟨p, ws, rfl, hp, _⟩ := x1.rep.seqL hov el
  refine ⟨.inl ⟨rfl, _, .of hp⟩, F, μ1, s1, x1.rep, h2.split.imp fun v μ2 s2 H2 x2 h2 vv hvv => ?_⟩
  obtain ⟨nv, h2⟩ := res_out x2.rep h2
  obtain ⟨s3, em, k3⟩ := res_mut h2
  obtain ⟨a, mo1, mo2, ea, q1, ef, x4⟩ := x2.rep.mut (x2.atX hov) em
  cases ea
  unfold appF at ef
  split at ef
  · split at ef
    · rename_i hl
      cases ef
      obtain ⟨vs, e1, cl⟩ := q1
      have y := x4 (.lst (vs ++ [vv])) fun kp => ⟨_, upd_same, (cl.keep kp (List.prefix_refl _)).append (.cons ((hvv.at nv).keep kp (List.prefix_refl _)) .nil)⟩
      have hz := lenOk_line hl
      exact ⟨p, vs, vv, rfl, rfl, e1, by rw [cl.length]; omega, k3 _ _ y _ (.of .non)⟩
    · cases ef
  · cases ef
end
end Ms
/-! Ms16: built-in functions of one, two values; join; constants. -/
namespace Ms
open PySem PySem.Spec PyProof.Rows L2
def OpD1 (C : RC) (r : List V → Hp → VK → Prop) (f : D → M D) : Prop := ∀ {W : WX} {F : Addr → Prop} {μ : List Addr} {s : Sta} {σ : L2.St} {H : Hp} {x : V} {d : D} {Q : VK}, Rep C F μ s σ H → AtX C F μ s σ H x d →
  Res C W F μ s σ H (f d) (fun z μ' s' H' => ∀ v, AtX C F μ' s' σ H' v z → Q v H') → r [x] H Q
def OpD2 (C : RC) (r : List V → Hp → VK → Prop) (f : D → D → M D) : Prop := ∀ {W : WX} {F : Addr → Prop} {μ : List Addr} {s : Sta} {σ : L2.St} {H : Hp} {x y : V} {d e : D} {Q : VK}, Rep C F μ s σ H → AtX C F μ s σ H x d → AtX C F μ s σ H y e →
  Res C W F μ s σ H (f d e) (fun z μ' s' H' => ∀ v, AtX C F μ' s' σ H' v z → Q v H') → r [x, y] H Q
def M.op1 (f : D → M D) (m : M D) : M D := do f (← m)
section
variable {X : Cx} {W : WX} {x : Str} {e a b : Expr} {p pos apos : Pos} {m ma mb : M D} {id T : String} {r : List V → Hp → VK → Prop}
theorem d_blt1 {f : D → M D} (hr : OpD1 (XC X) r f) (hc : CallR X (.builtin id) r) (hg : Gl X x) (hm : X.mg x = none) (hv : bootBuiltins x = some (.builtin id)) (he : PE X e (tD (XC X) W m)) (hn : x ≠ "__name__" := by decide) (hdb : (x == ("__debug__" : Str)) = false := by decide)
    (hs : starEach [e] X.env = (false, eval e X.env) :: starEach [] X.env := by rfl) (hpl : (backTo pos (starEach [] X.env)).any (·.1) = false := by rfl) : PE X (.Call (.Name x p) [e] [] pos) (tD (XC X) W (M.op1 f m)) :=
  peImp (pe_callB hc hg hm hv (pa_cons he pa_nil hs) hn hdb hs hpl) fun σ H Q ⟨F, μ, s, rp, q⟩ => ⟨F, μ, s, rp, q.split.imp fun d μ1 s1 H1 x1 h1 v hv => hr x1.rep hv h1⟩
theorem d_bltT1 {f : D → M D} (hr : OpD1 (XC X) r f) (hc : CallR X (.type T) r) (hg : Gl X x) (hm : X.mg x = none) (hv : bootBuiltins x = some (.type T)) (he : PE X e (tD (XC X) W m)) (hn : x ≠ "__name__" := by decide) (hdb : (x == ("__debug__" : Str)) = false := by decide)
    (hs : starEach [e] X.env = (false, eval e X.env) :: starEach [] X.env := by rfl) (hpl : (backTo pos (starEach [] X.env)).any (·.1) = false := by rfl) : PE X (.Call (.Name x p) [e] [] pos) (tD (XC X) W (M.op1 f m)) :=
  peImp (pe_callTy hc hg hm hv (pa_cons he pa_nil hs) hn hdb hs hpl) fun σ H Q ⟨F, μ, s, rp, q⟩ => ⟨F, μ, s, rp, q.split.imp fun d μ1 s1 H1 x1 h1 v hv => hr x1.rep hv h1⟩
theorem d_blt2 {f : D → D → M D} (hr : OpD2 (XC X) r f) (hc : CallR X (.builtin id) r) (hg : Gl X x) (hm : X.mg x = none) (hv : bootBuiltins x = some (.builtin id)) (ha : PE X a (tD (XC X) W ma)) (hb : PE X b (tD (XC X) W mb)) (hn : x ≠ "__name__" := by decide) (hdb : (x == ("__debug__" : Str)) = false := by decide)
    (hs : starEach [a, b] X.env = (false, eval a X.env) :: starEach [b] X.env := by rfl) (hs2 : starEach [b] X.env = (false, eval b X.env) :: starEach [] X.env := by rfl) (hpl : (backTo pos (starEach [b] X.env)).any (·.1) = false := by rfl) : PE X (.Call (.Name x p) [a, b] [] pos) (tD (XC X) W (M.op2 f ma mb)) :=
  peImp (pe_callB hc hg hm hv (pa_cons ha (pa_cons hb pa_nil hs2) hs) hn hdb hs hpl) fun σ H Q ⟨F, μ, s, rp, q⟩ => ⟨F, μ, s, rp, q.split.imp fun d μ1 s1 H1 x1 h1 v hv => ⟨F, μ1, s1, x1.rep, h1.split.imp fun e μ2 s2 H2 x2 h2 w hw => hr x2.rep (x2.atX hv) hw h2⟩⟩
end
section
variable {C : RC} {W : WX} {F : Addr → Prop} {μ : List Addr} {s : Sta} {σ : L2.St} {H : Hp}
/-! ### len, abs, int, min, max -/
def lenD (s : Sta) : D → Option Nat
  | .tup l => some l.length
  | .str x => if lenOk x.length then some x.length else none
  | .scr l => some l.length
  | d => (d.seqL s).map (·.length)
abbrev fLen : D → M D := fun d => M.look fun s => (lenD s d).map fun n => .int (n : Nat)
theorem len_ok : OpD1 C (fun xs H Q => ∃ x n, xs = [x] ∧ LenV C.K x H n ∧ Q (.int (n : Nat)) H) fLen := by
  intro W F μ s σ H x d Q r hx h
  obtain ⟨z, ez, k⟩ := res_look h
  obtain ⟨n, en, rfl⟩ := Option.map_eq_some_iff.mp ez
  refine ⟨x, n, rfl, ?_, k H (.refl r) _ (.of (.int _))⟩
  unfold lenD at en
  split at en
  · cases en
    obtain ⟨a, vs, rfl, hp, c⟩ := At.tup_inv hx
    exact .inr ⟨vs, SqTA.sq hp, c.length.symm⟩
  · split at en
    · rename_i l
      cases en
      cases at_str hx
      exact ⟨lenOk_line l, rfl⟩
    · cases en
  · cases en
    obtain ⟨a, rfl, hq⟩ := At.scr_inv hx
    exact .inl ⟨_, hq, by simp⟩
  · obtain ⟨l, e1, rfl⟩ := Option.map_eq_some_iff.mp en
    obtain ⟨a, vs, rfl, hp, c⟩ := r.seqL hx e1
    exact .inl ⟨vs, .of hp, c.length.symm⟩
/-- a scalar's function -/
def sc1 (g : D → Option D) : D → M D := fun d => M.look fun _ => g d
def gAbs : D → Option D
  | .int i => some (.int (if i < 0 then -i else i))
  | _ => none
theorem abs_ok : OpD1 C (fun xs H Q => ∃ i, xs = [.int i] ∧ Q (.int (if i < 0 then -i else i)) H) (sc1 gAbs) := by
  intro W F μ s σ H x d Q r hx h
  obtain ⟨z, ez, k⟩ := res_look h
  unfold gAbs at ez
  split at ez
  · cases ez
    cases at_int (T := F) hx
    exact ⟨_, rfl, k H (.refl r) _ (.of (.int _))⟩
  · cases ez
def gInt : D → Option D
  | .int i => some (.int i)
  | .bl k => some (.int (if k then 1 else 0))
  | _ => none
theorem int_ok1 : OpD1 C (fun xs H Q => (∃ i, xs = [.int i] ∧ Q (.int i) H) ∨ ∃ k, xs = [.bl k] ∧ Q (.int (if k then 1 else 0)) H) (sc1 gInt) := by
  intro W F μ s σ H x d Q r hx h
  obtain ⟨z, ez, k⟩ := res_look h
  unfold gInt at ez
  split at ez
  · cases ez
    cases at_int (T := F) hx
    exact .inl ⟨_, rfl, k H (.refl r) _ (.of (.int _))⟩
  · cases ez
    cases At.bl_inv hx
    exact .inr ⟨_, rfl, k H (.refl r) _ (.of (.int _))⟩
  · cases ez
def gStr : D → Option D
  | .int i => if i.natAbs.log2 < 1920 then some (.str (toString i)) else none
  | .str z => some (.str z)
  | _ => none
theorem str_ok1 : OpD1 C (fun xs H Q => (∃ i, xs = [.int i] ∧ i.natAbs.log2 < 1920 ∧ Q (.str (toString i)) H) ∨ ∃ a, xs = [.str a] ∧ Q (.str a) H) (sc1 gStr) := by
  intro W F μ s σ H x d Q r hx h
  obtain ⟨z, ez, k⟩ := res_look h
  unfold gStr at ez
  split at ez
  · split at ez
    · cases ez
      cases at_int (T := F) hx
      exact .inl ⟨_, rfl, by assumption, k H (.refl r) _ (.of (.str _))⟩
    · cases ez
  · cases ez
    cases at_str hx
    exact .inr ⟨_, rfl, k H (.refl r) _ (.of (.str _))⟩
  · cases ez
def gOrd : D → Option D
  | .str z => if z.length = 1 then some (.int (z.cps.getD 0 0 : Nat)) else none
  | _ => none
theorem ord_ok1 : OpD1 C (fun xs H Q => ∃ x : Str, xs = [.str x] ∧ x.length = 1 ∧ Q (.int (x.cps.getD 0 0 : Nat)) H) (sc1 gOrd) := by
  intro W F μ s σ H x d Q r hx h
  obtain ⟨z, ez, k⟩ := res_look h
  unfold gOrd at ez
  split at ez
  · split at ez
    · cases ez
      cases at_str hx
      exact ⟨_, rfl, by assumption, k H (.refl r) _ (.of (.int _))⟩
    · cases ez
  · cases ez
def gMin (i j : Int) : Option D := some (.int (if j < i then j else i))
def gMax (i j : Int) : Option D := some (.int (if j > i then j else i))
theorem min_ok : OpD2 C (fun xs H Q => ∃ i j, xs = [.int i, .int j] ∧ Q (.int (if j < i then j else i)) H) (fInt gMin) := by
  intro W F μ s σ H x y d e Q r hx hy h
  obtain ⟨z, ez, k⟩ := res_look h
  obtain ⟨i, j, rfl, rfl, eg⟩ := intD_inv ez
  cases eg
  cases at_int (T := F) hx
  cases at_int (T := F) hy
  exact ⟨i, j, rfl, k H (.refl r) _ (.of (.int _))⟩
theorem max_ok : OpD2 C (fun xs H Q => ∃ i j, xs = [.int i, .int j] ∧ Q (.int (if j > i then j else i)) H) (fInt gMax) := by
  intro W F μ s σ H x y d e Q r hx hy h
  obtain ⟨z, ez, k⟩ := res_look h
  obtain ⟨i, j, rfl, rfl, eg⟩ := intD_inv ez
  cases eg
  cases at_int (T := F) hx
  cases at_int (T := F) hy
  exact ⟨i, j, rfl, k H (.refl r) _ (.of (.int _))⟩
/-! ### lists of one kind -/
def asInts : List D → Option (List Int)
  | [] => some []
  | .int i :: l => (asInts l).map (i :: ·)
  | _ :: _ => none
def asBls : List D → Option (List Bool)
  | [] => some []
  | .bl i :: l => (asBls l).map (i :: ·)
  | _ :: _ => none
def asStrs : List D → Option (List Str)
  | [] => some []
  | .str i :: l => (asStrs l).map (i :: ·)
  | _ :: _ => none
theorem asInts_at {T : Addr → Prop} : ∀ {ds : List D} {vs : List V} {l : List Int}, AtL C T μ H vs ds → asInts ds = some l → vs = l.map V.int
  | [], _, _, .nil, e => by cases e; rfl
  | .int i :: ds, _, _, .cons h t, e => by
    obtain ⟨l, e1, rfl⟩ := Option.map_eq_some_iff.mp e
    rw [h.int_inv, asInts_at t e1]
    rfl
  | .non :: _, _, _, _, e | .bl _ :: _, _, _, _, e | .str _ :: _, _, _, _, e | .tup _ :: _, _, _, _, e | .lst _ :: _, _, _, _, e | .dct _ _ _ :: _, _, _, _, e | .exc _ _ _ :: _, _, _, _, e | .ref _ :: _, _, _, _, e | .own _ :: _, _, _, _, e | .scr _ :: _, _, _, _, e => by cases e
theorem asBls_at {T : Addr → Prop} : ∀ {ds : List D} {vs : List V} {l : List Bool}, AtL C T μ H vs ds → asBls ds = some l → vs = l.map V.bl
  | [], _, _, .nil, e => by cases e; rfl
  | .bl i :: ds, _, _, .cons h t, e => by
    obtain ⟨l, e1, rfl⟩ := Option.map_eq_some_iff.mp e
    rw [h.bl_inv, asBls_at t e1]
    rfl
  | .non :: _, _, _, _, e | .int _ :: _, _, _, _, e | .str _ :: _, _, _, _, e | .tup _ :: _, _, _, _, e | .lst _ :: _, _, _, _, e | .dct _ _ _ :: _, _, _, _, e | .exc _ _ _ :: _, _, _, _, e | .ref _ :: _, _, _, _, e | .own _ :: _, _, _, _, e | .scr _ :: _, _, _, _, e => by cases e
theorem asStrs_at {T : Addr → Prop} : ∀ {ds : List D} {vs : List V} {l : List Str}, AtL C T μ H vs ds → asStrs ds = some l → vs = l.map V.str
  | [], _, _, .nil, e => by cases e; rfl
  | .str i :: ds, _, _, .cons h t, e => by
    obtain ⟨l, e1, rfl⟩ := Option.map_eq_some_iff.mp e
    rw [h.str_inv, asStrs_at t e1]
    rfl
  | .non :: _, _, _, _, e | .int _ :: _, _, _, _, e | .bl _ :: _, _, _, _, e | .tup _ :: _, _, _, _, e | .lst _ :: _, _, _, _, e | .dct _ _ _ :: _, _, _, _, e | .exc _ _ _ :: _, _, _, _, e | .ref _ :: _, _, _, _, e | .own _ :: _, _, _, _, e | .scr _ :: _, _, _, _, e => by cases e
abbrev fSum : D → M D := fun d => M.look fun s => ((d.seqL s).bind asInts).map fun l => .int l.sum
abbrev fAny : D → M D := fun d => M.look fun s => ((d.seqL s).bind asBls).map fun l => .bl (l.any id)
abbrev fAll : D → M D := fun d => M.look fun s => ((d.seqL s).bind asBls).map fun l => .bl (l.all id)
theorem sum_ok : OpD1 C (rSum C.K) fSum := by
  intro W F μ s σ H x d Q r hx h
  obtain ⟨z, ez, k⟩ := res_look h
  obtain ⟨l, e1, rfl⟩ := Option.map_eq_some_iff.mp ez
  obtain ⟨ds, e2, e3⟩ := Option.bind_eq_some_iff.mp e1
  obtain ⟨a, vs, rfl, hp, c⟩ := r.seqL hx e2
  exact ⟨a, l, rfl, .of (by rw [hp, asInts_at c e3]), k H (.refl r) _ (.of (.int _))⟩
theorem any_ok : OpD1 C (rAny C.K) fAny := by
  intro W F μ s σ H x d Q r hx h
  obtain ⟨z, ez, k⟩ := res_look h
  obtain ⟨l, e1, rfl⟩ := Option.map_eq_some_iff.mp ez
  obtain ⟨ds, e2, e3⟩ := Option.bind_eq_some_iff.mp e1
  obtain ⟨a, vs, rfl, hp, c⟩ := r.seqL hx e2
  exact ⟨a, l, rfl, .of (by rw [hp, asBls_at c e3]), k H (.refl r) _ (.of (.bl _))⟩
theorem all_ok : OpD1 C (rAll C.K) fAll := by
  intro W F μ s σ H x d Q r hx h
  obtain ⟨z, ez, k⟩ := res_look h
  obtain ⟨l, e1, rfl⟩ := Option.map_eq_some_iff.mp ez
  obtain ⟨ds, e2, e3⟩ := Option.bind_eq_some_iff.mp e1
  obtain ⟨a, vs, rfl, hp, c⟩ := r.seqL hx e2
  exact ⟨a, l, rfl, .of (by rw [hp, asBls_at c e3]), k H (.refl r) _ (.of (.bl _))⟩
/-! ### tuple(..), list(..) -/
abbrev fTuple : D → M D := fun d => M.look fun s => match d with
  | .tup l => some (.tup l)
  | d => (d.seqL s).map .tup
theorem tuple_ok : OpD1 C (fun xs H Q => ∃ p ys, xs = [.ref p] ∧ ((SqL C.K H p ys ∧ ∀ l, H l = none → Q (.ref l) (upd H l (.tup ys))) ∨ (SqT C.K H p ys ∧ Q (.ref p) H))) fTuple := by
  intro W F μ s σ H x d Q r hx h
  obtain ⟨z, ez, k⟩ := res_look h
  split at ez
  · cases ez
    obtain ⟨a, vs, rfl, hp, c⟩ := At.tup_inv hx
    exact ⟨a, vs, rfl, .inr ⟨SqTA.sq hp, k H (.refl r) _ (.of (.tupL hp c))⟩⟩
  · obtain ⟨l, e1, rfl⟩ := Option.map_eq_some_iff.mp ez
    obtain ⟨a, vs, rfl, hp, c⟩ := r.seqL hx e1
    exact ⟨a, vs, rfl, .inl ⟨.of hp, fun p hpn => k _ (r.ext1 hpn) _ (.of (r.newTup hpn c))⟩⟩
end
section
variable {X : Cx} {W : WX} {x : Str} {e o a b : Expr} {p pos apos : Pos} {m mo ma mb : M D} {id T : String} {r : List V → Hp → VK → Prop}
def M.isS (d : D) : M D := M.look fun _ => match d with
  | .str z => some (.str z)
  | _ => none
def joinD (s : Sta) (o l : D) : Option D := match o with
  | .str a => match (match l with | .tup l => some l | l => l.seqL s) with
    | some ds => (asStrs ds).bind fun ys => if (ys.map (·.length)).sum + ys.length * a.length ≤ 16777216 then some (.str (Txt.join a ys)) else none
    | none => none
  | _ => none
def M.join (mo m : M D) : M D := do
  let o ← mo
  let o ← M.isS o
  let l ← m
  M.look fun s => joinD s o l
theorem res_isS {C : RC} {F : Addr → Prop} {μ : List Addr} {s : Sta} {σ : L2.St} {H : Hp} {d : D} {v : V} {α : Type} {k : D → M α} {K : α → List Addr → Sta → Hp → Prop} (r : Rep C F μ s σ H) (hv : AtX C F μ s σ H v d) (h : Res C W F μ s σ H (M.isS d >>= k) K) : ∃ z, d = .str z ∧ v = .str z ∧ Res C W F μ s σ H (k (.str z)) K := by
  obtain ⟨z, ez, kk⟩ := res_look h.split
  split at ez
  · cases ez
    exact ⟨_, rfl, at_str hv, kk H (.refl r)⟩
  · cases ez
theorem d_join (ho : PE X o (tD (XC X) W mo)) (he : PE X e (tD (XC X) W m)) (hs : starEach [e] X.env = [(false, eval e X.env)] := by rfl) (hbase : attributeBase o "join" X.env (eval o X.env) = eval o X.env := by rfl) (hline : (apos.endLine == pos.line) = true := by rfl) :
    PE X (.Call (.Attribute o "join" apos) [e] [] pos) (tD (XC X) W (M.join mo m)) := by
  refine peImp (pe_join ho he hs hbase hline) fun σ H Q ⟨F, μ, s, r, q⟩ => ⟨F, μ, s, r, q.split.imp fun d μ1 s1 H1 x1 h1 v hv => ?_⟩
  obtain ⟨z, rfl, rfl, h1⟩ := res_isS x1.rep hv h1
  refine ⟨⟨z, rfl⟩, F, μ1, s1, x1.rep, h1.split.imp fun l μ2 s2 H2 x2 h2 w hw => ?_⟩
  obtain ⟨t, et, k⟩ := res_look h2
  have fin : ∀ (a : Addr) (vs : List V) (ds : List D) (ys : List Str), w = .ref a → (SqL X.K H2 a vs ∨ SqT X.K H2 a vs) → AtL (XC X) (Tab F μ2 s2 σ) μ2 H2 vs ds → asStrs ds = some ys → (ys.map (·.length)).sum + ys.length * z.length ≤ 16777216 → t = .str (Txt.join z ys) →
      ∃ a p, ∃ ys : List Str, V.str z = .str a ∧ [w] = [.ref p] ∧ (SqL X.K H2 p (ys.map V.str) ∨ SqT X.K H2 p (ys.map V.str)) ∧ (ys.map (·.length)).sum + ys.length * a.length ≤ 16777216 ∧ Q (.str (Txt.join a ys)) H2 := by
    intro a vs ds ys e1 e2 e3 e4 e5 e6
    subst e1 e6
    have := asStrs_at e3 e4
    subst this
    exact ⟨z, a, ys, rfl, rfl, e2, e5, k H2 (.refl x2.rep) _ (.of (.str _))⟩
  unfold joinD at et
  simp only at et
  split at et
  · rename_i ds e1
    obtain ⟨ys, e2, e3⟩ := Option.bind_eq_some_iff.mp et
    split at e3
    · rename_i hl
      cases e3
      split at e1
      · cases e1
        obtain ⟨a, vs, rfl, hp, c⟩ := At.tup_inv hw
        exact fin a vs _ ys rfl (.inr (SqTA.sq hp)) c e2 hl rfl
      · obtain ⟨a, vs, rfl, hp, c⟩ := x2.rep.seqL hw e1
        exact fin a vs _ ys rfl (.inl (.of hp)) c e2 hl rfl
    · cases e3
  · cases et
/-! ### a module's constant -/
theorem d_gInt {i : Int} {t : Tok} (hg : Gl X x) (hm : X.mg x = some (.int i t)) (hd : (x == ("__debug__" : Str)) = false := by decide) : PE X (.Name x pos) (tD (XC X) W (M.lit (.int i))) := d_lit (pe_glob (v := .int i) hg hm ⟨t, rfl⟩ hd) fun _ _ _ => .int i
theorem d_gStr {z : Str} {t : Tok} (hg : Gl X x) (hm : X.mg x = some (.str z t)) (hd : (x == ("__debug__" : Str)) = false := by decide) : PE X (.Name x pos) (tD (XC X) W (M.lit (.str z))) := d_lit (pe_glob (v := .str z) hg hm ⟨t, rfl⟩ hd) fun _ _ _ => .str z
end
end Ms
/-! Ms17: facts of the head. -/
namespace Ms
open PySem PySem.Spec PyProof.Rows L2
def tyV (K : PySem.W.Frag) : Ty → Value
  | .b n => .type n
  | .x c => .ref (He.ga K c)
def oexB (K : PySem.W.Frag) (C : Addr) : Bool := (match K.lookup C with
  | some ⟨.type "type", _, .cls cd, sl⟩ => (match cd.mro, sl.toList with
    | .ref C' :: bm, [_, _, _, _, some (.builtin n), _] => C' == C && n == "ValueError.__new__" && !cd.hasDel && PySem.HandSPX.refsVE bm && cd.hasDict
    | _, _ => false)
  | _ => false) && (He.eqO (PySem.W.findIn K (.ref C) "__setattr__") (some (some (.builtin "object.__setattr__"))) && (decide (PySem.W.subIn K (.ref C) (.type "BaseException") = some true) && (decide (PySem.W.typeIn K (.ref C) = some (.type "type")) && PySem.W.keepIn K (.ref C))))
theorem oexB_ok {K : PySem.W.Frag} {C : Addr} (h : oexB K C = true) : OexC K C := by
  obtain ⟨q, h⟩ := He.ba h
  obtain ⟨h1, h⟩ := He.ba h
  obtain ⟨h2, h⟩ := He.ba h
  obtain ⟨h3, h4⟩ := He.ba h
  refine ⟨?_, He.eqO_ok h1, of_decide_eq_true h2, of_decide_eq_true h3, h4⟩
  split at q
  · rename_i dd cd sl ho
    split at q
    · rename_i C' bm k0 k1 k2 k3 n k5 hm hs
      simp only [Bool.and_eq_true, beq_iff_eq, Bool.not_eq_true'] at q
      obtain ⟨⟨⟨⟨rfl, rfl⟩, hdel⟩, ht⟩, hd⟩ := q
      obtain ⟨nm, bs, mro, ns, qn, hd, sn, sub, ab, col, del⟩ := cd
      dsimp only at hm hdel hd
      subst hm hdel hd
      have hsl : sl = #[k0, k1, k2, k3, some (.builtin "ValueError.__new__"), k5] := by
        obtain ⟨l⟩ := sl
        simp only at hs
        rw [hs]
      subst hsl
      exact ⟨nm, qn, ns, bs, bm, sn, sub, ab, col, dd, k0, k1, k2, k3, k5, ho, ht⟩
    · cases q
  · cases q
def excB (K : PySem.W.Frag) (D : Addr) : Bool := He.eqO (PySem.W.findIn K (.ref D) "__getattribute__") (some (some (.builtin "BaseException.__getattribute__"))) && (He.eqO (PySem.W.findIn K (.ref D) "__getattr__") (some none) && (decide (PySem.W.subIn K (.ref D) (.type "BaseException") = some true) &&
  (PySem.W.hasDictIn K D && (He.eqO (PySem.W.findIn K (.ref D) "__class__") (some (some (.builtin "object.__class__"))) && (He.eqO (PySem.W.specialIn K (.builtin "object.__class__") "__get__") (some (some (.builtin "getset_descriptor.__get__"))) &&
    (decide (PySem.W.takesIn K (.builtin "object.__class__") = some true) && decide (PySem.W.mroIn K D (.type "object") = some true)))))))
theorem excB_ok {K : PySem.W.Frag} {D : Addr} (h : excB K D = true) : ExcC K D := by
  obtain ⟨h1, h⟩ := He.ba h
  obtain ⟨h2, h⟩ := He.ba h
  obtain ⟨h3, h⟩ := He.ba h
  obtain ⟨h4, h⟩ := He.ba h
  obtain ⟨h5, h⟩ := He.ba h
  obtain ⟨h6, h⟩ := He.ba h
  obtain ⟨h7, h8⟩ := He.ba h
  exact ⟨He.eqO_ok h1, He.eqO_ok h2, of_decide_eq_true h3, h4, He.eqO_ok h5, He.eqO_ok h6, of_decide_eq_true h7, of_decide_eq_true h8⟩
inductive Fb where
  | f (a : He.Fa)
  | glos (xs : List Str)
  | frees (xs : List Str)
  | oex (x : Str)
  | ini (x fl : Str)
  | base (x : Str)
  | excs (xs : List Str)
  | xf (xs : List Str) (f : Str)
  | kt (u : Ty) (bs : List (String × Bool)) (xs : List (Str × Bool))
  | ktA (us : List Ty) (bs : List (String × Bool)) (xs : List (Str × Bool))
def Fb.ok (K : PySem.W.Frag) : Fb → Bool
  | .f a => a.ok K
  | .glos xs => xs.all fun x => (He.Fa.glo x).ok K
  | .frees xs => xs.all fun x => (He.Fa.free x).ok K
  | .oex x => oexB K (He.ga K x)
  | .ini x fl => He.eqO (PySem.W.findIn K (.ref (He.ga K x)) "__init__") (some (some (.ref (He.ma K (He.ga K x) "__init__")))) && (decide (PySem.W.typeIn K (.ref (He.ma K (He.ga K x) "__init__")) = some (.type "function")) && He.eqO (PySem.W.findIn K (.ref (He.ga K x)) fl) (some none))
  | .base x => PySem.W.readsIn K (He.ga K x) (.type "type") && (He.eqO (PySem.W.specialIn K (.ref (He.ga K x)) "__getattribute__") (some (some (.builtin "type.__getattribute__"))) && (match PySem.W.findCls K (.ref (He.ga K x)) (.type "type") "__init__" with
    | some (.val (.builtin n)) => n == "ValueError.__init__"
    | _ => false))
  | .excs xs => xs.all fun x => excB K (He.ga K x)
  | .xf xs fl => xs.all fun x => xfB K (He.ga K x) && He.eqO (PySem.W.findIn K (.ref (He.ga K x)) fl) (some none)
  | .kt u bs xs => (bs.all fun q => decide (PySem.W.kitOne K (.type q.1) (tyV K u) = some q.2)) && xs.all fun q => decide (PySem.W.kitOne K (.ref (He.ga K q.1)) (tyV K u) = some q.2)
  | .ktA us bs xs => (bs.all fun q => decide (PySem.W.kitAny K (.type q.1) (us.map (tyV K)) = some q.2)) && xs.all fun q => decide (PySem.W.kitAny K (.ref (He.ga K q.1)) (us.map (tyV K)) = some q.2)
/-! ### the Hook -/
def obsM (fb : List Fb) (fn : List He.DefD) (K : PySem.W.Frag) : He.AlD := ((fb.all fun f => f.ok K) && fn.all fun d => d.ok K, fn.map fun d => He.fnW K d.at_)
def SaysM (fb : List Fb) (fn : List He.DefD) (K : PySem.W.Frag) : Prop := obsM fb fn K = He.valD fn
def asM (g : Addr → Option Obj) : Nat → List Addr
  | 0 => [mainGlobals, cStatics]
  | n + 1 => He.growD g (asM g n)
def obsMG (n : Nat) (fb : List Fb) (fn : List He.DefD) (g : Addr → Option Obj) : He.AlD := obsM fb fn (He.frG g (asM g n))
def hookM (n : Nat) (fb : List Fb) (fn : List He.DefD) : PySem.W.Hook where
  α := He.AlD
  obs := fun s => obsMG n fb fn s.heap.get?
  val := fun _ => He.valD fn
  says := fun _ h => ∃ K : PySem.W.Frag, K.In h ∧ SaysM fb fn K
  of := fun _ _ e => ⟨_, He.frG_in, e⟩
  keeps := fun _ _ _ ⟨K, hK, c⟩ k => ⟨K, PySem.W.Frag.In.keeps hK k, c⟩
theorem obsMG_eq {n : Nat} {fb : List Fb} {fn : List He.DefD} {g : Addr → Option Obj} {s : Shared} (h : ∀ a, g a = s.heap.get? a) : obsMG n fb fn g = (hookM n fb fn).obs s := by
  have e : g = s.heap.get? := funext h
  rw [e] <;> rfl
section
variable {fb : List Fb} {fn : List He.DefD} {K : PySem.W.Frag} {h : Heap} {mg : Str → Option Value} {x fl : Str}
theorem SaysM.fact (c : SaysM fb fn K) (i : Nat) {f : Fb} (h : fb[i]? = some f := by rfl) : f.ok K = true := by
  have c1 := (He.ba (show ((fb.all fun f => f.ok K) && fn.all fun d => d.ok K) = true from congrArg (fun z : He.AlD => z.1) c)).1
  exact List.all_eq_true.mp c1 f (List.mem_of_getElem? h)
theorem SaysM.def_ (c : SaysM fb fn K) (i : Nat) {d : He.DefD} (h : fn[i]? = some d := by rfl) : ∃ fd, FunD K d.name d.qual d.params d.body d.scope (d.dvs K) (d.kws K) (He.fAd K d.at_) fd := by
  have c2 := (He.ba (show ((fb.all fun f => f.ok K) && fn.all fun d => d.ok K) = true from congrArg (fun z : He.AlD => z.1) c)).2
  have e : fn.map (fun d => He.fnW K d.at_) = fn.map He.DefD.val := congrArg (fun z : He.AlD => z.2) c
  have e2 : (fn.map fun d => He.fnW K d.at_)[i]? = (fn.map He.DefD.val)[i]? := by rw [e]
  rw [List.getElem?_map, List.getElem?_map, h] at e2
  exact He.DefD.funD (Option.some.inj e2) (List.all_eq_true.mp c2 d (List.mem_of_getElem? h))
/-- what the walks lean on -/
structure Env (fb : List Fb) (fn : List He.DefD) (K : PySem.W.Frag) (mg : Str → Option Value) (base : Heap) : Prop where
  c : SaysM fb fn K
  h : ∃ h : Heap, K.In h ∧ h.Ns mainGlobals mg
variable {base : Heap}
theorem Env.glo (E : Env fb fn K mg base) (i : Nat) {xs : List Str} (hx : x ∈ xs) (h : fb[i]? = some (.glos xs) := by rfl) : mg x = some (.ref (He.ga K x)) := by
  obtain ⟨hp, X, G⟩ := E.h
  exact He.glo_ok X G (List.all_eq_true.mp (E.c.fact i h) x hx)
theorem Env.free (E : Env fb fn K mg base) (i : Nat) {xs : List Str} (hx : x ∈ xs) (h : fb[i]? = some (.frees xs) := by rfl) : mg x = none := by
  obtain ⟨hp, X, G⟩ := E.h
  exact He.free_ok X G (List.all_eq_true.mp (E.c.fact i h) x hx)
theorem Env.x0 (E : Env fb fn K mg base) (i j : Nat) {xs : List Str} (hx : x ∈ xs) (h : fb[i]? = some (.glos xs) := by rfl) (h2 : fb[j]? = some (.f (.exc x)) := by rfl) : X0 K mg x (He.ga K x) := by
  obtain ⟨h1, h2, h3, h4⟩ := He.exc_ok (E.c.fact j h2)
  exact ⟨E.glo i hx h, h1, h2, h3, h4⟩
theorem lookup_all {α : Type} {p : Str × α → Bool} : ∀ {l : List (Str × α)} {x : Str} {b : α}, l.all p = true → l.lookup x = some b → p (x, b) = true ∧ (x, b) ∈ l
  | [], _, _, _, e => by cases e
  | (y, c) :: l, x, b, h, e => by
    rw [List.all_cons, Bool.and_eq_true] at h
    rw [List.lookup_cons] at e
    split at e
    · rename_i hb
      cases e
      have := eq_of_beq hb
      subst this
      exact ⟨h.1, List.mem_cons_self⟩
    · obtain ⟨a, b⟩ := lookup_all h.2 e
      exact ⟨a, List.mem_cons_of_mem _ b⟩
theorem lookup_all' {α : Type} {p : String × α → Bool} : ∀ {l : List (String × α)} {x : String} {b : α}, l.all p = true → l.lookup x = some b → p (x, b) = true
  | [], _, _, _, e => by cases e
  | (y, c) :: l, x, b, h, e => by
    rw [List.all_cons, Bool.and_eq_true] at h
    rw [List.lookup_cons] at e
    split at e
    · rename_i hb
      cases e
      have := eq_of_beq hb
      subst this
      exact h.1
    · exact lookup_all' h.2 e
def ktOf (bs : List (String × Bool)) (xs : List (Str × Bool)) : Ty → Option Bool
  | .b n => bs.lookup n
  | .x c => xs.lookup c
theorem Env.kt (E : Env fb fn K mg base) (i j k : Nat) {xs ys : List Str} {u : Ty} {bs : List (String × Bool)} {cs : List (Str × Bool)} (hs : ∀ c ∈ cs, c.1 ∈ xs ∧ c.1 ∈ ys) (h : fb[i]? = some (.glos xs) := by rfl) (h2 : fb[j]? = some (.excs ys) := by rfl) (h3 : fb[k]? = some (.kt u bs cs) := by rfl) :
    KtOk K mg (fun t => PySem.W.kitOne K t (tyV K u)) (ktOf bs cs) := by
  obtain ⟨c1, c2⟩ := He.ba (show ((bs.all fun q => decide (PySem.W.kitOne K (.type q.1) (tyV K u) = some q.2)) && cs.all fun q => decide (PySem.W.kitOne K (.ref (He.ga K q.1)) (tyV K u) = some q.2)) = true from E.c.fact k h3)
  refine ⟨fun n b e => of_decide_eq_true (lookup_all' c1 e), fun c b A e g => ?_⟩
  obtain ⟨q, m⟩ := lookup_all c2 e
  rw [E.glo i (hs _ m).1 h] at g
  cases g
  exact ⟨of_decide_eq_true q, excB_ok (List.all_eq_true.mp (E.c.fact j h2) _ (hs _ m).2)⟩
theorem Env.ktA (E : Env fb fn K mg base) (i j k : Nat) {xs ys : List Str} {us : List Ty} {bs : List (String × Bool)} {cs : List (Str × Bool)} (hs : ∀ c ∈ cs, c.1 ∈ xs ∧ c.1 ∈ ys) (h : fb[i]? = some (.glos xs) := by rfl) (h2 : fb[j]? = some (.excs ys) := by rfl) (h3 : fb[k]? = some (.ktA us bs cs) := by rfl) :
    KtOk K mg (fun t => PySem.W.kitAny K t (us.map (tyV K))) (ktOf bs cs) := by
  obtain ⟨c1, c2⟩ := He.ba (show ((bs.all fun q => decide (PySem.W.kitAny K (.type q.1) (us.map (tyV K)) = some q.2)) && cs.all fun q => decide (PySem.W.kitAny K (.ref (He.ga K q.1)) (us.map (tyV K)) = some q.2)) = true from E.c.fact k h3)
  refine ⟨fun n b e => of_decide_eq_true (lookup_all' c1 e), fun c b A e g => ?_⟩
  obtain ⟨q, m⟩ := lookup_all c2 e
  rw [E.glo i (hs _ m).1 h] at g
  cases g
  exact ⟨of_decide_eq_true q, excB_ok (List.all_eq_true.mp (E.c.fact j h2) _ (hs _ m).2)⟩
theorem Env.xf (E : Env fb fn K mg base) (i k : Nat) {xs ys : List Str} {f : Str} (hs : ∀ c ∈ ys, c ∈ xs) (h : fb[i]? = some (.glos xs) := by rfl) (h3 : fb[k]? = some (.xf ys f) := by rfl) : XfOk K mg f ys := by
  refine ⟨fun c hc A g => ?_⟩
  obtain ⟨q1, q2⟩ := He.ba (List.all_eq_true.mp (show (ys.all fun x => xfB K (He.ga K x) && He.eqO (PySem.W.findIn K (.ref (He.ga K x)) f) (some none)) = true from E.c.fact k h3) c hc)
  rw [E.glo i (hs c hc) h] at g
  cases g
  exact ⟨xfB_ok q1, He.eqO_ok q2⟩
theorem Env.base_ (E : Env fb fn K mg base) (i : Nat) (h : fb[i]? = some (.base x) := by rfl) : ClX.CRead K (He.ga K x) (.type "type") ∧ PySem.W.findCls K (.ref (He.ga K x)) (.type "type") "__init__" = some (.val (.builtin "ValueError.__init__")) := by
  obtain ⟨h1, h2⟩ := He.ba (E.c.fact i h)
  obtain ⟨h2, h3⟩ := He.ba h2
  refine ⟨⟨h1, He.eqO_ok h2⟩, ?_⟩
  split at h3
  · rename_i n e
    rw [e, eq_of_beq h3]
  · cases h3
theorem Env.ini (E : Env fb fn K mg base) (i : Nat) (h : fb[i]? = some (.ini x fl) := by rfl) : PySem.W.findIn K (.ref (He.ga K x)) "__init__" = some (some (.ref (He.ma K (He.ga K x) "__init__"))) ∧ PySem.W.typeIn K (.ref (He.ma K (He.ga K x) "__init__")) = some (.type "function") ∧ PySem.W.findIn K (.ref (He.ga K x)) fl = some none := by
  obtain ⟨h1, h2⟩ := He.ba (E.c.fact i h)
  obtain ⟨h2, h3⟩ := He.ba h2
  exact ⟨He.eqO_ok h1, of_decide_eq_true h2, He.eqO_ok h3⟩
theorem takes0 {X : Cx} : L2N.Takes X W0 := fun u s' ⟨_, _, _, _, _, _, _, _, _, _, _, _, _, _, _, _, h⟩ => h.elim
end
end Ms
/-! MsE: computations, evaluated. -/
namespace Ms
open PySem PySem.Spec PyProof.Rows L2
section
variable {α β : Type} {s s1 s2 : Sta} {d : D} {m : M α} {k : α → M β} {a : α}
theorem ev_bind (m : M α) (k : α → M β) (s : Sta) : (m >>= k) s = (match m s with | .ok a s' => k a s' | .exc e s' => .exc e s' | .stuck => .stuck) := rfl
theorem ev_pure (a : α) (s : Sta) : (pure a : M α) s = .ok a s := rfl
theorem ev_lit (d : D) (s : Sta) : M.lit d s = .ok d s := rfl
theorem bind_ok (h : m s = .ok a s1) : (m >>= k) s = k a s1 := by rw [ev_bind, h]
theorem op2_ok {f : D → D → M D} {a b : M D} {x y : D} (h1 : a s = .ok x s1) (h2 : b s1 = .ok y s2) : M.op2 f a b s = f x y s2 := by
  unfold M.op2
  rw [bind_ok h1, bind_ok h2]
theorem op2_fin {f : D → D → M D} {a b : M D} {x y z : D} {s3 : Sta} (h1 : a s = .ok x s1) (h2 : b s1 = .ok y s2) (h3 : f x y s2 = .ok z s3) : M.op2 f a b s = .ok z s3 := (op2_ok h1 h2).trans h3
theorem seq_nx {a b : M Fl} (h : a s = .ok .nx s1) : M.seq a b s = b s1 := by
  unfold M.seq
  rw [bind_ok h]
theorem seq_rt {a b : M Fl} (h : a s = .ok (.rt d) s1) : M.seq a b s = .ok (.rt d) s1 := by
  unfold M.seq
  rw [bind_ok h]
  rfl
theorem out_of {d : D} (h : d.isOwn = false) : M.out d s = .ok d s := by unfold M.out; rw [h]; rfl
theorem args_nil : M.args [] s = .ok [] s := rfl
theorem args_cons {m : M D} {ms : List (M D)} {ds : List D} (h : m s = .ok d s1) (hn : d.isOwn = false) (h2 : M.args ms s1 = .ok ds s2) : M.args (m :: ms) s = .ok (d :: ds) s2 := by
  show (m >>= _) s = _
  rw [bind_ok h, bind_ok (out_of hn), bind_ok h2]
  rfl
theorem set_ok {i : Nat} {m : M D} (h : m s = .ok d s1) (hn : d.isOwn = false) (hi : i < s1.ρ.length) : M.set i m s = .ok .nx { s1 with ρ := s1.ρ.set i (.val d) } := by
  unfold M.set
  rw [bind_ok h, bind_ok (out_of hn)]
  show (if i < s1.ρ.length then _ else _) = _
  rw [if_pos hi]
theorem ret_ok {m : M D} (h : m s = .ok d s1) (hn : d.isOwn = false) : M.ret m s = .ok (.rt d) s1 := by
  unfold M.ret
  rw [bind_ok h, bind_ok (out_of hn)]
  rfl
theorem call_ok {f : Fn} {ms : List (M D)} {ds : List D} {G : List MO} (h : M.args ms s = .ok ds s1) (h2 : f ds s1.G = .ok d G) : M.call f ms s = .ok d { s1 with G := G } := by
  unfold M.call
  rw [bind_ok h]
  unfold M.fn
  rw [h2]
theorem runFn_rt {N n : Nat} {body : M Fl} {ds : List D} {G : List MO} (hl : ds.length = n) (h : body ⟨ds.map .val ++ List.replicate (N - n) .no, G⟩ = .ok (.rt d) s1) : runFn N n body ds G = .ok d s1.G := by
  unfold runFn
  rw [if_pos hl, h]
theorem cond_t {t : M Bool} {a b : M Fl} (h : t s = .ok true s1) : M.cond t a b s = a s1 := by
  unfold M.cond
  rw [bind_ok h, if_pos rfl]
theorem cond_f {t : M Bool} {a b : M Fl} (h : t s = .ok false s1) : M.cond t a b s = b s1 := by
  unfold M.cond
  rw [bind_ok h, if_neg (by simp)]
theorem bool_ok {m : M D} {b : Bool} (h : m s = .ok (.bl b) s1) : M.bool m s = .ok b s1 := by
  unfold M.bool
  rw [bind_ok h]
  rfl
theorem or2_f {a b : M Bool} (h : a s = .ok false s1) : M.or2 a b s = b s1 := by
  unfold M.or2
  rw [bind_ok h, if_neg (by simp)]
theorem eqD_refl {d : D} {p : PyData} (h : scEq d d = none ∨ scEq d d = some true) (hp : d.pyS s = some p) (hs : SeqAt.shaped p = true) : eqD s d d = some true := by
  unfold eqD
  rcases h with h | h
  · rw [h, hp]
    simp only [hs, Bool.and_self, if_true]
    have : p.canLay0 = true := (Bool.and_eq_true_iff.mp hs).1
    rw [SeqAt.eqv_refl p this]
  · rw [h]
theorem look_ok {f : Sta → Option D} (h : f s = some d) : M.look f s = .ok d s := by
  unfold M.look
  rw [h]
theorem fNe_refl {d : D} (h : eqD s d d = some true) : fNe d d s = .ok (.bl false) s := look_ok (by show Option.map _ (eqD s d d) = _; rw [h]; rfl)
theorem disp_ok {ms : List (M D)} {ds : List D} (h : M.args ms s = .ok ds s1) (hl : lenOk ds.length = true) : M.disp ms s = .ok ds s1 := by
  unfold M.disp
  rw [bind_ok h, if_pos hl]
  rfl
theorem lst_ok {m : M (List D)} {ds : List D} (h : m s = .ok ds s1) : M.lst m s = .ok (.lst ds) s1 := by
  unfold M.lst
  rw [bind_ok h]
  rfl
theorem tup_ok {ms : List (M D)} {ds : List D} (h : M.args ms s = .ok ds s1) (hl : lenOk ds.length = true) : M.tup ms s = .ok (.tup ds) s1 := by
  unfold M.tup
  rw [bind_ok h, if_pos hl]
  rfl
theorem ev_purM {α : Type} (a : α) (s : Sta) : M.pure a s = .ok a s := rfl
theorem ev_stk {α : Type} (s : Sta) : (M.stuck : M α) s = .stuck := rfl
theorem ev_out (d : D) (s : Sta) : M.out d s = if d.isOwn = true then .stuck else .ok d s := by
  unfold M.out
  split <;> rfl
theorem ow_int (i : Int) : (D.int i).isOwn = false := rfl
theorem ow_str (i : Str) : (D.str i).isOwn = false := rfl
theorem ow_bl (i : Bool) : (D.bl i).isOwn = false := rfl
theorem ow_non : D.non.isOwn = false := rfl
theorem ow_tup (l : List D) : (D.tup l).isOwn = false := rfl
theorem ow_lst (l : List D) : (D.lst l).isOwn = false := rfl
theorem ow_ref (g : Nat) : (D.ref g).isOwn = false := rfl
theorem ow_scr (l : List Int) : (D.scr l).isOwn = false := rfl
theorem ow_exc (c n : Str) (v : D) : (D.exc c n v).isOwn = false := rfl
theorem ow_dct (t : Nat) (c n : List D) : (D.dct t c n).isOwn = false := rfl
theorem ow_own (i : Nat) : (D.own i).isOwn = true := rfl
theorem log2_lt {x : Int} {n : Nat} (h0 : 0 ≤ x) (h : x < 2 ^ n) (hn : 0 < n) : x.natAbs.log2 < n := by
  by_cases hz : x.natAbs = 0
  · rw [hz]; simpa using hn
  · have h2 : (x.natAbs : Int) < ((2 ^ n : Nat) : Int) := by rw [Int.natAbs_of_nonneg h0]; exact_mod_cast h
    exact (Nat.log2_lt hz).mpr (by exact_mod_cast h2)
theorem compL_t {vs : List Nat} {t : Tgt} {c : M Bool} {e : M D} {ds ys : List D} {y : D} {s3 s4 : Sta} (hb : M.bindTo t d s = .ok .nx s1) (hc : c s1 = .ok true s2) (he : e s2 = .ok y s3) (ny : y.isOwn = false) (hr : M.compL vs t c e ds { s3 with ρ := wipeR vs s3.ρ } = .ok ys s4) :
    M.compL vs t c e (d :: ds) s = .ok (y :: ys) s4 := by
  have h1 : M.calm c s1 = .ok true s2 := by unfold M.calm; rw [hc]
  have h2 : M.calm e s2 = .ok y s3 := by unfold M.calm; rw [he]
  unfold M.compL
  rw [bind_ok hb, bind_ok h1, if_pos rfl, bind_ok h2, bind_ok (out_of ny), bind_ok (show M.wipe vs s3 = .ok () { s3 with ρ := wipeR vs s3.ρ } from rfl), bind_ok hr]
  rfl
theorem compL_f {vs : List Nat} {t : Tgt} {c : M Bool} {e : M D} {ds ys : List D} {s4 : Sta} (hb : M.bindTo t d s = .ok .nx s1) (hc : c s1 = .ok false s2) (hr : M.compL vs t c e ds { s2 with ρ := wipeR vs s2.ρ } = .ok ys s4) :
    M.compL vs t c e (d :: ds) s = .ok ys s4 := by
  have h1 : M.calm c s1 = .ok false s2 := by unfold M.calm; rw [hc]
  unfold M.compL
  rw [bind_ok hb, bind_ok h1, if_neg (by simp), bind_ok (show M.wipe vs s2 = .ok () { s2 with ρ := wipeR vs s2.ρ } from rfl), hr]
theorem comp_ok {vs : List Nat} {mi : M (List D)} {t : Tgt} {c : M Bool} {e : M D} {ds ys : List D} (hi : mi s = .ok ds s1) (hl : lenOk (ds.length + 1) = true) (h : M.compL vs t c e ds { s1 with ρ := wipeR vs s1.ρ } = .ok ys s2) : M.comp vs mi t c e s = .ok ys s2 := by
  unfold M.comp
  rw [bind_ok hi, if_pos hl]
  show (M.wipe vs >>= _) s1 = _
  rw [bind_ok (show M.wipe vs s1 = .ok () { s1 with ρ := wipeR vs s1.ρ } from rfl), h]
theorem forL_nx {t : Tgt} {body : M Fl} {ds : List D} (hb : M.bindTo t d s = .ok .nx s1) (h : body s1 = .ok .nx s2) : M.forL t body (d :: ds) s = M.forL t body ds s2 := by
  show (M.bindTo t d >>= _) s = _
  rw [bind_ok hb, bind_ok h]
theorem forL_ct {t : Tgt} {body : M Fl} {ds : List D} (hb : M.bindTo t d s = .ok .nx s1) (h : body s1 = .ok .ct s2) : M.forL t body (d :: ds) s = M.forL t body ds s2 := by
  show (M.bindTo t d >>= _) s = _
  rw [bind_ok hb, bind_ok h]
theorem for_ok {t : Tgt} {body : M Fl} {mi : M (List D)} {ds : List D} (hi : mi s = .ok ds s1) : M.for_ mi t body s = M.forL t body ds s1 := by
  unfold M.for_
  rw [bind_ok hi]
end
end Ms
namespace Pw
open PySem PySem.Spec PyProof.Rows L2 Ms
def top (i : Nat) : Stmt := PySem.Challenge.pw_spanloom_k50_refusals_apart.main.body.getD i (.Pass ⟨0, 0, 0, 0⟩)
def clsB : Stmt → List Stmt
  | .ClassDef _ _ _ b _ _ _ _ _ _ _ => b
  | _ => []
def inCls (i j : Nat) : Stmt := (clsB (top i)).getD j (.Pass ⟨0, 0, 0, 0⟩)
theorem rmOf {k : Nat} {A : Around} (hr : Room k A) : A.units + 200 < cLine := by have := hr.un; omega
def locB (sc : Scope) (x : Str) : Bool := match sc.names.lookup x with
  | some .local => true
  | some .cell => true
  | _ => false
theorem locOf {sc : Scope} {x : Str} (h : locB sc x = true) : Loc sc x := by
  unfold locB at h
  split at h
  · exact .inl (by assumption)
  · exact .inr (by assumption)
  · cases h
theorem ownB {P : Program} {w : World} {K : PySem.W.Frag} {mg : Str → Option Value} {base : Heap} {N : List Str} {qual : Str} {scope : Scope} {f : Addr} {cdv : Value} {A : Around} {outer : List PySem.Env} {s : Shared} {H : Hp} {E : XK} :
    PassesOwn (model (XB P w K mg base N qual scope f cdv A outer s H E).prog (XB P w K mg base N qual scope f cdv A outer s H E).w) (XB P w K mg base N qual scope f cdv A outer s H E).A (XB P w K mg base N qual scope f cdv A outer s H E).env (XB P w K mg base N qual scope f cdv A outer s H E).xe := passes_of rfl
def pickP : List D → List D → D := fun ds _ => ds.headD .non
def pickK : List D → List D → D := fun _ es => es.headD .non
def pickN : List D → List D → D := fun _ _ => .non
def glos_0 : List Str := ["Twice", "Wanting", "NoText", "NoVersion", "NoWork", "TooLong", "NoPrices", "NoRecord", "NoRow", "NoSigns", "NoEnd", "NoLink", "NoName", "NoPlace", "Gainsaid", "NoAuthor", "NoBase", "NoDeed", "AskedError", "ToldError", "Crossed", "Forged", "LoomError", "_law_bag", "_law_take"]
def glos_1 : List Str := ["_law_name", "_law_kinds", "_law_field", "law"]
def glos : List Str := glos_0 ++ glos_1
def frees_0 : List Str := ["len", "abs", "range", "int", "isinstance", "ValueError", "min"]
def frees : List Str := frees_0
def excs_0 : List Str := ["LoomError", "ToldError", "AskedError", "NoRecord", "NoName", "NoRow", "NoPrices", "NoDeed", "NoEnd", "Twice", "NoText", "Forged", "Gainsaid", "TooLong", "NoSigns", "NoLink", "NoBase", "NoPlace", "Crossed", "Wanting", "NoWork", "NoVersion", "NoAuthor"]
def excs : List Str := excs_0
def xs_work : List Str := ["NoWork"]
def xs_ends : List Str := ["Wanting"]
def xs_record : List Str := ["Gainsaid"]
def xs_name : List Str := ["Forged", "NoAuthor"]
def xs_which : List Str := ["Crossed", "NoVersion"]
def xs_at : List Str := ["NoPlace"]
def xs_line : List Str := ["NoText"]
def kb_0 : List (String × Bool) := [("int", false), ("bool", false), ("str", false), ("tuple", false), ("list", false), ("dict", false), ("NoneType", false)]
def kx_0 : List (Str × Bool) := [("LoomError", false), ("ToldError", false), ("AskedError", false), ("NoRecord", false), ("NoName", false), ("NoRow", false), ("NoPrices", false), ("NoDeed", false), ("NoEnd", false), ("Twice", true), ("NoText", false), ("Forged", false), ("Gainsaid", false), ("TooLong", false), ("NoSigns", false), ("NoLink", false), ("NoBase", false), ("NoPlace", false), ("Crossed", false), ("Wanting", false), ("NoWork", false), ("NoVersion", false), ("NoAuthor", false)]
def kf_0 : Ty → Option Bool := ktOf kb_0 kx_0
def kb_1 : List (String × Bool) := [("int", false), ("bool", false), ("str", false), ("tuple", false), ("list", false), ("dict", false), ("NoneType", false)]
def kx_1 : List (Str × Bool) := [("LoomError", false), ("ToldError", false), ("AskedError", false), ("NoRecord", false), ("NoName", false), ("NoRow", false), ("NoPrices", false), ("NoDeed", false), ("NoEnd", false), ("Twice", false), ("NoText", false), ("Forged", false), ("Gainsaid", false), ("TooLong", false), ("NoSigns", false), ("NoLink", false), ("NoBase", false), ("NoPlace", false), ("Crossed", false), ("Wanting", true), ("NoWork", false), ("NoVersion", false), ("NoAuthor", false)]
def kf_1 : Ty → Option Bool := ktOf kb_1 kx_1
def kb_2 : List (String × Bool) := [("int", false), ("bool", false), ("str", false), ("tuple", false), ("list", false), ("dict", false), ("NoneType", false)]
def kx_2 : List (Str × Bool) := [("LoomError", true), ("ToldError", true), ("AskedError", true), ("NoRecord", true), ("NoName", true), ("NoRow", true), ("NoPrices", true), ("NoDeed", true), ("NoEnd", true), ("Twice", true), ("NoText", true), ("Forged", true), ("Gainsaid", true), ("TooLong", true), ("NoSigns", true), ("NoLink", true), ("NoBase", true), ("NoPlace", true), ("Crossed", true), ("Wanting", true), ("NoWork", true), ("NoVersion", true), ("NoAuthor", true)]
def kf_2 : Ty → Option Bool := ktOf kb_2 kx_2
def kb_3 : List (String × Bool) := [("int", false), ("bool", false), ("str", false), ("tuple", false), ("list", false), ("dict", false), ("NoneType", false)]
def kx_3 : List (Str × Bool) := [("LoomError", false), ("ToldError", false), ("AskedError", false), ("NoRecord", false), ("NoName", false), ("NoRow", false), ("NoPrices", false), ("NoDeed", false), ("NoEnd", false), ("Twice", false), ("NoText", true), ("Forged", false), ("Gainsaid", false), ("TooLong", false), ("NoSigns", false), ("NoLink", false), ("NoBase", false), ("NoPlace", false), ("Crossed", false), ("Wanting", false), ("NoWork", false), ("NoVersion", false), ("NoAuthor", false)]
def kf_3 : Ty → Option Bool := ktOf kb_3 kx_3
def kb_4 : List (String × Bool) := [("int", false), ("bool", false), ("str", false), ("tuple", false), ("list", false), ("dict", false), ("NoneType", false)]
def kx_4 : List (Str × Bool) := [("LoomError", false), ("ToldError", false), ("AskedError", false), ("NoRecord", false), ("NoName", false), ("NoRow", false), ("NoPrices", false), ("NoDeed", false), ("NoEnd", false), ("Twice", false), ("NoText", false), ("Forged", false), ("Gainsaid", false), ("TooLong", false), ("NoSigns", false), ("NoLink", false), ("NoBase", false), ("NoPlace", false), ("Crossed", false), ("Wanting", false), ("NoWork", false), ("NoVersion", true), ("NoAuthor", false)]
def kf_4 : Ty → Option Bool := ktOf kb_4 kx_4
def kb_5 : List (String × Bool) := [("int", false), ("bool", false), ("str", false), ("tuple", false), ("list", false), ("dict", false), ("NoneType", false)]
def kx_5 : List (Str × Bool) := [("LoomError", false), ("ToldError", false), ("AskedError", false), ("NoRecord", false), ("NoName", false), ("NoRow", false), ("NoPrices", false), ("NoDeed", false), ("NoEnd", false), ("Twice", false), ("NoText", false), ("Forged", false), ("Gainsaid", false), ("TooLong", false), ("NoSigns", false), ("NoLink", false), ("NoBase", false), ("NoPlace", false), ("Crossed", false), ("Wanting", false), ("NoWork", true), ("NoVersion", false), ("NoAuthor", false)]
def kf_5 : Ty → Option Bool := ktOf kb_5 kx_5
def kb_6 : List (String × Bool) := [("int", false), ("bool", false), ("str", false), ("tuple", false), ("list", false), ("dict", false), ("NoneType", false)]
def kx_6 : List (Str × Bool) := [("LoomError", false), ("ToldError", false), ("AskedError", false), ("NoRecord", false), ("NoName", false), ("NoRow", false), ("NoPrices", false), ("NoDeed", false), ("NoEnd", false), ("Twice", false), ("NoText", false), ("Forged", false), ("Gainsaid", false), ("TooLong", true), ("NoSigns", false), ("NoLink", false), ("NoBase", false), ("NoPlace", false), ("Crossed", false), ("Wanting", false), ("NoWork", false), ("NoVersion", false), ("NoAuthor", false)]
def kf_6 : Ty → Option Bool := ktOf kb_6 kx_6
def kb_7 : List (String × Bool) := [("int", false), ("bool", false), ("str", false), ("tuple", false), ("list", false), ("dict", false), ("NoneType", false)]
def kx_7 : List (Str × Bool) := [("LoomError", false), ("ToldError", false), ("AskedError", false), ("NoRecord", false), ("NoName", false), ("NoRow", false), ("NoPrices", true), ("NoDeed", false), ("NoEnd", false), ("Twice", false), ("NoText", false), ("Forged", false), ("Gainsaid", false), ("TooLong", false), ("NoSigns", false), ("NoLink", false), ("NoBase", false), ("NoPlace", false), ("Crossed", false), ("Wanting", false), ("NoWork", false), ("NoVersion", false), ("NoAuthor", false)]
def kf_7 : Ty → Option Bool := ktOf kb_7 kx_7
def kb_8 : List (String × Bool) := [("int", false), ("bool", false), ("str", false), ("tuple", false), ("list", false), ("dict", false), ("NoneType", false)]
def kx_8 : List (Str × Bool) := [("LoomError", false), ("ToldError", false), ("AskedError", false), ("NoRecord", true), ("NoName", false), ("NoRow", false), ("NoPrices", false), ("NoDeed", false), ("NoEnd", false), ("Twice", false), ("NoText", false), ("Forged", false), ("Gainsaid", false), ("TooLong", false), ("NoSigns", false), ("NoLink", false), ("NoBase", false), ("NoPlace", false), ("Crossed", false), ("Wanting", false), ("NoWork", false), ("NoVersion", false), ("NoAuthor", false)]
def kf_8 : Ty → Option Bool := ktOf kb_8 kx_8
def kb_9 : List (String × Bool) := [("int", false), ("bool", false), ("str", false), ("tuple", false), ("list", false), ("dict", false), ("NoneType", false)]
def kx_9 : List (Str × Bool) := [("LoomError", false), ("ToldError", false), ("AskedError", false), ("NoRecord", false), ("NoName", false), ("NoRow", true), ("NoPrices", false), ("NoDeed", false), ("NoEnd", false), ("Twice", false), ("NoText", false), ("Forged", false), ("Gainsaid", false), ("TooLong", false), ("NoSigns", false), ("NoLink", false), ("NoBase", false), ("NoPlace", false), ("Crossed", false), ("Wanting", false), ("NoWork", false), ("NoVersion", false), ("NoAuthor", false)]
def kf_9 : Ty → Option Bool := ktOf kb_9 kx_9
def kb_10 : List (String × Bool) := [("int", false), ("bool", false), ("str", false), ("tuple", false), ("list", false), ("dict", false), ("NoneType", false)]
def kx_10 : List (Str × Bool) := [("LoomError", false), ("ToldError", false), ("AskedError", false), ("NoRecord", false), ("NoName", false), ("NoRow", false), ("NoPrices", false), ("NoDeed", false), ("NoEnd", false), ("Twice", false), ("NoText", false), ("Forged", false), ("Gainsaid", false), ("TooLong", false), ("NoSigns", true), ("NoLink", false), ("NoBase", false), ("NoPlace", false), ("Crossed", false), ("Wanting", false), ("NoWork", false), ("NoVersion", false), ("NoAuthor", false)]
def kf_10 : Ty → Option Bool := ktOf kb_10 kx_10
def kb_11 : List (String × Bool) := [("int", false), ("bool", false), ("str", false), ("tuple", false), ("list", false), ("dict", false), ("NoneType", false)]
def kx_11 : List (Str × Bool) := [("LoomError", false), ("ToldError", false), ("AskedError", false), ("NoRecord", false), ("NoName", false), ("NoRow", false), ("NoPrices", false), ("NoDeed", false), ("NoEnd", true), ("Twice", false), ("NoText", false), ("Forged", false), ("Gainsaid", false), ("TooLong", false), ("NoSigns", false), ("NoLink", false), ("NoBase", false), ("NoPlace", false), ("Crossed", false), ("Wanting", false), ("NoWork", false), ("NoVersion", false), ("NoAuthor", false)]
def kf_11 : Ty → Option Bool := ktOf kb_11 kx_11
def kb_12 : List (String × Bool) := [("int", false), ("bool", false), ("str", false), ("tuple", false), ("list", false), ("dict", false), ("NoneType", false)]
def kx_12 : List (Str × Bool) := [("LoomError", false), ("ToldError", false), ("AskedError", false), ("NoRecord", false), ("NoName", false), ("NoRow", false), ("NoPrices", false), ("NoDeed", false), ("NoEnd", false), ("Twice", false), ("NoText", false), ("Forged", false), ("Gainsaid", false), ("TooLong", false), ("NoSigns", false), ("NoLink", true), ("NoBase", false), ("NoPlace", false), ("Crossed", false), ("Wanting", false), ("NoWork", false), ("NoVersion", false), ("NoAuthor", false)]
def kf_12 : Ty → Option Bool := ktOf kb_12 kx_12
def kb_13 : List (String × Bool) := [("int", false), ("bool", false), ("str", false), ("tuple", false), ("list", false), ("dict", false), ("NoneType", false)]
def kx_13 : List (Str × Bool) := [("LoomError", false), ("ToldError", false), ("AskedError", false), ("NoRecord", false), ("NoName", true), ("NoRow", false), ("NoPrices", false), ("NoDeed", false), ("NoEnd", false), ("Twice", false), ("NoText", false), ("Forged", false), ("Gainsaid", false), ("TooLong", false), ("NoSigns", false), ("NoLink", false), ("NoBase", false), ("NoPlace", false), ("Crossed", false), ("Wanting", false), ("NoWork", false), ("NoVersion", false), ("NoAuthor", false)]
def kf_13 : Ty → Option Bool := ktOf kb_13 kx_13
def kb_14 : List (String × Bool) := [("int", false), ("bool", false), ("str", false), ("tuple", false), ("list", false), ("dict", false), ("NoneType", false)]
def kx_14 : List (Str × Bool) := [("LoomError", false), ("ToldError", false), ("AskedError", false), ("NoRecord", false), ("NoName", false), ("NoRow", false), ("NoPrices", false), ("NoDeed", false), ("NoEnd", false), ("Twice", false), ("NoText", false), ("Forged", false), ("Gainsaid", false), ("TooLong", false), ("NoSigns", false), ("NoLink", false), ("NoBase", false), ("NoPlace", true), ("Crossed", false), ("Wanting", false), ("NoWork", false), ("NoVersion", false), ("NoAuthor", false)]
def kf_14 : Ty → Option Bool := ktOf kb_14 kx_14
def kb_15 : List (String × Bool) := [("int", false), ("bool", false), ("str", false), ("tuple", false), ("list", false), ("dict", false), ("NoneType", false)]
def kx_15 : List (Str × Bool) := [("LoomError", false), ("ToldError", false), ("AskedError", false), ("NoRecord", false), ("NoName", false), ("NoRow", false), ("NoPrices", false), ("NoDeed", false), ("NoEnd", false), ("Twice", false), ("NoText", false), ("Forged", false), ("Gainsaid", true), ("TooLong", false), ("NoSigns", false), ("NoLink", false), ("NoBase", false), ("NoPlace", false), ("Crossed", false), ("Wanting", false), ("NoWork", false), ("NoVersion", false), ("NoAuthor", false)]
def kf_15 : Ty → Option Bool := ktOf kb_15 kx_15
def kb_16 : List (String × Bool) := [("int", false), ("bool", false), ("str", false), ("tuple", false), ("list", false), ("dict", false), ("NoneType", false)]
def kx_16 : List (Str × Bool) := [("LoomError", false), ("ToldError", false), ("AskedError", false), ("NoRecord", false), ("NoName", false), ("NoRow", false), ("NoPrices", false), ("NoDeed", false), ("NoEnd", false), ("Twice", false), ("NoText", false), ("Forged", false), ("Gainsaid", false), ("TooLong", false), ("NoSigns", false), ("NoLink", false), ("NoBase", false), ("NoPlace", false), ("Crossed", false), ("Wanting", false), ("NoWork", false), ("NoVersion", false), ("NoAuthor", true)]
def kf_16 : Ty → Option Bool := ktOf kb_16 kx_16
def kb_17 : List (String × Bool) := [("int", false), ("bool", false), ("str", false), ("tuple", false), ("list", false), ("dict", false), ("NoneType", false)]
def kx_17 : List (Str × Bool) := [("LoomError", false), ("ToldError", false), ("AskedError", false), ("NoRecord", false), ("NoName", false), ("NoRow", false), ("NoPrices", false), ("NoDeed", false), ("NoEnd", false), ("Twice", false), ("NoText", false), ("Forged", false), ("Gainsaid", false), ("TooLong", false), ("NoSigns", false), ("NoLink", false), ("NoBase", true), ("NoPlace", false), ("Crossed", false), ("Wanting", false), ("NoWork", false), ("NoVersion", false), ("NoAuthor", false)]
def kf_17 : Ty → Option Bool := ktOf kb_17 kx_17
def kb_18 : List (String × Bool) := [("int", false), ("bool", false), ("str", false), ("tuple", false), ("list", false), ("dict", false), ("NoneType", false)]
def kx_18 : List (Str × Bool) := [("LoomError", false), ("ToldError", false), ("AskedError", false), ("NoRecord", false), ("NoName", false), ("NoRow", false), ("NoPrices", false), ("NoDeed", true), ("NoEnd", false), ("Twice", false), ("NoText", false), ("Forged", false), ("Gainsaid", false), ("TooLong", false), ("NoSigns", false), ("NoLink", false), ("NoBase", false), ("NoPlace", false), ("Crossed", false), ("Wanting", false), ("NoWork", false), ("NoVersion", false), ("NoAuthor", false)]
def kf_18 : Ty → Option Bool := ktOf kb_18 kx_18
def kb_19 : List (String × Bool) := [("int", false), ("bool", false), ("str", false), ("tuple", false), ("list", false), ("dict", false), ("NoneType", false)]
def kx_19 : List (Str × Bool) := [("LoomError", false), ("ToldError", false), ("AskedError", true), ("NoRecord", false), ("NoName", false), ("NoRow", false), ("NoPrices", false), ("NoDeed", false), ("NoEnd", false), ("Twice", false), ("NoText", false), ("Forged", false), ("Gainsaid", false), ("TooLong", true), ("NoSigns", true), ("NoLink", true), ("NoBase", true), ("NoPlace", true), ("Crossed", true), ("Wanting", true), ("NoWork", true), ("NoVersion", true), ("NoAuthor", true)]
def kf_19 : Ty → Option Bool := ktOf kb_19 kx_19
def kb_20 : List (String × Bool) := [("int", false), ("bool", false), ("str", false), ("tuple", false), ("list", false), ("dict", false), ("NoneType", false)]
def kx_20 : List (Str × Bool) := [("LoomError", false), ("ToldError", true), ("AskedError", false), ("NoRecord", true), ("NoName", true), ("NoRow", true), ("NoPrices", true), ("NoDeed", true), ("NoEnd", true), ("Twice", true), ("NoText", true), ("Forged", true), ("Gainsaid", true), ("TooLong", false), ("NoSigns", false), ("NoLink", false), ("NoBase", false), ("NoPlace", false), ("Crossed", false), ("Wanting", false), ("NoWork", false), ("NoVersion", false), ("NoAuthor", false)]
def kf_20 : Ty → Option Bool := ktOf kb_20 kx_20
def kb_21 : List (String × Bool) := [("int", false), ("bool", false), ("str", false), ("tuple", false), ("list", false), ("dict", false), ("NoneType", false)]
def kx_21 : List (Str × Bool) := [("LoomError", false), ("ToldError", false), ("AskedError", false), ("NoRecord", false), ("NoName", false), ("NoRow", false), ("NoPrices", false), ("NoDeed", false), ("NoEnd", false), ("Twice", false), ("NoText", false), ("Forged", false), ("Gainsaid", false), ("TooLong", false), ("NoSigns", false), ("NoLink", false), ("NoBase", false), ("NoPlace", false), ("Crossed", true), ("Wanting", false), ("NoWork", false), ("NoVersion", false), ("NoAuthor", false)]
def kf_21 : Ty → Option Bool := ktOf kb_21 kx_21
def kb_22 : List (String × Bool) := [("int", false), ("bool", false), ("str", false), ("tuple", false), ("list", false), ("dict", false), ("NoneType", false)]
def kx_22 : List (Str × Bool) := [("LoomError", false), ("ToldError", false), ("AskedError", false), ("NoRecord", false), ("NoName", false), ("NoRow", false), ("NoPrices", false), ("NoDeed", false), ("NoEnd", false), ("Twice", false), ("NoText", false), ("Forged", true), ("Gainsaid", false), ("TooLong", false), ("NoSigns", false), ("NoLink", false), ("NoBase", false), ("NoPlace", false), ("Crossed", false), ("Wanting", false), ("NoWork", false), ("NoVersion", false), ("NoAuthor", false)]
def kf_22 : Ty → Option Bool := ktOf kb_22 kx_22
def kb_23 : List (String × Bool) := [("int", false), ("bool", false), ("str", false), ("tuple", false), ("list", false), ("dict", false), ("NoneType", false)]
def kx_23 : List (Str × Bool) := [("LoomError", false), ("ToldError", false), ("AskedError", false), ("NoRecord", false), ("NoName", false), ("NoRow", false), ("NoPrices", false), ("NoDeed", false), ("NoEnd", false), ("Twice", false), ("NoText", false), ("Forged", true), ("Gainsaid", false), ("TooLong", false), ("NoSigns", false), ("NoLink", false), ("NoBase", false), ("NoPlace", false), ("Crossed", false), ("Wanting", false), ("NoWork", false), ("NoVersion", false), ("NoAuthor", true)]
def kf_23 : Ty → Option Bool := ktOf kb_23 kx_23
def kb_24 : List (String × Bool) := [("int", false), ("bool", false), ("str", false), ("tuple", false), ("list", false), ("dict", false), ("NoneType", false)]
def kx_24 : List (Str × Bool) := [("LoomError", false), ("ToldError", false), ("AskedError", false), ("NoRecord", false), ("NoName", false), ("NoRow", false), ("NoPrices", false), ("NoDeed", false), ("NoEnd", false), ("Twice", false), ("NoText", false), ("Forged", false), ("Gainsaid", false), ("TooLong", false), ("NoSigns", false), ("NoLink", false), ("NoBase", false), ("NoPlace", false), ("Crossed", true), ("Wanting", false), ("NoWork", false), ("NoVersion", true), ("NoAuthor", false)]
def kf_24 : Ty → Option Bool := ktOf kb_24 kx_24
def kb_25 : List (String × Bool) := [("int", false), ("bool", false), ("str", false), ("tuple", false), ("list", false), ("dict", false), ("NoneType", false)]
def kx_25 : List (Str × Bool) := [("LoomError", true), ("ToldError", true), ("AskedError", true), ("NoRecord", true), ("NoName", true), ("NoRow", true), ("NoPrices", true), ("NoDeed", true), ("NoEnd", true), ("Twice", true), ("NoText", true), ("Forged", true), ("Gainsaid", true), ("TooLong", true), ("NoSigns", true), ("NoLink", true), ("NoBase", true), ("NoPlace", true), ("Crossed", true), ("Wanting", true), ("NoWork", true), ("NoVersion", true), ("NoAuthor", true)]
def kf_25 : Ty → Option Bool := ktOf kb_25 kx_25
def fb : List Fb := [.glos glos, .frees frees, .excs excs, .f (.exc "LoomError"), .f (.exc "ToldError"), .f (.exc "AskedError"), .f (.exc "NoRecord"), .f (.exc "NoName"), .f (.exc "NoRow"), .f (.exc "NoPrices"), .f (.exc "NoDeed"), .f (.exc "NoEnd"), .f (.exc "Twice"), .f (.exc "TooLong"), .f (.exc "NoSigns"), .f (.exc "NoLink"), .f (.exc "NoBase"), .base "AskedError", .base "ToldError", .oex "NoText", .ini "NoText" "line", .oex "Forged", .ini "Forged" "name", .oex "Gainsaid", .ini "Gainsaid" "record", .oex "NoPlace", .ini "NoPlace" "at", .oex "Crossed", .ini "Crossed" "which", .oex "Wanting", .ini "Wanting" "ends", .oex "NoWork", .ini "NoWork" "work", .oex "NoVersion", .ini "NoVersion" "which", .oex "NoAuthor", .ini "NoAuthor" "name", .xf xs_work "work", .xf xs_ends "ends", .xf xs_record "record", .xf xs_name "name", .xf xs_which "which", .xf xs_at "at", .xf xs_line "line", .kt (.x "Twice") kb_0 kx_0, .kt (.x "Wanting") kb_1 kx_1, .kt (.b "ValueError") kb_2 kx_2, .kt (.x "NoText") kb_3 kx_3, .kt (.x "NoVersion") kb_4 kx_4, .kt (.x "NoWork") kb_5 kx_5, .kt (.x "TooLong") kb_6 kx_6, .kt (.x "NoPrices") kb_7 kx_7, .kt (.x "NoRecord") kb_8 kx_8, .kt (.x "NoRow") kb_9 kx_9, .kt (.x "NoSigns") kb_10 kx_10, .kt (.x "NoEnd") kb_11 kx_11, .kt (.x "NoLink") kb_12 kx_12, .kt (.x "NoName") kb_13 kx_13, .kt (.x "NoPlace") kb_14 kx_14, .kt (.x "Gainsaid") kb_15 kx_15, .kt (.x "NoAuthor") kb_16 kx_16, .kt (.x "NoBase") kb_17 kx_17, .kt (.x "NoDeed") kb_18 kx_18, .kt (.x "AskedError") kb_19 kx_19, .kt (.x "ToldError") kb_20 kx_20, .kt (.x "Crossed") kb_21 kx_21, .kt (.x "Forged") kb_22 kx_22, .ktA [.x "Forged", .x "NoAuthor"] kb_23 kx_23, .ktA [.x "Crossed", .x "NoVersion"] kb_24 kx_24, .kt (.x "LoomError") kb_25 kx_25]
abbrev s_NoText : Stmt := inCls 11 0
def d_NoText : He.DefD := ⟨("NoText", some "__init__"), "__init__", "NoText.__init__", defArgs s_NoText, defBody s_NoText, defScope s_NoText, [.non], []⟩
abbrev s_Forged : Stmt := inCls 12 0
def d_Forged : He.DefD := ⟨("Forged", some "__init__"), "__init__", "Forged.__init__", defArgs s_Forged, defBody s_Forged, defScope s_Forged, [], []⟩
abbrev s_Gainsaid : Stmt := inCls 13 0
def d_Gainsaid : He.DefD := ⟨("Gainsaid", some "__init__"), "__init__", "Gainsaid.__init__", defArgs s_Gainsaid, defBody s_Gainsaid, defScope s_Gainsaid, [], []⟩
abbrev s_NoPlace : Stmt := inCls 18 0
def d_NoPlace : He.DefD := ⟨("NoPlace", some "__init__"), "__init__", "NoPlace.__init__", defArgs s_NoPlace, defBody s_NoPlace, defScope s_NoPlace, [], []⟩
abbrev s_Crossed : Stmt := inCls 19 0
def d_Crossed : He.DefD := ⟨("Crossed", some "__init__"), "__init__", "Crossed.__init__", defArgs s_Crossed, defBody s_Crossed, defScope s_Crossed, [], []⟩
abbrev s_Wanting : Stmt := inCls 20 0
def d_Wanting : He.DefD := ⟨("Wanting", some "__init__"), "__init__", "Wanting.__init__", defArgs s_Wanting, defBody s_Wanting, defScope s_Wanting, [], []⟩
abbrev s_NoWork : Stmt := inCls 21 0
def d_NoWork : He.DefD := ⟨("NoWork", some "__init__"), "__init__", "NoWork.__init__", defArgs s_NoWork, defBody s_NoWork, defScope s_NoWork, [], []⟩
abbrev s_NoVersion : Stmt := inCls 22 0
def d_NoVersion : He.DefD := ⟨("NoVersion", some "__init__"), "__init__", "NoVersion.__init__", defArgs s_NoVersion, defBody s_NoVersion, defScope s_NoVersion, [], []⟩
abbrev s_NoAuthor : Stmt := inCls 23 0
def d_NoAuthor : He.DefD := ⟨("NoAuthor", some "__init__"), "__init__", "NoAuthor.__init__", defArgs s_NoAuthor, defBody s_NoAuthor, defScope s_NoAuthor, [], []⟩
abbrev s__law_bag : Stmt := top 25
def d__law_bag : He.DefD := ⟨("_law_bag", none), "_law_bag", "_law_bag", defArgs s__law_bag, defBody s__law_bag, defScope s__law_bag, [], []⟩
abbrev s__law_take : Stmt := top 26
def d__law_take : He.DefD := ⟨("_law_take", none), "_law_take", "_law_take", defArgs s__law_take, defBody s__law_take, defScope s__law_take, [], []⟩
abbrev s__law_name : Stmt := top 27
def d__law_name : He.DefD := ⟨("_law_name", none), "_law_name", "_law_name", defArgs s__law_name, defBody s__law_name, defScope s__law_name, [], []⟩
abbrev s__law_kinds : Stmt := top 28
def d__law_kinds : He.DefD := ⟨("_law_kinds", none), "_law_kinds", "_law_kinds", defArgs s__law_kinds, defBody s__law_kinds, defScope s__law_kinds, [], []⟩
abbrev s__law_field : Stmt := top 29
def d__law_field : He.DefD := ⟨("_law_field", none), "_law_field", "_law_field", defArgs s__law_field, defBody s__law_field, defScope s__law_field, [], []⟩
abbrev s_law : Stmt := top 30
def d_law : He.DefD := ⟨("law", none), "law", "law", defArgs s_law, defBody s_law, defScope s_law, [], []⟩
def fn : List He.DefD := [d_NoText, d_Forged, d_Gainsaid, d_NoPlace, d_Crossed, d_Wanting, d_NoWork, d_NoVersion, d_NoAuthor, d__law_bag, d__law_take, d__law_name, d__law_kinds, d__law_field, d_law]
section
variable {P : Program} {w : World} {K : PySem.W.Frag} {mg : Str → Option Value} {base : Heap}
theorem gE (E : Ms.Env fb fn K mg base) {x : Str} (h : glos.elem x = true) : mg x = some (.ref (He.ga K x)) := E.glo 0 (List.elem_iff.mp h) rfl
theorem fE (E : Ms.Env fb fn K mg base) {x : Str} (h : frees.elem x = true) : mg x = none := E.free 1 (List.elem_iff.mp h) rfl
theorem x0_LoomError (E : Ms.Env fb fn K mg base) : X0 K mg "LoomError" (He.ga K "LoomError") := E.x0 0 3 (xs := glos) (by decide +kernel)
theorem x0_ToldError (E : Ms.Env fb fn K mg base) : X0 K mg "ToldError" (He.ga K "ToldError") := E.x0 0 4 (xs := glos) (by decide +kernel)
theorem x0_AskedError (E : Ms.Env fb fn K mg base) : X0 K mg "AskedError" (He.ga K "AskedError") := E.x0 0 5 (xs := glos) (by decide +kernel)
theorem x0_NoRecord (E : Ms.Env fb fn K mg base) : X0 K mg "NoRecord" (He.ga K "NoRecord") := E.x0 0 6 (xs := glos) (by decide +kernel)
theorem x0_NoName (E : Ms.Env fb fn K mg base) : X0 K mg "NoName" (He.ga K "NoName") := E.x0 0 7 (xs := glos) (by decide +kernel)
theorem x0_NoRow (E : Ms.Env fb fn K mg base) : X0 K mg "NoRow" (He.ga K "NoRow") := E.x0 0 8 (xs := glos) (by decide +kernel)
theorem x0_NoPrices (E : Ms.Env fb fn K mg base) : X0 K mg "NoPrices" (He.ga K "NoPrices") := E.x0 0 9 (xs := glos) (by decide +kernel)
theorem x0_NoDeed (E : Ms.Env fb fn K mg base) : X0 K mg "NoDeed" (He.ga K "NoDeed") := E.x0 0 10 (xs := glos) (by decide +kernel)
theorem x0_NoEnd (E : Ms.Env fb fn K mg base) : X0 K mg "NoEnd" (He.ga K "NoEnd") := E.x0 0 11 (xs := glos) (by decide +kernel)
theorem x0_Twice (E : Ms.Env fb fn K mg base) : X0 K mg "Twice" (He.ga K "Twice") := E.x0 0 12 (xs := glos) (by decide +kernel)
theorem x0_TooLong (E : Ms.Env fb fn K mg base) : X0 K mg "TooLong" (He.ga K "TooLong") := E.x0 0 13 (xs := glos) (by decide +kernel)
theorem x0_NoSigns (E : Ms.Env fb fn K mg base) : X0 K mg "NoSigns" (He.ga K "NoSigns") := E.x0 0 14 (xs := glos) (by decide +kernel)
theorem x0_NoLink (E : Ms.Env fb fn K mg base) : X0 K mg "NoLink" (He.ga K "NoLink") := E.x0 0 15 (xs := glos) (by decide +kernel)
theorem x0_NoBase (E : Ms.Env fb fn K mg base) : X0 K mg "NoBase" (He.ga K "NoBase") := E.x0 0 16 (xs := glos) (by decide +kernel)
theorem xf_work (E : Ms.Env fb fn K mg base) : XfOk K mg "work" xs_work := E.xf 0 37 (xs := glos) (by decide +kernel)
theorem xf_ends (E : Ms.Env fb fn K mg base) : XfOk K mg "ends" xs_ends := E.xf 0 38 (xs := glos) (by decide +kernel)
theorem xf_record (E : Ms.Env fb fn K mg base) : XfOk K mg "record" xs_record := E.xf 0 39 (xs := glos) (by decide +kernel)
theorem xf_name (E : Ms.Env fb fn K mg base) : XfOk K mg "name" xs_name := E.xf 0 40 (xs := glos) (by decide +kernel)
theorem xf_which (E : Ms.Env fb fn K mg base) : XfOk K mg "which" xs_which := E.xf 0 41 (xs := glos) (by decide +kernel)
theorem xf_at (E : Ms.Env fb fn K mg base) : XfOk K mg "at" xs_at := E.xf 0 42 (xs := glos) (by decide +kernel)
theorem xf_line (E : Ms.Env fb fn K mg base) : XfOk K mg "line" xs_line := E.xf 0 43 (xs := glos) (by decide +kernel)
theorem kt_0 (E : Ms.Env fb fn K mg base) : KtOk K mg (fun t => PySem.W.kitOne K t (tyV K (.x "Twice"))) kf_0 := E.kt 0 2 44 (xs := glos) (ys := excs) (by decide +kernel)
theorem kt_1 (E : Ms.Env fb fn K mg base) : KtOk K mg (fun t => PySem.W.kitOne K t (tyV K (.x "Wanting"))) kf_1 := E.kt 0 2 45 (xs := glos) (ys := excs) (by decide +kernel)
theorem kt_2 (E : Ms.Env fb fn K mg base) : KtOk K mg (fun t => PySem.W.kitOne K t (tyV K (.b "ValueError"))) kf_2 := E.kt 0 2 46 (xs := glos) (ys := excs) (by decide +kernel)
theorem kt_3 (E : Ms.Env fb fn K mg base) : KtOk K mg (fun t => PySem.W.kitOne K t (tyV K (.x "NoText"))) kf_3 := E.kt 0 2 47 (xs := glos) (ys := excs) (by decide +kernel)
theorem kt_4 (E : Ms.Env fb fn K mg base) : KtOk K mg (fun t => PySem.W.kitOne K t (tyV K (.x "NoVersion"))) kf_4 := E.kt 0 2 48 (xs := glos) (ys := excs) (by decide +kernel)
theorem kt_5 (E : Ms.Env fb fn K mg base) : KtOk K mg (fun t => PySem.W.kitOne K t (tyV K (.x "NoWork"))) kf_5 := E.kt 0 2 49 (xs := glos) (ys := excs) (by decide +kernel)
theorem kt_6 (E : Ms.Env fb fn K mg base) : KtOk K mg (fun t => PySem.W.kitOne K t (tyV K (.x "TooLong"))) kf_6 := E.kt 0 2 50 (xs := glos) (ys := excs) (by decide +kernel)
theorem kt_7 (E : Ms.Env fb fn K mg base) : KtOk K mg (fun t => PySem.W.kitOne K t (tyV K (.x "NoPrices"))) kf_7 := E.kt 0 2 51 (xs := glos) (ys := excs) (by decide +kernel)
theorem kt_8 (E : Ms.Env fb fn K mg base) : KtOk K mg (fun t => PySem.W.kitOne K t (tyV K (.x "NoRecord"))) kf_8 := E.kt 0 2 52 (xs := glos) (ys := excs) (by decide +kernel)
theorem kt_9 (E : Ms.Env fb fn K mg base) : KtOk K mg (fun t => PySem.W.kitOne K t (tyV K (.x "NoRow"))) kf_9 := E.kt 0 2 53 (xs := glos) (ys := excs) (by decide +kernel)
theorem kt_10 (E : Ms.Env fb fn K mg base) : KtOk K mg (fun t => PySem.W.kitOne K t (tyV K (.x "NoSigns"))) kf_10 := E.kt 0 2 54 (xs := glos) (ys := excs) (by decide +kernel)
theorem kt_11 (E : Ms.Env fb fn K mg base) : KtOk K mg (fun t => PySem.W.kitOne K t (tyV K (.x "NoEnd"))) kf_11 := E.kt 0 2 55 (xs := glos) (ys := excs) (by decide +kernel)
theorem kt_12 (E : Ms.Env fb fn K mg base) : KtOk K mg (fun t => PySem.W.kitOne K t (tyV K (.x "NoLink"))) kf_12 := E.kt 0 2 56 (xs := glos) (ys := excs) (by decide +kernel)
theorem kt_13 (E : Ms.Env fb fn K mg base) : KtOk K mg (fun t => PySem.W.kitOne K t (tyV K (.x "NoName"))) kf_13 := E.kt 0 2 57 (xs := glos) (ys := excs) (by decide +kernel)
theorem kt_14 (E : Ms.Env fb fn K mg base) : KtOk K mg (fun t => PySem.W.kitOne K t (tyV K (.x "NoPlace"))) kf_14 := E.kt 0 2 58 (xs := glos) (ys := excs) (by decide +kernel)
theorem kt_15 (E : Ms.Env fb fn K mg base) : KtOk K mg (fun t => PySem.W.kitOne K t (tyV K (.x "Gainsaid"))) kf_15 := E.kt 0 2 59 (xs := glos) (ys := excs) (by decide +kernel)
theorem kt_16 (E : Ms.Env fb fn K mg base) : KtOk K mg (fun t => PySem.W.kitOne K t (tyV K (.x "NoAuthor"))) kf_16 := E.kt 0 2 60 (xs := glos) (ys := excs) (by decide +kernel)
theorem kt_17 (E : Ms.Env fb fn K mg base) : KtOk K mg (fun t => PySem.W.kitOne K t (tyV K (.x "NoBase"))) kf_17 := E.kt 0 2 61 (xs := glos) (ys := excs) (by decide +kernel)
theorem kt_18 (E : Ms.Env fb fn K mg base) : KtOk K mg (fun t => PySem.W.kitOne K t (tyV K (.x "NoDeed"))) kf_18 := E.kt 0 2 62 (xs := glos) (ys := excs) (by decide +kernel)
theorem kt_19 (E : Ms.Env fb fn K mg base) : KtOk K mg (fun t => PySem.W.kitOne K t (tyV K (.x "AskedError"))) kf_19 := E.kt 0 2 63 (xs := glos) (ys := excs) (by decide +kernel)
theorem kt_20 (E : Ms.Env fb fn K mg base) : KtOk K mg (fun t => PySem.W.kitOne K t (tyV K (.x "ToldError"))) kf_20 := E.kt 0 2 64 (xs := glos) (ys := excs) (by decide +kernel)
theorem kt_21 (E : Ms.Env fb fn K mg base) : KtOk K mg (fun t => PySem.W.kitOne K t (tyV K (.x "Crossed"))) kf_21 := E.kt 0 2 65 (xs := glos) (ys := excs) (by decide +kernel)
theorem kt_22 (E : Ms.Env fb fn K mg base) : KtOk K mg (fun t => PySem.W.kitOne K t (tyV K (.x "Forged"))) kf_22 := E.kt 0 2 66 (xs := glos) (ys := excs) (by decide +kernel)
theorem kt_23 (E : Ms.Env fb fn K mg base) : KtOk K mg (fun t => PySem.W.kitAny K t (([.x "Forged", .x "NoAuthor"] : List Ty).map (tyV K))) kf_23 := E.ktA 0 2 67 (xs := glos) (ys := excs) (by decide +kernel)
theorem kt_24 (E : Ms.Env fb fn K mg base) : KtOk K mg (fun t => PySem.W.kitAny K t (([.x "Crossed", .x "NoVersion"] : List Ty).map (tyV K))) kf_24 := E.ktA 0 2 68 (xs := glos) (ys := excs) (by decide +kernel)
theorem kt_25 (E : Ms.Env fb fn K mg base) : KtOk K mg (fun t => PySem.W.kitOne K t (tyV K (.x "LoomError"))) kf_25 := E.kt 0 2 69 (xs := glos) (ys := excs) (by decide +kernel)
theorem sc_NoText : FnScope ["self", "line"] ["self", "line"] (defScope s_NoText) := ⟨rfl, rfl, rfl, by decide +kernel, rfl, by decide +kernel, by decide +kernel⟩
theorem ini_NoText (E : Ms.Env fb fn K mg base) {fd : FuncData} (F : FunD K d_NoText.name d_NoText.qual d_NoText.params d_NoText.body d_NoText.scope (d_NoText.dvs K) (d_NoText.kws K) (He.fAd K d_NoText.at_) fd) : FnOk P w K mg base (CXn P w) 1 (He.fAd K d_NoText.at_) fd ["self", "line"] (spIni K "line") := by
  obtain ⟨r, vV⟩ := E.base_ 18 (x := "ToldError") rfl
  exact ini_ok 0 F sc_NoText (.inl rfl) (.inl rfl) rfl rfl (fun cdv A outer s H EE => pe_oini (B := "ToldError") rfl (gE E (by decide +kernel)) r vV (pa_cons (pv 0) (pa_cons pe_str pa_nil))) (fun _ _ _ _ _ _ => rfl) (fun _ _ _ _ _ _ => rfl)
theorem mx_NoText_d (E : Ms.Env fb fn K mg base) : MkX P w K mg base "NoText" "line" 1 0 [] pickN := by
  obtain ⟨fd, F⟩ := E.c.def_ 0 (d := d_NoText) rfl
  obtain ⟨i1, i2, i3⟩ := E.ini 20 (x := "NoText") (fl := "line") rfl
  obtain ⟨its, kb⟩ := F.kbindsD (ps := ["self", "line"]) 1 [] (fun us its _ => us ++ its) (by simp [d_NoText, He.DefD.dvs]) (fun r1 r2 _ => r1.append r2) (fun T kV doc pm an cdv ct us its ws h1 h2 h3 => match us, its, ws, h1, h2, h3 with | [_], [_], [], _, _, _ => ⟨_, rfl, rfl⟩)
  exact ⟨by decide, He.ga K "NoText", _, fd, _, _, _, fun _ _ => .non, (gE E (by decide +kernel)), oexB_ok (E.c.fact 19 (f := .oex "NoText") rfl), i1, i2, i3, ini_NoText E F, kb, fun a vs zs h1 h2 => match vs, zs, h1, h2 with | [], [], _, _ => rfl, fun C T μ H vs zs ds es l1 l2 h h2 => .non⟩
theorem mx_NoText_p (E : Ms.Env fb fn K mg base) : MkX P w K mg base "NoText" "line" 1 1 [] pickP := by
  obtain ⟨fd, F⟩ := E.c.def_ 0 (d := d_NoText) rfl
  obtain ⟨i1, i2, i3⟩ := E.ini 20 (x := "NoText") (fl := "line") rfl
  exact ⟨by decide, He.ga K "NoText", _, fd, _, fun us _ => us, fun vs _ => vs, fun vs _ => vs.headD .non, (gE E (by decide +kernel)), oexB_ok (E.c.fact 19 (f := .oex "NoText") rfl), i1, i2, i3, ini_NoText E F, kb_all F 2 [] (fun us _ => us) (fun h _ => h) (fun T kV doc pm an cdv ct us its ws h1 h2 h3 => match us, its, ws, h1, h2, h3 with | [_, _], [_], [], _, _, _ => ⟨_, rfl, rfl⟩) (by simp [d_NoText, He.DefD.dvs]), fun a vs zs h1 h2 => match vs, h1 with | [v], _ => rfl, fun C T μ H vs zs ds es l1 l2 h h2 => match ds, l1, h with | [d], _, .cons h .nil => h⟩
theorem mx_NoText_k (E : Ms.Env fb fn K mg base) : MkX P w K mg base "NoText" "line" 1 0 ["line"] pickK := by
  obtain ⟨fd, F⟩ := E.c.def_ 0 (d := d_NoText) rfl
  obtain ⟨i1, i2, i3⟩ := E.ini 20 (x := "NoText") (fl := "line") rfl
  exact ⟨by decide, He.ga K "NoText", _, fd, _, fun us ws => us ++ ws, fun vs zs => vs ++ zs, fun _ zs => zs.headD .non, (gE E (by decide +kernel)), oexB_ok (E.c.fact 19 (f := .oex "NoText") rfl), i1, i2, i3, ini_NoText E F, kb_all F 1 ["line"] (fun us ws => us ++ ws) (fun h h2 => h.append h2) (fun T kV doc pm an cdv ct us its ws h1 h2 h3 => match us, its, ws, h1, h2, h3 with | [_], [_], [_], _, _, _ => ⟨_, rfl, rfl⟩) (by simp [d_NoText, He.DefD.dvs]), fun a vs zs h1 h2 => match vs, zs, h1, h2 with | [], [v], _, _ => rfl, fun C T μ H vs zs ds es l1 l2 h h2 => match es, l2, h2 with | [d], _, .cons h .nil => h⟩
theorem sc_Forged : FnScope ["self", "name"] ["self", "name"] (defScope s_Forged) := ⟨rfl, rfl, rfl, by decide +kernel, rfl, by decide +kernel, by decide +kernel⟩
theorem ini_Forged (E : Ms.Env fb fn K mg base) {fd : FuncData} (F : FunD K d_Forged.name d_Forged.qual d_Forged.params d_Forged.body d_Forged.scope (d_Forged.dvs K) (d_Forged.kws K) (He.fAd K d_Forged.at_) fd) : FnOk P w K mg base (CXn P w) 1 (He.fAd K d_Forged.at_) fd ["self", "name"] (spIni K "name") := by
  obtain ⟨r, vV⟩ := E.base_ 18 (x := "ToldError") rfl
  exact ini_ok 0 F sc_Forged (.inl rfl) (.inl rfl) rfl rfl (fun cdv A outer s H EE => pe_oini (B := "ToldError") rfl (gE E (by decide +kernel)) r vV (pa_cons (pv 0) (pa_cons pe_str pa_nil))) (fun _ _ _ _ _ _ => rfl) (fun _ _ _ _ _ _ => rfl)
theorem mx_Forged_k (E : Ms.Env fb fn K mg base) : MkX P w K mg base "Forged" "name" 1 0 ["name"] pickK := by
  obtain ⟨fd, F⟩ := E.c.def_ 1 (d := d_Forged) rfl
  obtain ⟨i1, i2, i3⟩ := E.ini 22 (x := "Forged") (fl := "name") rfl
  exact ⟨by decide, He.ga K "Forged", _, fd, _, fun us ws => us ++ ws, fun vs zs => vs ++ zs, fun _ zs => zs.headD .non, (gE E (by decide +kernel)), oexB_ok (E.c.fact 21 (f := .oex "Forged") rfl), i1, i2, i3, ini_Forged E F, kb_n F 1 ["name"] (fun us ws => us ++ ws) (fun h h2 => h.append h2) (fun kV doc pm an cdv ct us ws h1 h2 => match us, ws, h1, h2 with | [_], [_], _, _ => rfl), fun a vs zs h1 h2 => match vs, zs, h1, h2 with | [], [v], _, _ => rfl, fun C T μ H vs zs ds es l1 l2 h h2 => match es, l2, h2 with | [d], _, .cons h .nil => h⟩
theorem mx_Forged_p (E : Ms.Env fb fn K mg base) : MkX P w K mg base "Forged" "name" 1 1 [] pickP := by
  obtain ⟨fd, F⟩ := E.c.def_ 1 (d := d_Forged) rfl
  obtain ⟨i1, i2, i3⟩ := E.ini 22 (x := "Forged") (fl := "name") rfl
  exact ⟨by decide, He.ga K "Forged", _, fd, _, fun us _ => us, fun vs _ => vs, fun vs _ => vs.headD .non, (gE E (by decide +kernel)), oexB_ok (E.c.fact 21 (f := .oex "Forged") rfl), i1, i2, i3, ini_Forged E F, kb_n F 2 [] (fun us _ => us) (fun h _ => h) (fun kV doc pm an cdv ct us ws h1 h2 => match us, ws, h1, h2 with | [_, _], [], _, _ => rfl), fun a vs zs h1 h2 => match vs, h1 with | [v], _ => rfl, fun C T μ H vs zs ds es l1 l2 h h2 => match ds, l1, h with | [d], _, .cons h .nil => h⟩
theorem sc_Gainsaid : FnScope ["self", "record"] ["self", "record"] (defScope s_Gainsaid) := ⟨rfl, rfl, rfl, by decide +kernel, rfl, by decide +kernel, by decide +kernel⟩
theorem ini_Gainsaid (E : Ms.Env fb fn K mg base) {fd : FuncData} (F : FunD K d_Gainsaid.name d_Gainsaid.qual d_Gainsaid.params d_Gainsaid.body d_Gainsaid.scope (d_Gainsaid.dvs K) (d_Gainsaid.kws K) (He.fAd K d_Gainsaid.at_) fd) : FnOk P w K mg base (CXn P w) 1 (He.fAd K d_Gainsaid.at_) fd ["self", "record"] (spIni K "record") := by
  obtain ⟨r, vV⟩ := E.base_ 18 (x := "ToldError") rfl
  exact ini_ok 0 F sc_Gainsaid (.inl rfl) (.inl rfl) rfl rfl (fun cdv A outer s H EE => pe_oini (B := "ToldError") rfl (gE E (by decide +kernel)) r vV (pa_cons (pv 0) (pa_cons pe_str pa_nil))) (fun _ _ _ _ _ _ => rfl) (fun _ _ _ _ _ _ => rfl)
theorem mx_Gainsaid_k (E : Ms.Env fb fn K mg base) : MkX P w K mg base "Gainsaid" "record" 1 0 ["record"] pickK := by
  obtain ⟨fd, F⟩ := E.c.def_ 2 (d := d_Gainsaid) rfl
  obtain ⟨i1, i2, i3⟩ := E.ini 24 (x := "Gainsaid") (fl := "record") rfl
  exact ⟨by decide, He.ga K "Gainsaid", _, fd, _, fun us ws => us ++ ws, fun vs zs => vs ++ zs, fun _ zs => zs.headD .non, (gE E (by decide +kernel)), oexB_ok (E.c.fact 23 (f := .oex "Gainsaid") rfl), i1, i2, i3, ini_Gainsaid E F, kb_n F 1 ["record"] (fun us ws => us ++ ws) (fun h h2 => h.append h2) (fun kV doc pm an cdv ct us ws h1 h2 => match us, ws, h1, h2 with | [_], [_], _, _ => rfl), fun a vs zs h1 h2 => match vs, zs, h1, h2 with | [], [v], _, _ => rfl, fun C T μ H vs zs ds es l1 l2 h h2 => match es, l2, h2 with | [d], _, .cons h .nil => h⟩
theorem mx_Gainsaid_p (E : Ms.Env fb fn K mg base) : MkX P w K mg base "Gainsaid" "record" 1 1 [] pickP := by
  obtain ⟨fd, F⟩ := E.c.def_ 2 (d := d_Gainsaid) rfl
  obtain ⟨i1, i2, i3⟩ := E.ini 24 (x := "Gainsaid") (fl := "record") rfl
  exact ⟨by decide, He.ga K "Gainsaid", _, fd, _, fun us _ => us, fun vs _ => vs, fun vs _ => vs.headD .non, (gE E (by decide +kernel)), oexB_ok (E.c.fact 23 (f := .oex "Gainsaid") rfl), i1, i2, i3, ini_Gainsaid E F, kb_n F 2 [] (fun us _ => us) (fun h _ => h) (fun kV doc pm an cdv ct us ws h1 h2 => match us, ws, h1, h2 with | [_, _], [], _, _ => rfl), fun a vs zs h1 h2 => match vs, h1 with | [v], _ => rfl, fun C T μ H vs zs ds es l1 l2 h h2 => match ds, l1, h with | [d], _, .cons h .nil => h⟩
theorem sc_NoPlace : FnScope ["self", "at"] ["self", "at"] (defScope s_NoPlace) := ⟨rfl, rfl, rfl, by decide +kernel, rfl, by decide +kernel, by decide +kernel⟩
theorem ini_NoPlace (E : Ms.Env fb fn K mg base) {fd : FuncData} (F : FunD K d_NoPlace.name d_NoPlace.qual d_NoPlace.params d_NoPlace.body d_NoPlace.scope (d_NoPlace.dvs K) (d_NoPlace.kws K) (He.fAd K d_NoPlace.at_) fd) : FnOk P w K mg base (CXn P w) 1 (He.fAd K d_NoPlace.at_) fd ["self", "at"] (spIni K "at") := by
  obtain ⟨r, vV⟩ := E.base_ 17 (x := "AskedError") rfl
  exact ini_ok 0 F sc_NoPlace (.inl rfl) (.inl rfl) rfl rfl (fun cdv A outer s H EE => pe_oini (B := "AskedError") rfl (gE E (by decide +kernel)) r vV (pa_cons (pv 0) (pa_cons pe_str pa_nil))) (fun _ _ _ _ _ _ => rfl) (fun _ _ _ _ _ _ => rfl)
theorem mx_NoPlace_k (E : Ms.Env fb fn K mg base) : MkX P w K mg base "NoPlace" "at" 1 0 ["at"] pickK := by
  obtain ⟨fd, F⟩ := E.c.def_ 3 (d := d_NoPlace) rfl
  obtain ⟨i1, i2, i3⟩ := E.ini 26 (x := "NoPlace") (fl := "at") rfl
  exact ⟨by decide, He.ga K "NoPlace", _, fd, _, fun us ws => us ++ ws, fun vs zs => vs ++ zs, fun _ zs => zs.headD .non, (gE E (by decide +kernel)), oexB_ok (E.c.fact 25 (f := .oex "NoPlace") rfl), i1, i2, i3, ini_NoPlace E F, kb_n F 1 ["at"] (fun us ws => us ++ ws) (fun h h2 => h.append h2) (fun kV doc pm an cdv ct us ws h1 h2 => match us, ws, h1, h2 with | [_], [_], _, _ => rfl), fun a vs zs h1 h2 => match vs, zs, h1, h2 with | [], [v], _, _ => rfl, fun C T μ H vs zs ds es l1 l2 h h2 => match es, l2, h2 with | [d], _, .cons h .nil => h⟩
theorem mx_NoPlace_p (E : Ms.Env fb fn K mg base) : MkX P w K mg base "NoPlace" "at" 1 1 [] pickP := by
  obtain ⟨fd, F⟩ := E.c.def_ 3 (d := d_NoPlace) rfl
  obtain ⟨i1, i2, i3⟩ := E.ini 26 (x := "NoPlace") (fl := "at") rfl
  exact ⟨by decide, He.ga K "NoPlace", _, fd, _, fun us _ => us, fun vs _ => vs, fun vs _ => vs.headD .non, (gE E (by decide +kernel)), oexB_ok (E.c.fact 25 (f := .oex "NoPlace") rfl), i1, i2, i3, ini_NoPlace E F, kb_n F 2 [] (fun us _ => us) (fun h _ => h) (fun kV doc pm an cdv ct us ws h1 h2 => match us, ws, h1, h2 with | [_, _], [], _, _ => rfl), fun a vs zs h1 h2 => match vs, h1 with | [v], _ => rfl, fun C T μ H vs zs ds es l1 l2 h h2 => match ds, l1, h with | [d], _, .cons h .nil => h⟩
theorem sc_Crossed : FnScope ["self", "which"] ["self", "which"] (defScope s_Crossed) := ⟨rfl, rfl, rfl, by decide +kernel, rfl, by decide +kernel, by decide +kernel⟩
theorem ini_Crossed (E : Ms.Env fb fn K mg base) {fd : FuncData} (F : FunD K d_Crossed.name d_Crossed.qual d_Crossed.params d_Crossed.body d_Crossed.scope (d_Crossed.dvs K) (d_Crossed.kws K) (He.fAd K d_Crossed.at_) fd) : FnOk P w K mg base (CXn P w) 1 (He.fAd K d_Crossed.at_) fd ["self", "which"] (spIni K "which") := by
  obtain ⟨r, vV⟩ := E.base_ 17 (x := "AskedError") rfl
  exact ini_ok 0 F sc_Crossed (.inl rfl) (.inl rfl) rfl rfl (fun cdv A outer s H EE => pe_oini (B := "AskedError") rfl (gE E (by decide +kernel)) r vV (pa_cons (pv 0) (pa_cons pe_str pa_nil))) (fun _ _ _ _ _ _ => rfl) (fun _ _ _ _ _ _ => rfl)
theorem mx_Crossed_k (E : Ms.Env fb fn K mg base) : MkX P w K mg base "Crossed" "which" 1 0 ["which"] pickK := by
  obtain ⟨fd, F⟩ := E.c.def_ 4 (d := d_Crossed) rfl
  obtain ⟨i1, i2, i3⟩ := E.ini 28 (x := "Crossed") (fl := "which") rfl
  exact ⟨by decide, He.ga K "Crossed", _, fd, _, fun us ws => us ++ ws, fun vs zs => vs ++ zs, fun _ zs => zs.headD .non, (gE E (by decide +kernel)), oexB_ok (E.c.fact 27 (f := .oex "Crossed") rfl), i1, i2, i3, ini_Crossed E F, kb_n F 1 ["which"] (fun us ws => us ++ ws) (fun h h2 => h.append h2) (fun kV doc pm an cdv ct us ws h1 h2 => match us, ws, h1, h2 with | [_], [_], _, _ => rfl), fun a vs zs h1 h2 => match vs, zs, h1, h2 with | [], [v], _, _ => rfl, fun C T μ H vs zs ds es l1 l2 h h2 => match es, l2, h2 with | [d], _, .cons h .nil => h⟩
theorem mx_Crossed_p (E : Ms.Env fb fn K mg base) : MkX P w K mg base "Crossed" "which" 1 1 [] pickP := by
  obtain ⟨fd, F⟩ := E.c.def_ 4 (d := d_Crossed) rfl
  obtain ⟨i1, i2, i3⟩ := E.ini 28 (x := "Crossed") (fl := "which") rfl
  exact ⟨by decide, He.ga K "Crossed", _, fd, _, fun us _ => us, fun vs _ => vs, fun vs _ => vs.headD .non, (gE E (by decide +kernel)), oexB_ok (E.c.fact 27 (f := .oex "Crossed") rfl), i1, i2, i3, ini_Crossed E F, kb_n F 2 [] (fun us _ => us) (fun h _ => h) (fun kV doc pm an cdv ct us ws h1 h2 => match us, ws, h1, h2 with | [_, _], [], _, _ => rfl), fun a vs zs h1 h2 => match vs, h1 with | [v], _ => rfl, fun C T μ H vs zs ds es l1 l2 h h2 => match ds, l1, h with | [d], _, .cons h .nil => h⟩
theorem sc_Wanting : FnScope ["self", "ends"] ["self", "ends"] (defScope s_Wanting) := ⟨rfl, rfl, rfl, by decide +kernel, rfl, by decide +kernel, by decide +kernel⟩
theorem ini_Wanting (E : Ms.Env fb fn K mg base) {fd : FuncData} (F : FunD K d_Wanting.name d_Wanting.qual d_Wanting.params d_Wanting.body d_Wanting.scope (d_Wanting.dvs K) (d_Wanting.kws K) (He.fAd K d_Wanting.at_) fd) : FnOk P w K mg base (CXn P w) 1 (He.fAd K d_Wanting.at_) fd ["self", "ends"] (spIni K "ends") := by
  obtain ⟨r, vV⟩ := E.base_ 17 (x := "AskedError") rfl
  exact ini_ok 0 F sc_Wanting (.inl rfl) (.inl rfl) rfl rfl (fun cdv A outer s H EE => pe_oini (B := "AskedError") rfl (gE E (by decide +kernel)) r vV (pa_cons (pv 0) (pa_cons pe_str pa_nil))) (fun _ _ _ _ _ _ => rfl) (fun _ _ _ _ _ _ => rfl)
theorem mx_Wanting_k (E : Ms.Env fb fn K mg base) : MkX P w K mg base "Wanting" "ends" 1 0 ["ends"] pickK := by
  obtain ⟨fd, F⟩ := E.c.def_ 5 (d := d_Wanting) rfl
  obtain ⟨i1, i2, i3⟩ := E.ini 30 (x := "Wanting") (fl := "ends") rfl
  exact ⟨by decide, He.ga K "Wanting", _, fd, _, fun us ws => us ++ ws, fun vs zs => vs ++ zs, fun _ zs => zs.headD .non, (gE E (by decide +kernel)), oexB_ok (E.c.fact 29 (f := .oex "Wanting") rfl), i1, i2, i3, ini_Wanting E F, kb_n F 1 ["ends"] (fun us ws => us ++ ws) (fun h h2 => h.append h2) (fun kV doc pm an cdv ct us ws h1 h2 => match us, ws, h1, h2 with | [_], [_], _, _ => rfl), fun a vs zs h1 h2 => match vs, zs, h1, h2 with | [], [v], _, _ => rfl, fun C T μ H vs zs ds es l1 l2 h h2 => match es, l2, h2 with | [d], _, .cons h .nil => h⟩
theorem mx_Wanting_p (E : Ms.Env fb fn K mg base) : MkX P w K mg base "Wanting" "ends" 1 1 [] pickP := by
  obtain ⟨fd, F⟩ := E.c.def_ 5 (d := d_Wanting) rfl
  obtain ⟨i1, i2, i3⟩ := E.ini 30 (x := "Wanting") (fl := "ends") rfl
  exact ⟨by decide, He.ga K "Wanting", _, fd, _, fun us _ => us, fun vs _ => vs, fun vs _ => vs.headD .non, (gE E (by decide +kernel)), oexB_ok (E.c.fact 29 (f := .oex "Wanting") rfl), i1, i2, i3, ini_Wanting E F, kb_n F 2 [] (fun us _ => us) (fun h _ => h) (fun kV doc pm an cdv ct us ws h1 h2 => match us, ws, h1, h2 with | [_, _], [], _, _ => rfl), fun a vs zs h1 h2 => match vs, h1 with | [v], _ => rfl, fun C T μ H vs zs ds es l1 l2 h h2 => match ds, l1, h with | [d], _, .cons h .nil => h⟩
theorem sc_NoWork : FnScope ["self", "work"] ["self", "work"] (defScope s_NoWork) := ⟨rfl, rfl, rfl, by decide +kernel, rfl, by decide +kernel, by decide +kernel⟩
theorem ini_NoWork (E : Ms.Env fb fn K mg base) {fd : FuncData} (F : FunD K d_NoWork.name d_NoWork.qual d_NoWork.params d_NoWork.body d_NoWork.scope (d_NoWork.dvs K) (d_NoWork.kws K) (He.fAd K d_NoWork.at_) fd) : FnOk P w K mg base (CXn P w) 1 (He.fAd K d_NoWork.at_) fd ["self", "work"] (spIni K "work") := by
  obtain ⟨r, vV⟩ := E.base_ 17 (x := "AskedError") rfl
  exact ini_ok 0 F sc_NoWork (.inl rfl) (.inl rfl) rfl rfl (fun cdv A outer s H EE => pe_oini (B := "AskedError") rfl (gE E (by decide +kernel)) r vV (pa_cons (pv 0) (pa_cons pe_str pa_nil))) (fun _ _ _ _ _ _ => rfl) (fun _ _ _ _ _ _ => rfl)
theorem mx_NoWork_k (E : Ms.Env fb fn K mg base) : MkX P w K mg base "NoWork" "work" 1 0 ["work"] pickK := by
  obtain ⟨fd, F⟩ := E.c.def_ 6 (d := d_NoWork) rfl
  obtain ⟨i1, i2, i3⟩ := E.ini 32 (x := "NoWork") (fl := "work") rfl
  exact ⟨by decide, He.ga K "NoWork", _, fd, _, fun us ws => us ++ ws, fun vs zs => vs ++ zs, fun _ zs => zs.headD .non, (gE E (by decide +kernel)), oexB_ok (E.c.fact 31 (f := .oex "NoWork") rfl), i1, i2, i3, ini_NoWork E F, kb_n F 1 ["work"] (fun us ws => us ++ ws) (fun h h2 => h.append h2) (fun kV doc pm an cdv ct us ws h1 h2 => match us, ws, h1, h2 with | [_], [_], _, _ => rfl), fun a vs zs h1 h2 => match vs, zs, h1, h2 with | [], [v], _, _ => rfl, fun C T μ H vs zs ds es l1 l2 h h2 => match es, l2, h2 with | [d], _, .cons h .nil => h⟩
theorem mx_NoWork_p (E : Ms.Env fb fn K mg base) : MkX P w K mg base "NoWork" "work" 1 1 [] pickP := by
  obtain ⟨fd, F⟩ := E.c.def_ 6 (d := d_NoWork) rfl
  obtain ⟨i1, i2, i3⟩ := E.ini 32 (x := "NoWork") (fl := "work") rfl
  exact ⟨by decide, He.ga K "NoWork", _, fd, _, fun us _ => us, fun vs _ => vs, fun vs _ => vs.headD .non, (gE E (by decide +kernel)), oexB_ok (E.c.fact 31 (f := .oex "NoWork") rfl), i1, i2, i3, ini_NoWork E F, kb_n F 2 [] (fun us _ => us) (fun h _ => h) (fun kV doc pm an cdv ct us ws h1 h2 => match us, ws, h1, h2 with | [_, _], [], _, _ => rfl), fun a vs zs h1 h2 => match vs, h1 with | [v], _ => rfl, fun C T μ H vs zs ds es l1 l2 h h2 => match ds, l1, h with | [d], _, .cons h .nil => h⟩
theorem sc_NoVersion : FnScope ["self", "which"] ["self", "which"] (defScope s_NoVersion) := ⟨rfl, rfl, rfl, by decide +kernel, rfl, by decide +kernel, by decide +kernel⟩
theorem ini_NoVersion (E : Ms.Env fb fn K mg base) {fd : FuncData} (F : FunD K d_NoVersion.name d_NoVersion.qual d_NoVersion.params d_NoVersion.body d_NoVersion.scope (d_NoVersion.dvs K) (d_NoVersion.kws K) (He.fAd K d_NoVersion.at_) fd) : FnOk P w K mg base (CXn P w) 1 (He.fAd K d_NoVersion.at_) fd ["self", "which"] (spIni K "which") := by
  obtain ⟨r, vV⟩ := E.base_ 17 (x := "AskedError") rfl
  exact ini_ok 0 F sc_NoVersion (.inl rfl) (.inl rfl) rfl rfl (fun cdv A outer s H EE => pe_oini (B := "AskedError") rfl (gE E (by decide +kernel)) r vV (pa_cons (pv 0) (pa_cons pe_str pa_nil))) (fun _ _ _ _ _ _ => rfl) (fun _ _ _ _ _ _ => rfl)
theorem mx_NoVersion_k (E : Ms.Env fb fn K mg base) : MkX P w K mg base "NoVersion" "which" 1 0 ["which"] pickK := by
  obtain ⟨fd, F⟩ := E.c.def_ 7 (d := d_NoVersion) rfl
  obtain ⟨i1, i2, i3⟩ := E.ini 34 (x := "NoVersion") (fl := "which") rfl
  exact ⟨by decide, He.ga K "NoVersion", _, fd, _, fun us ws => us ++ ws, fun vs zs => vs ++ zs, fun _ zs => zs.headD .non, (gE E (by decide +kernel)), oexB_ok (E.c.fact 33 (f := .oex "NoVersion") rfl), i1, i2, i3, ini_NoVersion E F, kb_n F 1 ["which"] (fun us ws => us ++ ws) (fun h h2 => h.append h2) (fun kV doc pm an cdv ct us ws h1 h2 => match us, ws, h1, h2 with | [_], [_], _, _ => rfl), fun a vs zs h1 h2 => match vs, zs, h1, h2 with | [], [v], _, _ => rfl, fun C T μ H vs zs ds es l1 l2 h h2 => match es, l2, h2 with | [d], _, .cons h .nil => h⟩
theorem mx_NoVersion_p (E : Ms.Env fb fn K mg base) : MkX P w K mg base "NoVersion" "which" 1 1 [] pickP := by
  obtain ⟨fd, F⟩ := E.c.def_ 7 (d := d_NoVersion) rfl
  obtain ⟨i1, i2, i3⟩ := E.ini 34 (x := "NoVersion") (fl := "which") rfl
  exact ⟨by decide, He.ga K "NoVersion", _, fd, _, fun us _ => us, fun vs _ => vs, fun vs _ => vs.headD .non, (gE E (by decide +kernel)), oexB_ok (E.c.fact 33 (f := .oex "NoVersion") rfl), i1, i2, i3, ini_NoVersion E F, kb_n F 2 [] (fun us _ => us) (fun h _ => h) (fun kV doc pm an cdv ct us ws h1 h2 => match us, ws, h1, h2 with | [_, _], [], _, _ => rfl), fun a vs zs h1 h2 => match vs, h1 with | [v], _ => rfl, fun C T μ H vs zs ds es l1 l2 h h2 => match ds, l1, h with | [d], _, .cons h .nil => h⟩
theorem sc_NoAuthor : FnScope ["self", "name"] ["self", "name"] (defScope s_NoAuthor) := ⟨rfl, rfl, rfl, by decide +kernel, rfl, by decide +kernel, by decide +kernel⟩
theorem ini_NoAuthor (E : Ms.Env fb fn K mg base) {fd : FuncData} (F : FunD K d_NoAuthor.name d_NoAuthor.qual d_NoAuthor.params d_NoAuthor.body d_NoAuthor.scope (d_NoAuthor.dvs K) (d_NoAuthor.kws K) (He.fAd K d_NoAuthor.at_) fd) : FnOk P w K mg base (CXn P w) 1 (He.fAd K d_NoAuthor.at_) fd ["self", "name"] (spIni K "name") := by
  obtain ⟨r, vV⟩ := E.base_ 17 (x := "AskedError") rfl
  exact ini_ok 0 F sc_NoAuthor (.inl rfl) (.inl rfl) rfl rfl (fun cdv A outer s H EE => pe_oini (B := "AskedError") rfl (gE E (by decide +kernel)) r vV (pa_cons (pv 0) (pa_cons pe_str pa_nil))) (fun _ _ _ _ _ _ => rfl) (fun _ _ _ _ _ _ => rfl)
theorem mx_NoAuthor_k (E : Ms.Env fb fn K mg base) : MkX P w K mg base "NoAuthor" "name" 1 0 ["name"] pickK := by
  obtain ⟨fd, F⟩ := E.c.def_ 8 (d := d_NoAuthor) rfl
  obtain ⟨i1, i2, i3⟩ := E.ini 36 (x := "NoAuthor") (fl := "name") rfl
  exact ⟨by decide, He.ga K "NoAuthor", _, fd, _, fun us ws => us ++ ws, fun vs zs => vs ++ zs, fun _ zs => zs.headD .non, (gE E (by decide +kernel)), oexB_ok (E.c.fact 35 (f := .oex "NoAuthor") rfl), i1, i2, i3, ini_NoAuthor E F, kb_n F 1 ["name"] (fun us ws => us ++ ws) (fun h h2 => h.append h2) (fun kV doc pm an cdv ct us ws h1 h2 => match us, ws, h1, h2 with | [_], [_], _, _ => rfl), fun a vs zs h1 h2 => match vs, zs, h1, h2 with | [], [v], _, _ => rfl, fun C T μ H vs zs ds es l1 l2 h h2 => match es, l2, h2 with | [d], _, .cons h .nil => h⟩
theorem mx_NoAuthor_p (E : Ms.Env fb fn K mg base) : MkX P w K mg base "NoAuthor" "name" 1 1 [] pickP := by
  obtain ⟨fd, F⟩ := E.c.def_ 8 (d := d_NoAuthor) rfl
  obtain ⟨i1, i2, i3⟩ := E.ini 36 (x := "NoAuthor") (fl := "name") rfl
  exact ⟨by decide, He.ga K "NoAuthor", _, fd, _, fun us _ => us, fun vs _ => vs, fun vs _ => vs.headD .non, (gE E (by decide +kernel)), oexB_ok (E.c.fact 35 (f := .oex "NoAuthor") rfl), i1, i2, i3, ini_NoAuthor E F, kb_n F 2 [] (fun us _ => us) (fun h _ => h) (fun kV doc pm an cdv ct us ws h1 h2 => match us, ws, h1, h2 with | [_, _], [], _, _ => rfl), fun a vs zs h1 h2 => match vs, h1 with | [v], _ => rfl, fun C T μ H vs zs ds es l1 l2 h h2 => match ds, l1, h with | [d], _, .cons h .nil => h⟩
/-! ### _law_bag -/
def N__law_bag : List Str := ["script", "k", "cell"]
theorem sc__law_bag : FnScope N__law_bag ["script", "k"] (defScope s__law_bag) := ⟨rfl, rfl, rfl, by decide +kernel, rfl, by decide +kernel, by decide +kernel⟩
def b__law_bag : M Fl := (M.seq (M.set 2 (M.lit (.int 0)))
  (M.seq (M.cond (M.bool (M.op2 fLt (M.var 1) (M.op1 fLen (M.var 0))))
  (M.set 2 (M.op1 (sc1 gAbs) (M.op2 fIx (M.var 0) (M.var 1))))
  (pure .nx))
  (M.seq (M.cond (M.bool (M.op2 fLt (M.var 2) (M.op2 (fInt gPow) (M.lit (.int 10)) (M.lit (.int 18)))))
  (M.ret (M.newL (M.disp [(M.lit (.int 0)), (M.op2 fAdd (M.lit (.int 1)) (M.op2 (fInt gMod) (M.op2 fAdd (M.op2 (fInt gMul) (M.var 2) (M.lit (.int 7919))) (M.op2 (fInt gMul) (M.lit (.int 104729)) (M.var 1))) (M.lit (.int 2147483646))))])))
  (pure .nx))
  (M.ret (M.newL (M.disp [(M.var 2), (M.op2 fAdd (M.lit (.int 1)) (M.op2 (fInt gMod) (M.op2 fAdd (M.var 2) (M.var 1)) (M.lit (.int 2147483646))))]))))))
def m__law_bag : Fn := runFn 3 2 b__law_bag
theorem bd__law_bag (E : Ms.Env fb fn K mg base) {fa : Addr} {cdv : Value} {A : Around} {outer : List PySem.Env} {s : Shared} {H : Hp} {EE : XK} (hr : Room 0 (XB P w K mg base N__law_bag "_law_bag" (defScope s__law_bag) fa cdv A outer s H EE).A) (tk : L2N.Takes (XB P w K mg base N__law_bag "_law_bag" (defScope s__law_bag) fa cdv A outer s H EE) (WB EE)) : PSs (XB P w K mg base N__law_bag "_law_bag" (defScope s__law_bag) fa cdv A outer s H EE) (defBody s__law_bag) (tDS ⟨K, mg⟩ (WB EE) b__law_bag) :=
  (ds_cons (ds_set sc__law_bag.nd rfl (locOf rfl) d_int)
  (ds_cons (ds_if (dt_cmp (cLt (rmOf hr)) (d_var 1 (pv 1)) (d_blt1 len_ok call_len (by rfl) (fE E (by decide +kernel)) PyProof.Rows.Boot.«len» (d_var 0 (pv 0))) rfl)
  (ds_one (ds_set sc__law_bag.nd rfl (locOf rfl) (d_blt1 abs_ok call_abs (by rfl) (fE E (by decide +kernel)) PyProof.Rows.Boot.«abs» (d_ix (rmOf hr) (d_var 0 (pv 0)) (d_var 1 (pv 1)) (fun _ _ => rfl)))))
  ds_nil)
  (ds_cons (ds_if (dt_cmp (cLt (rmOf hr)) (d_var 2 (pv 2)) (d_pow d_int d_int) rfl)
  (ds_one (ds_ret (d_newL (df_lst (da_cons d_int (da_cons (d_add d_int (d_mod (d_add (d_mul (d_var 2 (pv 2)) d_int) (d_mul d_int (d_var 1 (pv 1)))) d_int)) da_nil))))))
  ds_nil)
  (ds_one (ds_ret (d_newL (df_lst (da_cons (d_var 2 (pv 2)) (da_cons (d_add d_int (d_mod (d_add (d_var 2 (pv 2)) (d_var 1 (pv 1))) d_int)) da_nil)))))))))
theorem ok__law_bag (E : Ms.Env fb fn K mg base) : Def P w K mg base "_law_bag" 1 2 m__law_bag := by
  obtain ⟨fd, F⟩ := E.c.def_ 9 (d := d__law_bag) rfl
  exact ⟨fun ds G h => runFn_len ds G h, He.ga K "_law_bag", fd, ["script", "k"], fnD F sc__law_bag (by decide) (fun cdv A outer s H EE hr tk => bd__law_bag E hr tk), (gE E (by decide +kernel)), F.kp, FunD.bindsN (ps := ["script", "k"]) F fun _ _ _ _ _ _ us hl => match us, hl with | [_, _], _ => rfl⟩
/-! ### _law_take -/
def N__law_take : List Str := ["bag", "many", "found"]
theorem sc__law_take : FnScope N__law_take ["bag", "many"] (defScope s__law_take) := ⟨rfl, rfl, rfl, by decide +kernel, rfl, by decide +kernel, by decide +kernel⟩
def b__law_take : M Fl := (M.seq (M.cond (M.bool (M.op2 (fInt gGt) (M.op2 fIx (M.var 0) (M.lit (.int 0))) (M.lit (.int 0))))
  (M.seq (M.set 2 (M.op2 (fInt gMod) (M.op2 fIx (M.var 0) (M.lit (.int 0))) (M.var 1)))
  (M.seq (M.setIx (M.var 0) (M.lit (.int 0)) (M.op2 (fInt gDiv) (M.op2 fIx (M.var 0) (M.lit (.int 0))) (M.var 1)))
  (M.ret (M.var 2))))
  (pure .nx))
  (M.seq (M.setIx (M.var 0) (M.lit (.int 1)) (M.op2 (fInt gMod) (M.op2 (fInt gMul) (M.op2 fIx (M.var 0) (M.lit (.int 1))) (M.lit (.int 48271))) (M.lit (.int 2147483647))))
  (M.ret (M.op2 (fInt gMod) (M.op2 (fInt gDiv) (M.op2 (fInt gMod) (M.op2 (fInt gMul) (M.op2 fIx (M.var 0) (M.lit (.int 1))) (M.op2 fIx (M.var 0) (M.lit (.int 1)))) (M.lit (.int 2147483629))) (M.lit (.int 64))) (M.var 1)))))
def m__law_take : Fn := runFn 3 2 b__law_take
theorem bd__law_take (E : Ms.Env fb fn K mg base) {fa : Addr} {cdv : Value} {A : Around} {outer : List PySem.Env} {s : Shared} {H : Hp} {EE : XK} (hr : Room 0 (XB P w K mg base N__law_take "_law_take" (defScope s__law_take) fa cdv A outer s H EE).A) (tk : L2N.Takes (XB P w K mg base N__law_take "_law_take" (defScope s__law_take) fa cdv A outer s H EE) (WB EE)) : PSs (XB P w K mg base N__law_take "_law_take" (defScope s__law_take) fa cdv A outer s H EE) (defBody s__law_take) (tDS ⟨K, mg⟩ (WB EE) b__law_take) :=
  (ds_cons (ds_if (dt_cmp cGt (d_ix (rmOf hr) (d_var 0 (pv 0)) d_int (fun _ _ => rfl)) d_int rfl)
  (ds_cons (ds_set sc__law_take.nd rfl (locOf rfl) (d_mod (d_ix (rmOf hr) (d_var 0 (pv 0)) d_int (fun _ _ => rfl)) (d_var 1 (pv 1))))
  (ds_cons (ds_setIx (d_fdiv (d_ix (rmOf hr) (d_var 0 (pv 0)) d_int (fun _ _ => rfl)) (d_var 1 (pv 1))) (d_var 0 (pv 0)) d_int)
  (ds_one (ds_ret (d_var 2 (pv 2))))))
  ds_nil)
  (ds_cons (ds_setIx (d_mod (d_mul (d_ix (rmOf hr) (d_var 0 (pv 0)) d_int (fun _ _ => rfl)) d_int) d_int) (d_var 0 (pv 0)) d_int)
  (ds_one (ds_ret (d_mod (d_fdiv (d_mod (d_mul (d_ix (rmOf hr) (d_var 0 (pv 0)) d_int (fun _ _ => rfl)) (d_ix (rmOf hr) (d_var 0 (pv 0)) d_int (fun _ _ => rfl))) d_int) d_int) (d_var 1 (pv 1)))))))
theorem ok__law_take (E : Ms.Env fb fn K mg base) : Def P w K mg base "_law_take" 1 2 m__law_take := by
  obtain ⟨fd, F⟩ := E.c.def_ 10 (d := d__law_take) rfl
  exact ⟨fun ds G h => runFn_len ds G h, He.ga K "_law_take", fd, ["bag", "many"], fnD F sc__law_take (by decide) (fun cdv A outer s H EE hr tk => bd__law_take E hr tk), (gE E (by decide +kernel)), F.kp, FunD.bindsN (ps := ["bag", "many"]) F fun _ _ _ _ _ _ us hl => match us, hl with | [_, _], _ => rfl⟩
/-! ### _law_kinds -/
def N__law_kinds : List Str := ["e", "some", "words", "k"]
theorem sc__law_kinds : FnScope N__law_kinds ["e"] (defScope s__law_kinds) := ⟨rfl, rfl, rfl, by decide +kernel, rfl, by decide +kernel, by decide +kernel⟩
def b__law_kinds : M Fl := (M.seq (M.set 1 (M.lst (M.disp [(M.isI kf_19 (M.var 0)), (M.isI kf_20 (M.var 0)), (M.isI kf_21 (M.var 0)), (M.isI kf_22 (M.var 0))])))
  (M.seq (M.set 1 (M.op2 fAdd (M.var 1) (M.lst (M.disp [(M.isI kf_15 (M.var 0)), (M.isI kf_16 (M.var 0)), (M.isI kf_17 (M.var 0)), (M.isI kf_18 (M.var 0))]))))
  (M.seq (M.set 1 (M.op2 fAdd (M.var 1) (M.lst (M.disp [(M.isI kf_11 (M.var 0)), (M.isI kf_12 (M.var 0)), (M.isI kf_13 (M.var 0)), (M.isI kf_14 (M.var 0))]))))
  (M.seq (M.set 1 (M.op2 fAdd (M.var 1) (M.lst (M.disp [(M.isI kf_7 (M.var 0)), (M.isI kf_8 (M.var 0)), (M.isI kf_9 (M.var 0)), (M.isI kf_10 (M.var 0))]))))
  (M.seq (M.set 1 (M.op2 fAdd (M.var 1) (M.lst (M.disp [(M.isI kf_3 (M.var 0)), (M.isI kf_4 (M.var 0)), (M.isI kf_5 (M.var 0)), (M.isI kf_6 (M.var 0))]))))
  (M.seq (M.set 1 (M.op2 fAdd (M.var 1) (M.lst (M.disp [(M.isI kf_0 (M.var 0)), (M.isI kf_1 (M.var 0)), (M.isI kf_2 (M.var 0))]))))
  (M.seq (M.set 2 (M.lst (M.disp [(M.lit (.str "asked ")), (M.lit (.str "told ")), (M.lit (.str "Crossed")), (M.lit (.str "Forged")), (M.lit (.str "Gainsaid")), (M.lit (.str "NoAuthor")), (M.lit (.str "NoBase")), (M.lit (.str "NoDeed")), (M.lit (.str "NoEnd")), (M.lit (.str "NoLink"))])))
  (M.seq (M.set 2 (M.op2 fAdd (M.var 2) (M.lst (M.disp [(M.lit (.str "NoName")), (M.lit (.str "NoPlace")), (M.lit (.str "NoPrices")), (M.lit (.str "NoRecord")), (M.lit (.str "NoRow")), (M.lit (.str "NoSigns")), (M.lit (.str "NoText")), (M.lit (.str "NoVersion")), (M.lit (.str "NoWork"))]))))
  (M.seq (M.set 2 (M.op2 fAdd (M.var 2) (M.lst (M.disp [(M.lit (.str "TooLong")), (M.lit (.str "Twice")), (M.lit (.str "Wanting")), (M.lit (.str "+"))]))))
  (M.ret (M.join (M.lit (.str "")) (M.lst (M.comp [3] (M.range1 [(M.lit (.int 23))]) (.one 3) (M.truth (M.op2 fIx (M.var 1) (M.var 3))) (M.op2 fIx (M.var 2) (M.var 3)))))))))))))))
def m__law_kinds : Fn := runFn 4 1 b__law_kinds
theorem bd__law_kinds (E : Ms.Env fb fn K mg base) {fa : Addr} {cdv : Value} {A : Around} {outer : List PySem.Env} {s : Shared} {H : Hp} {EE : XK} (hr : Room 0 (XB P w K mg base N__law_kinds "_law_kinds" (defScope s__law_kinds) fa cdv A outer s H EE).A) (tk : L2N.Takes (XB P w K mg base N__law_kinds "_law_kinds" (defScope s__law_kinds) fa cdv A outer s H EE) (WB EE)) : PSs (XB P w K mg base N__law_kinds "_law_kinds" (defScope s__law_kinds) fa cdv A outer s H EE) (defBody s__law_kinds) (tDS ⟨K, mg⟩ (WB EE) b__law_kinds) :=
  (ds_cons (ds_set sc__law_kinds.nd rfl (locOf rfl) (d_fr (df_lst (da_cons (d_isI (by rfl) (fE E (by decide +kernel)) (d_var 0 (pv 0)) (pe_glob (v := .ref (He.ga K "AskedError")) (by rfl) (gE E (by decide +kernel)) (by rfl)) (.own _) (kt_19 E)) (da_cons (d_isI (by rfl) (fE E (by decide +kernel)) (d_var 0 (pv 0)) (pe_glob (v := .ref (He.ga K "ToldError")) (by rfl) (gE E (by decide +kernel)) (by rfl)) (.own _) (kt_20 E)) (da_cons (d_isI (by rfl) (fE E (by decide +kernel)) (d_var 0 (pv 0)) (pe_glob (v := .ref (He.ga K "Crossed")) (by rfl) (gE E (by decide +kernel)) (by rfl)) (.own _) (kt_21 E)) (da_cons (d_isI (by rfl) (fE E (by decide +kernel)) (d_var 0 (pv 0)) (pe_glob (v := .ref (He.ga K "Forged")) (by rfl) (gE E (by decide +kernel)) (by rfl)) (.own _) (kt_22 E)) da_nil)))))))
  (ds_cons (ds_set sc__law_kinds.nd rfl (locOf rfl) (d_add (d_var 1 (pv 1)) (d_fr (df_lst (da_cons (d_isI (by rfl) (fE E (by decide +kernel)) (d_var 0 (pv 0)) (pe_glob (v := .ref (He.ga K "Gainsaid")) (by rfl) (gE E (by decide +kernel)) (by rfl)) (.own _) (kt_15 E)) (da_cons (d_isI (by rfl) (fE E (by decide +kernel)) (d_var 0 (pv 0)) (pe_glob (v := .ref (He.ga K "NoAuthor")) (by rfl) (gE E (by decide +kernel)) (by rfl)) (.own _) (kt_16 E)) (da_cons (d_isI (by rfl) (fE E (by decide +kernel)) (d_var 0 (pv 0)) (pe_glob (v := .ref (He.ga K "NoBase")) (by rfl) (gE E (by decide +kernel)) (by rfl)) (.own _) (kt_17 E)) (da_cons (d_isI (by rfl) (fE E (by decide +kernel)) (d_var 0 (pv 0)) (pe_glob (v := .ref (He.ga K "NoDeed")) (by rfl) (gE E (by decide +kernel)) (by rfl)) (.own _) (kt_18 E)) da_nil))))))))
  (ds_cons (ds_set sc__law_kinds.nd rfl (locOf rfl) (d_add (d_var 1 (pv 1)) (d_fr (df_lst (da_cons (d_isI (by rfl) (fE E (by decide +kernel)) (d_var 0 (pv 0)) (pe_glob (v := .ref (He.ga K "NoEnd")) (by rfl) (gE E (by decide +kernel)) (by rfl)) (.own _) (kt_11 E)) (da_cons (d_isI (by rfl) (fE E (by decide +kernel)) (d_var 0 (pv 0)) (pe_glob (v := .ref (He.ga K "NoLink")) (by rfl) (gE E (by decide +kernel)) (by rfl)) (.own _) (kt_12 E)) (da_cons (d_isI (by rfl) (fE E (by decide +kernel)) (d_var 0 (pv 0)) (pe_glob (v := .ref (He.ga K "NoName")) (by rfl) (gE E (by decide +kernel)) (by rfl)) (.own _) (kt_13 E)) (da_cons (d_isI (by rfl) (fE E (by decide +kernel)) (d_var 0 (pv 0)) (pe_glob (v := .ref (He.ga K "NoPlace")) (by rfl) (gE E (by decide +kernel)) (by rfl)) (.own _) (kt_14 E)) da_nil))))))))
  (ds_cons (ds_set sc__law_kinds.nd rfl (locOf rfl) (d_add (d_var 1 (pv 1)) (d_fr (df_lst (da_cons (d_isI (by rfl) (fE E (by decide +kernel)) (d_var 0 (pv 0)) (pe_glob (v := .ref (He.ga K "NoPrices")) (by rfl) (gE E (by decide +kernel)) (by rfl)) (.own _) (kt_7 E)) (da_cons (d_isI (by rfl) (fE E (by decide +kernel)) (d_var 0 (pv 0)) (pe_glob (v := .ref (He.ga K "NoRecord")) (by rfl) (gE E (by decide +kernel)) (by rfl)) (.own _) (kt_8 E)) (da_cons (d_isI (by rfl) (fE E (by decide +kernel)) (d_var 0 (pv 0)) (pe_glob (v := .ref (He.ga K "NoRow")) (by rfl) (gE E (by decide +kernel)) (by rfl)) (.own _) (kt_9 E)) (da_cons (d_isI (by rfl) (fE E (by decide +kernel)) (d_var 0 (pv 0)) (pe_glob (v := .ref (He.ga K "NoSigns")) (by rfl) (gE E (by decide +kernel)) (by rfl)) (.own _) (kt_10 E)) da_nil))))))))
  (ds_cons (ds_set sc__law_kinds.nd rfl (locOf rfl) (d_add (d_var 1 (pv 1)) (d_fr (df_lst (da_cons (d_isI (by rfl) (fE E (by decide +kernel)) (d_var 0 (pv 0)) (pe_glob (v := .ref (He.ga K "NoText")) (by rfl) (gE E (by decide +kernel)) (by rfl)) (.own _) (kt_3 E)) (da_cons (d_isI (by rfl) (fE E (by decide +kernel)) (d_var 0 (pv 0)) (pe_glob (v := .ref (He.ga K "NoVersion")) (by rfl) (gE E (by decide +kernel)) (by rfl)) (.own _) (kt_4 E)) (da_cons (d_isI (by rfl) (fE E (by decide +kernel)) (d_var 0 (pv 0)) (pe_glob (v := .ref (He.ga K "NoWork")) (by rfl) (gE E (by decide +kernel)) (by rfl)) (.own _) (kt_5 E)) (da_cons (d_isI (by rfl) (fE E (by decide +kernel)) (d_var 0 (pv 0)) (pe_glob (v := .ref (He.ga K "TooLong")) (by rfl) (gE E (by decide +kernel)) (by rfl)) (.own _) (kt_6 E)) da_nil))))))))
  (ds_cons (ds_set sc__law_kinds.nd rfl (locOf rfl) (d_add (d_var 1 (pv 1)) (d_fr (df_lst (da_cons (d_isI (by rfl) (fE E (by decide +kernel)) (d_var 0 (pv 0)) (pe_glob (v := .ref (He.ga K "Twice")) (by rfl) (gE E (by decide +kernel)) (by rfl)) (.own _) (kt_0 E)) (da_cons (d_isI (by rfl) (fE E (by decide +kernel)) (d_var 0 (pv 0)) (pe_glob (v := .ref (He.ga K "Wanting")) (by rfl) (gE E (by decide +kernel)) (by rfl)) (.own _) (kt_1 E)) (da_cons (d_isI (by rfl) (fE E (by decide +kernel)) (d_var 0 (pv 0)) (pe_bltn (v := .ty "ValueError") (by rfl) (fE E (by decide +kernel)) PyProof.Rows.Boot.«ValueError» (by rfl)) (.ty _) (kt_2 E)) da_nil)))))))
  (ds_cons (ds_set sc__law_kinds.nd rfl (locOf rfl) (d_fr (df_lst (da_cons d_str (da_cons d_str (da_cons d_str (da_cons d_str (da_cons d_str (da_cons d_str (da_cons d_str (da_cons d_str (da_cons d_str (da_cons d_str da_nil)))))))))))))
  (ds_cons (ds_set sc__law_kinds.nd rfl (locOf rfl) (d_add (d_var 2 (pv 2)) (d_fr (df_lst (da_cons d_str (da_cons d_str (da_cons d_str (da_cons d_str (da_cons d_str (da_cons d_str (da_cons d_str (da_cons d_str (da_cons d_str da_nil)))))))))))))
  (ds_cons (ds_set sc__law_kinds.nd rfl (locOf rfl) (d_add (d_var 2 (pv 2)) (d_fr (df_lst (da_cons d_str (da_cons d_str (da_cons d_str (da_cons d_str da_nil))))))))
  (ds_one (ds_ret (d_join d_str (d_fr (df_comp (own := [("k", 3)]) rfl sc__law_kinds.nd (di_range1 (by rfl) (fE E (by decide +kernel)) (da_cons d_int da_nil)) (by show BlkOk N__law_kinds (defScope s__law_kinds) _ _; exact ⟨rfl, by decide +kernel, by decide +kernel, by decide +kernel, by decide +kernel⟩) rfl (fun _ _ _ _ _ => (tg_one sc__law_kinds.nd rfl (locOf rfl))) (fun _ _ _ _ _ => (dts_one (dt_truth (d_ix (rmOf hr) (d_var 1 (pv 1)) (d_var 3 (pv 3)) (fun _ _ => rfl))))) (fun _ _ _ _ _ => (d_ix (rmOf hr) (d_var 2 (pv 2)) (d_var 3 (pv 3)) (fun _ _ => rfl)))))))))))))))))
theorem ok__law_kinds (E : Ms.Env fb fn K mg base) : Def P w K mg base "_law_kinds" 1 1 m__law_kinds := by
  obtain ⟨fd, F⟩ := E.c.def_ 12 (d := d__law_kinds) rfl
  exact ⟨fun ds G h => runFn_len ds G h, He.ga K "_law_kinds", fd, ["e"], fnD F sc__law_kinds (by decide) (fun cdv A outer s H EE hr tk => bd__law_kinds E hr tk), (gE E (by decide +kernel)), F.kp, FunD.bindsN (ps := ["e"]) F fun _ _ _ _ _ _ us hl => match us, hl with | [_], _ => rfl⟩
/-! ### _law_field -/
def N__law_field : List Str := ["e"]
theorem sc__law_field : FnScope N__law_field ["e"] (defScope s__law_field) := ⟨rfl, rfl, rfl, by decide +kernel, rfl, by decide +kernel, by decide +kernel⟩
def b__law_field : M Fl := (M.seq (M.cond (M.truth (M.isI kf_14 (M.var 0)))
  (M.ret (M.xf "at" xs_at (M.var 0)))
  (pure .nx))
  (M.seq (M.cond (M.truth (M.isI kf_24 (M.var 0)))
  (M.ret (M.xf "which" xs_which (M.var 0)))
  (pure .nx))
  (M.seq (M.cond (M.truth (M.isI kf_23 (M.var 0)))
  (M.ret (M.xf "name" xs_name (M.var 0)))
  (pure .nx))
  (M.seq (M.cond (M.truth (M.isI kf_15 (M.var 0)))
  (M.ret (M.xf "record" xs_record (M.var 0)))
  (pure .nx))
  (M.seq (M.cond (M.truth (M.isI kf_1 (M.var 0)))
  (M.ret (M.xf "ends" xs_ends (M.var 0)))
  (pure .nx))
  (M.ret (M.ite (M.truth (M.isI kf_5 (M.var 0))) (M.xf "work" xs_work (M.var 0)) (M.lit .non))))))))
def m__law_field : Fn := runFn 1 1 b__law_field
theorem bd__law_field (E : Ms.Env fb fn K mg base) {fa : Addr} {cdv : Value} {A : Around} {outer : List PySem.Env} {s : Shared} {H : Hp} {EE : XK} (hr : Room 0 (XB P w K mg base N__law_field "_law_field" (defScope s__law_field) fa cdv A outer s H EE).A) (tk : L2N.Takes (XB P w K mg base N__law_field "_law_field" (defScope s__law_field) fa cdv A outer s H EE) (WB EE)) : PSs (XB P w K mg base N__law_field "_law_field" (defScope s__law_field) fa cdv A outer s H EE) (defBody s__law_field) (tDS ⟨K, mg⟩ (WB EE) b__law_field) :=
  (ds_cons (ds_if (dt_truth (d_isI (by rfl) (fE E (by decide +kernel)) (d_var 0 (pv 0)) (pe_glob (v := .ref (He.ga K "NoPlace")) (by rfl) (gE E (by decide +kernel)) (by rfl)) (.own _) (kt_14 E)))
  (ds_one (ds_ret (d_xf (xf_at E) (d_var 0 (pv 0)))))
  ds_nil)
  (ds_cons (ds_if (dt_truth (d_isIT (by rfl) (fE E (by decide +kernel)) (d_var 0 (pv 0)) (.cons (pe_glob (v := .ref (He.ga K "Crossed")) (by rfl) (gE E (by decide +kernel)) (by rfl)) (.own _) rfl (.cons (pe_glob (v := .ref (He.ga K "NoVersion")) (by rfl) (gE E (by decide +kernel)) (by rfl)) (.own _) rfl .nil)) (by simp) (kt_24 E)))
  (ds_one (ds_ret (d_xf (xf_which E) (d_var 0 (pv 0)))))
  ds_nil)
  (ds_cons (ds_if (dt_truth (d_isIT (by rfl) (fE E (by decide +kernel)) (d_var 0 (pv 0)) (.cons (pe_glob (v := .ref (He.ga K "Forged")) (by rfl) (gE E (by decide +kernel)) (by rfl)) (.own _) rfl (.cons (pe_glob (v := .ref (He.ga K "NoAuthor")) (by rfl) (gE E (by decide +kernel)) (by rfl)) (.own _) rfl .nil)) (by simp) (kt_23 E)))
  (ds_one (ds_ret (d_xf (xf_name E) (d_var 0 (pv 0)))))
  ds_nil)
  (ds_cons (ds_if (dt_truth (d_isI (by rfl) (fE E (by decide +kernel)) (d_var 0 (pv 0)) (pe_glob (v := .ref (He.ga K "Gainsaid")) (by rfl) (gE E (by decide +kernel)) (by rfl)) (.own _) (kt_15 E)))
  (ds_one (ds_ret (d_xf (xf_record E) (d_var 0 (pv 0)))))
  ds_nil)
  (ds_cons (ds_if (dt_truth (d_isI (by rfl) (fE E (by decide +kernel)) (d_var 0 (pv 0)) (pe_glob (v := .ref (He.ga K "Wanting")) (by rfl) (gE E (by decide +kernel)) (by rfl)) (.own _) (kt_1 E)))
  (ds_one (ds_ret (d_xf (xf_ends E) (d_var 0 (pv 0)))))
  ds_nil)
  (ds_one (ds_ret (d_if (dt_truth (d_isI (by rfl) (fE E (by decide +kernel)) (d_var 0 (pv 0)) (pe_glob (v := .ref (He.ga K "NoWork")) (by rfl) (gE E (by decide +kernel)) (by rfl)) (.own _) (kt_5 E))) (d_xf (xf_work E) (d_var 0 (pv 0))) d_non))))))))
theorem ok__law_field (E : Ms.Env fb fn K mg base) : Def P w K mg base "_law_field" 1 1 m__law_field := by
  obtain ⟨fd, F⟩ := E.c.def_ 13 (d := d__law_field) rfl
  exact ⟨fun ds G h => runFn_len ds G h, He.ga K "_law_field", fd, ["e"], fnD F sc__law_field (by decide) (fun cdv A outer s H EE hr tk => bd__law_field E hr tk), (gE E (by decide +kernel)), F.kp, FunD.bindsN (ps := ["e"]) F fun _ _ _ _ _ _ us hl => match us, hl with | [_], _ => rfl⟩
/-! ### _law_name -/
def N__law_name : List Str := ["bag", "many", "k"]
theorem sc__law_name : FnScope N__law_name ["bag"] (defScope s__law_name) := ⟨rfl, rfl, rfl, by decide +kernel, rfl, by decide +kernel, by decide +kernel⟩
def b__law_name : M Fl := (M.seq (M.set 1 (M.op2 fAdd (M.lit (.int 1)) (M.op2 fIx (M.lst (M.disp [(M.call m__law_take [(M.var 0), (M.lit (.int 3))]), (M.call m__law_take [(M.var 0), (M.lit (.int 8))])])) (M.op1 (sc1 gInt) (M.op2 fEq (M.call m__law_take [(M.var 0), (M.lit (.int 4))]) (M.lit (.int 0)))))))
  (M.ret (M.join (M.lit (.str "")) (M.lst (M.comp [2] (M.range1 [(M.var 1)]) (.one 2) (pure true) (M.op2 fIx (M.lit (.str "abcdefghijklmnopqrstuvwxyz")) (M.call m__law_take [(M.var 0), (M.lit (.int 26))])))))))
def m__law_name : Fn := runFn 3 1 b__law_name
theorem bd__law_name (E : Ms.Env fb fn K mg base) {fa : Addr} {cdv : Value} {A : Around} {outer : List PySem.Env} {s : Shared} {H : Hp} {EE : XK} (hr : Room 1 (XB P w K mg base N__law_name "_law_name" (defScope s__law_name) fa cdv A outer s H EE).A) (tk : L2N.Takes (XB P w K mg base N__law_name "_law_name" (defScope s__law_name) fa cdv A outer s H EE) (WB EE)) : PSs (XB P w K mg base N__law_name "_law_name" (defScope s__law_name) fa cdv A outer s H EE) (defBody s__law_name) (tDS ⟨K, mg⟩ (WB EE) b__law_name) :=
  (ds_cons (ds_set sc__law_name.nd rfl (locOf rfl) (d_add d_int (d_ix (rmOf hr) (d_fr (df_lst (da_cons (d_call (ok__law_take E) hr (by decide) tk (by rfl) (da_cons (d_var 0 (pv 0)) (da_cons d_int da_nil))) (da_cons (d_call (ok__law_take E) hr (by decide) tk (by rfl) (da_cons (d_var 0 (pv 0)) (da_cons d_int da_nil))) da_nil)))) (d_bltT1 int_ok1 call_int1 (by rfl) (fE E (by decide +kernel)) PyProof.Rows.Boot.«int» (d_cmp (cEq (rmOf hr)) (d_call (ok__law_take E) hr (by decide) tk (by rfl) (da_cons (d_var 0 (pv 0)) (da_cons d_int da_nil))) d_int rfl)) (fun _ _ => rfl))))
  (ds_one (ds_ret (d_join d_str (d_fr (df_comp (own := [("k", 2)]) rfl sc__law_name.nd (di_range1 (by rfl) (fE E (by decide +kernel)) (da_cons (d_var 1 (pv 1)) da_nil)) (by show BlkOk N__law_name (defScope s__law_name) _ _; exact ⟨rfl, by decide +kernel, by decide +kernel, by decide +kernel, by decide +kernel⟩) rfl (fun _ _ _ _ _ => (tg_one sc__law_name.nd rfl (locOf rfl))) (fun _ _ _ _ _ => dts_nil) (fun _ _ _ _ _ => (d_ix (rmOf hr) d_str (d_call (ok__law_take E) hr (by decide) takes0 (by rfl) (da_cons (d_var 0 (pv 0)) (da_cons d_int da_nil))) (fun _ _ => rfl)))))))))
theorem ok__law_name (E : Ms.Env fb fn K mg base) : Def P w K mg base "_law_name" 2 1 m__law_name := by
  obtain ⟨fd, F⟩ := E.c.def_ 11 (d := d__law_name) rfl
  exact ⟨fun ds G h => runFn_len ds G h, He.ga K "_law_name", fd, ["bag"], fnD F sc__law_name (by decide) (fun cdv A outer s H EE hr tk => bd__law_name E hr tk), (gE E (by decide +kernel)), F.kp, FunD.bindsN (ps := ["bag"]) F fun _ _ _ _ _ _ us hl => match us, hl with | [_], _ => rfl⟩
/-! ### law -/
def N_law : List Str := ["script", "k", "bag", "nam1", "many", "rec1", "told", "asked", "some", "due", "family", "pairs", "e", "word"]
theorem sc_law : FnScope N_law ["script"] (defScope s_law) := ⟨rfl, rfl, rfl, by decide +kernel, rfl, by decide +kernel, by decide +kernel⟩
def b_law : M Fl := (M.seq (M.for_ (M.range1 [(M.op2 fAdd (M.lit (.int 1)) (M.op2 (fInt gMin) (M.op1 fLen (M.var 0)) (M.lit (.int 10))))]) (.one 1)
  (M.seq (M.set 2 (M.call m__law_bag [(M.var 0), (M.var 1)]))
  (M.seq (M.set 3 (M.op2 fIx (M.lst (M.disp [(M.call m__law_name [(M.var 2)]), (M.lit (.str "")), (M.lit (.str "A b"))])) (M.call m__law_take [(M.var 2), (M.lit (.int 3))])))
  (M.seq (M.set 4 (M.op2 (fInt gSub) (M.call m__law_take [(M.var 2), (M.op2 (fInt gPow) (M.lit (.int 10)) (M.lit (.int 39)))]) (M.lit (.int 7))))
  (M.seq (M.set 5 (M.tup [(M.lit (.str "off")), (M.lit (.str "ann")), (M.call m__law_take [(M.var 2), (M.lit (.int 9))])]))
  (M.seq (M.set 6 (M.lst (M.disp [(M.tup [(M.exc0 "NoRecord" (M.lit (.str "x"))), (M.lit (.str "NoRecord"))]), (M.tup [(M.exc0 "NoName" (M.lit (.str "x"))), (M.lit (.str "NoName"))]), (M.tup [(M.mkX "NoText" "line" 0 0 pickN [] []), (M.lit (.str "NoText"))]), (M.tup [(M.exc0 "NoRow" (M.lit (.str "x"))), (M.lit (.str "NoRow"))])])))
  (M.seq (M.set 6 (M.op2 fAdd (M.var 6) (M.lst (M.disp [(M.tup [(M.exc0 "NoPrices" (M.lit (.str "x"))), (M.lit (.str "NoPrices"))]), (M.tup [(M.exc0 "NoDeed" (M.lit (.str "x"))), (M.lit (.str "NoDeed"))]), (M.tup [(M.exc0 "NoEnd" (M.lit (.str "x"))), (M.lit (.str "NoEnd"))])]))))
  (M.seq (M.set 6 (M.op2 fAdd (M.var 6) (M.lst (M.disp [(M.tup [(M.exc0 "Twice" (M.lit (.str "x"))), (M.lit (.str "Twice"))]), (M.tup [(M.mkX "Forged" "name" 1 0 pickP [(M.var 3)] []), (M.lit (.str "Forged"))]), (M.tup [(M.mkX "Gainsaid" "record" 1 0 pickP [(M.var 5)] []), (M.lit (.str "Gainsaid"))])]))))
  (M.seq (M.set 7 (M.lst (M.disp [(M.tup [(M.mkX "NoPlace" "at" 1 0 pickP [(M.var 4)] []), (M.lit (.str "NoPlace"))]), (M.tup [(M.exc0 "TooLong" (M.lit (.str "x"))), (M.lit (.str "TooLong"))]), (M.tup [(M.exc0 "NoSigns" (M.lit (.str "x"))), (M.lit (.str "NoSigns"))])])))
  (M.seq (M.set 7 (M.op2 fAdd (M.var 7) (M.lst (M.disp [(M.tup [(M.mkX "Crossed" "which" 1 0 pickP [(M.var 4)] []), (M.lit (.str "Crossed"))]), (M.tup [(M.mkX "Wanting" "ends" 1 0 pickP [(M.tup [(M.tup [(M.lit (.str "ann")), (M.lit (.int 0)), (M.lit (.int 1))])])] []), (M.lit (.str "Wanting"))]), (M.tup [(M.mkX "NoWork" "work" 1 0 pickP [(M.var 3)] []), (M.lit (.str "NoWork"))])]))))
  (M.seq (M.set 7 (M.op2 fAdd (M.var 7) (M.lst (M.disp [(M.tup [(M.mkX "NoVersion" "which" 1 0 pickP [(M.tup [(M.lit (.str "ann")), (M.var 4)])] []), (M.lit (.str "NoVersion"))]), (M.tup [(M.exc0 "NoLink" (M.lit (.str "x"))), (M.lit (.str "NoLink"))]), (M.tup [(M.exc0 "NoBase" (M.lit (.str "x"))), (M.lit (.str "NoBase"))])]))))
  (M.seq (M.set 7 (M.op2 fAdd (M.var 7) (M.lst (M.disp [(M.tup [(M.mkX "NoAuthor" "name" 1 0 pickP [(M.var 3)] []), (M.lit (.str "NoAuthor"))])]))))
  (M.seq (M.for_ (M.items (M.lst (M.disp [(M.tup [(M.lit (.str "told ")), (M.var 6)]), (M.tup [(M.lit (.str "asked ")), (M.var 7)])]))) (.many [10, 11])
  (M.for_ (M.items (M.var 11)) (.many [12, 13])
  (M.cond (M.or2 (M.not (M.truth (M.isI kf_25 (M.var 12)))) (M.bool (M.op2 fNe (M.call m__law_kinds [(M.var 12)]) (M.op2 fAdd (M.op2 fAdd (M.var 10) (M.var 13)) (M.lit (.str "+"))))))
  (M.ret (M.lit (.bl false)))
  (pure .nx))))
  (M.seq (M.set 8 (M.lst (M.disp [(M.mkX "Forged" "name" 0 1 pickK [] [(M.var 3)]), (M.mkX "Gainsaid" "record" 0 1 pickK [] [(M.var 5)]), (M.mkX "NoPlace" "at" 0 1 pickK [] [(M.var 4)]), (M.mkX "Crossed" "which" 0 1 pickK [] [(M.var 4)])])))
  (M.seq (M.set 8 (M.op2 fAdd (M.var 8) (M.lst (M.disp [(M.mkX "Wanting" "ends" 0 1 pickK [] [(M.tup [])]), (M.mkX "NoWork" "work" 0 1 pickK [] [(M.var 3)]), (M.mkX "NoVersion" "which" 0 1 pickK [] [(M.lit .non)]), (M.mkX "NoAuthor" "name" 0 1 pickK [] [(M.var 3)])]))))
  (M.seq (M.cond (M.bool (M.op2 fNe (M.lst (M.comp [12] (M.items (M.var 8)) (.one 12) (pure true) (M.call m__law_field [(M.var 12)]))) (M.lst (M.disp [(M.var 3), (M.var 5), (M.var 4), (M.var 4), (M.tup []), (M.var 3), (M.lit .non), (M.var 3)]))))
  (M.ret (M.lit (.bl false)))
  (pure .nx))
  (M.seq (M.set 9 (M.lst (M.disp [(M.var 4), (M.lit .non), (M.lit .non), (M.var 4), (M.tup [(M.tup [(M.lit (.str "ann")), (M.lit (.int 0)), (M.lit (.int 1))])]), (M.var 3), (M.tup [(M.lit (.str "ann")), (M.var 4)]), (M.lit .non), (M.lit .non), (M.var 3)])))
  (M.seq (M.cond (M.or2 (M.bool (M.op2 fNe (M.lst (M.comp [12, 13] (M.items (M.var 7)) (.many [12, 13]) (pure true) (M.call m__law_field [(M.var 12)]))) (M.var 9))) (M.bool (M.op2 fNe (M.lst (M.comp [12, 13] (M.items (M.slice (M.var 6) (some (M.lit (.int 8))) none)) (.many [12, 13]) (pure true) (M.call m__law_field [(M.var 12)]))) (M.lst (M.disp [(M.var 3), (M.var 5)])))))
  (M.ret (M.lit (.bl false)))
  (pure .nx))
  (M.cond (M.or2 (M.bool (M.op2 fIsNot (M.xf "line" xs_line (M.mkX "NoText" "line" 0 0 pickN [] [])) (M.lit .non))) (M.or2 (M.bool (M.op2 fNe (M.xf "line" xs_line (M.mkX "NoText" "line" 1 0 pickP [(M.var 4)] [])) (M.var 4))) (M.bool (M.op2 fNe (M.xf "line" xs_line (M.mkX "NoText" "line" 0 1 pickK [] [(M.var 4)])) (M.var 4)))))
  (M.ret (M.lit (.bl false)))
  (pure .nx))))))))))))))))))))
  (M.ret (M.lit (.bl true))))
def m_law : Fn := runFn 14 1 b_law
theorem bd_law (E : Ms.Env fb fn K mg base) {fa : Addr} {cdv : Value} {A : Around} {outer : List PySem.Env} {s : Shared} {H : Hp} {EE : XK} (hr : Room 2 (XB P w K mg base N_law "law" (defScope s_law) fa cdv A outer s H EE).A) (tk : L2N.Takes (XB P w K mg base N_law "law" (defScope s_law) fa cdv A outer s H EE) (WB EE)) : PSs (XB P w K mg base N_law "law" (defScope s_law) fa cdv A outer s H EE) (defBody s_law) (tDS ⟨K, mg⟩ (WB EE) b_law) :=
  (ds_cons (ds_for ownB rfl (di_range1 (by rfl) (fE E (by decide +kernel)) (da_cons (d_add d_int (d_blt2 min_ok (call_min2 rfl) (by rfl) (fE E (by decide +kernel)) PyProof.Rows.Boot.«min» (d_blt1 len_ok call_len (by rfl) (fE E (by decide +kernel)) PyProof.Rows.Boot.«len» (d_var 0 (pv 0))) d_int)) da_nil)) (tg_one sc_law.nd rfl (locOf rfl))
  (ds_cons (ds_set sc_law.nd rfl (locOf rfl) (d_call (ok__law_bag E) hr (by decide) tk (by rfl) (da_cons (d_var 0 (pv 0)) (da_cons (d_var 1 (pv 1)) da_nil))))
  (ds_cons (ds_set sc_law.nd rfl (locOf rfl) (d_ix (rmOf hr) (d_fr (df_lst (da_cons (d_call (ok__law_name E) hr (by decide) tk (by rfl) (da_cons (d_var 2 (pv 2)) da_nil)) (da_cons d_str (da_cons d_str da_nil))))) (d_call (ok__law_take E) hr (by decide) tk (by rfl) (da_cons (d_var 2 (pv 2)) (da_cons d_int da_nil))) (fun _ _ => rfl)))
  (ds_cons (ds_set sc_law.nd rfl (locOf rfl) (d_sub (d_call (ok__law_take E) hr (by decide) tk (by rfl) (da_cons (d_var 2 (pv 2)) (da_cons (d_pow d_int d_int) da_nil))) d_int))
  (ds_cons (ds_set sc_law.nd rfl (locOf rfl) (d_tup (da_cons d_str (da_cons d_str (da_cons (d_call (ok__law_take E) hr (by decide) tk (by rfl) (da_cons (d_var 2 (pv 2)) (da_cons d_int da_nil))) da_nil)))))
  (ds_cons (ds_set sc_law.nd rfl (locOf rfl) (d_fr (df_lst (da_cons (d_tup (da_cons (d_exc0 (x0_NoRecord E) (by rfl) d_str) (da_cons d_str da_nil))) (da_cons (d_tup (da_cons (d_exc0 (x0_NoName E) (by rfl) d_str) (da_cons d_str da_nil))) (da_cons (d_tup (da_cons (d_mkX0 (mx_NoText_d E) hr (by decide) tk (by rfl) dk_nil rfl) (da_cons d_str da_nil))) (da_cons (d_tup (da_cons (d_exc0 (x0_NoRow E) (by rfl) d_str) (da_cons d_str da_nil))) da_nil)))))))
  (ds_cons (ds_set sc_law.nd rfl (locOf rfl) (d_add (d_var 6 (pv 6)) (d_fr (df_lst (da_cons (d_tup (da_cons (d_exc0 (x0_NoPrices E) (by rfl) d_str) (da_cons d_str da_nil))) (da_cons (d_tup (da_cons (d_exc0 (x0_NoDeed E) (by rfl) d_str) (da_cons d_str da_nil))) (da_cons (d_tup (da_cons (d_exc0 (x0_NoEnd E) (by rfl) d_str) (da_cons d_str da_nil))) da_nil)))))))
  (ds_cons (ds_set sc_law.nd rfl (locOf rfl) (d_add (d_var 6 (pv 6)) (d_fr (df_lst (da_cons (d_tup (da_cons (d_exc0 (x0_Twice E) (by rfl) d_str) (da_cons d_str da_nil))) (da_cons (d_tup (da_cons (d_mkX (mx_Forged_p E) hr (by decide) tk (by rfl) (da_cons (d_var 3 (pv 3)) da_nil) dk_nil) (da_cons d_str da_nil))) (da_cons (d_tup (da_cons (d_mkX (mx_Gainsaid_p E) hr (by decide) tk (by rfl) (da_cons (d_var 5 (pv 5)) da_nil) dk_nil) (da_cons d_str da_nil))) da_nil)))))))
  (ds_cons (ds_set sc_law.nd rfl (locOf rfl) (d_fr (df_lst (da_cons (d_tup (da_cons (d_mkX (mx_NoPlace_p E) hr (by decide) tk (by rfl) (da_cons (d_var 4 (pv 4)) da_nil) dk_nil) (da_cons d_str da_nil))) (da_cons (d_tup (da_cons (d_exc0 (x0_TooLong E) (by rfl) d_str) (da_cons d_str da_nil))) (da_cons (d_tup (da_cons (d_exc0 (x0_NoSigns E) (by rfl) d_str) (da_cons d_str da_nil))) da_nil))))))
  (ds_cons (ds_set sc_law.nd rfl (locOf rfl) (d_add (d_var 7 (pv 7)) (d_fr (df_lst (da_cons (d_tup (da_cons (d_mkX (mx_Crossed_p E) hr (by decide) tk (by rfl) (da_cons (d_var 4 (pv 4)) da_nil) dk_nil) (da_cons d_str da_nil))) (da_cons (d_tup (da_cons (d_mkX (mx_Wanting_p E) hr (by decide) tk (by rfl) (da_cons (d_tup (da_cons (d_tup (da_cons d_str (da_cons d_int (da_cons d_int da_nil)))) da_nil)) da_nil) dk_nil) (da_cons d_str da_nil))) (da_cons (d_tup (da_cons (d_mkX (mx_NoWork_p E) hr (by decide) tk (by rfl) (da_cons (d_var 3 (pv 3)) da_nil) dk_nil) (da_cons d_str da_nil))) da_nil)))))))
  (ds_cons (ds_set sc_law.nd rfl (locOf rfl) (d_add (d_var 7 (pv 7)) (d_fr (df_lst (da_cons (d_tup (da_cons (d_mkX (mx_NoVersion_p E) hr (by decide) tk (by rfl) (da_cons (d_tup (da_cons d_str (da_cons (d_var 4 (pv 4)) da_nil))) da_nil) dk_nil) (da_cons d_str da_nil))) (da_cons (d_tup (da_cons (d_exc0 (x0_NoLink E) (by rfl) d_str) (da_cons d_str da_nil))) (da_cons (d_tup (da_cons (d_exc0 (x0_NoBase E) (by rfl) d_str) (da_cons d_str da_nil))) da_nil)))))))
  (ds_cons (ds_set sc_law.nd rfl (locOf rfl) (d_add (d_var 7 (pv 7)) (d_fr (df_lst (da_cons (d_tup (da_cons (d_mkX (mx_NoAuthor_p E) hr (by decide) tk (by rfl) (da_cons (d_var 3 (pv 3)) da_nil) dk_nil) (da_cons d_str da_nil))) da_nil)))))
  (ds_cons (ds_for ownB rfl (di_val (d_fr (df_lst (da_cons (d_tup (da_cons d_str (da_cons (d_var 6 (pv 6)) da_nil))) (da_cons (d_tup (da_cons d_str (da_cons (d_var 7 (pv 7)) da_nil))) da_nil))))) (pg_tup rfl (tgs_cons (tg_one sc_law.nd rfl (locOf rfl)) (tgs_cons (tg_one sc_law.nd rfl (locOf rfl)) tgs_nil)))
  (ds_one (ds_for ownB rfl (di_val (d_var 11 (pv 11))) (pg_tup rfl (tgs_cons (tg_one sc_law.nd rfl (locOf rfl)) (tgs_cons (tg_one sc_law.nd rfl (locOf rfl)) tgs_nil)))
  (ds_one (ds_if (PW.pt (dw_or (dt_not (dt_truth (d_isI (by rfl) (fE E (by decide +kernel)) (d_var 12 (pv 12)) (pe_glob (v := .ref (He.ga K "LoomError")) (by rfl) (gE E (by decide +kernel)) (by rfl)) (.own _) (kt_25 E)))) (dw_or1 (dt_cmp (cNe (rmOf hr)) (d_call (ok__law_kinds E) hr (by decide) tk (by rfl) (da_cons (d_var 12 (pv 12)) da_nil)) (d_add (d_add (d_var 10 (pv 10)) (d_var 13 (pv 13))) d_str) rfl))))
  (ds_one (ds_ret d_bl))
  ds_nil)))))
  (ds_cons (ds_set sc_law.nd rfl (locOf rfl) (d_fr (df_lst (da_cons (d_mkX0 (mx_Forged_k E) hr (by decide) tk (by rfl) (dk_cons (d_var 3 (pv 3)) dk_nil) rfl) (da_cons (d_mkX0 (mx_Gainsaid_k E) hr (by decide) tk (by rfl) (dk_cons (d_var 5 (pv 5)) dk_nil) rfl) (da_cons (d_mkX0 (mx_NoPlace_k E) hr (by decide) tk (by rfl) (dk_cons (d_var 4 (pv 4)) dk_nil) rfl) (da_cons (d_mkX0 (mx_Crossed_k E) hr (by decide) tk (by rfl) (dk_cons (d_var 4 (pv 4)) dk_nil) rfl) da_nil)))))))
  (ds_cons (ds_set sc_law.nd rfl (locOf rfl) (d_add (d_var 8 (pv 8)) (d_fr (df_lst (da_cons (d_mkX0 (mx_Wanting_k E) hr (by decide) tk (by rfl) (dk_cons (d_tup da_nil) dk_nil) rfl) (da_cons (d_mkX0 (mx_NoWork_k E) hr (by decide) tk (by rfl) (dk_cons (d_var 3 (pv 3)) dk_nil) rfl) (da_cons (d_mkX0 (mx_NoVersion_k E) hr (by decide) tk (by rfl) (dk_cons d_non dk_nil) rfl) (da_cons (d_mkX0 (mx_NoAuthor_k E) hr (by decide) tk (by rfl) (dk_cons (d_var 3 (pv 3)) dk_nil) rfl) da_nil))))))))
  (ds_cons (ds_if (dt_cmp (cNe (rmOf hr)) (d_fr (df_comp (own := [("e", 12)]) rfl sc_law.nd (di_val (d_var 8 (pv 8))) (by show BlkOk N_law (defScope s_law) _ _; exact ⟨rfl, by decide +kernel, by decide +kernel, by decide +kernel, by decide +kernel⟩) rfl (fun _ _ _ _ _ => (tg_one sc_law.nd rfl (locOf rfl))) (fun _ _ _ _ _ => dts_nil) (fun _ _ _ _ _ => (d_call (ok__law_field E) hr (by decide) takes0 (by rfl) (da_cons (d_var 12 (pv 12)) da_nil))))) (d_fr (df_lst (da_cons (d_var 3 (pv 3)) (da_cons (d_var 5 (pv 5)) (da_cons (d_var 4 (pv 4)) (da_cons (d_var 4 (pv 4)) (da_cons (d_tup da_nil) (da_cons (d_var 3 (pv 3)) (da_cons d_non (da_cons (d_var 3 (pv 3)) da_nil)))))))))) rfl)
  (ds_one (ds_ret d_bl))
  ds_nil)
  (ds_cons (ds_set sc_law.nd rfl (locOf rfl) (d_fr (df_lst (da_cons (d_var 4 (pv 4)) (da_cons d_non (da_cons d_non (da_cons (d_var 4 (pv 4)) (da_cons (d_tup (da_cons (d_tup (da_cons d_str (da_cons d_int (da_cons d_int da_nil)))) da_nil)) (da_cons (d_var 3 (pv 3)) (da_cons (d_tup (da_cons d_str (da_cons (d_var 4 (pv 4)) da_nil))) (da_cons d_non (da_cons d_non (da_cons (d_var 3 (pv 3)) da_nil)))))))))))))
  (ds_cons (ds_if (PW.pt (dw_or (dt_cmp (cNe (rmOf hr)) (d_fr (df_comp (own := [("e", 12), ("word", 13)]) rfl sc_law.nd (di_val (d_var 7 (pv 7))) (by show BlkOk N_law (defScope s_law) _ _; exact ⟨rfl, by decide +kernel, by decide +kernel, by decide +kernel, by decide +kernel⟩) rfl (fun _ _ _ _ _ => (pg_tup rfl (tgs_cons (tg_one sc_law.nd rfl (locOf rfl)) (tgs_cons (tg_one sc_law.nd rfl (locOf rfl)) tgs_nil)))) (fun _ _ _ _ _ => dts_nil) (fun _ _ _ _ _ => (d_call (ok__law_field E) hr (by decide) takes0 (by rfl) (da_cons (d_var 12 (pv 12)) da_nil))))) (d_var 9 (pv 9)) rfl) (dw_or1 (dt_cmp (cNe (rmOf hr)) (d_fr (df_comp (own := [("e", 12), ("word", 13)]) rfl sc_law.nd (di_val (d_slice (d_var 6 (pv 6)) (do_some d_int) do_none)) (by show BlkOk N_law (defScope s_law) _ _; exact ⟨rfl, by decide +kernel, by decide +kernel, by decide +kernel, by decide +kernel⟩) rfl (fun _ _ _ _ _ => (pg_tup rfl (tgs_cons (tg_one sc_law.nd rfl (locOf rfl)) (tgs_cons (tg_one sc_law.nd rfl (locOf rfl)) tgs_nil)))) (fun _ _ _ _ _ => dts_nil) (fun _ _ _ _ _ => (d_call (ok__law_field E) hr (by decide) takes0 (by rfl) (da_cons (d_var 12 (pv 12)) da_nil))))) (d_fr (df_lst (da_cons (d_var 3 (pv 3)) (da_cons (d_var 5 (pv 5)) da_nil)))) rfl))))
  (ds_one (ds_ret d_bl))
  ds_nil)
  (ds_one (ds_if (PW.pt (dw_or (dt_cmp cIsNot (d_xf (xf_line E) (d_mkX0 (mx_NoText_d E) hr (by decide) tk (by rfl) dk_nil rfl)) d_non rfl) (dw_or (dt_cmp (cNe (rmOf hr)) (d_xf (xf_line E) (d_mkX (mx_NoText_p E) hr (by decide) tk (by rfl) (da_cons (d_var 4 (pv 4)) da_nil) dk_nil)) (d_var 4 (pv 4)) rfl) (dw_or1 (dt_cmp (cNe (rmOf hr)) (d_xf (xf_line E) (d_mkX0 (mx_NoText_k E) hr (by decide) tk (by rfl) (dk_cons (d_var 4 (pv 4)) dk_nil) rfl)) (d_var 4 (pv 4)) rfl)))))
  (ds_one (ds_ret d_bl))
  ds_nil))))))))))))))))))))
  (ds_one (ds_ret d_bl)))
theorem ok_law (E : Ms.Env fb fn K mg base) : Def P w K mg base "law" 3 1 m_law := by
  obtain ⟨fd, F⟩ := E.c.def_ 14 (d := d_law) rfl
  exact ⟨fun ds G h => runFn_len ds G h, He.ga K "law", fd, ["script"], fnD F sc_law (by decide) (fun cdv A outer s H EE hr tk => bd_law E hr tk), (gE E (by decide +kernel)), F.kp, FunD.bindsN (ps := ["script"]) F fun _ _ _ _ _ _ us hl => match us, hl with | [_], _ => rfl⟩
end
end Pw
namespace Pw
open PySem PySem.Spec PyProof.Rows L2 Ms
/-! ### the bag -/
/-- a bag at g -/
def BagAt (G : List MO) (g : Nat) : Prop := ∃ a b : Int, G[g]? = some (.lst [.int a, .int b]) ∧ 0 ≤ a ∧ 0 ≤ b ∧ b < 2147483648
theorem take_ok {G : List MO} {g : Nat} {a b many : Int} (h : G[g]? = some (.lst [.int a, .int b])) (ha : 0 ≤ a) (hb : 0 ≤ b) (hb2 : b < 2147483648) (hm : 0 < many) (hm2 : many.natAbs.log2 < 9000) :
    ∃ r a' b' : Int, m__law_take [.ref g, .int many] G = .ok (.int r) (G.set g (.lst [.int a', .int b'])) ∧ 0 ≤ r ∧ r < many ∧ 0 ≤ a' ∧ 0 ≤ b' ∧ b' < 2147483648 := by
  have hg : g < G.length := (List.getElem?_eq_some_iff.mp h).1
  have hb3 : b.natAbs.log2 < 31 := log2_lt hb (by omega) (by omega)
  by_cases h0 : 0 < a
  · refine ⟨a % many, a / many, b, ?_, Int.emod_nonneg _ (by omega), Int.emod_lt_of_pos _ hm, Int.ediv_nonneg ha (by omega), hb, hb2⟩
    simp [m__law_take, runFn, b__law_take, M.seq, M.cond, M.bool, M.op2, M.var, ev_lit, ev_bind, ev_pure, ev_purM, ev_stk, M.look, fIx, ev_out, ow_int, ow_ref, ow_scr, ixD, D.seqL, h, atI, ixN, Ms.intD, gGt, gMod, gDiv, M.set, M.put, M.setIx, M.mut, mutD, Ms.putF, M.ret, h0, hm, hm2]
  · have h3 : 0 ≤ b * 48271 % 2147483647 := Int.emod_nonneg _ (by omega)
    have h4 : b * 48271 % 2147483647 < 2147483647 := Int.emod_lt_of_pos _ (by omega)
    generalize hb' : b * 48271 % 2147483647 = b' at h3 h4
    have h5 : b'.natAbs.log2 < 31 := log2_lt h3 (by omega) (by omega)
    have h60 : Nat.log2 48271 < 16 := by decide
    have h6 : b.natAbs.log2 + Nat.log2 48271 < 1000000 := by omega
    have h7 : b'.natAbs.log2 + b'.natAbs.log2 < 1000000 := by omega
    have h8 : Nat.log2 64 < 9000 := by decide
    refine ⟨b' * b' % 2147483629 / 64 % many, a, b', ?_, Int.emod_nonneg _ (by omega), Int.emod_lt_of_pos _ hm, ha, h3, by omega⟩
    simp [m__law_take, runFn, b__law_take, M.seq, M.cond, M.bool, M.op2, M.var, ev_lit, ev_bind, ev_pure, ev_purM, ev_stk, M.look, fIx, ev_out, ow_int, ow_ref, ow_scr, ixD, D.seqL, h, atI, ixN, Ms.intD, gGt, gMod, gMul, gDiv, M.set, M.put, M.setIx, M.mut, mutD, Ms.putF, M.ret, h0, hm, hm2, List.getElem?_set_self hg, hb', h6, h7, h8]
/-- the bags stand -/
def Ok (G : List MO) : Prop := ∀ g, g < G.length → BagAt G g
theorem Ok.nil : Ok [] := fun g h => absurd h (by simp)
theorem Ok.set {G : List MO} {g : Nat} {a b : Int} (h : Ok G) (ha : 0 ≤ a) (hb : 0 ≤ b) (hb2 : b < 2147483648) : Ok (G.set g (.lst [.int a, .int b])) := fun k hk => by
  rw [List.length_set] at hk
  by_cases e : k = g
  · subst e
    exact ⟨a, b, by rw [List.getElem?_set_self hk], ha, hb, hb2⟩
  · obtain ⟨a', b', q, r⟩ := h k hk
    exact ⟨a', b', by rw [List.getElem?_set_ne (Ne.symm e)]; exact q, r⟩
theorem Ok.app {G : List MO} {a b : Int} (h : Ok G) (ha : 0 ≤ a) (hb : 0 ≤ b) (hb2 : b < 2147483648) : Ok (G ++ [.lst [.int a, .int b]]) := fun k hk => by
  by_cases e : k < G.length
  · obtain ⟨a', b', q, r⟩ := h k e
    exact ⟨a', b', by rw [List.getElem?_append_left e]; exact q, r⟩
  · have : k = G.length := by simp at hk; omega
    subst this
    exact ⟨a, b, by simp, ha, hb, hb2⟩
theorem take {G : List MO} {g : Nat} {many : Int} (hG : Ok G) (hg : g < G.length) (hm : 0 < many) (hm2 : many.natAbs.log2 < 9000) : ∃ (r : Int) (G' : List MO), m__law_take [.ref g, .int many] G = .ok (.int r) G' ∧ 0 ≤ r ∧ r < many ∧ Ok G' ∧ G'.length = G.length := by
  obtain ⟨a, b, h, ha, hb, hb2⟩ := hG g hg
  obtain ⟨r, a', b', e, h1, h2, h3, h4, h5⟩ := take_ok h ha hb hb2 hm hm2
  exact ⟨r, _, e, h1, h2, hG.set h3 h4 h5, by simp⟩
theorem bag_ok {G : List MO} (l : List Int) (k : Nat) (hk : k < 100) (hG : Ok G) : ∃ G', m__law_bag [.scr l, .int k] G = .ok (.ref G.length) G' ∧ Ok G' ∧ G'.length = G.length + 1 := by
  have h1 : Nat.log2 7919 < 13 := by decide
  have h2 : Nat.log2 104729 < 17 := by decide
  have hk2 : (k : Int).natAbs.log2 < 7 := log2_lt (by omega) (by omega) (by omega)
  have hk3 : Nat.log2 104729 + k.log2 < 1000000 := by
    have : (k : Int).natAbs = k := by simp
    rw [this] at hk2
    omega
  have fin : ∀ c : Int, 0 ≤ c → (∀ h : k < l.length, (if l[k] < 0 then -l[k] else l[k]) = c) → (¬ k < l.length → c = 0) → ∃ G', m__law_bag [.scr l, .int k] G = .ok (.ref G.length) G' ∧ Ok G' ∧ G'.length = G.length + 1 := fun c hc h3 h4 => by
    have e1 : (1 + (c * 7919 + 104729 * (k : Int)) % 2147483646) < 2147483648 ∧ 0 ≤ (1 + (c * 7919 + 104729 * (k : Int)) % 2147483646) := by
      have := Int.emod_nonneg (c * 7919 + 104729 * (k : Int)) (b := 2147483646) (by omega)
      have := Int.emod_lt_of_pos (c * 7919 + 104729 * (k : Int)) (b := 2147483646) (by omega)
      omega
    have e2 : (1 + (c + (k : Int)) % 2147483646) < 2147483648 ∧ 0 ≤ (1 + (c + (k : Int)) % 2147483646) := by
      have := Int.emod_nonneg (c + (k : Int)) (b := 2147483646) (by omega)
      have := Int.emod_lt_of_pos (c + (k : Int)) (b := 2147483646) (by omega)
      omega
    by_cases hl : k < l.length
    · have ec := h3 hl
      have hi : (k : Int) < (l.length : Int) := by omega
      by_cases hs : c < 1000000000000000000
      · have h5 := log2_lt (n := 60) hc (by omega) (by omega)
        have h6 : c.natAbs.log2 + Nat.log2 7919 < 1000000 := by omega
        refine ⟨_, ?_, hG.app (a := 0) (b := 1 + (c * 7919 + 104729 * (k : Int)) % 2147483646) (by omega) e1.2 e1.1, by simp⟩
        simp [m__law_bag, runFn, b__law_bag, M.seq, M.cond, M.bool, M.op2, M.op1, M.var, ev_lit, ev_bind, ev_pure, ev_purM, ev_stk, M.look, fIx, ev_out, ow_int, ow_ref, ow_scr, ixD, D.seqL, atI, ixN, Ms.intD, gMod, gMul, gDiv, M.set, M.put, M.ret, lenD, ltD, hl, hi, sc1, gAbs, ec, gPow, M.newL, M.disp, M.args, lenOk, addD, hs, h6, hk3]
      · refine ⟨_, ?_, hG.app (a := c) (b := 1 + (c + (k : Int)) % 2147483646) (by omega) e2.2 e2.1, by simp⟩
        simp [m__law_bag, runFn, b__law_bag, M.seq, M.cond, M.bool, M.op2, M.op1, M.var, ev_lit, ev_bind, ev_pure, ev_purM, ev_stk, M.look, fIx, ev_out, ow_int, ow_ref, ow_scr, ixD, D.seqL, atI, ixN, Ms.intD, gMod, gMul, gDiv, M.set, M.put, M.ret, lenD, ltD, hl, hi, sc1, gAbs, ec, gPow, M.newL, M.disp, M.args, lenOk, addD, hs, hk3]
    · have hi : ¬ (k : Int) < (l.length : Int) := by omega
      have ec := h4 hl
      subst ec
      refine ⟨_, ?_, hG.app (a := 0) (b := 1 + (0 * 7919 + 104729 * (k : Int)) % 2147483646) (by omega) e1.2 e1.1, by simp⟩
      have h0 : Nat.log2 7919 < 1000000 := by omega
      simp [m__law_bag, runFn, b__law_bag, M.seq, M.cond, M.bool, M.op2, M.op1, M.var, ev_lit, ev_bind, ev_pure, ev_purM, ev_stk, M.look, fIx, ev_out, ow_int, ow_ref, ow_scr, ixD, D.seqL, atI, ixN, Ms.intD, gMod, gMul, gDiv, M.set, M.put, M.ret, lenD, ltD, hl, hi, sc1, gAbs, gPow, M.newL, M.disp, M.args, lenOk, addD, hk3, h0]
  by_cases hl : k < l.length
  · exact fin (if l[k] < 0 then -l[k] else l[k]) (by split <;> omega) (fun _ => rfl) (fun h => absurd hl h)
  · exact fin 0 (by omega) (fun h => absurd h hl) (fun _ => rfl)
theorem call_take {ρ : List Slot} {G : List MO} {g i : Nat} {many : Int} (hv : ρ[i]? = some (.val (.ref g))) (hG : Ok G) (hg : g < G.length) (hm : 0 < many) (hm2 : many.natAbs.log2 < 9000) :
    ∃ (r : Int) (G' : List MO), M.call m__law_take [M.var i, M.lit (.int many)] ⟨ρ, G⟩ = .ok (.int r) ⟨ρ, G'⟩ ∧ 0 ≤ r ∧ r < many ∧ Ok G' ∧ G'.length = G.length := by
  obtain ⟨r, G', e, h1, h2, h3, h4⟩ := take hG hg hm hm2
  have hvar : M.var i ⟨ρ, G⟩ = .ok (.ref g) ⟨ρ, G⟩ := by unfold M.var; simp only [hv]
  exact ⟨r, G', call_ok (s := ⟨ρ, G⟩) (s1 := ⟨ρ, G⟩) (args_cons hvar rfl (args_cons (ev_lit _ _) rfl args_nil)) e, h1, h2, h3, h4⟩
def abc : Str := "abcdefghijklmnopqrstuvwxyz"
theorem abc_len : abc.cps.toList.length = 26 := by decide +kernel
theorem abc_ok : ∀ c ∈ abc.cps.toList, c < 0x110000 := by decide +kernel
theorem abc_ix {r : Int} (h0 : 0 ≤ r) (h1 : r < 26) (s : Sta) : ∃ c, c < 0x110000 ∧ fIx (.str abc) (.int r) s = .ok (.str ⟨#[c]⟩) s := by
  have hl : r.toNat < abc.cps.toList.length := by rw [abc_len]; omega
  refine ⟨abc.cps.toList[r.toNat], abc_ok _ (List.getElem_mem hl), ?_⟩
  show (if (D.int r).isOwn = true then M.stuck else M.look fun s => ixD s (.str abc) (.int r)) s = _
  rw [ow_int, if_neg (by simp)]
  refine look_ok ?_
  show (if lenOk abc.length = true then (atI abc.cps.toList r).map (fun c => D.str ⟨#[c]⟩) else none) = _
  rw [if_pos (by decide +kernel)]
  have e : atI abc.cps.toList r = some abc.cps.toList[r.toNat] := by
    unfold atI ixN
    rw [if_pos h0, if_pos (by rw [abc_len]; exact_mod_cast h1)]
    exact List.getElem?_eq_getElem hl
  rw [e]
  rfl
theorem letters {g : Nat} {n : Int} : ∀ (ds : List D) (G : List MO), Ok G → g < G.length → ∃ (zs : List Nat) (G' : List MO), M.compL [2] (.one 2) (pure true) (M.op2 fIx (M.lit (.str abc)) (M.call m__law_take [M.var 0, M.lit (.int 26)])) ds ⟨[.val (.ref g), .val (.int n), .no], G⟩ =
    .ok (zs.map fun c => D.str ⟨#[c]⟩) ⟨[.val (.ref g), .val (.int n), .no], G'⟩ ∧ (∀ c ∈ zs, c < 0x110000) ∧ zs.length = ds.length ∧ Ok G' ∧ G'.length = G.length
  | [], G, hG, hg => ⟨[], G, rfl, by simp, rfl, hG, rfl⟩
  | d :: ds, G, hG, hg => by
    obtain ⟨r, G1, e1, h1, h2, h3, h4⟩ := call_take (ρ := [.val (.ref g), .val (.int n), .val d]) (i := 0) (many := 26) rfl hG hg (by omega) (by decide)
    obtain ⟨c, hc, e2⟩ := abc_ix h1 h2 ⟨[.val (.ref g), .val (.int n), .val d], G1⟩
    obtain ⟨zs, G2, e3, h5, h6, h7, h8⟩ := letters (g := g) (n := n) ds G1 h3 (by omega)
    refine ⟨c :: zs, G2, ?_, by simpa using ⟨hc, h5⟩, by simpa using h6, h7, by omega⟩
    exact compL_t (s1 := ⟨[.val (.ref g), .val (.int n), .val d], G⟩) (s2 := ⟨[.val (.ref g), .val (.int n), .val d], G⟩) (s3 := ⟨[.val (.ref g), .val (.int n), .val d], G1⟩) rfl rfl ((op2_ok (ev_lit _ _) e1).trans e2) rfl e3
theorem asStrs_map : ∀ zs : List Nat, asStrs (zs.map fun c => D.str ⟨#[c]⟩) = some (zs.map fun c => (⟨#[c]⟩ : Str))
  | [] => rfl
  | c :: zs => by
    show (asStrs _).map _ = _
    rw [asStrs_map zs]
    rfl
theorem sum_ones : ∀ l : List Nat, ((l.map fun c => (⟨#[c]⟩ : Str)).map (·.length)).sum = l.length
  | [] => rfl
  | c :: l => by
    rw [List.map_cons, List.map_cons, List.sum_cons, sum_ones l, List.length_cons]
    show 1 + _ = _
    omega
theorem strOk_join (zs : List Nat) (h : ∀ c ∈ zs, c < 0x110000) : PyData.strOk (Txt.join "" (zs.map fun c => (⟨#[c]⟩ : Str))) = true := by
  unfold PyData.strOk
  rw [TL.join_eq, Array.all_eq_true_iff_forall_mem]
  intro c hc
  rcases (mem_join "" c _).mp (Array.mem_toList_iff.mpr hc) with ⟨t, ht, hct⟩ | ⟨_, hct⟩
  · obtain ⟨z, hz, rfl⟩ := List.mem_map.mp ht
    simp at hct
    subst hct
    exact decide_eq_true (h _ hz)
  · have : ("" : Str).cps.toList = [] := by decide +kernel
    rw [this] at hct
    cases hct
theorem name_ok {G : List MO} {g : Nat} (hG : Ok G) (hg : g < G.length) : ∃ (x : Str) (G' : List MO), m__law_name [.ref g] G = .ok (.str x) G' ∧ PyData.strOk x = true ∧ Ok G' ∧ G'.length = G.length := by
  obtain ⟨r1, G1, e1, a1, b1, c1, d1⟩ := call_take (ρ := [.val (.ref g), .no, .no]) (i := 0) (many := 3) rfl hG hg (by omega) (by decide)
  obtain ⟨r2, G2, e2, a2, b2, c2, d2⟩ := call_take (ρ := [.val (.ref g), .no, .no]) (i := 0) (many := 8) rfl c1 (by omega) (by omega) (by decide)
  obtain ⟨r3, G3, e3, a3, b3, c3, d3⟩ := call_take (ρ := [.val (.ref g), .no, .no]) (i := 0) (many := 4) rfl c2 (by omega) (by omega) (by decide)
  have hn : ∃ n : Int, M.op2 fAdd (M.lit (.int 1)) (M.op2 fIx (M.lst (M.disp [(M.call m__law_take [(M.var 0), (M.lit (.int 3))]), (M.call m__law_take [(M.var 0), (M.lit (.int 8))])])) (M.op1 (sc1 gInt) (M.op2 fEq (M.call m__law_take [(M.var 0), (M.lit (.int 4))]) (M.lit (.int 0))))) ⟨[.val (.ref g), .no, .no], G⟩ = .ok (.int n) ⟨[.val (.ref g), .no, .no], G3⟩ ∧ 0 ≤ n ∧ n < 10 := by
    have hl := lst_ok (disp_ok (args_cons e1 rfl (args_cons e2 rfl args_nil)) rfl)
    by_cases h0 : r3 = 0
    · refine ⟨1 + r2, ?_, by omega, by omega⟩
      subst h0
      have q : M.op2 fEq (M.call m__law_take [(M.var 0), (M.lit (.int 4))]) (M.lit (.int 0)) ⟨[.val (.ref g), .no, .no], G2⟩ = .ok (.bl true) ⟨[.val (.ref g), .no, .no], G3⟩ := (op2_ok e3 (ev_lit _ _)).trans (look_ok (by simp [eqD, scEq]))
      have q2 : M.op1 (sc1 gInt) (M.op2 fEq (M.call m__law_take [(M.var 0), (M.lit (.int 4))]) (M.lit (.int 0))) ⟨[.val (.ref g), .no, .no], G2⟩ = .ok (.int 1) ⟨[.val (.ref g), .no, .no], G3⟩ := bind_ok q
      exact op2_fin (ev_lit _ _) (op2_fin hl q2 rfl) rfl
    · refine ⟨1 + r1, ?_, by omega, by omega⟩
      have q : M.op2 fEq (M.call m__law_take [(M.var 0), (M.lit (.int 4))]) (M.lit (.int 0)) ⟨[.val (.ref g), .no, .no], G2⟩ = .ok (.bl false) ⟨[.val (.ref g), .no, .no], G3⟩ := (op2_ok e3 (ev_lit _ _)).trans (look_ok (by simp [eqD, scEq, h0]))
      have q2 : M.op1 (sc1 gInt) (M.op2 fEq (M.call m__law_take [(M.var 0), (M.lit (.int 4))]) (M.lit (.int 0))) ⟨[.val (.ref g), .no, .no], G2⟩ = .ok (.int 0) ⟨[.val (.ref g), .no, .no], G3⟩ := bind_ok q
      exact op2_fin (ev_lit _ _) (op2_fin hl q2 rfl) rfl
  obtain ⟨n, en, n0, n1⟩ := hn
  obtain ⟨zs, G4, e4, z1, z2, c4, d4⟩ := letters (g := g) (n := n) (rngD 0 n.toNat) G3 c3 (by omega)
  refine ⟨Txt.join "" (zs.map fun c => (⟨#[c]⟩ : Str)), G4, ?_, strOk_join zs z1, c4, by omega⟩
  have hset := set_ok (i := 1) en rfl (by simp)
  have hzs : zs.length = n.toNat := by rw [z2]; simp [rngD]
  have hr : M.range1 [M.var 1] ⟨[.val (.ref g), .val (.int n), .no], G3⟩ = .ok (rngD 0 n.toNat) ⟨[.val (.ref g), .val (.int n), .no], G3⟩ := by
    unfold M.range1
    rw [bind_ok (args_cons (show M.var 1 ⟨[.val (.ref g), .val (.int n), .no], G3⟩ = .ok (.int n) ⟨[.val (.ref g), .val (.int n), .no], G3⟩ from rfl) rfl args_nil)]
    show (if -(2 ^ 62) ≤ n ∧ n < 2 ^ 62 then (pure (rngD 0 n.toNat) : M (List D)) else M.stuck) _ = _
    rw [if_pos (by omega)]
    rfl
  have hc := comp_ok (vs := [2]) (t := .one 2) (c := pure true) (e := M.op2 fIx (M.lit (.str abc)) (M.call m__law_take [M.var 0, M.lit (.int 26)])) hr (by simp [rngD, lenOk]; omega) e4
  have hj : M.join (M.lit (.str "")) (M.lst (M.comp [2] (M.range1 [(M.var 1)]) (.one 2) (pure true) (M.op2 fIx (M.lit (.str abc)) (M.call m__law_take [(M.var 0), (M.lit (.int 26))])))) ⟨[.val (.ref g), .val (.int n), .no], G3⟩ = .ok (.str (Txt.join "" (zs.map fun c => (⟨#[c]⟩ : Str)))) ⟨[.val (.ref g), .val (.int n), .no], G4⟩ := by
    unfold M.join
    rw [bind_ok (ev_lit _ _), bind_ok (show M.isS (.str "") ⟨[.val (.ref g), .val (.int n), .no], G3⟩ = .ok (.str "") ⟨[.val (.ref g), .val (.int n), .no], G3⟩ from rfl), bind_ok (lst_ok hc)]
    refine look_ok ?_
    show (asStrs _).bind _ = _
    rw [asStrs_map]
    show (if _ then _ else _) = _
    rw [if_pos]
    rw [sum_ones, List.length_map, show Str.length "" = 0 by decide +kernel]
    omega
  exact runFn_rt (N := 3) (n := 1) (ds := [.ref g]) (s1 := ⟨[.val (.ref g), .val (.int n), .no], G4⟩) rfl ((seq_nx hset).trans (ret_ok hj rfl))
end Pw
namespace Pw
open PySem PySem.Spec PyProof.Rows L2 Ms
def st0 : M Fl := (M.set 2 (M.call m__law_bag [(M.var 0), (M.var 1)]))
def st1 : M Fl := (M.set 3 (M.op2 fIx (M.lst (M.disp [(M.call m__law_name [(M.var 2)]), (M.lit (.str "")), (M.lit (.str "A b"))])) (M.call m__law_take [(M.var 2), (M.lit (.int 3))])))
def st2 : M Fl := (M.set 4 (M.op2 (fInt gSub) (M.call m__law_take [(M.var 2), (M.op2 (fInt gPow) (M.lit (.int 10)) (M.lit (.int 39)))]) (M.lit (.int 7))))
def st3 : M Fl := (M.set 5 (M.tup [(M.lit (.str "off")), (M.lit (.str "ann")), (M.call m__law_take [(M.var 2), (M.lit (.int 9))])]))
def st4 : M Fl := (M.set 6 (M.lst (M.disp [(M.tup [(M.exc0 "NoRecord" (M.lit (.str "x"))), (M.lit (.str "NoRecord"))]), (M.tup [(M.exc0 "NoName" (M.lit (.str "x"))), (M.lit (.str "NoName"))]), (M.tup [(M.mkX "NoText" "line" 0 0 pickN [] []), (M.lit (.str "NoText"))]), (M.tup [(M.exc0 "NoRow" (M.lit (.str "x"))), (M.lit (.str "NoRow"))])])))
def st5 : M Fl := (M.set 6 (M.op2 fAdd (M.var 6) (M.lst (M.disp [(M.tup [(M.exc0 "NoPrices" (M.lit (.str "x"))), (M.lit (.str "NoPrices"))]), (M.tup [(M.exc0 "NoDeed" (M.lit (.str "x"))), (M.lit (.str "NoDeed"))]), (M.tup [(M.exc0 "NoEnd" (M.lit (.str "x"))), (M.lit (.str "NoEnd"))])]))))
def st6 : M Fl := (M.set 6 (M.op2 fAdd (M.var 6) (M.lst (M.disp [(M.tup [(M.exc0 "Twice" (M.lit (.str "x"))), (M.lit (.str "Twice"))]), (M.tup [(M.mkX "Forged" "name" 1 0 pickP [(M.var 3)] []), (M.lit (.str "Forged"))]), (M.tup [(M.mkX "Gainsaid" "record" 1 0 pickP [(M.var 5)] []), (M.lit (.str "Gainsaid"))])]))))
def st7 : M Fl := (M.set 7 (M.lst (M.disp [(M.tup [(M.mkX "NoPlace" "at" 1 0 pickP [(M.var 4)] []), (M.lit (.str "NoPlace"))]), (M.tup [(M.exc0 "TooLong" (M.lit (.str "x"))), (M.lit (.str "TooLong"))]), (M.tup [(M.exc0 "NoSigns" (M.lit (.str "x"))), (M.lit (.str "NoSigns"))])])))
def st8 : M Fl := (M.set 7 (M.op2 fAdd (M.var 7) (M.lst (M.disp [(M.tup [(M.mkX "Crossed" "which" 1 0 pickP [(M.var 4)] []), (M.lit (.str "Crossed"))]), (M.tup [(M.mkX "Wanting" "ends" 1 0 pickP [(M.tup [(M.tup [(M.lit (.str "ann")), (M.lit (.int 0)), (M.lit (.int 1))])])] []), (M.lit (.str "Wanting"))]), (M.tup [(M.mkX "NoWork" "work" 1 0 pickP [(M.var 3)] []), (M.lit (.str "NoWork"))])]))))
def st9 : M Fl := (M.set 7 (M.op2 fAdd (M.var 7) (M.lst (M.disp [(M.tup [(M.mkX "NoVersion" "which" 1 0 pickP [(M.tup [(M.lit (.str "ann")), (M.var 4)])] []), (M.lit (.str "NoVersion"))]), (M.tup [(M.exc0 "NoLink" (M.lit (.str "x"))), (M.lit (.str "NoLink"))]), (M.tup [(M.exc0 "NoBase" (M.lit (.str "x"))), (M.lit (.str "NoBase"))])]))))
def st10 : M Fl := (M.set 7 (M.op2 fAdd (M.var 7) (M.lst (M.disp [(M.tup [(M.mkX "NoAuthor" "name" 1 0 pickP [(M.var 3)] []), (M.lit (.str "NoAuthor"))])]))))
def st11 : M Fl := (M.for_ (M.items (M.lst (M.disp [(M.tup [(M.lit (.str "told ")), (M.var 6)]), (M.tup [(M.lit (.str "asked ")), (M.var 7)])]))) (.many [10, 11])
  (M.for_ (M.items (M.var 11)) (.many [12, 13])
  (M.cond (M.or2 (M.not (M.truth (M.isI kf_25 (M.var 12)))) (M.bool (M.op2 fNe (M.call m__law_kinds [(M.var 12)]) (M.op2 fAdd (M.op2 fAdd (M.var 10) (M.var 13)) (M.lit (.str "+"))))))
  (M.ret (M.lit (.bl false)))
  (pure .nx))))
def st12 : M Fl := (M.set 8 (M.lst (M.disp [(M.mkX "Forged" "name" 0 1 pickK [] [(M.var 3)]), (M.mkX "Gainsaid" "record" 0 1 pickK [] [(M.var 5)]), (M.mkX "NoPlace" "at" 0 1 pickK [] [(M.var 4)]), (M.mkX "Crossed" "which" 0 1 pickK [] [(M.var 4)])])))
def st13 : M Fl := (M.set 8 (M.op2 fAdd (M.var 8) (M.lst (M.disp [(M.mkX "Wanting" "ends" 0 1 pickK [] [(M.tup [])]), (M.mkX "NoWork" "work" 0 1 pickK [] [(M.var 3)]), (M.mkX "NoVersion" "which" 0 1 pickK [] [(M.lit .non)]), (M.mkX "NoAuthor" "name" 0 1 pickK [] [(M.var 3)])]))))
def st14 : M Fl := (M.cond (M.bool (M.op2 fNe (M.lst (M.comp [12] (M.items (M.var 8)) (.one 12) (pure true) (M.call m__law_field [(M.var 12)]))) (M.lst (M.disp [(M.var 3), (M.var 5), (M.var 4), (M.var 4), (M.tup []), (M.var 3), (M.lit .non), (M.var 3)]))))
  (M.ret (M.lit (.bl false)))
  (pure .nx))
def st15 : M Fl := (M.set 9 (M.lst (M.disp [(M.var 4), (M.lit .non), (M.lit .non), (M.var 4), (M.tup [(M.tup [(M.lit (.str "ann")), (M.lit (.int 0)), (M.lit (.int 1))])]), (M.var 3), (M.tup [(M.lit (.str "ann")), (M.var 4)]), (M.lit .non), (M.lit .non), (M.var 3)])))
def st16 : M Fl := (M.cond (M.or2 (M.bool (M.op2 fNe (M.lst (M.comp [12, 13] (M.items (M.var 7)) (.many [12, 13]) (pure true) (M.call m__law_field [(M.var 12)]))) (M.var 9))) (M.bool (M.op2 fNe (M.lst (M.comp [12, 13] (M.items (M.slice (M.var 6) (some (M.lit (.int 8))) none)) (.many [12, 13]) (pure true) (M.call m__law_field [(M.var 12)]))) (M.lst (M.disp [(M.var 3), (M.var 5)])))))
  (M.ret (M.lit (.bl false)))
  (pure .nx))
def st17 : M Fl := (M.cond (M.or2 (M.bool (M.op2 fIsNot (M.xf "line" xs_line (M.mkX "NoText" "line" 0 0 pickN [] [])) (M.lit .non))) (M.or2 (M.bool (M.op2 fNe (M.xf "line" xs_line (M.mkX "NoText" "line" 1 0 pickP [(M.var 4)] [])) (M.var 4))) (M.bool (M.op2 fNe (M.xf "line" xs_line (M.mkX "NoText" "line" 0 1 pickK [] [(M.var 4)])) (M.var 4)))))
  (M.ret (M.lit (.bl false)))
  (pure .nx))
def lawBody : M Fl := (M.seq st0 (M.seq st1 (M.seq st2 (M.seq st3 (M.seq st4 (M.seq st5 (M.seq st6 (M.seq st7 (M.seq st8 (M.seq st9 (M.seq st10 (M.seq st11 (M.seq st12 (M.seq st13 (M.seq st14 (M.seq st15 (M.seq st16 st17)))))))))))))))))
theorem b_law_eq : b_law = M.seq (M.for_ (M.range1 [(M.op2 fAdd (M.lit (.int 1)) (M.op2 (fInt gMin) (M.op1 fLen (M.var 0)) (M.lit (.int 10))))]) (.one 1) lawBody) (M.ret (M.lit (.bl true))) := by
  unfold lawBody st0 st1 st2 st3 st4 st5 st6 st7 st8 st9 st10 st11 st12 st13 st14 st15 st16 st17 b_law
  rfl
section
variable (sc kk rf x6 x7 x8 x9 x10 x11 x12 x13 : Slot) (nm : Str) (mn n9 : Int) (G : List MO)
def exa (c : Str) : D := .tup [.exc c Str.empty .non, .str c]
def exb (c f : Str) (v : D) : D := .tup [.exc c f v, .str c]
def recD (n9 : Int) : D := .tup [.str "off", .str "ann", .int n9]
def endD : D := .tup [.tup [.str "ann", .int 0, .int 1]]
def told (nm : Str) (n9 : Int) : List D := [exa "NoRecord", exa "NoName", exb "NoText" "line" .non, exa "NoRow", exa "NoPrices", exa "NoDeed", exa "NoEnd", exa "Twice", exb "Forged" "name" (.str nm), exb "Gainsaid" "record" (recD n9)]
def asked (nm : Str) (mn : Int) : List D := [exb "NoPlace" "at" (.int mn), exa "TooLong", exa "NoSigns", exb "Crossed" "which" (.int mn), exb "Wanting" "ends" endD, exb "NoWork" "work" (.str nm), exb "NoVersion" "which" (.tup [.str "ann", .int mn]), exa "NoLink", exa "NoBase", exb "NoAuthor" "name" (.str nm)]
theorem r4 : st4 ⟨[sc, kk, rf, .val (.str nm), .val (.int mn), .val (recD n9), x6, x7, x8, x9, x10, x11, x12, x13], G⟩ = .ok .nx ⟨[sc, kk, rf, .val (.str nm), .val (.int mn), .val (recD n9), .val (.lst ((told nm n9).take 4)), x7, x8, x9, x10, x11, x12, x13], G⟩ := by kernel_rfl
theorem r5 : st5 ⟨[sc, kk, rf, .val (.str nm), .val (.int mn), .val (recD n9), .val (.lst ((told nm n9).take 4)), x7, x8, x9, x10, x11, x12, x13], G⟩ = .ok .nx ⟨[sc, kk, rf, .val (.str nm), .val (.int mn), .val (recD n9), .val (.lst ((told nm n9).take 7)), x7, x8, x9, x10, x11, x12, x13], G⟩ := by kernel_rfl
theorem r6 : st6 ⟨[sc, kk, rf, .val (.str nm), .val (.int mn), .val (recD n9), .val (.lst ((told nm n9).take 7)), x7, x8, x9, x10, x11, x12, x13], G⟩ = .ok .nx ⟨[sc, kk, rf, .val (.str nm), .val (.int mn), .val (recD n9), .val (.lst (told nm n9)), x7, x8, x9, x10, x11, x12, x13], G⟩ := by kernel_rfl
theorem r7 (x6 : Slot) : st7 ⟨[sc, kk, rf, .val (.str nm), .val (.int mn), .val (recD n9), x6, x7, x8, x9, x10, x11, x12, x13], G⟩ = .ok .nx ⟨[sc, kk, rf, .val (.str nm), .val (.int mn), .val (recD n9), x6, .val (.lst ((asked nm mn).take 3)), x8, x9, x10, x11, x12, x13], G⟩ := by kernel_rfl
theorem r8 : st8 ⟨[sc, kk, rf, .val (.str nm), .val (.int mn), .val (recD n9), x6, .val (.lst ((asked nm mn).take 3)), x8, x9, x10, x11, x12, x13], G⟩ = .ok .nx ⟨[sc, kk, rf, .val (.str nm), .val (.int mn), .val (recD n9), x6, .val (.lst ((asked nm mn).take 6)), x8, x9, x10, x11, x12, x13], G⟩ := by kernel_rfl
theorem r9 : st9 ⟨[sc, kk, rf, .val (.str nm), .val (.int mn), .val (recD n9), x6, .val (.lst ((asked nm mn).take 6)), x8, x9, x10, x11, x12, x13], G⟩ = .ok .nx ⟨[sc, kk, rf, .val (.str nm), .val (.int mn), .val (recD n9), x6, .val (.lst ((asked nm mn).take 9)), x8, x9, x10, x11, x12, x13], G⟩ := by kernel_rfl
theorem r10 : st10 ⟨[sc, kk, rf, .val (.str nm), .val (.int mn), .val (recD n9), x6, .val (.lst ((asked nm mn).take 9)), x8, x9, x10, x11, x12, x13], G⟩ = .ok .nx ⟨[sc, kk, rf, .val (.str nm), .val (.int mn), .val (recD n9), x6, .val (.lst (asked nm mn)), x8, x9, x10, x11, x12, x13], G⟩ := by kernel_rfl
theorem r11 : st11 ⟨[sc, kk, rf, .val (.str nm), .val (.int mn), .val (recD n9), .val (.lst (told nm n9)), .val (.lst (asked nm mn)), x8, x9, x10, x11, x12, x13], G⟩ = .ok .nx ⟨[sc, kk, rf, .val (.str nm), .val (.int mn), .val (recD n9), .val (.lst (told nm n9)), .val (.lst (asked nm mn)), x8, x9, .val (.str "asked "), .val (.lst (asked nm mn)), .val (.exc "NoAuthor" "name" (.str nm)), .val (.str "NoAuthor")], G⟩ := by kernel_rfl
def some8 (nm : Str) (mn n9 : Int) : List D := [.exc "Forged" "name" (.str nm), .exc "Gainsaid" "record" (recD n9), .exc "NoPlace" "at" (.int mn), .exc "Crossed" "which" (.int mn), .exc "Wanting" "ends" (.tup []), .exc "NoWork" "work" (.str nm), .exc "NoVersion" "which" .non, .exc "NoAuthor" "name" (.str nm)]
def want8 (nm : Str) (mn n9 : Int) : List D := [.str nm, recD n9, .int mn, .int mn, .tup [], .str nm, .non, .str nm]
def due (nm : Str) (mn : Int) : List D := [.int mn, .non, .non, .int mn, endD, .str nm, .tup [.str "ann", .int mn], .non, .non, .str nm]
theorem r12 : st12 ⟨[sc, kk, rf, .val (.str nm), .val (.int mn), .val (recD n9), x6, x7, x8, x9, x10, x11, x12, x13], G⟩ = .ok .nx ⟨[sc, kk, rf, .val (.str nm), .val (.int mn), .val (recD n9), x6, x7, .val (.lst ((some8 nm mn n9).take 4)), x9, x10, x11, x12, x13], G⟩ := by kernel_rfl
theorem r13 : st13 ⟨[sc, kk, rf, .val (.str nm), .val (.int mn), .val (recD n9), x6, x7, .val (.lst ((some8 nm mn n9).take 4)), x9, x10, x11, x12, x13], G⟩ = .ok .nx ⟨[sc, kk, rf, .val (.str nm), .val (.int mn), .val (recD n9), x6, x7, .val (.lst (some8 nm mn n9)), x9, x10, x11, x12, x13], G⟩ := by kernel_rfl
def w8p (nm : Str) (mn n9 : Int) : PyData := .list [.str nm, .tuple [.str "off", .str "ann", .int n9], .int mn, .int mn, .tuple [], .str nm, .none, .str nm]
def duep (nm : Str) (mn : Int) : PyData := .list [.int mn, .none, .none, .int mn, .tuple [.tuple [.str "ann", .int 0, .int 1]], .str nm, .tuple [.str "ann", .int mn], .none, .none, .str nm]
def twop (nm : Str) (n9 : Int) : PyData := .list [.str nm, .tuple [.str "off", .str "ann", .int n9]]
theorem ann_ok : PyData.strOk "ann" = true := by decide +kernel
theorem off_ok : PyData.strOk "off" = true := by decide +kernel
theorem w8_ok (h : PyData.strOk nm = true) : SeqAt.shaped (w8p nm mn n9) = true := by
  simp [SeqAt.shaped, w8p, PyData.canLay0, PyData.canLayAll0, PyData.depth, PyData.depthAll, h, ann_ok, off_ok]
theorem due_ok (h : PyData.strOk nm = true) : SeqAt.shaped (duep nm mn) = true := by
  simp [SeqAt.shaped, duep, PyData.canLay0, PyData.canLayAll0, PyData.depth, PyData.depthAll, h, ann_ok, off_ok]
theorem two_ok (h : PyData.strOk nm = true) : SeqAt.shaped (twop nm n9) = true := by
  simp [SeqAt.shaped, twop, PyData.canLay0, PyData.canLayAll0, PyData.depth, PyData.depthAll, h, ann_ok, off_ok]
theorem same (s : Sta) (l : List D) (p : PyData) (hp : (D.lst l).pyS s = some p) (hs : SeqAt.shaped p = true) : fNe (.lst l) (.lst l) s = .ok (.bl false) s := fNe_refl (eqD_refl (.inl rfl) hp hs)
theorem sameI (s : Sta) (i : Int) : fNe (.int i) (.int i) s = .ok (.bl false) s := fNe_refl (by simp [eqD, scEq])
theorem r14a : (M.lst (M.comp [12] (M.items (M.var 8)) (.one 12) (pure true) (M.call m__law_field [(M.var 12)]))) ⟨[sc, kk, rf, .val (.str nm), .val (.int mn), .val (recD n9), x6, x7, .val (.lst (some8 nm mn n9)), x9, x10, x11, x12, x13], G⟩ = .ok (.lst (want8 nm mn n9)) ⟨[sc, kk, rf, .val (.str nm), .val (.int mn), .val (recD n9), x6, x7, .val (.lst (some8 nm mn n9)), x9, x10, x11, .no, x13], G⟩ := by kernel_rfl
theorem r14b : (M.lst (M.disp [(M.var 3), (M.var 5), (M.var 4), (M.var 4), (M.tup []), (M.var 3), (M.lit .non), (M.var 3)])) ⟨[sc, kk, rf, .val (.str nm), .val (.int mn), .val (recD n9), x6, x7, .val (.lst (some8 nm mn n9)), x9, x10, x11, .no, x13], G⟩ = .ok (.lst (want8 nm mn n9)) ⟨[sc, kk, rf, .val (.str nm), .val (.int mn), .val (recD n9), x6, x7, .val (.lst (some8 nm mn n9)), x9, x10, x11, .no, x13], G⟩ := by kernel_rfl
theorem r14 (h : PyData.strOk nm = true) : st14 ⟨[sc, kk, rf, .val (.str nm), .val (.int mn), .val (recD n9), x6, x7, .val (.lst (some8 nm mn n9)), x9, x10, x11, x12, x13], G⟩ = .ok .nx ⟨[sc, kk, rf, .val (.str nm), .val (.int mn), .val (recD n9), x6, x7, .val (.lst (some8 nm mn n9)), x9, x10, x11, .no, x13], G⟩ :=
  cond_f (bool_ok (op2_fin (r14a ..) (r14b ..) (same _ _ (w8p nm mn n9) (by kernel_rfl) (w8_ok nm mn n9 h))))
theorem r15 : st15 ⟨[sc, kk, rf, .val (.str nm), .val (.int mn), .val (recD n9), x6, x7, x8, x9, x10, x11, x12, x13], G⟩ = .ok .nx ⟨[sc, kk, rf, .val (.str nm), .val (.int mn), .val (recD n9), x6, x7, x8, .val (.lst (due nm mn)), x10, x11, x12, x13], G⟩ := by kernel_rfl
theorem r16a : (M.lst (M.comp [12, 13] (M.items (M.var 7)) (.many [12, 13]) (pure true) (M.call m__law_field [(M.var 12)]))) ⟨[sc, kk, rf, .val (.str nm), .val (.int mn), .val (recD n9), .val (.lst (told nm n9)), .val (.lst (asked nm mn)), x8, .val (.lst (due nm mn)), x10, x11, x12, x13], G⟩ = .ok (.lst (due nm mn)) ⟨[sc, kk, rf, .val (.str nm), .val (.int mn), .val (recD n9), .val (.lst (told nm n9)), .val (.lst (asked nm mn)), x8, .val (.lst (due nm mn)), x10, x11, .no, .no], G⟩ := by kernel_rfl
theorem r16b : (M.var 9) ⟨[sc, kk, rf, .val (.str nm), .val (.int mn), .val (recD n9), .val (.lst (told nm n9)), .val (.lst (asked nm mn)), x8, .val (.lst (due nm mn)), x10, x11, .no, .no], G⟩ = .ok (.lst (due nm mn)) ⟨[sc, kk, rf, .val (.str nm), .val (.int mn), .val (recD n9), .val (.lst (told nm n9)), .val (.lst (asked nm mn)), x8, .val (.lst (due nm mn)), x10, x11, .no, .no], G⟩ := by kernel_rfl
theorem r16c : (M.lst (M.comp [12, 13] (M.items (M.slice (M.var 6) (some (M.lit (.int 8))) none)) (.many [12, 13]) (pure true) (M.call m__law_field [(M.var 12)]))) ⟨[sc, kk, rf, .val (.str nm), .val (.int mn), .val (recD n9), .val (.lst (told nm n9)), .val (.lst (asked nm mn)), x8, .val (.lst (due nm mn)), x10, x11, .no, .no], G⟩ = .ok (.lst [.str nm, recD n9]) ⟨[sc, kk, rf, .val (.str nm), .val (.int mn), .val (recD n9), .val (.lst (told nm n9)), .val (.lst (asked nm mn)), x8, .val (.lst (due nm mn)), x10, x11, .no, .no], G⟩ := by kernel_rfl
theorem r16d : (M.lst (M.disp [(M.var 3), (M.var 5)])) ⟨[sc, kk, rf, .val (.str nm), .val (.int mn), .val (recD n9), .val (.lst (told nm n9)), .val (.lst (asked nm mn)), x8, .val (.lst (due nm mn)), x10, x11, .no, .no], G⟩ = .ok (.lst [.str nm, recD n9]) ⟨[sc, kk, rf, .val (.str nm), .val (.int mn), .val (recD n9), .val (.lst (told nm n9)), .val (.lst (asked nm mn)), x8, .val (.lst (due nm mn)), x10, x11, .no, .no], G⟩ := by kernel_rfl
theorem r16 (h : PyData.strOk nm = true) : st16 ⟨[sc, kk, rf, .val (.str nm), .val (.int mn), .val (recD n9), .val (.lst (told nm n9)), .val (.lst (asked nm mn)), x8, .val (.lst (due nm mn)), x10, x11, x12, x13], G⟩ = .ok .nx ⟨[sc, kk, rf, .val (.str nm), .val (.int mn), .val (recD n9), .val (.lst (told nm n9)), .val (.lst (asked nm mn)), x8, .val (.lst (due nm mn)), x10, x11, .no, .no], G⟩ :=
  cond_f ((or2_f (bool_ok (op2_fin (r16a ..) (r16b ..) (same _ _ (duep nm mn) (by kernel_rfl) (due_ok nm mn h))))).trans (bool_ok (op2_fin (r16c ..) (r16d ..) (same _ _ (twop nm n9) (by kernel_rfl) (two_ok nm n9 h)))))
theorem r17 : st17 ⟨[sc, kk, rf, .val (.str nm), .val (.int mn), .val (recD n9), x6, x7, x8, x9, x10, x11, x12, x13], G⟩ = .ok .nx ⟨[sc, kk, rf, .val (.str nm), .val (.int mn), .val (recD n9), x6, x7, x8, x9, x10, x11, x12, x13], G⟩ := by
  have a1 : (M.xf "line" xs_line (M.mkX "NoText" "line" 1 0 pickP [(M.var 4)] [])) ⟨[sc, kk, rf, .val (.str nm), .val (.int mn), .val (recD n9), x6, x7, x8, x9, x10, x11, x12, x13], G⟩ = .ok (.int mn) ⟨[sc, kk, rf, .val (.str nm), .val (.int mn), .val (recD n9), x6, x7, x8, x9, x10, x11, x12, x13], G⟩ := by kernel_rfl
  have a2 : (M.xf "line" xs_line (M.mkX "NoText" "line" 0 1 pickK [] [(M.var 4)])) ⟨[sc, kk, rf, .val (.str nm), .val (.int mn), .val (recD n9), x6, x7, x8, x9, x10, x11, x12, x13], G⟩ = .ok (.int mn) ⟨[sc, kk, rf, .val (.str nm), .val (.int mn), .val (recD n9), x6, x7, x8, x9, x10, x11, x12, x13], G⟩ := by kernel_rfl
  have a3 : (M.var 4) ⟨[sc, kk, rf, .val (.str nm), .val (.int mn), .val (recD n9), x6, x7, x8, x9, x10, x11, x12, x13], G⟩ = .ok (.int mn) ⟨[sc, kk, rf, .val (.str nm), .val (.int mn), .val (recD n9), x6, x7, x8, x9, x10, x11, x12, x13], G⟩ := by kernel_rfl
  have a4 : (M.bool (M.op2 fIsNot (M.xf "line" xs_line (M.mkX "NoText" "line" 0 0 pickN [] [])) (M.lit .non))) ⟨[sc, kk, rf, .val (.str nm), .val (.int mn), .val (recD n9), x6, x7, x8, x9, x10, x11, x12, x13], G⟩ = .ok false ⟨[sc, kk, rf, .val (.str nm), .val (.int mn), .val (recD n9), x6, x7, x8, x9, x10, x11, x12, x13], G⟩ := by kernel_rfl
  exact cond_f ((or2_f a4).trans ((or2_f (bool_ok (op2_fin a1 a3 (sameI _ _)))).trans (bool_ok (op2_fin a2 a3 (sameI _ _)))))
end
theorem body_ok {l : List Int} {k : Nat} (hk : k < 100) {G : List MO} (hG : Ok G) (x2 x3 x4 x5 x6 x7 x8 x9 x10 x11 x12 x13 : Slot) :
    ∃ (y2 y3 y4 y5 y6 y7 y8 y9 y10 y11 y12 y13 : Slot) (G' : List MO), lawBody ⟨[.val (.scr l), .val (.int k), x2, x3, x4, x5, x6, x7, x8, x9, x10, x11, x12, x13], G⟩ = .ok .nx ⟨[.val (.scr l), .val (.int k), y2, y3, y4, y5, y6, y7, y8, y9, y10, y11, y12, y13], G'⟩ ∧ Ok G' := by
  obtain ⟨G1, e0, g1, l1⟩ := bag_ok l k hk hG
  have r0 : st0 ⟨[.val (.scr l), .val (.int k), x2, x3, x4, x5, x6, x7, x8, x9, x10, x11, x12, x13], G⟩ = .ok .nx ⟨[.val (.scr l), .val (.int k), .val (.ref G.length), x3, x4, x5, x6, x7, x8, x9, x10, x11, x12, x13], G1⟩ :=
    by
    have q : M.call m__law_bag [(M.var 0), (M.var 1)] ⟨[.val (.scr l), .val (.int k), x2, x3, x4, x5, x6, x7, x8, x9, x10, x11, x12, x13], G⟩ = .ok (.ref G.length) ⟨[.val (.scr l), .val (.int k), x2, x3, x4, x5, x6, x7, x8, x9, x10, x11, x12, x13], G1⟩ :=
      call_ok (s := ⟨[.val (.scr l), .val (.int k), x2, x3, x4, x5, x6, x7, x8, x9, x10, x11, x12, x13], G⟩) (s1 := ⟨[.val (.scr l), .val (.int k), x2, x3, x4, x5, x6, x7, x8, x9, x10, x11, x12, x13], G⟩) (args_cons (s1 := ⟨[.val (.scr l), .val (.int k), x2, x3, x4, x5, x6, x7, x8, x9, x10, x11, x12, x13], G⟩) (d := .scr l) rfl rfl (args_cons (s1 := ⟨[.val (.scr l), .val (.int k), x2, x3, x4, x5, x6, x7, x8, x9, x10, x11, x12, x13], G⟩) (d := .int k) rfl rfl args_nil)) e0
    unfold st0
    exact set_ok q rfl (by simp)
  obtain ⟨nm0, G2, e1, hn0, g2, l2⟩ := name_ok (g := G.length) g1 (by omega)
  obtain ⟨t3, G3, e2, a1, a2, g3, l3⟩ := call_take (ρ := [.val (.scr l), .val (.int k), .val (.ref G.length), x3, x4, x5, x6, x7, x8, x9, x10, x11, x12, x13]) (i := 2) (many := 3) rfl g2 (g := G.length) (by omega) (by omega) (by decide)
  have r1 : ∃ nm, PyData.strOk nm = true ∧ st1 ⟨[.val (.scr l), .val (.int k), .val (.ref G.length), x3, x4, x5, x6, x7, x8, x9, x10, x11, x12, x13], G1⟩ = .ok .nx ⟨[.val (.scr l), .val (.int k), .val (.ref G.length), .val (.str nm), x4, x5, x6, x7, x8, x9, x10, x11, x12, x13], G3⟩ := by
    have q : (M.lst (M.disp [(M.call m__law_name [(M.var 2)]), (M.lit (.str "")), (M.lit (.str "A b"))])) ⟨[.val (.scr l), .val (.int k), .val (.ref G.length), x3, x4, x5, x6, x7, x8, x9, x10, x11, x12, x13], G1⟩ = .ok (.lst [.str nm0, .str "", .str "A b"]) ⟨[.val (.scr l), .val (.int k), .val (.ref G.length), x3, x4, x5, x6, x7, x8, x9, x10, x11, x12, x13], G2⟩ :=
      by
      have q1 : M.call m__law_name [(M.var 2)] ⟨[.val (.scr l), .val (.int k), .val (.ref G.length), x3, x4, x5, x6, x7, x8, x9, x10, x11, x12, x13], G1⟩ = .ok (.str nm0) ⟨[.val (.scr l), .val (.int k), .val (.ref G.length), x3, x4, x5, x6, x7, x8, x9, x10, x11, x12, x13], G2⟩ := call_ok (s := ⟨[.val (.scr l), .val (.int k), .val (.ref G.length), x3, x4, x5, x6, x7, x8, x9, x10, x11, x12, x13], G1⟩) (s1 := ⟨[.val (.scr l), .val (.int k), .val (.ref G.length), x3, x4, x5, x6, x7, x8, x9, x10, x11, x12, x13], G1⟩) (args_cons (s1 := ⟨[.val (.scr l), .val (.int k), .val (.ref G.length), x3, x4, x5, x6, x7, x8, x9, x10, x11, x12, x13], G1⟩) (d := .ref G.length) rfl rfl args_nil) e1
      exact lst_ok (disp_ok (args_cons q1 rfl (args_cons (ev_lit _ _) rfl (args_cons (ev_lit _ _) rfl args_nil))) rfl)
    have three : t3 = 0 ∨ t3 = 1 ∨ t3 = 2 := by omega
    rcases three with e | e | e
    · subst e; exact ⟨nm0, hn0, by have q2 := op2_fin (f := fIx) (z := .str nm0) q e2 rfl; unfold st1; exact set_ok q2 rfl (by simp)⟩
    · subst e; exact ⟨"", by decide +kernel, by have q2 := op2_fin (f := fIx) (z := .str "") q e2 rfl; unfold st1; exact set_ok q2 rfl (by simp)⟩
    · subst e; exact ⟨"A b", by decide +kernel, by have q2 := op2_fin (f := fIx) (z := .str "A b") q e2 rfl; unfold st1; exact set_ok q2 rfl (by simp)⟩
  obtain ⟨nm, hn, r1⟩ := r1
  obtain ⟨t4, G4, e3, _, _, g4, l4⟩ := take (g := G.length) (many := 1000000000000000000000000000000000000000) g3 (by omega) (by omega) (by decide +kernel)
  have r2 : st2 ⟨[.val (.scr l), .val (.int k), .val (.ref G.length), .val (.str nm), x4, x5, x6, x7, x8, x9, x10, x11, x12, x13], G3⟩ = .ok .nx ⟨[.val (.scr l), .val (.int k), .val (.ref G.length), .val (.str nm), .val (.int (t4 - 7)), x5, x6, x7, x8, x9, x10, x11, x12, x13], G4⟩ :=
    by
    have q1 : M.op2 (fInt gPow) (M.lit (.int 10)) (M.lit (.int 39)) ⟨[.val (.scr l), .val (.int k), .val (.ref G.length), .val (.str nm), x4, x5, x6, x7, x8, x9, x10, x11, x12, x13], G3⟩ = .ok (.int 1000000000000000000000000000000000000000) ⟨[.val (.scr l), .val (.int k), .val (.ref G.length), .val (.str nm), x4, x5, x6, x7, x8, x9, x10, x11, x12, x13], G3⟩ := by kernel_rfl
    have q2 : M.call m__law_take [(M.var 2), (M.op2 (fInt gPow) (M.lit (.int 10)) (M.lit (.int 39)))] ⟨[.val (.scr l), .val (.int k), .val (.ref G.length), .val (.str nm), x4, x5, x6, x7, x8, x9, x10, x11, x12, x13], G3⟩ = .ok (.int t4) ⟨[.val (.scr l), .val (.int k), .val (.ref G.length), .val (.str nm), x4, x5, x6, x7, x8, x9, x10, x11, x12, x13], G4⟩ := call_ok (s := ⟨[.val (.scr l), .val (.int k), .val (.ref G.length), .val (.str nm), x4, x5, x6, x7, x8, x9, x10, x11, x12, x13], G3⟩) (s1 := ⟨[.val (.scr l), .val (.int k), .val (.ref G.length), .val (.str nm), x4, x5, x6, x7, x8, x9, x10, x11, x12, x13], G3⟩) (args_cons (s1 := ⟨[.val (.scr l), .val (.int k), .val (.ref G.length), .val (.str nm), x4, x5, x6, x7, x8, x9, x10, x11, x12, x13], G3⟩) (d := .ref G.length) rfl rfl (args_cons q1 rfl args_nil)) e3
    have q3 : M.op2 (fInt gSub) (M.call m__law_take [(M.var 2), (M.op2 (fInt gPow) (M.lit (.int 10)) (M.lit (.int 39)))]) (M.lit (.int 7)) ⟨[.val (.scr l), .val (.int k), .val (.ref G.length), .val (.str nm), x4, x5, x6, x7, x8, x9, x10, x11, x12, x13], G3⟩ = .ok (.int (t4 - 7)) ⟨[.val (.scr l), .val (.int k), .val (.ref G.length), .val (.str nm), x4, x5, x6, x7, x8, x9, x10, x11, x12, x13], G4⟩ := op2_fin q2 (ev_lit _ _) rfl
    unfold st2
    exact set_ok q3 rfl (by simp)
  obtain ⟨n9, G5, e4, _, _, g5, l5⟩ := call_take (ρ := [.val (.scr l), .val (.int k), .val (.ref G.length), .val (.str nm), .val (.int (t4 - 7)), x5, x6, x7, x8, x9, x10, x11, x12, x13]) (i := 2) (many := 9) rfl g4 (g := G.length) (by omega) (by omega) (by decide)
  have r3 : st3 ⟨[.val (.scr l), .val (.int k), .val (.ref G.length), .val (.str nm), .val (.int (t4 - 7)), x5, x6, x7, x8, x9, x10, x11, x12, x13], G4⟩ = .ok .nx ⟨[.val (.scr l), .val (.int k), .val (.ref G.length), .val (.str nm), .val (.int (t4 - 7)), .val (recD n9), x6, x7, x8, x9, x10, x11, x12, x13], G5⟩ :=
    by
    have q := tup_ok (args_cons (ev_lit (.str "off") _) rfl (args_cons (ev_lit (.str "ann") _) rfl (args_cons e4 rfl args_nil))) rfl
    unfold st3
    exact set_ok q rfl (by simp)
  have e := ((seq_nx r0).trans ((seq_nx r1).trans ((seq_nx r2).trans ((seq_nx r3).trans ((seq_nx (r4 ..)).trans ((seq_nx (r5 ..)).trans ((seq_nx (r6 ..)).trans ((seq_nx (r7 ..)).trans ((seq_nx (r8 ..)).trans ((seq_nx (r9 ..)).trans ((seq_nx (r10 ..)).trans ((seq_nx (r11 ..)).trans ((seq_nx (r12 ..)).trans ((seq_nx (r13 ..)).trans ((seq_nx (r14 (h := hn) ..)).trans ((seq_nx (r15 ..)).trans ((seq_nx (r16 (h := hn) ..)).trans (r17 ..))))))))))))))))))
  exact ⟨_, _, _, _, _, _, _, _, _, _, _, _, G5, e, g5⟩
theorem loop_ok {l : List Int} : ∀ (n lo : Nat), lo + n ≤ 100 → ∀ {G : List MO}, Ok G → ∀ (x1 x2 x3 x4 x5 x6 x7 x8 x9 x10 x11 x12 x13 : Slot),
    ∃ s', M.forL (.one 1) lawBody ((List.range' lo n).map fun i => D.int (i : Nat)) ⟨[.val (.scr l), x1, x2, x3, x4, x5, x6, x7, x8, x9, x10, x11, x12, x13], G⟩ = .ok .nx s'
  | 0, lo, h, G, hG, _, _, _, _, _, _, _, _, _, _, _, _, _ => ⟨_, rfl⟩
  | n + 1, lo, h, G, hG, x1, x2, x3, x4, x5, x6, x7, x8, x9, x10, x11, x12, x13 => by
    obtain ⟨y2, y3, y4, y5, y6, y7, y8, y9, y10, y11, y12, y13, G', e, g⟩ := body_ok (l := l) (k := lo) (by omega) hG x2 x3 x4 x5 x6 x7 x8 x9 x10 x11 x12 x13
    obtain ⟨s', e2⟩ := loop_ok (l := l) n (lo + 1) (by omega) g (.val (.int lo)) y2 y3 y4 y5 y6 y7 y8 y9 y10 y11 y12 y13
    refine ⟨s', ?_⟩
    rw [List.range'_succ, List.map_cons]
    exact (forL_nx rfl e).trans e2
theorem law_true (l : List Int) (hl : l.length ≤ 63) : ∃ G', m_law [.scr l] [] = .ok (.bl true) G' := by
  have hmin : ∃ n : Nat, n ≤ 11 ∧ M.range1 [(M.op2 fAdd (M.lit (.int 1)) (M.op2 (fInt gMin) (M.op1 fLen (M.var 0)) (M.lit (.int 10))))] ⟨[.val (.scr l), .no, .no, .no, .no, .no, .no, .no, .no, .no, .no, .no, .no, .no], []⟩ =
      .ok ((List.range' 0 n).map fun i => D.int (i : Nat)) ⟨[.val (.scr l), .no, .no, .no, .no, .no, .no, .no, .no, .no, .no, .no, .no, .no], []⟩ := by
    have h1 : M.op1 fLen (M.var 0) ⟨[.val (.scr l), .no, .no, .no, .no, .no, .no, .no, .no, .no, .no, .no, .no, .no], []⟩ = .ok (.int l.length) ⟨[.val (.scr l), .no, .no, .no, .no, .no, .no, .no, .no, .no, .no, .no, .no, .no], []⟩ := rfl
    refine ⟨1 + min l.length 10, by omega, ?_⟩
    have h2 : (1 : Int) + (if (10 : Int) < (l.length : Int) then 10 else (l.length : Int)) = ((1 + min l.length 10 : Nat) : Int) := by split <;> omega
    have h3 := args_cons (op2_fin (f := fAdd) (z := .int ((1 + min l.length 10 : Nat) : Int)) (ev_lit (.int 1) _) (op2_fin (f := fInt gMin) h1 (ev_lit (.int 10) _) rfl) (look_ok (by show some (D.int _) = _; rw [h2]))) rfl args_nil
    unfold M.range1
    rw [bind_ok h3]
    show (if -(2 ^ 62) ≤ ((1 + min l.length 10 : Nat) : Int) ∧ ((1 + min l.length 10 : Nat) : Int) < 2 ^ 62 then (pure (rngD 0 ((1 + min l.length 10 : Nat) : Int).toNat) : M (List D)) else M.stuck) _ = _
    rw [if_pos (by omega)]
    have e : rngD 0 ((1 + min l.length 10 : Nat) : Int).toNat = (List.range' 0 (1 + min l.length 10)).map fun i => D.int (i : Nat) := by
      unfold rngD
      rw [Int.toNat_natCast, List.range_eq_range']
      exact List.map_congr_left fun i _ => by simp
    rw [e]
    rfl
  obtain ⟨n, hn, hr⟩ := hmin
  obtain ⟨s', e⟩ := loop_ok (l := l) n 0 (by omega) Ok.nil .no .no .no .no .no .no .no .no .no .no .no .no .no
  refine ⟨s'.G, ?_⟩
  refine runFn_rt (N := 14) (n := 1) (ds := [.scr l]) (s1 := s') rfl ?_
  rw [b_law_eq]
  exact (seq_nx ((for_ok hr).trans e)).trans rfl
end Pw
namespace Pw
open PySem PySem.Spec PyProof.Rows L2 Ms
def loose_0 : List Str := ["LoomError", "ToldError", "AskedError", "NoRecord", "NoName", "NoRow", "NoPrices", "NoDeed", "NoEnd", "Twice", "NoText", "Forged", "Gainsaid", "TooLong", "NoSigns", "NoLink", "NoBase", "NoPlace", "Crossed", "Wanting", "NoWork", "NoVersion", "NoAuthor", "_law_bag", "_law_take"]
def loose_1 : List Str := ["_law_name", "_law_kinds", "_law_field"]
def loose : List Str := List.flatten [loose_0, loose_1]
abbrev R : PySem.W.OpenRow := PySem.W.OpenLaw.row PySem.Challenge.rw_spanloom_k50_refusals_apart
abbrev hk : PySem.W.Hook := hookM 5 fb fn
def ob (s : PySem.W.SharedT) : He.AlD := obsMG 5 fb fn (HandSHeadRun.getT s)
theorem ob_eq (s : PySem.W.SharedT) : ob s = hk.obs s.abs := obsMG_eq (HandSHeadRun.getT_eq s)
theorem run (w : World) : HandSHeadRun.RunEq R (PySem.W.view R.prog [30]) hk ob 20000 loose w := by
  intro os
  kernel_rfl
theorem rep0 {C : RC} {H : Hp} : Rep C (fun _ => False) [] ⟨[], []⟩ [] H := by
  refine ⟨rfl, fun i sl e => ?_, fun i j oi oj a e => ?_, rfl, fun g o e => ?_, List.nodup_nil, fun a h => (by cases h), fun a h => h.elim⟩
  · have e : ([] : List Ms.Slot)[i]? = some sl := e
    simp at e
  · have e : ([] : List Ms.Slot)[i]? = some (.own oi) := e
    simp at e
  · have e : ([] : List MO)[g]? = some o := e
    simp at e
theorem goal {K : PySem.W.Frag} {mg : Str → Option Value} (H : Hp) (a : Addr) (ns : List Int) (hn : ns.length ≤ 63) (hS : SqL K H a (ns.map V.int)) : spOf ⟨K, mg⟩ 1 m_law [.ref a] H (fun v _ => v = .bl true) (fun _ _ _ => False) := by
  obtain ⟨G', e⟩ := law_true ns hn
  refine ⟨rfl, fun _ => False, [], [], [.scr ns], rep0, .cons (.scr ?_) .nil, ?_⟩
  · rcases hS with h | h
    · refine .inl ⟨fun t => ?_, h⟩
      rcases t with t | t | ⟨i, o, e1, _⟩
      · exact t
      · cases t
      · have e1 : ([] : List Ms.Slot)[i]? = some (.own o) := e1
        simp at e1
    · exact .inr fun H' => .inr h
  · unfold ResF
    rw [e]
    exact fun v μ' H' _ hv => hv.bl_inv
def CXa (P : Program) : CXT := fun o H s E u s' => ∃ w, L2N.CX P w o H s E u s'
theorem toA {P : Program} {w : World} {K : PySem.W.Frag} {mg : Str → Option Value} {base : Heap} {k : Nat} {f : Addr} {fd : FuncData} {ps : List Str} {sp : Sp} (F : FnOk P w K mg base (CXn P w) k f fd ps sp) : FnOk P w K mg base (CXa P) k f fd ps sp :=
  ⟨F.len, fun A outer s H args us vs Q E hr he hb hv hs => codeAny_mono (F.run A outer s H args us vs Q E hr he hb hv hs) fun r s' h => by
    cases r with
    | error e => exact ⟨w, h⟩
    | ok v => cases v <;> exact h⟩
end Pw
open PySem PySem.W PySem.Calls PyProof.Rows
theorem PySem.Challenge.cw_spanloom_k50_refusals_apart_holds : PySem.Challenge.rw_spanloom_k50_refusals_apart.Holds := by
  w_on; o_law
  refine HandSHeadRun.head_any (r := OpenLaw.row PySem.Challenge.rw_spanloom_k50_refusals_apart) (q := view (OpenLaw.row PySem.Challenge.rw_spanloom_k50_refusals_apart).prog [30]) (H := Pw.hk) (ob := Pw.ob) (M := 20000) (loose := Pw.loose) (d := HandSHeadRun.topDef (OpenLaw.row PySem.Challenge.rw_spanloom_k50_refusals_apart).prog 30) (kwd := []) Pw.ob_eq
    (by kernel_rfl) (fun s => by kernel_rfl) Pw.run (by kernel_rfl) (by kernel_rfl) (by kernel_rfl) (by rfl) (by first | assumption | decide +kernel) (by decide +kernel) ⟨rfl, rfl, rfl, rfl, rfl, by decide +kernel⟩ ?hw ?hc
  case hw => w_witness2
  case hc =>
    refine L2.walk_ofE (l := PySem.Challenge.rw_spanloom_k50_refusals_apart) (n := 63) (k := 3) (x := "script") (CX := Pw.CXa (PySem.Challenge.rw_spanloom_k50_refusals_apart).prog) rfl (by decide) (by kernel_rfl) ⟨rfl, by decide, by decide⟩ ?F (fun _ _ _ _ ⟨_, _, _, _, _, _, _, _, _, _, _, _, _, h⟩ => h)
    intro w mg fa h Y G hmg0
    obtain ⟨K, KX, c⟩ := Y
    have hmg : mg ("law" : PySem.Str) = some (.ref fa) := by
      have e : (HandSHeadRun.topDef (OpenLaw.row PySem.Challenge.rw_spanloom_k50_refusals_apart).prog 30).name = ("law" : PySem.Str) := by kernel_rfl
      rw [← e]
      exact hmg0
    obtain ⟨fd, F⟩ := c.def_ 14 (d := Pw.d_law) rfl
    have b := L2.FunD.bindsA (ps := ["script"]) F fun _ _ _ _ _ _ us hl => match us, hl with | [_], _ => rfl
    have eg : mg ("law" : PySem.Str) = some (.ref (He.ga K "law")) := (Ms.Env.glo (base := h) ⟨c, h, KX, G⟩ 0 (xs := Pw.glos) (List.elem_iff.mp (by decide +kernel)) rfl)
    have ea : fa = He.ga K "law" := by
      have e := hmg.symm.trans eg
      cases e
      rfl
    subst ea
    refine ⟨K, fd, Ms.spOf ⟨K, mg⟩ 1 Pw.m_law, KX, fun s v => b s [v] rfl, fun H a ns hl _ hS => Pw.goal H a ns hl hS, fun base _ _ => Pw.toA ?_⟩
    exact Ms.fnD F Pw.sc_law (by decide) (fun cdv A outer s H EE hr tk => Pw.bd_law ⟨c, h, KX, G⟩ hr tk)
